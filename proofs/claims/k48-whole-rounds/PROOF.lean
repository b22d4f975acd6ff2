import PyProof.Rows.All
import Wide.All
import OpenK.AllK
import Wide.FinOn
import PySem.Challenge.RW_wakebells_k48_whole_rounds_just_where
import HandS.ForMost
import HandS.Defaults
import KE.GoesEnum
import KE.KTupSum
import KE.KDictSum
import HandS.TupLe
import HandS.Sort
import KE.KDictZip
import HandS.Zip0
import KE.KDictKeyed
import KE.KeyNested
import HandS.IsInst
import HandS.DictComp
import HandS.MakeKwOnly
import HandS.Deep
import HandS.TupAny
import HandS.Strs
import HandS.WideBits
import HandS.Codes
import PyProof.EqAt
import PyProof.EqKinds
import PyProof.TupleCall
import HandS.Base
import HandS.Call
import HandS.List
import HandS.Walk
import HandS.More
import KE.KStateDown
import Lean
import HandS.Head0
import HandS.Head1
import HandS.Head2
import HandS.HeadEnd
import HandS.HeadHook1
import HandS.HeadHook2
set_option Elab.async false
set_option linter.all false
set_option maxRecDepth 100000
/-! Wakebells: the text by places. -/
namespace Wb
open PySem PySem.Spec PyProof.Rows L2
def top (i : Nat) : Stmt := PySem.Challenge.pw_wakebells_k48_whole_rounds_just_where.main.body.getD i (.Pass ⟨0, 0, 0, 0⟩)
abbrev s_is_whole : Stmt := top 4
abbrev s_is_within : Stmt := top 5
abbrev s_check_counts : Stmt := top 17
abbrev s_in_order : Stmt := top 18
abbrev s_is_name : Stmt := top 22
abbrev s_check_bells : Stmt := top 23
abbrev s_is_wake : Stmt := top 24
abbrev s_check_wakes : Stmt := top 25
abbrev s_check_web : Stmt := top 27
abbrev s_wakes_of : Stmt := top 30
abbrev s_rung : Stmt := top 31
abbrev s_wakers_of : Stmt := top 33
abbrev s_let : Stmt := top 34
abbrev s_come_by : Stmt := top 35
abbrev s_free_one : Stmt := top 36
abbrev s_rung_out : Stmt := top 37
abbrev s_check_round : Stmt := top 40
abbrev s_greater_one : Stmt := top 41
abbrev s_sources : Stmt := top 42
abbrev s_round_of : Stmt := top 43
abbrev s_law_cell : Stmt := top 45
abbrev s_law_purse : Stmt := top 46
abbrev s_law_draw : Stmt := top 47
abbrev s_law_names : Stmt := top 48
abbrev s_law_links : Stmt := top 49
abbrev s_law_stands : Stmt := top 50
abbrev s_law_all : Stmt := top 51
abbrev s_law_ends : Stmt := top 52
abbrev s_law_is_one : Stmt := top 53
abbrev s_law_right : Stmt := top 54
abbrev s_law : Stmt := top 55
abbrev s_web_init : Stmt := inClass (top 26) 0
/-- a def of the text without defaults -/
abbrev FnP (K : PySem.W.Frag) (x qual : Str) (st : Stmt) (f : Addr) (fd : FuncData) : Prop := FunD K x qual (defArgs st) (defBody st) (defScope st) [] [] f fd
end Wb
/-! Wakebells: the mathematics, over any type of names; no program in sight. -/
namespace Wb
section
variable {α : Type} [DecidableEq α]

def wakersOf (ws : List (α × α)) (b : α) : List α := (ws.filter fun p => decide (p.2 = b)).map (·.1)
def wokenOf (ws : List (α × α)) (b : α) : List α := (ws.filter fun p => decide (p.1 = b)).map (·.2)
def need (ws : List (α × α)) (f : α → Nat) (b : α) : Nat := ((wakersOf ws b).map f).sum

theorem mem_wakers {ws : List (α × α)} {a b : α} : a ∈ wakersOf ws b ↔ (a, b) ∈ ws := by
  unfold wakersOf
  simp only [List.mem_map, List.mem_filter, decide_eq_true_eq]
  constructor
  · rintro ⟨⟨x, y⟩, ⟨h1, h2⟩, h3⟩
    simp only at h2 h3
    subst h2; subst h3
    exact h1
  · intro h
    exact ⟨(a, b), ⟨h, rfl⟩, rfl⟩
theorem mem_woken {ws : List (α × α)} {a b : α} : b ∈ wokenOf ws a ↔ (a, b) ∈ ws := by
  unfold wokenOf
  simp only [List.mem_map, List.mem_filter, decide_eq_true_eq]
  constructor
  · rintro ⟨⟨x, y⟩, ⟨h1, h2⟩, h3⟩
    simp only at h2 h3
    subst h2; subst h3
    exact h1
  · intro h
    exact ⟨(a, b), ⟨h, rfl⟩, rfl⟩
theorem nodup_wakers {ws : List (α × α)} (h : ws.Nodup) (b : α) : (wakersOf ws b).Nodup := by
  unfold wakersOf
  induction ws with
  | nil => simp
  | cons p r ih =>
    have h2 := List.nodup_cons.mp h
    rw [List.filter_cons]
    split
    · rename_i hp
      rw [List.map_cons]
      refine List.nodup_cons.mpr ⟨?_, ih h2.2⟩
      intro hm
      obtain ⟨q, hq, e⟩ := List.mem_map.mp hm
      obtain ⟨q1, q2⟩ := List.mem_filter.mp hq
      have e2 : q.2 = b := of_decide_eq_true q2
      have e3 : p.2 = b := of_decide_eq_true hp
      apply h2.1
      have : q = p := Prod.ext e (e2.trans e3.symm)
      rw [← this]; exact q1
    · exact ih h2.2

/-- one ring of a less -/
def dec (f : α → Nat) (a : α) : α → Nat := fun c => if c = a then f a - 1 else f c
theorem dec_self (f : α → Nat) (a : α) : dec f a a = f a - 1 := if_pos rfl
theorem dec_ne {f : α → Nat} {a c : α} (h : c ≠ a) : dec f a c = f c := if_neg h
theorem dec_le (f : α → Nat) (a c : α) : dec f a c ≤ f c := by
  unfold dec
  split
  · rename_i e; subst e; omega
  · omega

theorem sum_dec {f : α → Nat} {a : α} (ha : 0 < f a) : ∀ {l : List α}, l.Nodup → (l.map f).sum = (l.map (dec f a)).sum + if a ∈ l then 1 else 0
  | [], _ => by simp
  | x :: l, h => by
    obtain ⟨h1, h2⟩ := List.nodup_cons.mp h
    have ih := sum_dec (f := f) ha h2
    rw [List.map_cons, List.map_cons, List.sum_cons, List.sum_cons, ih]
    by_cases e : x = a
    · subst e
      rw [dec_self, if_neg h1, if_pos List.mem_cons_self]
      omega
    · rw [dec_ne e]
      have : (a ∈ x :: l) ↔ a ∈ l := by
        rw [List.mem_cons]
        exact ⟨fun z => z.elim (fun q => absurd q.symm e) id, .inr⟩
      by_cases m : a ∈ l
      · rw [if_pos m, if_pos (this.mpr m)]; omega
      · rw [if_neg m, if_neg (fun z => m (this.mp z))]; omega
theorem need_dec {ws : List (α × α)} (hn : ws.Nodup) {f : α → Nat} {a : α} (ha : 0 < f a) (b : α) : need ws f b = need ws (dec f a) b + if (a, b) ∈ ws then 1 else 0 := by
  unfold need
  rw [sum_dec ha (nodup_wakers hn b)]
  by_cases m : (a, b) ∈ ws
  · rw [if_pos m, if_pos (mem_wakers.mpr m)]
  · rw [if_neg m, if_neg (fun z => m (mem_wakers.mp z))]
theorem le_sum {f : α → Nat} {a : α} : ∀ {l : List α}, a ∈ l → f a ≤ (l.map f).sum
  | x :: l, h => by
    rw [List.map_cons, List.sum_cons]
    rcases List.mem_cons.mp h with e | h
    · subst e; omega
    · have := le_sum (f := f) h; omega
theorem le_need {ws : List (α × α)} {f : α → Nat} {a b : α} (h : (a, b) ∈ ws) : f a ≤ need ws f b := le_sum (mem_wakers.mpr h)
theorem pos_of_sum {f : α → Nat} : ∀ {l : List α}, 0 < (l.map f).sum → ∃ a ∈ l, 0 < f a
  | [], h => by simp at h
  | x :: l, h => by
    rw [List.map_cons, List.sum_cons] at h
    by_cases e : 0 < f x
    · exact ⟨x, List.mem_cons_self, e⟩
    · obtain ⟨a, m, p⟩ := pos_of_sum (f := f) (l := l) (by omega)
      exact ⟨a, List.mem_cons_of_mem _ m, p⟩
theorem pos_of_need {ws : List (α × α)} {f : α → Nat} {b : α} (h : 0 < need ws f b) : ∃ a, (a, b) ∈ ws ∧ 0 < f a := by
  obtain ⟨a, m, p⟩ := pos_of_sum h
  exact ⟨a, mem_wakers.mp m, p⟩

/-- who is live behind a ring of a -/
def ringNow (ws : List (α × α)) (now : α → Bool) (a : α) : α → Bool := fun c => if (a, c) ∈ ws then true else if c = a then false else now c

/-! ### who is come to -/
inductive Reach (ws : List (α × α)) (left : α → Nat) (now : α → Bool) : α → Prop
  | base {b : α} : now b = true → 0 < left b → Reach ws left now b
  | step {a b : α} : Reach ws left now a → (a, b) ∈ ws → 0 < left b → Reach ws left now b
inductive Conn (ws : List (α × α)) (f : α → Nat) : α → α → Prop
  | refl {a : α} : 0 < f a → Conn ws f a a
  | step {a b c : α} : Conn ws f a b → (b, c) ∈ ws → 0 < f c → Conn ws f a c
theorem Conn.trans {ws : List (α × α)} {f : α → Nat} {a b c : α} (h1 : Conn ws f a b) (h2 : Conn ws f b c) : Conn ws f a c := by
  induction h2 with
  | refl _ => exact h1
  | step _ m p ih => exact .step ih m p
theorem Conn.pos {ws : List (α × α)} {f : α → Nat} {a b : α} (h : Conn ws f a b) : 0 < f a ∧ 0 < f b := by
  induction h with
  | refl p => exact ⟨p, p⟩
  | step _ _ p ih => exact ⟨ih.1, p⟩
theorem Conn.mono {ws : List (α × α)} {f g : α → Nat} (hl : ∀ b, 0 < f b → 0 < g b) {a b : α} (h : Conn ws f a b) : Conn ws g a b := by
  induction h with
  | refl p => exact .refl (hl _ p)
  | step _ m p ih => exact .step ih m (hl _ p)
theorem Conn.mem {ws : List (α × α)} {f : α → Nat} {bs : List α} (hw : ∀ p ∈ ws, p.1 ∈ bs ∧ p.2 ∈ bs) {a b : α} (h : Conn ws f a b) (ha : a ∈ bs) : b ∈ bs := by
  induction h with
  | refl _ => exact ha
  | step _ m _ _ => exact (hw _ m).2
theorem Reach.of_conn {ws : List (α × α)} {f : α → Nat} {now : α → Bool} {a b : α} (h : Conn ws f a b) (hn : now a = true) : Reach ws f now b := by
  induction h with
  | refl p => exact .base hn p
  | step _ m p ih => exact .step ih m p
theorem Reach.live {ws : List (α × α)} {left : α → Nat} {now : α → Bool} {b : α} (h : Reach ws left now b) : ∃ a, now a = true ∧ 0 < left a ∧ Conn ws left a b := by
  induction h with
  | base n p => exact ⟨_, n, p, .refl p⟩
  | step _ m p ih =>
    obtain ⟨a, n, q, c⟩ := ih
    exact ⟨a, n, q, .step c m p⟩

/-- two kept ones that come to one another are one -/
def Sep (ws : List (α × α)) (k : α → Bool) (f : α → Nat) : Prop := ∀ c d, k c = true → k d = true → Conn ws f c d → Conn ws f d c → c = d

structure Inv (bs : List α) (ws : List (α × α)) (k : α → Bool) (left : α → Nat) (now : α → Bool) : Prop where
  bound : ∀ b ∈ bs, left b + (k b).toNat ≤ (now b).toNat + need ws left b
  reach : ∀ b ∈ bs, 0 < left b → Reach ws left now b
  sep : Sep ws k left

def Full (ws : List (α × α)) (k : α → Bool) (left : α → Nat) (now : α → Bool) (c : α) : Prop := now c = true ∧ left c + (k c).toNat = 1 + need ws left c
def Free (ws : List (α × α)) (k : α → Bool) (left : α → Nat) (now : α → Bool) (b : α) : Prop := now b = true ∧ 0 < left b ∧ ∀ c, (b, c) ∈ ws → c ≠ b → ¬ Full ws k left now c

/-! ### pigeons -/
theorem length_le_of_sub : ∀ {l m : List α}, l.Nodup → (∀ x ∈ l, x ∈ m) → l.length ≤ m.length
  | [], _, _, _ => Nat.zero_le _
  | x :: l, m, h, s => by
    obtain ⟨h1, h2⟩ := List.nodup_cons.mp h
    have hx : x ∈ m := s x List.mem_cons_self
    have ih := length_le_of_sub (l := l) (m := m.erase x) h2 fun y hy => by
      have ne : y ≠ x := fun e => h1 (e ▸ hy)
      exact (List.mem_erase_of_ne ne).mpr (s y (List.mem_cons_of_mem _ hy))
    rw [List.length_erase_of_mem hx] at ih
    have : 0 < m.length := List.length_pos_of_mem hx
    rw [List.length_cons]
    omega
theorem nodup_seq {s : Nat → α} : ∀ {n : Nat}, (∀ i j, i < j → j < n → s i ≠ s j) → ((List.range n).map s).Nodup
  | 0, _ => by simp
  | n + 1, h => by
    rw [List.range_succ, List.map_append, List.map_singleton]
    rw [List.nodup_append]
    refine ⟨nodup_seq fun i j hi hj => h i j hi (by omega), by simp, ?_⟩
    intro a ha b hb e
    have hb' : b = s n := by simpa using hb
    obtain ⟨i, hi, e2⟩ := List.mem_map.mp ha
    have hi' : i < n := List.mem_range.mp hi
    exact h i n hi' (by omega) (by rw [e2, e, hb'])
theorem pigeon {bs : List α} {s : Nat → α} (hs : ∀ i, s i ∈ bs) : ∃ i j, i < j ∧ s i = s j := by
  apply Classical.byContradiction
  intro hc
  have h : ∀ i j, i < j → j < bs.length + 1 → s i ≠ s j := fun i j hi _ e => hc ⟨i, j, hi, e⟩
  have := length_le_of_sub (nodup_seq h) (m := bs) fun x hx => by
    obtain ⟨i, _, e⟩ := List.mem_map.mp hx
    rw [← e]; exact hs i
  simp at this
  omega

/-! ### a free one exists -/
theorem progress {bs : List α} {ws : List (α × α)} {k : α → Bool} {left : α → Nat} {now : α → Bool} (hw : ∀ p ∈ ws, p.1 ∈ bs ∧ p.2 ∈ bs) (I : Inv bs ws k left now) {b : α} (hb : b ∈ bs) (hp : 0 < left b) :
    ∃ c ∈ bs, Free ws k left now c := by
  apply Classical.byContradiction
  intro hc
  -- ready ones wake a full one
  have nx : ∀ x : { x : α // x ∈ bs ∧ now x = true ∧ 0 < left x }, ∃ y : { x : α // x ∈ bs ∧ now x = true ∧ 0 < left x }, (x.1, y.1) ∈ ws ∧ y.1 ≠ x.1 ∧ left x.1 ≤ left y.1 ∧ (left y.1 = left x.1 → k y.1 = true) := by
    rintro ⟨x, hx, hn, hl⟩
    have h1 : ¬ ∀ c, (x, c) ∈ ws → c ≠ x → ¬ Full ws k left now c := fun z => hc ⟨x, hx, hn, hl, z⟩
    have h2 : ∃ c, (x, c) ∈ ws ∧ c ≠ x ∧ Full ws k left now c := by
      apply Classical.byContradiction
      intro z
      exact h1 fun c m n f => z ⟨c, m, n, f⟩
    obtain ⟨c, m, n, fn, fe⟩ := h2
    have ln := le_need (f := left) m
    have kc : (k c).toNat ≤ 1 := Bool.toNat_le _
    refine ⟨⟨c, (hw _ m).2, fn, ?_⟩, m, n, ?_, ?_⟩
    · show 0 < left c
      have : 0 < left x := hl
      omega
    · show left x ≤ left c
      omega
    · intro e
      have e' : left c = left x := e
      cases q : k c with
      | true => rfl
      | false =>
        rw [q] at fe
        have : (false : Bool).toNat = 0 := rfl
        omega
  obtain ⟨a, an, ap, _⟩ := (I.reach b hb hp).live
  -- the live one from which b is come to is a bell
  have ab : ∃ x : { x : α // x ∈ bs ∧ now x = true ∧ 0 < left x }, True := by
    have key : ∀ {b : α}, Reach ws left now b → b ∈ bs → ∃ x : { x : α // x ∈ bs ∧ now x = true ∧ 0 < left x }, True := by
      intro b h
      induction h with
      | base n p => exact fun hb => ⟨⟨_, hb, n, p⟩, trivial⟩
      | step _ m _ ih => exact fun _ => ih (hw _ m).1
    exact key (I.reach b hb hp) hb
  obtain ⟨x0, _⟩ := ab
  let next := fun x => Classical.choose (nx x)
  have hnext : ∀ x, (x.1, (next x).1) ∈ ws ∧ (next x).1 ≠ x.1 ∧ left x.1 ≤ left (next x).1 ∧ (left (next x).1 = left x.1 → k (next x).1 = true) := fun x => Classical.choose_spec (nx x)
  let s : Nat → { x : α // x ∈ bs ∧ now x = true ∧ 0 < left x } := fun n => Nat.rec x0 (fun _ y => next y) n
  have hs : ∀ n, s (n + 1) = next (s n) := fun _ => rfl
  obtain ⟨i, j, hij, e⟩ := pigeon (s := fun n => (s n).1) (bs := bs) fun n => (s n).2.1
  have mono : ∀ n d, left (s n).1 ≤ left (s (n + d)).1 := by
    intro n d
    induction d with
    | zero => exact Nat.le_refl _
    | succ d ih =>
      refine Nat.le_trans ih ?_
      rw [show n + (d + 1) = (n + d) + 1 from rfl, hs]
      exact (hnext _).2.2.1
  have conn : ∀ n d, Conn ws left (s n).1 (s (n + d)).1 := by
    intro n d
    induction d with
    | zero => exact .refl (s n).2.2.2
    | succ d ih =>
      refine .step ih ?_ (s (n + (d + 1))).2.2.2
      rw [show n + (d + 1) = (n + d) + 1 from rfl, hs]
      exact (hnext _).1
  -- i < j, s i = s j: left is the same all the way
  obtain ⟨d, rfl⟩ : ∃ d, j = i + 1 + d := ⟨j - (i + 1), by omega⟩
  have e' : (s i).1 = (s (i + 1 + d)).1 := e
  have l1 : left (s (i + 1)).1 = left (s i).1 := by
    have a1 := mono i 1
    have a2 := mono (i + 1) d
    rw [← e'] at a2
    omega
  have k1 : k (s (i + 1)).1 = true := (hnext (s i)).2.2.2 l1
  -- the last step into s j keeps left as well
  have kj : k (s (i + 1 + d)).1 = true := by
    cases d with
    | zero => exact k1
    | succ d =>
      have e3 : s (i + 1 + (d + 1)) = next (s (i + 1 + d)) := rfl
      have l2 : left (s (i + 1 + (d + 1))).1 = left (s (i + 1 + d)).1 := by
        have a2 : left (s (i + 1 + d)).1 ≤ left (s (i + 1 + (d + 1))).1 := mono (i + 1 + d) 1
        have a3 := mono i (1 + d)
        rw [← Nat.add_assoc] at a3
        rw [← e'] at a2 ⊢
        omega
      rw [e3]
      exact (hnext _).2.2.2 (by rw [← e3]; exact l2)
  rw [← e'] at kj
  have c1 : Conn ws left (s i).1 (s (i + 1)).1 := conn i 1
  have c2 : Conn ws left (s (i + 1)).1 (s i).1 := by
    have := conn (i + 1) d
    rw [← e'] at this
    exact this
  exact (hnext (s i)).2.1 ((I.sep _ _ kj k1 c1 c2).symm)

/-! ### ringing a free one keeps the invariant -/
theorem Inv.ring {bs : List α} {ws : List (α × α)} {k : α → Bool} {left : α → Nat} {now : α → Bool} (hw : ∀ p ∈ ws, p.1 ∈ bs ∧ p.2 ∈ bs) (hn : ws.Nodup) (I : Inv bs ws k left now) {a : α} (ha : a ∈ bs) (F : Free ws k left now a) :
    Inv bs ws k (dec left a) (ringNow ws now a) := by
  obtain ⟨fn, fp, ff⟩ := F
  have old : ∀ c, Reach ws left now c → c ≠ a → Reach ws (dec left a) (ringNow ws now a) c := by
    intro c h
    induction h with
    | @base b n p =>
      intro ne
      refine .base ?_ (by rw [dec_ne ne]; exact p)
      unfold ringNow
      by_cases m : (a, b) ∈ ws
      · rw [if_pos m]
      · rw [if_neg m, if_neg ne]; exact n
    | @step x b _ m p ih =>
      intro ne
      by_cases e : x = a
      · subst e
        refine .base ?_ (by rw [dec_ne ne]; exact p)
        unfold ringNow
        rw [if_pos m]
      · exact .step (ih e) m (by rw [dec_ne ne]; exact p)
  refine ⟨fun c hc => ?_, fun c hc hp => ?_, fun c d kc kd h1 h2 => I.sep c d kc kd (h1.mono fun b z => Nat.lt_of_lt_of_le z (dec_le ..)) (h2.mono fun b z => Nat.lt_of_lt_of_le z (dec_le ..))⟩
  · have b0 := I.bound c hc
    have nd := need_dec hn fp c
    by_cases m : (a, c) ∈ ws
    · rw [if_pos m] at nd
      have rn : ringNow ws now a c = true := by unfold ringNow; rw [if_pos m]
      rw [rn]
      have t1 : (true : Bool).toNat = 1 := rfl
      rw [t1]
      by_cases e : c = a
      · subst e
        rw [dec_self]
        rw [fn, t1] at b0
        omega
      · rw [dec_ne e]
        cases q : now c with
        | true =>
          rw [q, t1] at b0
          have : ¬ (left c + (k c).toNat = 1 + need ws left c) := fun z => ff c m e ⟨q, z⟩
          omega
        | false =>
          rw [q] at b0
          have : (false : Bool).toNat = 0 := rfl
          omega
    · rw [if_neg m] at nd
      by_cases e : c = a
      · subst e
        rw [dec_self]
        have rn : ringNow ws now c c = false := by unfold ringNow; rw [if_neg m, if_pos rfl]
        rw [rn]
        rw [fn] at b0
        have t1 : (true : Bool).toNat = 1 := rfl
        have t0 : (false : Bool).toNat = 0 := rfl
        omega
      · rw [dec_ne e]
        have rn : ringNow ws now a c = now c := by unfold ringNow; rw [if_neg m, if_neg e]
        rw [rn]
        omega
  · by_cases e : c = a
    · subst e
      rw [dec_self] at hp
      by_cases m : (c, c) ∈ ws
      · refine .base ?_ (by rw [dec_self]; exact hp)
        unfold ringNow
        rw [if_pos m]
      · have b0 := I.bound c hc
        rw [fn] at b0
        have t1 : (true : Bool).toNat = 1 := rfl
        obtain ⟨w, wm, wp⟩ := pos_of_need (ws := ws) (f := left) (b := c) (by omega)
        have ne : w ≠ c := fun e => m (e ▸ wm)
        exact .step (old w (I.reach w (hw _ wm).1 wp) ne) wm (by rw [dec_self]; exact hp)
    · rw [dec_ne e] at hp
      exact old c (I.reach c hc hp) e
/-- at the end what is kept is live -/
theorem Inv.kept {bs : List α} {ws : List (α × α)} {k : α → Bool} {left : α → Nat} {now : α → Bool} (hw : ∀ p ∈ ws, p.1 ∈ bs ∧ p.2 ∈ bs) (I : Inv bs ws k left now) (h0 : ∀ b ∈ bs, left b = 0) {b : α} (hb : b ∈ bs) (hk : k b = true) : now b = true := by
  have b0 := I.bound b hb
  have nd : need ws left b = 0 := by
    apply Classical.byContradiction
    intro z
    obtain ⟨a, m, p⟩ := pos_of_need (ws := ws) (f := left) (b := b) (by omega)
    have := h0 a (hw _ m).1
    omega
  rw [nd, hk] at b0
  cases q : now b with
  | true => rfl
  | false =>
    rw [q] at b0
    have t1 : (true : Bool).toNat = 1 := rfl
    have t0 : (false : Bool).toNat = 0 := rfl
    omega

/-! ### the law's own search: what is left by places, a stand as a list -/
def afterRing (bs : List α) (ws : List (α × α)) (s : List α) (a : α) : List α := bs.filter fun c => decide (c ∈ (s.filter fun d => decide (d ≠ a)) ++ wokenOf ws a)
inductive Ends (bs : List α) (ws : List (α × α)) : List Nat → List α → List α → Prop
  | done {left : List Nat} {s : List α} : left.sum = 0 → Ends bs ws left s s
  | ring {left : List Nat} {s x : List α} (k : Nat) (a : α) (n : Nat) : bs[k]? = some a → left[k]? = some (n + 1) → a ∈ s → Ends bs ws (left.set k n) (afterRing bs ws s a) x → Ends bs ws left s x
theorem mem_after {bs : List α} {ws : List (α × α)} {s : List α} {a c : α} : c ∈ afterRing bs ws s a ↔ c ∈ bs ∧ ((c ∈ s ∧ c ≠ a) ∨ (a, c) ∈ ws) := by
  unfold afterRing
  rw [List.mem_filter, decide_eq_true_eq, List.mem_append, List.mem_filter, decide_eq_true_eq, mem_woken]
theorem sum_pos_of_get : ∀ {l : List Nat} {k n : Nat}, l[k]? = some (n + 1) → 0 < l.sum
  | [], k, n, h => by simp at h
  | x :: l, 0, n, h => by
    have : x = n + 1 := by simpa using h
    rw [List.sum_cons]; omega
  | x :: l, k + 1, n, h => by
    have := sum_pos_of_get (l := l) (k := k) (n := n) (by simpa using h)
    rw [List.sum_cons]; omega
theorem sum_set : ∀ {l : List Nat} {k n : Nat}, l[k]? = some (n + 1) → (l.set k n).sum + 1 = l.sum
  | [], k, n, h => by simp at h
  | x :: l, 0, n, h => by
    have : x = n + 1 := by simpa using h
    rw [List.set_cons_zero, List.sum_cons, List.sum_cons]; omega
  | x :: l, k + 1, n, h => by
    have := sum_set (l := l) (k := k) (n := n) (by simpa using h)
    rw [List.set_cons_succ, List.sum_cons, List.sum_cons]; omega
/-- one turn of the search -/
theorem ends_step {bs : List α} {ws : List (α × α)} {left : List Nat} {s x : List α} (h : left.sum ≠ 0) :
    Ends bs ws left s x ↔ ∃ k a n, bs[k]? = some a ∧ left[k]? = some (n + 1) ∧ a ∈ s ∧ Ends bs ws (left.set k n) (afterRing bs ws s a) x := by
  constructor
  · intro e
    cases e with
    | done z => exact absurd z h
    | ring k a n h1 h2 h3 h4 => exact ⟨k, a, n, h1, h2, h3, h4⟩
  · rintro ⟨k, a, n, h1, h2, h3, h4⟩
    exact .ring k a n h1 h2 h3 h4
theorem ends_zero {bs : List α} {ws : List (α × α)} {left : List Nat} {s x : List α} (h : left.sum = 0) : Ends bs ws left s x ↔ x = s := by
  constructor
  · intro e
    cases e with
    | done _ => rfl
    | ring k a n h1 h2 h3 h4 =>
      have := sum_pos_of_get h2
      omega
  · rintro rfl
    exact .done h
theorem map_dec {f : α → Nat} {a : α} {n : Nat} : ∀ {bs : List α} {k : Nat}, bs.Nodup → bs[k]? = some a → f a = n + 1 → (bs.map f).set k n = bs.map (dec f a)
  | [], k, _, h, _ => by simp at h
  | b :: bs, 0, hn, h, hf => by
    have e : b = a := by simpa using h
    subst e
    obtain ⟨h1, h2⟩ := List.nodup_cons.mp hn
    rw [List.map_cons, List.set_cons_zero, List.map_cons, dec_self, hf]
    have q : bs.map f = bs.map (dec f b) := List.map_congr_left fun c hc => by
      rw [dec_ne]
      intro e; exact h1 (e ▸ hc)
    rw [q]
    rfl
  | b :: bs, k + 1, hn, h, hf => by
    obtain ⟨h1, h2⟩ := List.nodup_cons.mp hn
    have h' : bs[k]? = some a := by simpa using h
    rw [List.map_cons, List.set_cons_succ, List.map_cons, map_dec h2 h' hf, dec_ne]
    intro e
    exact h1 (e ▸ List.mem_of_getElem? h')
theorem sum_zero_all {f : α → Nat} {bs : List α} (h : (bs.map f).sum = 0) : ∀ b ∈ bs, f b = 0 := fun b hb => by
  have := le_sum (f := f) hb
  omega
theorem ends_bound {bs : List α} {ws : List (α × α)} (hb : bs.Nodup) (hn : ws.Nodup) {left : List Nat} {s x : List α} (e : Ends bs ws left s x) :
    ∀ f : α → Nat, left = bs.map f → ∀ b ∈ bs, f b + (decide (b ∈ x)).toNat ≤ (decide (b ∈ s)).toNat + need ws f b := by
  induction e with
  | done z =>
    rintro f rfl b hbb
    have := sum_zero_all z b hbb
    omega
  | @ring left s x k a n h1 h2 h3 h4 ih =>
    rintro f rfl b hbb
    have fa : f a = n + 1 := by
      rw [List.getElem?_map, h1] at h2
      simpa using h2
    have i := ih (dec f a) (map_dec hb h1 fa) b hbb
    have nd := need_dec (f := f) hn (a := a) (by omega) b
    have tx : (decide (b ∈ x)).toNat ≤ 1 := Bool.toNat_le _
    by_cases m : (a, b) ∈ ws
    · rw [if_pos m] at nd
      have t : (decide (b ∈ afterRing bs ws s a)).toNat ≤ 1 := Bool.toNat_le _
      by_cases e : b = a
      · subst e
        rw [dec_self] at i
        have t1 : (decide (b ∈ s)).toNat = 1 := by rw [decide_eq_true h3]; rfl
        omega
      · rw [dec_ne e] at i
        omega
    · rw [if_neg m] at nd
      by_cases e : b = a
      · subst e
        rw [dec_self] at i
        have t1 : (decide (b ∈ s)).toNat = 1 := by rw [decide_eq_true h3]; rfl
        have t2 : (decide (b ∈ afterRing bs ws s b)).toNat = 0 := by
          rw [decide_eq_false]
          · rfl
          · intro z
            rcases (mem_after.mp z).2 with q | q
            · exact q.2 rfl
            · exact m q
        omega
      · rw [dec_ne e] at i
        have t2 : (decide (b ∈ afterRing bs ws s a)).toNat ≤ (decide (b ∈ s)).toNat := by
          by_cases z : b ∈ s
          · rw [decide_eq_true z]; exact Bool.toNat_le _
          · rw [decide_eq_false (p := b ∈ afterRing bs ws s a)]
            · exact Nat.zero_le _
            · intro y
              rcases (mem_after.mp y).2 with q | q
              · exact z q.1
              · exact m q
        omega
/-- a round of these: from some lot a row rings so, all of the lot are live behind it -/
def IsRound (bs : List α) (ws : List (α × α)) (f : α → Nat) : Prop := ∃ s, s.Sublist bs ∧ ∃ x, Ends bs ws (bs.map f) s x ∧ ∀ b ∈ s, b ∈ x
theorem no_round {bs : List α} {ws : List (α × α)} (hb : bs.Nodup) (hn : ws.Nodup) {f : α → Nat} {b : α} (hbb : b ∈ bs) (h : need ws f b < f b) : ¬ IsRound bs ws f := by
  rintro ⟨s, _, x, e, hx⟩
  have i := ends_bound hb hn e f rfl b hbb
  have t : (decide (b ∈ s)).toNat ≤ (decide (b ∈ x)).toNat := by
    by_cases z : b ∈ s
    · rw [decide_eq_true z, decide_eq_true (hx b z)]; exact Nat.le_refl _
    · rw [decide_eq_false z]; exact Nat.zero_le _
  omega
theorem ring_filter {bs : List α} {ws : List (α × α)} {now : α → Bool} {a : α} : afterRing bs ws (bs.filter now) a = bs.filter (ringNow ws now a) := by
  unfold afterRing
  refine List.filter_congr fun c hc => ?_
  unfold ringNow
  rw [Bool.eq_iff_iff, decide_eq_true_eq, List.mem_append, List.mem_filter, decide_eq_true_eq, mem_woken, List.mem_filter]
  by_cases m : (a, c) ∈ ws
  · rw [if_pos m]
    exact ⟨fun _ => rfl, fun _ => .inr m⟩
  · rw [if_neg m]
    by_cases e : c = a
    · rw [if_pos e]
      exact ⟨fun z => z.elim (fun q => absurd e q.2) fun q => absurd q m, fun z => absurd z Bool.false_ne_true⟩
    · rw [if_neg e]
      exact ⟨fun z => z.elim (fun q => q.1.2) fun q => absurd q m, fun z => .inl ⟨⟨hc, z⟩, e⟩⟩
theorem round_from {bs : List α} {ws : List (α × α)} {k : α → Bool} (hb : bs.Nodup) (hw : ∀ p ∈ ws, p.1 ∈ bs ∧ p.2 ∈ bs) (hn : ws.Nodup) :
    ∀ (m : Nat) (f : α → Nat) (now : α → Bool), (bs.map f).sum = m → Inv bs ws k f now → ∃ x, Ends bs ws (bs.map f) (bs.filter now) x ∧ ∀ b ∈ bs, k b = true → b ∈ x
  | 0, f, now, hm, I => ⟨bs.filter now, .done hm, fun b hbb hk => List.mem_filter.mpr ⟨hbb, I.kept hw (sum_zero_all hm) hbb hk⟩⟩
  | m + 1, f, now, hm, I => by
    obtain ⟨b, hbb, hp⟩ := pos_of_sum (f := f) (l := bs) (by omega)
    obtain ⟨a, ha, F⟩ := progress hw I hbb hp
    obtain ⟨j, hj⟩ := List.getElem?_of_mem ha
    have fa : f a = (f a - 1) + 1 := by have := F.2.1; omega
    have sd := sum_dec (f := f) F.2.1 hb
    rw [if_pos ha] at sd
    obtain ⟨x, e, hx⟩ := round_from hb hw hn m (dec f a) (ringNow ws now a) (by omega) (I.ring hw hn ha F)
    refine ⟨x, .ring j a (f a - 1) hj ?_ (List.mem_filter.mpr ⟨ha, F.1⟩) ?_, hx⟩
    · rw [List.getElem?_map, hj]
      show some (f a) = _
      rw [← fa]
    · rw [map_dec hb hj fa, ring_filter]
      exact e

/-! ### the source lots -/
section
variable (reached : α → List α) (sm : List α)
def scc (n : α) : List α := sm.filter fun o => decide (o ∈ reached n) && decide (n ∈ reached o)
def outer (n : α) : List α := sm.filter fun o => !decide (o ∈ scc reached sm n) && decide (n ∈ reached o)
def srcStep (found : List (List α)) (n : α) : List (List α) := if outer reached sm n = [] ∧ scc reached sm n ∉ found then found ++ [scc reached sm n] else found
def srcs (l : List α) : List (List α) := l.foldl (srcStep reached sm) []
end
theorem srcs_snoc {reached : α → List α} {sm l : List α} {n : α} : srcs reached sm (l ++ [n]) = srcStep reached sm (srcs reached sm l) n := by
  unfold srcs
  rw [List.foldl_append]
  rfl
theorem mem_srcs {reached : α → List α} {sm : List α} {lot : List α} : ∀ {l : List α}, lot ∈ srcs reached sm l ↔ ∃ n ∈ l, outer reached sm n = [] ∧ scc reached sm n = lot := by
  have key : ∀ (l : List α) (acc : List (List α)), lot ∈ l.foldl (srcStep reached sm) acc ↔ lot ∈ acc ∨ ∃ n ∈ l, outer reached sm n = [] ∧ scc reached sm n = lot := by
    intro l
    induction l with
    | nil => intro acc; simp
    | cons a l ih =>
      intro acc
      rw [List.foldl_cons, ih]
      have : lot ∈ srcStep reached sm acc a ↔ lot ∈ acc ∨ (outer reached sm a = [] ∧ scc reached sm a = lot) := by
        unfold srcStep
        split
        · rename_i h
          rw [List.mem_append, List.mem_singleton]
          exact ⟨fun z => z.elim .inl fun q => .inr ⟨h.1, q.symm⟩, fun z => z.elim .inl fun q => .inr q.2.symm⟩
        · rename_i h
          refine ⟨.inl, fun z => z.elim id fun q => ?_⟩
          apply Classical.byContradiction
          intro y
          exact h ⟨q.1, by rw [q.2]; exact y⟩
      rw [this]
      constructor
      · rintro ((z | z) | ⟨n, hn, z⟩)
        · exact .inl z
        · exact .inr ⟨a, List.mem_cons_self, z⟩
        · exact .inr ⟨n, List.mem_cons_of_mem _ hn, z⟩
      · rintro (z | ⟨n, hn, z⟩)
        · exact .inl (.inl z)
        · rcases List.mem_cons.mp hn with e | hn
          · subst e; exact .inl (.inr z)
          · exact .inr ⟨n, hn, z⟩
  intro l
  unfold srcs
  rw [key]
  simp
section
variable {bs : List α} {ws : List (α × α)} {f : α → Nat} {reached : α → List α}
/-- the reached lists tell who is come to -/
def Tells (bs : List α) (ws : List (α × α)) (f : α → Nat) (reached : α → List α) : Prop := ∀ n ∈ bs, 0 < f n → ∀ x, x ∈ reached n ↔ Conn ws f n x
def posOf (bs : List α) (f : α → Nat) : List α := bs.filter fun b => decide (0 < f b)
theorem mem_posOf {b : α} : b ∈ posOf bs f ↔ b ∈ bs ∧ 0 < f b := by
  unfold posOf
  rw [List.mem_filter, decide_eq_true_eq]
theorem mem_scc (T : Tells bs ws f reached) {n o : α} (hn : n ∈ posOf bs f) : o ∈ scc reached (posOf bs f) n ↔ o ∈ bs ∧ Conn ws f n o ∧ Conn ws f o n := by
  obtain ⟨n1, n2⟩ := mem_posOf.mp hn
  unfold scc
  rw [List.mem_filter, Bool.and_eq_true, decide_eq_true_eq, decide_eq_true_eq, mem_posOf, T n n1 n2]
  constructor
  · rintro ⟨⟨o1, o2⟩, h1, h2⟩
    exact ⟨o1, h1, (T o o1 o2 n).mp h2⟩
  · rintro ⟨o1, h1, h2⟩
    exact ⟨⟨o1, h1.pos.2⟩, h1, (T o o1 h1.pos.2 n).mpr h2⟩
theorem outer_nil (T : Tells bs ws f reached) {n : α} (hn : n ∈ posOf bs f) : outer reached (posOf bs f) n = [] ↔ ∀ o ∈ bs, Conn ws f o n → Conn ws f n o := by
  obtain ⟨n1, n2⟩ := mem_posOf.mp hn
  unfold outer
  rw [List.filter_eq_nil_iff]
  constructor
  · intro h o ho c
    have hp : o ∈ posOf bs f := mem_posOf.mpr ⟨ho, c.pos.1⟩
    have z := h o hp
    rw [Bool.and_eq_true, decide_eq_true_eq, Bool.not_eq_true', decide_eq_false_iff_not] at z
    apply Classical.byContradiction
    intro y
    exact z ⟨fun q => y ((mem_scc T hn).mp q).2.1, (T o ho c.pos.1 n).mpr c⟩
  · intro h o ho
    obtain ⟨o1, o2⟩ := mem_posOf.mp ho
    rw [Bool.and_eq_true, decide_eq_true_eq, Bool.not_eq_true', decide_eq_false_iff_not]
    rintro ⟨z1, z2⟩
    have c := (T o o1 o2 n).mp z2
    exact z1 ((mem_scc T hn).mpr ⟨o1, h o o1 c, c⟩)
theorem self_scc (T : Tells bs ws f reached) {n : α} (hn : n ∈ posOf bs f) : n ∈ scc reached (posOf bs f) n :=
  (mem_scc T hn).mpr ⟨(mem_posOf.mp hn).1, .refl (mem_posOf.mp hn).2, .refl (mem_posOf.mp hn).2⟩
/-- each one is come to from one that none but its own come to -/
theorem from_source {b : α} : ∀ (m : Nat) (b : α), b ∈ bs → 0 < f b → (∀ l : List α, l.Nodup → (∀ x ∈ l, x ∈ bs ∧ Conn ws f x b) → l.length ≤ m) → ∃ n ∈ bs, Conn ws f n b ∧ ∀ o ∈ bs, Conn ws f o n → Conn ws f n o
  | 0, b, hb, hp, h => by
    have := h [b] (by simp) fun x hx => by
      have : x = b := by simpa using hx
      subst this; exact ⟨hb, .refl hp⟩
    simp at this
  | m + 1, b, hb, hp, h => by
    by_cases z : ∀ o ∈ bs, Conn ws f o b → Conn ws f b o
    · exact ⟨b, hb, .refl hp, z⟩
    · obtain ⟨o, ho, c, nc⟩ : ∃ o, o ∈ bs ∧ Conn ws f o b ∧ ¬ Conn ws f b o := by
        apply Classical.byContradiction
        intro y
        refine z fun o ho c => ?_
        apply Classical.byContradiction
        intro q
        exact y ⟨o, ho, c, q⟩
      obtain ⟨n, hn, c1, hs⟩ := from_source (b := b) m o ho c.pos.1 fun l ln hl => by
        have bl : b ∉ l := fun q => nc (hl b q).2
        have := h (b :: l) (List.nodup_cons.mpr ⟨bl, ln⟩) fun x hx => by
          rcases List.mem_cons.mp hx with e | hx
          · subst e; exact ⟨hb, .refl hp⟩
          · exact ⟨(hl x hx).1, (hl x hx).2.trans c⟩
        rw [List.length_cons] at this
        omega
      exact ⟨n, hn, c1.trans c, hs⟩
/-- the firsts of the source lots -/
def IsFirst (reached : α → List α) (sm : List α) (h : α) : Prop := ∃ lot ∈ srcs reached sm sm, lot.head? = some h
theorem first_of {lot : List α} (T : Tells bs ws f reached) (hl : lot ∈ srcs reached (posOf bs f) (posOf bs f)) : ∃ h n, lot.head? = some h ∧ n ∈ posOf bs f ∧ h ∈ bs ∧ Conn ws f n h ∧ Conn ws f h n ∧ lot = scc reached (posOf bs f) n ∧ ∀ o ∈ bs, Conn ws f o n → Conn ws f n o := by
  obtain ⟨n, hn, ho, e⟩ := mem_srcs.mp hl
  have hs := self_scc T hn
  rw [e] at hs
  cases q : lot with
  | nil => rw [q] at hs; cases hs
  | cons h r =>
    have hh : h ∈ scc reached (posOf bs f) n := by rw [e, q]; exact List.mem_cons_self
    obtain ⟨h1, h2, h3⟩ := (mem_scc T hn).mp hh
    exact ⟨h, n, rfl, hn, h1, h2, h3, by rw [e, q], (outer_nil T hn).mp ho⟩
/-- the invariant at the start: first live, all kept -/
theorem inv_start {k : α → Bool} (T : Tells bs ws f reached) (hge : ∀ b ∈ bs, f b ≤ need ws f b) (hk : ∀ b, k b = true ↔ IsFirst reached (posOf bs f) b) : Inv bs ws k f k := by
  refine ⟨fun b hb => ?_, fun b hb hp => ?_, fun c d kc kd c1 c2 => ?_⟩
  · have := hge b hb
    omega
  · obtain ⟨n, hn, cn, hs⟩ := from_source (bs := bs) (ws := ws) (f := f) (b := b) bs.length b hb hp fun l ln hl => length_le_of_sub ln fun x hx => (hl x hx).1
    have hn' : n ∈ posOf bs f := mem_posOf.mpr ⟨hn, cn.pos.1⟩
    have hl : scc reached (posOf bs f) n ∈ srcs reached (posOf bs f) (posOf bs f) := mem_srcs.mpr ⟨n, hn', (outer_nil T hn').mpr hs, rfl⟩
    cases q : scc reached (posOf bs f) n with
    | nil =>
      have := self_scc T hn'
      rw [q] at this; cases this
    | cons h r =>
      have hh : h ∈ scc reached (posOf bs f) n := by rw [q]; exact List.mem_cons_self
      obtain ⟨h1, h2, h3⟩ := (mem_scc T hn').mp hh
      exact .of_conn (h3.trans cn) ((hk h).mpr ⟨_, hl, by rw [q]; rfl⟩)
  · obtain ⟨l1, m1, e1⟩ := (hk c).mp kc
    obtain ⟨l2, m2, e2⟩ := (hk d).mp kd
    obtain ⟨h, n, a1, a2, a3, a4, a5, a6, a7⟩ := first_of T m1
    obtain ⟨h', n', b1, b2, b3, b4, b5, b6, b7⟩ := first_of T m2
    rw [e1] at a1; cases a1
    rw [e2] at b1; cases b1
    have cn : Conn ws f n n' := (a4.trans c1).trans b5
    have nc : Conn ws f n' n := (b4.trans c2).trans a5
    have : l1 = l2 := by
      rw [a6, b6]
      unfold scc
      obtain ⟨n1, n2⟩ := mem_posOf.mp a2
      obtain ⟨m1, m2⟩ := mem_posOf.mp b2
      refine List.filter_congr fun o ho => ?_
      obtain ⟨o1, o2⟩ := mem_posOf.mp ho
      rw [Bool.eq_iff_iff, Bool.and_eq_true, Bool.and_eq_true, decide_eq_true_eq, decide_eq_true_eq, decide_eq_true_eq, decide_eq_true_eq, T n n1 n2, T n' m1 m2, T o o1 o2, T o o1 o2]
      exact ⟨fun z => ⟨nc.trans z.1, z.2.trans cn⟩, fun z => ⟨cn.trans z.1, z.2.trans nc⟩⟩
    rw [this, e2] at e1
    exact (Option.some.inj e1).symm
/-- a round just where no bell has more than all its wakers together -/
theorem is_round {k : α → Bool} (hb : bs.Nodup) (hw : ∀ p ∈ ws, p.1 ∈ bs ∧ p.2 ∈ bs) (hn : ws.Nodup) (I : Inv bs ws k f k) : IsRound bs ws f := by
  obtain ⟨x, e, hx⟩ := round_from hb hw hn _ f k rfl I
  exact ⟨bs.filter k, List.filter_sublist, x, e, fun b h => hx b (List.mem_filter.mp h).1 (List.mem_filter.mp h).2⟩
end
end
end Wb
set_option maxHeartbeats 2000000
/-! Wakebells: rules of our own over the layer: enumerate(tuple), sum(tuple), sum(d.values()), <= of tuples of texts. -/
namespace WbR
open PySem PySem.Spec PyProof.Rows L2

/-! ### enumerate(tuple) -/
theorem meets_enum_one {v : Value} {o : Obj} {Hb : Heap → Prop} (B : Begins v o Hb) :
    Meets (Builtin.«enumerate.__new__» ⟨[.type "enumerate", v], []⟩) (fun _ R s => Hb s.heap ∧
      R (.ok (.ret (.ref (s.heap.push o).objs.size))) { s with heap := (s.heap.push o).push { cls := .type "enumerate", data := .fields #[.none, .bool false, .ref s.heap.objs.size, rawInt 0, .none, .none] } }) :=
  .of_wp fun prog w A R s hs => by
    obtain ⟨hp, gn, dr, tk, os⟩ := s
    obtain ⟨hb, hs⟩ := hs
    have q0 := sub_enumerate
    have begin1 : ∀ {A' : Around} {E' : Value → Shared → Prop} {Q' : Value → Shared → Prop}, Q' (.ref hp.objs.size) ⟨hp.push o, gn, dr, tk, os⟩ → wpAny (model prog w) A' (pyIter v) Q' E' ⟨hp, gn, dr, tk, os⟩ :=
      fun z => B.iter prog w _ _ ⟨hp, gn, dr, tk, os⟩ _ hb z
    wp_walk using begin1
    refine wpAny_stack_any fun st => wpAny_pure ?_
    split
    · rename_i c _ _ _ _ _
      cases (c == Value.type "enumerate") <;> (wp_walk using begin1; exact ⟨_, rfl, hs⟩)
    · wp_walk using begin1
      exact ⟨_, rfl, hs⟩
theorem call_enum_one {prog : Program} {w : World} {A : Around} {E : Value → Shared → Prop} {s : Shared} {v : Value} {o : Obj} {Hb : Heap → Prop} {Q : Value → Shared → Prop} (B : Begins v o Hb) (hb : Hb s.heap)
    (q : ∀ h', IsEnum h' (s.heap.objs.size + 1) s.heap.objs.size 0 .none → h'.get? s.heap.objs.size = some o →
      (∀ b ob, s.heap.get? b = some ob → h'.get? b = some ob) → Q (.ref (s.heap.objs.size + 1)) { s with heap := h' }) : wpAny (model prog w) A (call (.type "enumerate") [v]) Q E s := by
  refine callType_new F.called_enumerate (by decide) (F.typeCall_enumerate_1 _) (F.newCall_enumerate_1 _) (fun obj => F.args_object_init_2 obj _) F.entry_enumerate_new (meets_enum_one B) ⟨hb, ?_⟩
  have zs : (s.heap.push o).objs.size = s.heap.objs.size + 1 := Heap.size_push ..
  have at2 := Heap.get?_push_size (s.heap.push o) (o := { cls := .type "enumerate", data := .fields #[.none, .bool false, .ref s.heap.objs.size, rawInt 0, .none, .none] }) rfl
  show _ ∧ _
  rw [zs] at at2 ⊢
  exact ⟨⟨_, at2, rfl⟩, q _ at2 (Heap.get?_push_of_some _ (Heap.get?_push_size _ B.free)) fun b ob z => Heap.get?_push_of_some _ (Heap.get?_push_of_some _ z)⟩

/-- the tuple at a, each item with its number in a new pair -/
def IteT (K : PySem.W.Frag) (a : Addr) : It where
  go := fun i H => ∃ (xs : List V) (x : V), SqT K H a xs ∧ xs[i]? = some x
  yld := fun i H v H' => ∃ T x, v = .ref T ∧ H T = none ∧ H' = upd H T (.tup [.int (i : Nat), x]) ∧ ∀ xs, SqT K H a xs → xs[i]? = some x
  stop := fun i H => ∃ xs : List V, SqT K H a xs ∧ xs.length = i
theorem cls_apart {h : Heap} {a b : Addr} {m n : String} (ha : ∃ o, h.get? a = some o ∧ o.cls = .type m) (hb : ∃ o, h.get? b = some o ∧ o.cls = .type n) (hd : m ≠ n) : a ≠ b := by
  rintro rfl
  obtain ⟨o, e1, c1⟩ := ha
  obtain ⟨o', e2, c2⟩ := hb
  rw [e1] at e2
  cases e2
  rw [c1] at c2
  exact hd (by injection c2)
theorem turn_enumT {P : Program} {w : World} {K : PySem.W.Frag} {elts : List Expr} {kk : Nat} {tpos : Pos} (a e it : Addr) :
    Turn P w K (.Tuple elts kk tpos) (IteT K a) [e, it] e (fun i h => (∃ old, IsEnum h e it (((i : Nat) : Int)) old) ∧ h.IsTupleIter it a i ∧ e ≠ it) where
  mem := List.mem_cons_self ..
  obj := fun i h st b hb => by
    obtain ⟨⟨old, he⟩, ⟨o, ho, hc, hd⟩, _⟩ := st
    rcases List.mem_cons.mp hb with rfl | hb
    · exact ⟨_, he, fun v q => nomatch q⟩
    · obtain rfl := List.mem_singleton.mp hb
      exact ⟨o, ho, fun v q => by rw [hd] at q; cases q⟩
  keep := fun i h h' st k => by
    obtain ⟨⟨old, he⟩, hi, hne⟩ := st
    exact ⟨⟨old, k e (by simp) _ he⟩, hi.at fun o q => k it (by simp) o q, hne⟩
  item := by
    intro X hP hw hK hc i pins s σ H E I hf st hg
    subst hP hw hK
    obtain ⟨⟨old, he⟩, hit, hne⟩ := st
    obtain ⟨xs, x, hq, hx⟩ := hg
    obtain ⟨its, rv, p, hz⟩ := I.tuple hq
    have pT : s.heap.IsTuple a its.toArray := p
    have cT : ∃ o, s.heap.get? a = some o ∧ o.cls = .type "tuple" := let ⟨o, h1, h2, _⟩ := pT; ⟨o, h1, h2⟩
    have cI : ∃ o, s.heap.get? it = some o ∧ o.cls = .type "tuple_iterator" := let ⟨o, h1, h2, _⟩ := hit; ⟨o, h1, h2⟩
    have cE : ∃ o, s.heap.get? e = some o ∧ o.cls = .type "enumerate" := ⟨_, he, rfl⟩
    have D := Draws.tuple (prog := X.prog) (w := X.w) (A := X.A.in1) (I.ok.hd hc) it a (cls_apart cT cI (by decide)) its.toArray
    have hlt : i < its.toArray.size := by
      have := (List.getElem?_eq_some_iff.mp hx).1
      rw [rv.length] at this
      simpa using this
    have hel : e < s.heap.objs.size := Heap.lt_size he
    have hil : it < s.heap.objs.size := by obtain ⟨_, q, _⟩ := hit; exact Heap.lt_size q
    have hef : e ∉ [it, a] := by
      intro z
      rcases List.mem_cons.mp z with z | z
      · exact hne z
      · exact cls_apart cE cT (by decide) (List.mem_singleton.mp z)
    refine wpAny_pyNext_enum_itemC (c := ((i : Nat) : Int)) D he ⟨hit, pT⟩ hlt hne hef fun u h' tk hu ho hst hT hsz hk => ?_
    refine ⟨_, rfl, wpAny_letOwnedTupleGo_enum (s := { s with heap := h', toks := tk + 1 }) ho fun h2 he2 sb => ?_⟩
    have hT2 : h2.get? s.heap.objs.size = some { cls := .type "tuple", data := .seq #[.int i tk, u] } := (sb.2 _ (Nat.ne_of_gt hel)).trans hT
    obtain ⟨u', hu', ru⟩ := rv.get hx
    have eu : u' = u := by
      have z : its[i]? = some u := by simpa using hu
      rw [hu'] at z
      exact Option.some.inj z
    subst eu
    have new : ObjOk X.prog X.w (upd H s.heap.objs.size (.tup [.int (i : Nat), x])) h2 s.heap.objs.size (.tup [.int (i : Nat), x]) :=
      ⟨by show 2 ≤ sizeLine; decide, [.int i tk, u'], .cons ⟨_, rfl⟩ (.cons ru .nil), ⟨_, hT2, rfl, _, rfl⟩⟩
    have I1 : Inv X pins σ (upd H s.heap.objs.size (.tup [.int (i : Nat), x])) { s with heap := h2, toks := tk + 1 } :=
      I.turnedNew (ch := [e, it]) (fun b ob hb q => (sb.2 b (fun z => hb (by simp [z]))).trans (hk b ob (fun z => hb (by simp [z])) (fun z => hb (by simp [z])) q)) hf (Nat.le_refl _) new
    refine ⟨.ref s.heap.objs.size, _, I1, rfl, ⟨_, x, rfl, I.hok.fresh (Nat.le_refl _), rfl, fun ys hy => by rw [I.tuple_inj hy hq]; exact hx⟩, ⟨⟨u', ?_⟩, hst.1.at fun o q => (sb.2 it (Ne.symm hne)).trans q, hne⟩, fun b hb => ?_⟩
    · have e1 : ((i + 1 : Nat) : Int) = (i : Int) + 1 := by omega
      rw [e1]; exact he2
    · have hb' : b < s.heap.objs.size := by
        rcases List.mem_cons.mp hb with z | z
        · rw [z]; exact hel
        · rw [List.mem_singleton.mp z]; exact hil
      rw [upd_ne (Nat.ne_of_lt hb')]
      exact (hf b hb).1
  done := by
    intro X hP hw hK hc i pins s σ H E I hf st hg
    subst hP hw hK
    obtain ⟨⟨old, he⟩, hit, hne⟩ := st
    obtain ⟨xs, hq, hx⟩ := hg
    obtain ⟨its, rv, p, hz⟩ := I.tuple hq
    have pT : s.heap.IsTuple a its.toArray := p
    have cT : ∃ o, s.heap.get? a = some o ∧ o.cls = .type "tuple" := let ⟨o, h1, h2, _⟩ := pT; ⟨o, h1, h2⟩
    have cI : ∃ o, s.heap.get? it = some o ∧ o.cls = .type "tuple_iterator" := let ⟨o, h1, h2, _⟩ := hit; ⟨o, h1, h2⟩
    have D := Draws.tuple (prog := X.prog) (w := X.w) (A := X.A.in1) (I.ok.hd hc) it a (cls_apart cT cI (by decide)) its.toArray
    obtain ⟨f0, f1, f2, f3, f4, f5⟩ := hf it (by simp)
    have en : i = its.toArray.size := by
      have := rv.length
      simp only [List.size_toArray]
      omega
    subst en
    exact wpAny_pyNext_enum_endD D he ⟨hit, pT⟩ fun h' eb => ⟨rfl, I.turned (t' := s.toks) (fun b o hb q => eb b o hb q) f0 f1 f3 f4 f5⟩
  self := fun A i s Q E st h => let ⟨⟨_, he⟩, _⟩ := st; wpAny_pyIter_enum he h
def iEnumT (K : PySem.W.Frag) (ta : TA) : TI := fun σ H R => ta σ H fun vs H1 => ∃ a xs, vs = [.ref a] ∧ SqT K H1 a xs ∧ R (IteT K a) H1
theorem pi_enumT {X : Cx} {e : Expr} {ta : TA} {p pos tpos : Pos} {elts : List Expr} {kk : Nat} (hg : Gl X "enumerate") (hm : X.mg "enumerate" = none) (ha : PA X [e] ta) (hs : starEach [e] X.env = [(false, eval e X.env)] := by rfl) :
    PI X (.Tuple elts kk tpos) (.Call (.Name "enumerate" p) [e] [] pos) (iEnumT X.K ta) := by
  refine ⟨fun pins s σ H R I h => ?_⟩
  refine Call_ (ld_blt I hg hm boot_enumerate (PyProof.Rows.callWith_type1 (thn (ha.run pos pins s σ H _ I h) fun us s1 ⟨vs, H1, I1, r1, q1⟩ => ?_) hs rfl))
  obtain ⟨a, xs, ex, hq, q⟩ := q1
  subst ex
  rw [Vals.ref1 r1]
  obtain ⟨its, rv, p', hz⟩ := I1.tuple hq
  refine call_enum_one (begins_tuple a its.toArray) (show s1.heap.IsTuple a its.toArray from p') fun h' he hit hk => wpAny_pyIter_enum he ?_
  have I2 : Inv X pins σ H1 { s1 with heap := h' } := I1.kept (t' := s1.toks) hk
  refine ⟨s1.heap.objs.size + 1, [s1.heap.objs.size + 1, s1.heap.objs.size], _, _, H1, rfl, I2, turn_enumT a (s1.heap.objs.size + 1) s1.heap.objs.size, ⟨⟨.none, he⟩, ⟨_, hit, rfl, rfl⟩, Nat.succ_ne_self _⟩, fun b hb => ?_, q⟩
  have hle : s1.heap.objs.size ≤ b := by
    rcases List.mem_cons.mp hb with z | z
    · rw [z]; exact Nat.le_add_right _ _
    · rw [List.mem_singleton.mp z]; exact Nat.le_refl _
  exact I1.fpOk hle (I1.hok.fresh hle)
/-- its loop, over a tuple that the body leaves as it is -/
theorem for_enumT {K : PySem.W.Frag} {a : Addr} {xs : List V} {g : TG} {tb : TS} {D : Ends} {σ : L2.St} {H : Hp} (Pv : Nat → L2.St → Hp → Prop) (h0 : Pv 0 σ H) (hl : ∀ i σ H, i ≤ xs.length → Pv i σ H → SqT K H a xs)
    (hs : ∀ (i : Nat) (x : V) (T : Addr) σ H, xs[i]? = some x → Pv i σ H → H T = none → g (.ref T) σ (upd H T (.tup [.int (i : Nat), x])) fun σ2 H2 => tb { D with nx := Pv (i + 1), ct := Pv (i + 1), bk := D.nx } σ2 H2) (hd : ∀ σ H, Pv xs.length σ H → D.nx σ H) :
    ∃ W : Nat → Nat → L2.St → Hp → Prop, (∃ m, W 0 m σ H) ∧ ∀ i m σ H, W i m σ H →
      ((IteT K a).stop i H ∧ D.nx σ H) ∨ ((IteT K a).go i H ∧ ∃ N : L2.St → Hp → Prop, (∀ σ' H', N σ' H' → ∃ m', m' < m ∧ W (i + 1) m' σ' H') ∧ ∀ x H', (IteT K a).yld i H x H' → g x σ H' fun σ2 H2 => tb { D with nx := N, ct := N, bk := D.nx } σ2 H2) := by
  refine ⟨fun i m σ H => m + i = xs.length ∧ Pv i σ H, ⟨xs.length, rfl, h0⟩, ?_⟩
  rintro i m σ H ⟨em, p⟩
  have q := hl i σ H (by omega) p
  by_cases hlt : i < xs.length
  · refine .inr ⟨⟨xs, xs[i], q, List.getElem?_eq_getElem hlt⟩, Pv (i + 1), fun σ' H' p' => ⟨m - 1, by omega, by omega, p'⟩, fun x H' y => ?_⟩
    obtain ⟨T, z, rfl, nT, rfl, y⟩ := y
    exact hs i z T σ H (y xs q) p nT
  · have e : i = xs.length := by omega
    subst e
    exact .inl ⟨⟨xs, q, rfl⟩, hd σ H p⟩

/-! ### sums -/
section
variable {X : Cx}
/-- sum of a tuple of ints -/
def rSumT (K : PySem.W.Frag) : List V → Hp → VK → Prop := fun vs H Q => ∃ (a : Addr) (ns : List Int), vs = [V.ref a] ∧ SqT K H a (ns.map V.int) ∧ Q (.int ns.sum) H
theorem cr_sumT (hc : X.calm = true) : CallR X (.builtin "sum") (rSumT X.K) := by
  intro pins s σ H vs us Q I r h
  obtain ⟨a, ns, rfl, hs, q⟩ := h
  obtain ⟨its, rv, hl, _⟩ := I.tuple hs
  rw [Vals.ref1 r]
  have ia := rv.ints
  obtain ⟨xs, e⟩ := ia.allInts.items
  have hn : numsOf (intItems xs).toList = ns := by rw [← e]; exact ia.numsOf
  rw [nums_intItems] at hn
  have hT : s.heap.IsTuple a (intItems xs) := by rw [← e]; exact hl
  refine PySem.W.ktm_sumG (I.ok.hd hc) hT fun h' tk t' hk => ⟨.int ns.sum, H, I.kept hk, ⟨t', ?_⟩, q⟩
  rw [preSum_eq, List.take_of_length_le (by simp), hn]
end
/-- the sum of a dict's values -/
theorem presum_eq (f : Nat → Int) (l : List Int) : ∀ n : Nat, n ≤ l.length → (∀ i, i < n → l[i]? = some (f i)) → preSum f n = (l.take n).sum
  | 0, _, _ => by simp [preSum]
  | n + 1, h, e => by
    rw [List.take_add_one, List.sum_append, e n (by omega), ← presum_eq f l n (by omega) fun i hi => e i (by omega)]
    simp [preSum]
/-- sum(d.values()), d a dict of ints -/
def tSumVals (td : TE) : TE := fun σ H Q => td σ H fun x H1 => ∃ (d : Addr) (kvs : List (Key × V)) (ns : List Int), x = V.ref d ∧ H1 d = some (.dK kvs) ∧ kvs.map Prod.snd = ns.map V.int ∧ Q (.int ns.sum) H1
theorem pe_sumVals {X : Cx} {o : Expr} {p pos apos mpos : Pos} {td : TE} (hc : X.calm = true) (hg : Gl X "sum") (hm : X.mg "sum" = none) (hd : PE X o td) (hbase : attributeBase o "values" X.env (eval o X.env) = eval o X.env := by rfl) (hline : (apos.endLine == mpos.line) = true := by rfl)
    (hse : starEach [Expr.Call (.Attribute o "values" apos) [] [] mpos] X.env = [(false, eval (Expr.Call (.Attribute o "values" apos) [] [] mpos) X.env)] := by rfl) :
    PE X (.Call (.Name "sum" p) [.Call (.Attribute o "values" apos) [] [] mpos] [] pos) (tSumVals td) := by
  refine ⟨fun pins s σ H Q I h => ?_⟩
  refine wpAny_Call_Name_kw (ld_blt I hg hm (u := .builtin "sum") boot_sum ?_ (by decide +kernel) (by decide +kernel))
  rw [hse]
  refine PySem.callWith_builtin1 (wpAny_Call_method0_late hbase hline (thn (hd.run pins s σ H _ I h) fun v s1 ⟨x, H1, I1, r1, d, kvs, ns, ex, hdK, hv, q⟩ => ?_))
  subst ex
  cases (show v = Value.ref d from r1)
  obtain ⟨_, hsys, vs, rel, dof⟩ := dk_of I1.hok hdK
  obtain ⟨ep, dat⟩ := dof.dictAt
  obtain ⟨ob, es, ho, exd, _⟩ := id dat
  refine ⟨"dict", "dict.values", F.plainAttrs_dict, F.slot_dict_values, F.type_dict_values, ⟨ob, ho, exd.1⟩, fun b e => by cases e; exact ⟨ob, ho, exd.2.1⟩, Calls.callWith_builtin rfl (PySem.evalArgs_none ?_)⟩
  refine call_meetsIn F.slot_dict_values ⟨ob, ho, exd.1⟩ F.entry_dict_values (F.args_dict_values_1 _) (meets_dict_values (mixKind X.prog X.w) d hsys) ⟨⟨vs, dof⟩, ?_⟩
  have grown : ∀ b u, s1.heap.get? b = some u → (s1.heap.push { cls := .type "dict_values", data := .fields #[.ref d] }).get? b = some u := fun b u e => Heap.get?_push_of_some _ e
  have dat1 : (s1.heap.push { cls := .type "dict_values", data := .fields #[.ref d] }).DictAt (mixKind X.prog X.w) d vs ep := dat.keep grown
  have lens : vs.length = ns.length := by
    have e1 := congrArg List.length hv
    rw [List.length_map, List.length_map] at e1
    rw [← e1]
    exact (KV.length rel).symm
  have each : ∀ (i : Nat) (u : Value), (∃ k, vs[i]? = some (k, u)) → ∃ z : Int, ns[i]? = some z ∧ ∃ t, u = Value.int z t := fun i u ⟨k, hk⟩ => by
    obtain ⟨x, h1, h2⟩ := KV.at' rel hk
    have e1 : (kvs.map Prod.snd)[i]? = some x := by rw [List.getElem?_map, h1]; rfl
    rw [hv, List.getElem?_map] at e1
    obtain ⟨j, hj, e2⟩ := Option.map_eq_some_iff.mp e1
    subst e2
    exact ⟨j, hj, h2⟩
  have hlt : d < s1.heap.objs.size := Heap.lt_size ho
  have hsz : (s1.heap.push { cls := .type "dict_values", data := .fields #[.ref d] }).objs.size = s1.heap.objs.size + 1 := Heap.size_push _ _
  refine call_sum_walkAnyS (wpAny_pyIter_values (v := s1.heap.objs.size) (d := d) ⟨_, Heap.get?_push_size _ rfl, rfl, rfl⟩ dat1 ?_)
  refine ⟨_, _, _, _, _, _, _, fun i => ns.getD i 0, rfl, (Walks.dictValues (knd := mixKind X.prog X.w) (A := X.A.in1) (I.ok.hd hc) (s1.heap.push { cls := .type "dict_values", data := .fields #[.ref d] }).objs.size d (by rw [hsz]; exact Nat.ne_of_lt (Nat.lt_succ_of_lt hlt)) vs ep).toS,
    ⟨⟨_, Heap.get?_push_size _ rfl, rfl, rfl⟩, dat1.keep fun b u e => Heap.get?_push_of_some _ e⟩, fun b hb => ?_, fun i u hu => ?_, fun s' t' hm => ?_⟩
  · rcases List.mem_cons.mp hb with z | z
    · rw [z]; exact Heap.lt_size (Heap.get?_push_size _ rfl)
    · rw [List.mem_singleton.mp z]; exact Heap.lt_size (Heap.get?_push_of_some _ (grown _ _ ho))
  · obtain ⟨z, hz, t, e⟩ := each i u hu
    refine ⟨t, ?_⟩
    show u = Value.int (ns.getD i 0) t
    rw [e, List.getD_eq_getElem?_getD, hz]
    rfl
  · have hk : ∀ b o, s1.heap.get? b = some o → s'.heap.get? b = some o := fun b o e =>
      hm.heap b o (fun hI => by
        have lt := Heap.lt_size e
        rw [List.mem_singleton.mp hI, hsz] at lt
        exact absurd lt (Nat.not_lt.mpr (Nat.le_succ _))) (Heap.get?_push_of_some _ (grown _ _ e))
    rw [Moved.eq_with hm]
    refine ⟨.int ns.sum, H1, I1.kept (t' := s'.toks) hk, ⟨t', ?_⟩, q⟩
    rw [presum_eq (fun i => ns.getD i 0) ns vs.length (by omega) fun i hi => by rw [List.getD_eq_getElem?_getD, List.getElem?_eq_getElem (by omega)]; rfl, lens, List.take_length]

/-! ### <= of two pairs of texts -/
def pairLe (a b c d : Str) : Bool := if (a == c) = true then (if (b == d) = true then true else !decide (d.cps.toList < b.cps.toList)) else !decide (c.cps.toList < a.cps.toList)
def rLeP (K : PySem.W.Frag) : R2 := fun x y H Q => ∃ (p q : Addr) (a b c d : Str), x = .ref p ∧ y = .ref q ∧ SqT K H p [.str a, .str b] ∧ SqT K H q [.str c, .str d] ∧ Q (.bl (pairLe a b c d)) H
theorem op_leP {X : Cx} (hu : X.A.units < cLine) : OpR X (compareOp .LtE) (rLeP X.K) := by
  intro pins s σ H x y v u Q I r1 r2 h
  obtain ⟨p, q, a, b, c, d, rfl, rfl, h1, h2, hq⟩ := h
  cases (show v = Value.ref p from r1)
  cases (show u = Value.ref q from r2)
  obtain ⟨its, rv, t1, _⟩ := I.tuple h1
  obtain ⟨jts, rw', t2, _⟩ := I.tuple h2
  obtain ⟨ta, tb, rfl⟩ : ∃ ta tb, its = [Value.str a ta, Value.str b tb] := by
    cases rv with
    | cons ra t =>
      cases t with
      | cons rb t => cases t; obtain ⟨ta, rfl⟩ := ra; obtain ⟨tb, rfl⟩ := rb; exact ⟨_, _, rfl⟩
  obtain ⟨tc, td, rfl⟩ : ∃ tc td, jts = [Value.str c tc, Value.str d td] := by
    cases rw' with
    | cons ra t =>
      cases t with
      | cons rb t => cases t; obtain ⟨ta, rfl⟩ := ra; obtain ⟨tb, rfl⟩ := rb; exact ⟨_, _, rfl⟩
  have leS : ∀ (z w : Str) (tz tw : Tok), Ob.RcOp .LtE X.A.in1 s (.str z tz) (.str w tw) (!decide (w.cps.toList < z.cps.toList)) := fun z w tz tw prog wd E Q' h' => PySem.P.le_str h'
  have run := Ob.RcOp.tuples_le (A := X.A) (s := s) (e := fun j => if j = 0 then (a == c) else (b == d)) (r := fun j => if j = 0 then !decide (c.cps.toList < a.cps.toList) else !decide (d.cps.toList < b.cps.toList))
    (show s.heap.IsTuple p [Value.str a ta, Value.str b tb].toArray from t1) (show s.heap.IsTuple q [Value.str c tc, Value.str d td].toArray from t2) hu
    (fun j z1 z2 => match j, z1, z2 with
      | 0, _, _ => SeqAt.EqAt.str_str a ta c tc
      | 1, _, _ => SeqAt.EqAt.str_str b tb d td
      | j + 2, z, _ => absurd z (by simp))
    (fun j z1 z2 _ => match j, z1, z2 with
      | 0, _, _ => leS a c ta tc
      | 1, _, _ => leS b d tb td
      | j + 2, z, _ => absurd z (by simp))
  refine run X.prog X.w X.xe _ ⟨.bl _, H, I, rfl, ?_⟩
  have e : Ob.lexAt (fun j => if j = 0 then (a == c) else (b == d)) (fun j => if j = 0 then !decide (c.cps.toList < a.cps.toList) else !decide (d.cps.toList < b.cps.toList)) (decide ([Value.str a ta, Value.str b tb].toArray.size ≤ [Value.str c tc, Value.str d td].toArray.size)) 0 (min [Value.str a ta, Value.str b tb].toArray.size [Value.str c tc, Value.str d td].toArray.size) = pairLe a b c d := rfl
  rw [e]
  exact hq
end WbR
set_option maxHeartbeats 2000000
/-! Wakebells: dict(zip(t, u)) of two tuples. -/
namespace WbR
open PySem PySem.Spec PyProof.Rows L2

section
variable {prog : Program} {w : World} {A : Around} {E : Value → Shared → Prop} {s : Shared}
/-- next of a zip of two tuples while the pair T that it gave out is still there -/
theorem zipT_item_out {z TI TO T i1 i2 l1 l2 : Addr} {f : Bool} {oT : Obj} {k1 k2 : Nat} {xs ys : Array Value} {x y : Value} {Q : Option Value → Shared → Prop} (D : ZipApart z TI TO i1 i2 l1 l2)
    (hz : IsZipHeld s.heap z TI TO T f) (hT : s.heap.get? T = some oT) (hTI : IsPair s.heap TI (.ref i1) (.ref i2)) (a1 : s.heap.IsTupleIter i1 l1 k1) (a2 : s.heap.IsTupleIter i2 l2 k2)
    (t1 : s.heap.IsTuple l1 xs) (t2 : s.heap.IsTuple l2 ys) (hx : xs[k1]? = some x) (hy : ys[k2]? = some y)
    (hQ : ∀ h', IsZipHeld h' z TI TO T true → h'.IsTupleIter i1 l1 (k1 + 1) → h'.IsTupleIter i2 l2 (k2 + 1) → IsPair h' s.heap.objs.size x y →
      (∀ c o, c ≠ z → c ≠ i1 → c ≠ i2 → s.heap.get? c = some o → h'.get? c = some o) → Q (some (.ref s.heap.objs.size)) { s with heap := h' }) : wpAny (model prog w) A (pyNext (.ref z)) Q E s := by
  have tz : s.TypeIs (.ref z) "zip" := ⟨_, hz, rfl⟩
  unfold pyNext
  refine wpAny_bind (wpAny_attempt (wpAny_callSpecial?_slot (name := Str.ofString "__next__") tz F.slot_zip_next (wpAny_call_entry F.slot_zip_next tz F.entry_zip_next ?_ (F.args_zip_next_1 _))))
  show wpAny _ _ (field (.ref z) 2 >>= _) _ _ _
  refine wpAny_bind (wpAny_field hz rfl (x := .bool false) rfl ?_)
  show wpAny _ _ (field (.ref z) 3 >>= _) _ _ _
  refine wpAny_bind (wpAny_field hz rfl (x := .ref TI) rfl (wpAny_bind (wpAny_seqItems hTI rfl ?_)))
  refine wpAny_bind (wpAny_tupleHeld_zip hz hT fun g1 z1 b1 => ?_)
  simp only [Bool.false_eq_true, if_false]
  refine wpAny_bind ?_
  rw [← Array.forIn_toList]
  simp only [List.forIn_cons, List.forIn_nil]
  refine wpAny_bind (wpAny_bind (wpAny_holding ?_))
  refine wpAny_bind (wpAny_nextOf_tuple_item (s := { s with heap := g1 }) (a1.extBut b1.extBut D.i1z) (t1.extBut b1.extBut D.l1z) hx fun g2 a1' b2 => wpAny_pure (wpAny_pure ?_))
  refine wpAny_bind (wpAny_bind (wpAny_holding ?_))
  refine wpAny_bind (wpAny_nextOf_tuple_item (s := { s with heap := g2 }) ((a2.extBut b1.extBut D.i2z).extBut b2.extBut D.i12.symm) ((t2.extBut b1.extBut D.l2z).extBut b2.extBut D.l2i1) hy fun g3 a2' b3 => wpAny_pure (wpAny_pure (wpAny_pure ?_)))
  show wpAny _ _ (newTuple [x, y] >>= _) _ _ _
  refine wpAny_bind (wpAny_newTuple (wpAny_pure ⟨_, rfl, ?_⟩))
  have sz : g3.objs.size = s.heap.objs.size := by rw [b3.1, b2.1, b1.1]
  have zz : IsZipHeld g3 z TI TO T true := b3.extBut _ _ D.i2z.symm (b2.extBut _ _ D.i1z.symm z1)
  have kk : ∀ c o, c ≠ z → c ≠ i1 → c ≠ i2 → s.heap.get? c = some o → g3.get? c = some o := fun c o c1 c2 c3 e => b3.extBut _ _ c3 (b2.extBut _ _ c2 (b1.extBut _ _ c1 e))
  have pp : IsPair (g3.push { cls := .type "tuple", data := .seq #[x, y] }) g3.objs.size x y := Heap.get?_push_size _ rfl
  refine wpAny_pure ?_
  show Q (some (.ref g3.objs.size)) _
  rw [sz] at pp ⊢
  exact hQ _ (Heap.get?_push_of_some _ zz) ((a1'.extBut b3.extBut D.i12).at fun o e => Heap.get?_push_of_some _ e) (a2'.at fun o e => Heap.get?_push_of_some _ e) pp fun c o c1 c2 c3 e => Heap.get?_push_of_some _ (kk c o c1 c2 c3 e)
theorem zipT_end_out {z TI TO T i1 i2 l1 l2 : Addr} {f : Bool} {oT : Obj} {k1 k2 : Nat} {xs ys : Array Value} {Q : Option Value → Shared → Prop} (hh : A.handled = none) (D : ZipApart z TI TO i1 i2 l1 l2)
    (hz : IsZipHeld s.heap z TI TO T f) (hT : s.heap.get? T = some oT) (hTI : IsPair s.heap TI (.ref i1) (.ref i2)) (a1 : s.heap.IsTupleIter i1 l1 k1) (a2 : s.heap.IsTupleIter i2 l2 k2)
    (t1 : s.heap.IsTuple l1 xs) (t2 : s.heap.IsTuple l2 ys) (hend : xs[k1]? = none)
    (hQ : ∀ h', (∀ c o, c ≠ z → c ≠ i1 → c ≠ i2 → s.heap.get? c = some o → h'.get? c = some o) → Q none { s with heap := h' }) : wpAny (model prog w) A (pyNext (.ref z)) Q E s := by
  have tz : s.TypeIs (.ref z) "zip" := ⟨_, hz, rfl⟩
  unfold pyNext
  refine wpAny_bind (wpAny_attempt (wpAny_callSpecial?_slot (name := Str.ofString "__next__") tz F.slot_zip_next (wpAny_call_entry F.slot_zip_next tz F.entry_zip_next ?_ (F.args_zip_next_1 _))))
  show wpAny _ _ (field (.ref z) 2 >>= _) _ _ _
  refine wpAny_bind (wpAny_field hz rfl (x := .bool false) rfl ?_)
  show wpAny _ _ (field (.ref z) 3 >>= _) _ _ _
  refine wpAny_bind (wpAny_field hz rfl (x := .ref TI) rfl (wpAny_bind (wpAny_seqItems hTI rfl ?_)))
  refine wpAny_bind (wpAny_tupleHeld_zip hz hT fun g1 z1 b1 => ?_)
  simp only [Bool.false_eq_true, if_false]
  refine wpAny_bind ?_
  rw [← Array.forIn_toList]
  simp only [List.forIn_cons, List.forIn_nil]
  refine wpAny_bind (wpAny_bind (wpAny_holding ?_))
  refine wpAny_bind (wpAny_nextOf_tuple_end (s := { s with heap := g1 }) hh (a1.extBut b1.extBut D.i1z) (t1.extBut b1.extBut D.l1z) hend fun g2 e b2 he => ?_)
  obtain ⟨o, ho, hc⟩ := he
  refine wpAny_bind (wpAny_isInstance (T := "StopIteration") (b := true) ⟨o, ho, hc⟩ isSubtype_stop ?_)
  exact wpAny_pure (hQ _ fun c o c1 c2 _ x => b2 _ _ c2 (b1.extBut _ _ c1 x))
end
section
variable {prog : Program} {w : World}
theorem pairArg_zipT (z TI TO i1 i2 l1 l2 : Addr) (D : ZipApart z TI TO i1 i2 l1 l2) (xs ys : Array Value) (hn : xs.size = ys.size) :
    PairArg prog w "zip" z [z, TI, TO, i1, i2, l1, l2] [z, TO, i1, i2] xs.size (fun i k v => xs[i]? = some k ∧ ys[i]? = some v)
      (fun h => IsZip h z TI TO .none ∧ IsPair h TI (.ref i1) (.ref i2) ∧ (∃ a b, IsPair h TO a b) ∧ h.IsTupleIter i1 l1 0 ∧ h.IsTupleIter i2 l2 0 ∧ h.IsTuple l1 xs ∧ h.IsTuple l2 ys) where
  type := fun s ok => ⟨_, ok.1, rfl⟩
  notDict := by decide
  keep := fun h h' ok k => ⟨k _ _ ok.1, k _ _ ok.2.1, let ⟨a, b, e⟩ := ok.2.2.1; ⟨a, b, k _ _ e⟩, ok.2.2.2.1.at fun o e => k _ o e, ok.2.2.2.2.1.at fun o e => k _ o e, ok.2.2.2.2.2.1.at fun o e => k _ o e, ok.2.2.2.2.2.2.at fun o e => k _ o e⟩
  there := fun h ok b hb => by
    obtain ⟨q1, q2, ⟨_, _, q3⟩, ⟨_, q4, _⟩, ⟨_, q5, _⟩, ⟨_, q6, _⟩, ⟨_, q7, _⟩⟩ := ok
    simp only [List.mem_cons, List.not_mem_nil, or_false] at hb
    rcases hb with rfl | rfl | rfl | rfl | rfl | rfl | rfl
    · exact ⟨_, q1⟩
    · exact ⟨_, q2⟩
    · exact ⟨_, q3⟩
    · exact ⟨_, q4⟩
    · exact ⟨_, q5⟩
    · exact ⟨_, q6⟩
    · exact ⟨_, q7⟩
  sub := fun b hb => by
    simp only [List.mem_cons, List.not_mem_nil, or_false] at hb ⊢
    rcases hb with e | e | e | e <;> simp [e]
  noKeys := fun A s Q E hA ok h => getAttrOr_miss_zip ok.1 rfl rfl rfl zip_no_keys (by decide +kernel) hA h
  iter := fun A s d Q E hA ok hd hdf h => by
    obtain ⟨qz, qTI, ⟨a, b, qTO⟩, q1, q2, t1, t2⟩ := ok
    simp only [List.mem_cons, List.not_mem_nil, or_false, not_or] at hdf
    obtain ⟨dz, dTI, dTO, d1, d2, e1, e2⟩ := hdf
    refine wpAny_pyIter_zip qz (h z [z, TO, i1, i2] (fun i h => IsPair h TI (.ref i1) (.ref i2) ∧ h.IsTupleIter i1 l1 i ∧ h.IsTupleIter i2 l2 i ∧ h.IsTuple l1 xs ∧ h.IsTuple l2 ys ∧
      ((IsZip h z TI TO .none ∧ ∃ a b, IsPair h TO a b) ∨ ∃ T f oT, IsZipHeld h z TI TO T f ∧ h.get? T = some oT ∧ T ≠ z ∧ T ≠ i1 ∧ T ≠ i2 ∧ T ≠ d)) s.heap s.toks ?_
      ⟨qTI, q1, q2, t1, t2, .inl ⟨qz, a, b, qTO⟩⟩ (fun _ _ e => e) fun b hb => .inl hb)
    refine ⟨fun hm => ?_, fun i g g' st k => ?_, fun i s1 Q1 E1 hi st hds hQ => ?_, fun s1 Q1 E1 st hQ => ?_⟩
    · simp only [List.mem_cons, List.not_mem_nil, or_false] at hm
      rcases hm with e | e | e | e
      · exact dz e
      · exact dTO e
      · exact d1 e
      · exact d2 e
    · obtain ⟨pTI, p1, p2, u1, u2, pz⟩ := st
      refine ⟨k _ _ (Ne.symm dTI) pTI, p1.at fun o e => k _ o (Ne.symm d1) e, p2.at fun o e => k _ o (Ne.symm d2) e, u1.at fun o e => k _ o (Ne.symm e1) e, u2.at fun o e => k _ o (Ne.symm e2) e, ?_⟩
      rcases pz with ⟨pz, a, b, pTO⟩ | ⟨T, f, oT, pz, hT, r1, r2, r3, r4⟩
      · exact .inl ⟨k _ _ (Ne.symm dz) pz, a, b, k _ _ (Ne.symm dTO) pTO⟩
      · exact .inr ⟨T, f, oT, k _ _ (Ne.symm dz) pz, k _ _ r4 hT, r1, r2, r3, r4⟩
    · obtain ⟨pTI, p1, p2, u1, u2, pz⟩ := st
      have ex := Array.getElem?_eq_getElem hi
      have ey := Array.getElem?_eq_getElem (hn ▸ hi : i < ys.size)
      have lt : ∀ {c o}, s1.heap.get? c = some o → s1.heap.objs.size ≠ c := fun e => Nat.ne_of_gt (Heap.lt_size e)
      have n1 : s1.heap.objs.size ≠ i1 := let ⟨_, e, _⟩ := p1; lt e
      have n2 : s1.heap.objs.size ≠ i2 := let ⟨_, e, _⟩ := p2; lt e
      rcases pz with ⟨pz, a, b, pTO⟩ | ⟨T, f, oT, pz, hT, r1, r2, r3, r4⟩
      · refine RZ.pyNext_zipT_item D pz pTI pTO p1 p2 u1 u2 ex ey fun g z1 z2 z3 z4 z5 _ k => ?_
        refine hQ s1.heap.objs.size _ _ g s1.toks ⟨ex, ey⟩ (.inl ⟨_, z5, rfl, _, rfl⟩)
          ⟨k _ _ D.TIz D.TITO D.TIi1 D.TIi2 pTI, z3, z4, u1.at fun o e => k _ o D.l1z D.l1TO D.l1i1 D.l1i2 e, u2.at fun o e => k _ o D.l2z D.l2TO D.l2i1 D.l2i2 e, .inr ⟨s1.heap.objs.size, false, _, z1, z5, lt pz, n1, n2, Nat.ne_of_gt hds⟩⟩ fun c o hc e => ?_
        simp only [List.mem_cons, List.not_mem_nil, or_false, not_or] at hc
        exact k c o hc.1 hc.2.1 hc.2.2.1 hc.2.2.2 e
      · refine zipT_item_out D pz hT pTI p1 p2 u1 u2 ex ey fun g z1 z3 z4 z5 k => ?_
        refine hQ s1.heap.objs.size _ _ g s1.toks ⟨ex, ey⟩ (.inl ⟨_, z5, rfl, _, rfl⟩)
          ⟨k _ _ D.TIz D.TIi1 D.TIi2 pTI, z3, z4, u1.at fun o e => k _ o D.l1z D.l1i1 D.l1i2 e, u2.at fun o e => k _ o D.l2z D.l2i1 D.l2i2 e, .inr ⟨T, true, oT, z1, k _ _ r1 r2 r3 hT, r1, r2, r3, r4⟩⟩ fun c o hc e => ?_
        simp only [List.mem_cons, List.not_mem_nil, or_false, not_or] at hc
        exact k c o hc.1 hc.2.2.1 hc.2.2.2 e
    · obtain ⟨pTI, p1, p2, u1, u2, pz⟩ := st
      have en : xs[xs.size]? = none := Array.getElem?_eq_none (Nat.le_refl _)
      rcases pz with ⟨pz, a, b, pTO⟩ | ⟨T, f, oT, pz, hT, r1, r2, r3, r4⟩
      · refine RZ.pyNext_zipT_end hA D pz pTI pTO p1 p2 u1 u2 (.inl en) fun g k => hQ g s1.toks fun c o hc e => ?_
        simp only [List.mem_cons, List.not_mem_nil, or_false, not_or] at hc
        exact k c o hc.1 hc.2.1 hc.2.2.1 hc.2.2.2 e
      · refine zipT_end_out hA D pz hT pTI p1 p2 u1 u2 en fun g k => hQ g s1.toks fun c o hc e => ?_
        simp only [List.mem_cons, List.not_mem_nil, or_false, not_or] at hc
        exact k c o hc.1 hc.2.2.1 hc.2.2.2 e
end
/-- dict(zip(t, u)), t a tuple of texts, u as long -/
def tDictZip (K : PySem.W.Frag) (ta tb : TE) : TE := fun σ H Q => ta σ H fun x H1 => tb σ H1 fun y H2 => ∃ (a b : Addr) (ks : List Str) (ys : List V), x = .ref a ∧ y = .ref b ∧ SqT K H2 a (ks.map V.str) ∧ SqT K H2 b ys ∧ ks.length = ys.length ∧
  ∀ p, H2 p = none → Q (.ref p) (upd H2 p (.dK (mergeK [] ((ks.map Sum.inr).zip ys))))
theorem kv_zip : ∀ {ks : List Str} {ys : List V} {us : List Value}, Vals ys us → KV ((ks.map (Sum.inr : Str → Key)).zip ys) ((ks.map (Sum.inr : Str → Key)).zip us)
  | [], _, _, _ => .nil
  | _ :: _, _, _, .nil => .nil
  | k :: ks, _, _, .cons r t => .cons ⟨rfl, r⟩ (kv_zip (ks := ks) t)
theorem zip_get {α β : Type} : ∀ {xs : List α} {ys : List β} {i : Nat} {x : α} {y : β}, xs[i]? = some x → ys[i]? = some y → (xs.zip ys)[i]? = some (x, y)
  | [], _, _, _, _, h, _ => by simp at h
  | _ :: _, [], _, _, _, _, h => by simp at h
  | a :: xs, b :: ys, 0, x, y, h, h2 => by
    have e1 : a = x := by simpa using h
    have e2 : b = y := by simpa using h2
    rw [e1, e2]; rfl
  | a :: xs, b :: ys, i + 1, x, y, h, h2 => by
    have := zip_get (xs := xs) (ys := ys) (i := i) (x := x) (y := y) (by simpa using h) (by simpa using h2)
    simpa using this
theorem pe_dictZip {X : Cx} {e1 e2 : Expr} {t1 t2 : TE} {p p2 pos pos2 : Pos} (hc : X.calm = true) (hg : Gl X "dict") (hm : X.mg "dict" = none) (hg2 : Gl X "zip") (hm2 : X.mg "zip" = none) (h1 : PE X e1 t1) (h2 : PE X e2 t2)
    (hs : starEach [e1, e2] X.env = (false, eval e1 X.env) :: starEach [e2] X.env := by rfl) (hs1 : starEach [e2] X.env = (false, eval e2 X.env) :: starEach [] X.env := by rfl)
    (hs2 : starEach [.Call (.Name "zip" p2) [e1, e2] [] pos2] X.env = (false, eval (.Call (.Name "zip" p2) [e1, e2] [] pos2) X.env) :: starEach [] X.env := by rfl)
    (hpl : (backTo pos2 (starEach [e2] X.env)).any (·.1) = false := by rfl) :
    PE X (.Call (.Name "dict" p) [.Call (.Name "zip" p2) [e1, e2] [] pos2] [] pos) (tDictZip X.K t1 t2) := by
  refine ⟨fun pins s σ H Q I h => ?_⟩
  refine Call_ (ld_blt I hg hm (u := .type "dict") (by decide +kernel) (PyProof.Rows.callWith_type1 (args_cons (Call_ (ld_blt I hg2 hm2 (u := .type "zip") (by decide +kernel) (PyProof.Rows.callWith_type1 (args_cons (thn (h1.run pins s σ H _ I h) fun u s1 ⟨v, H1, I1, r1, q1⟩ =>
    args_cons (thn (h2.run pins s1 σ H1 _ I1 q1) fun u2 s2 ⟨v2, H2, I2, r2, q2⟩ => args_nil ?_) hs1) hs) hs hpl))) hs2) hs2 rfl))
  obtain ⟨a, b, ks, ys, rfl, rfl, qa, qb, ln, q⟩ := q2
  cases (show u = Value.ref a from r1)
  cases (show u2 = Value.ref b from r2)
  obtain ⟨its, rv, ta, hza⟩ := I2.tuple qa
  obtain ⟨jts, rw', tb, hzb⟩ := I2.tuple qb
  have pa : s2.heap.IsTuple a its.toArray := ta
  have pb : s2.heap.IsTuple b jts.toArray := tb
  have la : a < s2.heap.objs.size := let ⟨_, e, _⟩ := pa; Heap.lt_size e
  have lb : b < s2.heap.objs.size := let ⟨_, e, _⟩ := pb; Heap.lt_size e
  have le : its.length = jts.length := by rw [← rv.length, ← rw'.length, List.length_map]; exact ln
  refine RZ.call_zipT pa pb fun g z1 z2 z3 z4 z5 z6 gk => args_nil ?_
  have I3 : Inv X pins σ H2 { s2 with heap := g } := I2.kept (t' := s2.toks) gk
  generalize hN : s2.heap.objs.size = N at *
  have na : ∀ k : Nat, a ≠ N + k := fun k e => absurd la (by rw [e]; exact Nat.not_lt.mpr (Nat.le_add_right _ _))
  have nb : ∀ k : Nat, b ≠ N + k := fun k e => absurd lb (by rw [e]; exact Nat.not_lt.mpr (Nat.le_add_right _ _))
  have nn : ∀ j k : Nat, j ≠ k → (N + j : Nat) ≠ N + k := fun j k h e => h (Nat.add_left_cancel e)
  have D : ZipApart (N + 4) (N + 2) (N + 3) N (N + 1) a b := ⟨nn 2 4 (by decide), nn 3 4 (by decide), nn 0 4 (by decide), nn 1 4 (by decide), nn 2 3 (by decide), nn 2 0 (by decide), nn 2 1 (by decide), nn 3 0 (by decide), nn 3 1 (by decide), nn 0 1 (by decide),
    na 4, na 3, na 0, na 1, nb 4, nb 3, nb 0, nb 1⟩
  have szs : its.toArray.size = jts.toArray.size := by simp [le]
  have hkv : PairsHave (mixKind X.prog X.w) its.toArray.size (fun i k v => its.toArray[i]? = some k ∧ jts.toArray[i]? = some v) ((ks.map (Sum.inr : Str → Key)).zip jts) := by
    refine ⟨?_, fun i key v ⟨e1, e2⟩ => ?_⟩
    · have l1 : its.length = ks.length := by rw [← rv.length, List.length_map]
      simp [List.length_zip, l1, ← le]
    · have e1' : its[i]? = some key := by simpa using e1
      have e2' : jts[i]? = some v := by simpa using e2
      have li : i < ks.length := by
        have := (List.getElem?_eq_some_iff.mp e1').1
        rw [← rv.length, List.length_map] at this
        exact this
      obtain ⟨u, hu, ru⟩ := rv.get (i := i) (x := .str ks[i]) (by rw [List.getElem?_map, List.getElem?_eq_getElem li]; rfl)
      rw [e1'] at hu
      cases hu
      obtain ⟨t, rfl⟩ := ru
      exact ⟨Sum.inr ks[i], zip_get (by rw [List.getElem?_map, List.getElem?_eq_getElem li]; rfl) e2', keyIs_str (ks[i]) t⟩
  have hsz : its.toArray.size ≤ sizeLine := by
    have := rv.length
    rw [List.size_toArray, ← this]
    exact hza
  have okh : IsZip g (N + 4) (N + 2) (N + 3) .none ∧ IsPair g (N + 2) (.ref N) (.ref (N + 1)) ∧ (∃ a b, IsPair g (N + 3) a b) ∧ g.IsTupleIter N a 0 ∧ g.IsTupleIter (N + 1) b 0 ∧ g.IsTuple a its.toArray ∧ g.IsTuple b jts.toArray :=
    ⟨z1, z2, ⟨_, _, z3⟩, z4, z5, pa.at fun o e => gk _ o e, pb.at fun o e => gk _ o e⟩
  refine PySem.call_dict_pairs (s := { s2 with heap := g }) (pairArg_zipT (N + 4) (N + 2) (N + 3) N (N + 1) a b D its.toArray jts.toArray szs) (I2.ok.hd hc) okh hkv hsz fun g' tk hd hk => ?_
  have big : (g.objs.size == sysModules) = false := beq_eq_false_iff_ne.mpr (Nat.ne_of_gt I3.big)
  have kvs : KV (mergeK [] ((ks.map (Sum.inr : Str → Key)).zip ys)) (merged [] ((ks.map (Sum.inr : Str → Key)).zip jts)) := KV.merge (kv_zip rw') .nil
  have lenM : (mergeK [] ((ks.map (Sum.inr : Str → Key)).zip ys)).length ≤ sizeLine := by
    refine Nat.le_trans (length_mergeK _ []) ?_
    simp only [List.length_nil, Nat.zero_add, List.length_zip, List.length_map]
    rw [List.length_map] at hza
    exact Nat.le_trans (Nat.min_le_left _ _) hza
  have fpo : ∀ c ∈ [N + 4, N + 3, N, N + 1], FpOk X pins H2 c := fun c hc' => by
    have lc : s2.heap.objs.size ≤ c := by
      rw [hN]
      simp only [List.mem_cons, List.not_mem_nil, or_false] at hc'
      rcases hc' with e | e | e | e <;> rw [e] <;> first | exact Nat.le_add_right _ _ | exact Nat.le_refl _
    exact I2.fpOk lc (I2.hok.fresh lc)
  have I4 := I3.turnedNew (t' := tk) (h' := g') (ch := [N + 4, N + 3, N, N + 1]) (T := g.objs.size) (ob := .dK (mergeK [] ((ks.map (Sum.inr : Str → Key)).zip ys))) (fun c o hc' e => hk c o hc' e) fpo (Nat.le_refl _) ⟨lenM, big, _, kvs, hd⟩
  exact ⟨.ref g.objs.size, _, I4, rfl, q g.objs.size (I3.hok.fresh (Nat.le_refl _))⟩
end WbR
set_option maxHeartbeats 2000000
/-! Wakebells: a dict whose keys are pairs (tuple of ints, tuple of texts), its values lists. -/
namespace WbR
open PySem PySem.Spec PyProof.Rows L2

/-- a number as a value; as a part of a key -/
def vN (n : Nat) : V := .int (n : Int)
def kN (n : Nat) : NestedKey := .num (n : Int)
/-- a key: what is left, who is live -/
abbrev KKey := List Nat × List Str
/-- an entry: its key, where the key's tuple stands, where its value stands -/
abbrev KEnt := KKey × Addr × Addr
def nk (e : KKey) : NestedKey := .tup [.tup (e.1.map kN), .tup (e.2.map .text)]
theorem nums_inj : ∀ {a b : List Nat}, (a.map kN) = (b.map kN) → a = b
  | [], [], _ => rfl
  | [], _ :: _, h => by simp at h
  | _ :: _, [], h => by simp at h
  | x :: a, y :: b, h => by
    rw [List.map_cons, List.map_cons] at h
    injection h with h1 h2
    unfold kN at h1
    injection h1 with h1
    rw [nums_inj h2, Int.ofNat.inj h1]
theorem texts_inj : ∀ {a b : List Str}, (a.map NestedKey.text) = (b.map NestedKey.text) → a = b
  | [], [], _ => rfl
  | [], _ :: _, h => by simp at h
  | _ :: _, [], h => by simp at h
  | x :: a, y :: b, h => by
    rw [List.map_cons, List.map_cons] at h
    injection h with h1 h2
    injection h1 with h1
    rw [texts_inj h2, h1]
theorem nk_inj {a b : KKey} (h : nk a = nk b) : a = b := by
  unfold nk at h
  injection h with h
  injection h with h1 h
  injection h with h2 _
  injection h1 with h1
  injection h2 with h2
  exact Prod.ext (nums_inj h1) (texts_inj h2)
def rawE (e : KEnt) : NestedKey × Addr × Value := (nk e.1, e.2.1, .ref e.2.2)
def NdO (P : Program) (w : World) (a : Addr) (xs : List KEnt) : HO := .ext fun h => xs.length ≤ sizeLine ∧ (a == sysModules) = false ∧
  ∃ o es ep, h.get? a = some o ∧ o.ExactDict ∧ o.data = .dict es ep ∧ es.toList = (xs.map rawE).map (entryOfKey (nestedKind P w)) ∧ ((xs.map rawE).map (·.1)).Nodup
/-- the tuple at T is the key k -/
def KAt (H : Hp) (k : KKey) (T : Addr) : Prop := ∃ l s : Addr, H T = some (.tup [.ref l, .ref s]) ∧ H l = some (.tup (k.1.map vN)) ∧ H s = some (.tup (k.2.map V.str))
theorem KAt.mono {H H' : Hp} {k : KKey} {T : Addr} (x : KAt H k T) (m : ∀ b xs, H b = some (.tup xs) → H' b = some (.tup xs)) : KAt H' k T :=
  let ⟨l, s, a, b, c⟩ := x
  ⟨l, s, m _ _ a, m _ _ b, m _ _ c⟩
section
variable {P : Program} {w : World} {H : Hp} {h : Heap}
theorem all_ints : ∀ {ns : List Nat} {us : List Value}, Vals (ns.map vN) us → NestedAll h (ns.map kN) us
  | [], _, .nil => .nil
  | _ :: _, _, .cons r t => by
    obtain ⟨tk, rfl⟩ := r
    exact .cons (.int _ _) (all_ints t)
theorem all_texts : ∀ {ns : List Str} {us : List Value}, Vals (ns.map V.str) us → NestedAll h (ns.map .text) us
  | [], _, .nil => .nil
  | _ :: _, _, .cons r t => by
    obtain ⟨tk, rfl⟩ := r
    exact .cons (.text _ _) (all_texts t)
theorem tup_at {a : Addr} {xs : List V} (ok : HOk P w H h) (e : H a = some (.tup xs)) : ∃ (o : Obj) (us : List Value) (n : Nat), h.get? a = some o ∧ o.cls = .type "tuple" ∧ o.data = .seq us.toArray n ∧ Vals xs us := by
  obtain ⟨_, its, r, o, h1, h2, n, h3⟩ := ok a _ e
  exact ⟨o, its, n, h1, h2, h3, r⟩
theorem depth_nums : ∀ ns : List Nat, NestedKey.depthAll (ns.map kN) = 0
  | [] => rfl
  | n :: ns => by rw [List.map_cons, NestedKey.depthAll, depth_nums ns]; rfl
theorem depth_texts : ∀ ns : List Str, NestedKey.depthAll (ns.map NestedKey.text) = 0
  | [] => rfl
  | n :: ns => by rw [List.map_cons, NestedKey.depthAll, depth_texts ns]; rfl
theorem KAt.is {k : KKey} {T : Addr} (ok : HOk P w H h) (x : KAt H k T) : (nestedKind P w).is h (nk k) T := by
  obtain ⟨l, s, e1, e2, e3⟩ := x
  obtain ⟨o1, us1, n1, a1, b1, c1, r1⟩ := tup_at ok e1
  obtain ⟨o2, us2, n2, a2, b2, c2, r2⟩ := tup_at ok e2
  obtain ⟨o3, us3, n3, a3, b3, c3, r3⟩ := tup_at ok e3
  have eu : us1 = [.ref l, .ref s] := by
    cases r1 with
    | cons p q =>
      cases q with
      | cons p' q' =>
        cases q'
        cases p
        cases p'
        rfl
  subst eu
  refine ⟨?_, ?_⟩
  · unfold nk
    exact .tup a1 b1 c1 (.cons (.tup a2 b2 c2 (by simpa using all_ints r2)) (.cons (.tup a3 b3 c3 (by simpa using all_texts r3)) .nil))
  · unfold nk
    simp only [NestedKey.depth, NestedKey.depthAll, depth_nums, depth_texts]
    decide
/-- the entries' keys stand in the heap -/
def Keyed (H : Hp) (xs : List KEnt) : Prop := ∀ e ∈ xs, KAt H e.1 e.2.1
theorem nd_of {a : Addr} {xs : List KEnt} (ok : HOk P w H h) (e : H a = some (NdO P w a xs)) (kk : Keyed H xs) : xs.length ≤ sizeLine ∧ (a == sysModules) = false ∧ h.DictOfH (nestedKind P w) a (xs.map rawE) := by
  obtain ⟨⟨z, hs, o, es, ep, q1, q2, q3, q4, q5⟩, _⟩ := ok a _ e
  refine ⟨z, hs, o, es, ep, q1, q2, q3, q4, fun x hx => ?_, q5⟩
  obtain ⟨y, hy, rfl⟩ := List.mem_map.mp hx
  exact (kk y hy).is ok
theorem nd_ok {a : Addr} {xs : List KEnt} {H' : Hp} (hz : xs.length ≤ sizeLine) (hs : (a == sysModules) = false) (d : h.DictOfH (nestedKind P w) a (xs.map rawE)) : ObjOk P w H' h a (NdO P w a xs) := by
  obtain ⟨o, es, ep, q1, q2, q3, q4, _, q5⟩ := d
  refine ⟨⟨hz, hs, o, es, ep, q1, q2, q3, q4, q5⟩, ⟨o, q1⟩, fun h1 h2 x k => ?_⟩
  obtain ⟨z, y, o', es', ep', p1, p⟩ := x
  exact ⟨z, y, o', es', ep', k _ p1, p⟩
end
/-- what stands at the key k -/
def kdGet (xs : List KEnt) (k : KKey) : Option Addr := (xs.find? fun e => decide (e.1 = k)).map fun e => e.2.2
theorem atKey_raw (k : KKey) : ∀ xs : List KEnt, atKey (xs.map rawE) (nk k) = (xs.find? fun e => decide (e.1 = k)).map fun e => (e.2.1, Value.ref e.2.2)
  | [] => rfl
  | e :: xs => by
    have ih := atKey_raw k xs
    unfold atKey at ih ⊢
    rw [List.map_cons, List.find?_cons, List.find?_cons]
    by_cases q : e.1 = k
    · have q' : (rawE e).1 = nk k := by show nk e.1 = nk k; rw [q]
      rw [decide_eq_true q, decide_eq_true q']
      rfl
    · have q' : ¬ (rawE e).1 = nk k := fun z => q (nk_inj z)
      rw [decide_eq_false q, decide_eq_false q']
      exact ih
/-- the entries behind d[k] = p, the key's tuple at T -/
def kdPut (xs : List KEnt) (k : KKey) (T p : Addr) : List KEnt := if (kdGet xs k).isSome then xs.map fun e => if e.1 = k then (e.1, e.2.1, p) else e else xs ++ [(k, T, p)]
theorem kdGet_put (xs : List KEnt) (k : KKey) (T p : Addr) : kdGet (kdPut xs k T p) k = some p := by
  unfold kdPut
  split
  · rename_i h
    induction xs with
    | nil => simp [kdGet] at h
    | cons e xs ih =>
      unfold kdGet at h ih ⊢
      rw [List.map_cons, List.find?_cons]
      by_cases q : e.1 = k
      · rw [if_pos q, decide_eq_true (show (e.1, e.2.1, p).1 = k from q)]
        rfl
      · rw [if_neg q, decide_eq_false q]
        rw [List.find?_cons, decide_eq_false q] at h
        exact ih h
  · rename_i h
    induction xs with
    | nil => simp [kdGet]
    | cons e xs ih =>
      unfold kdGet at h ih ⊢
      rw [List.cons_append, List.find?_cons]
      by_cases q : e.1 = k
      · exfalso
        apply h
        rw [List.find?_cons, decide_eq_true q]
        rfl
      · rw [decide_eq_false q]
        rw [List.find?_cons, decide_eq_false q] at h
        exact ih h
theorem mem_kdPut {xs : List KEnt} {k : KKey} {T p : Addr} {e : KEnt} (h : e ∈ kdPut xs k T p) : e ∈ xs ∨ (e.1 = k ∧ e.2.2 = p ∧ ((∃ e' ∈ xs, e'.1 = k ∧ e'.2.1 = e.2.1) ∨ e.2.1 = T)) := by
  unfold kdPut at h
  split at h
  · obtain ⟨y, hy, rfl⟩ := List.mem_map.mp h
    by_cases q : y.1 = k
    · rw [if_pos q]
      exact .inr ⟨q, rfl, .inl ⟨y, hy, q, rfl⟩⟩
    · rw [if_neg q]
      exact .inl hy
  · rcases List.mem_append.mp h with h | h
    · exact .inl h
    · obtain rfl := List.mem_singleton.mp h
      exact .inr ⟨rfl, rfl, .inr rfl⟩
theorem stored_raw (xs : List KEnt) (k : KKey) (T p : Addr) : storedH (xs.map rawE) (nk k) T (.ref p) = (kdPut xs k T p).map rawE := by
  unfold storedH kdPut kdGet
  rw [atKey_raw, Option.isSome_map, Option.isSome_map]
  split
  · rw [List.map_map, List.map_map]
    refine List.map_congr_left fun e _ => ?_
    show putAt (nk k) (.ref p) (rawE e) = rawE (if e.1 = k then (e.1, e.2.1, p) else e)
    unfold putAt
    by_cases q : e.1 = k
    · rw [if_pos q, if_pos (show (rawE e).1 = nk k by show nk e.1 = nk k; rw [q])]
      rfl
    · rw [if_neg q, if_neg (show ¬ (rawE e).1 = nk k from fun z => q (nk_inj z))]
  · rw [List.map_append]
    rfl
theorem kdPut_len (xs : List KEnt) (k : KKey) (T p : Addr) : (kdPut xs k T p).length ≤ xs.length + 1 := by
  unfold kdPut
  split
  · rw [List.length_map]; omega
  · rw [List.length_append]; exact Nat.le_refl _
section
variable {X : Cx} {i o value : Expr} {pos pos' : Pos} {ty td tv : TE}
/-- {} of that kind -/
def tDNewN (P : Program) (w : World) : TE := fun _ H Q => ∀ p, H p = none → Q (.ref p) (upd H p (NdO P w p []))
theorem pe_dnewN : PE X (.Dict [] [] pos) (tDNewN X.prog X.w) := by
  refine ⟨fun pins s σ H Q I h => ?_⟩
  have big : (s.heap.objs.size == sysModules) = false := beq_eq_false_iff_ne.mpr (Ne.symm (Nat.ne_of_lt I.big))
  exact wpAny_Dict_empty ⟨.ref s.heap.objs.size, _, I.laid (a := s.heap.objs.size) (o := NdO X.prog X.w s.heap.objs.size []) (t' := s.toks) (fun _ _ q => Heap.get?_push_of_some _ q) (Nat.le_refl _) (nd_ok (xs := []) (Nat.zero_le _) big (Heap.DictOfH.new s.heap)), rfl, h _ (I.hok.fresh (Nat.le_refl _))⟩
/-- k not in d -/
def tNdNot (P : Program) (w : World) (ty td : TE) : TE := fun σ H Q => ty σ H fun y H1 => td σ H1 fun x H2 => ∃ (a T : Addr) (xs : List KEnt) (k : KKey), x = .ref a ∧ y = .ref T ∧ H2 a = some (NdO P w a xs) ∧ Keyed H2 xs ∧ KAt H2 k T ∧ Q (.bl (!(kdGet xs k).isSome)) H2
theorem pc_ndNot (hu : X.A.units + 9 < cLine) (hi : PE X i ty) (ho : PE X o td) : PC X .NotIn i o (tNdNot X.prog X.w ty td) := by
  refine ⟨fun pins s σ H Q I h => ?_⟩
  refine thn (hi.run pins s σ H _ I h) fun iv s1 ⟨y, H1, I1, ry, q1⟩ => thn (ho.run pins s1 σ H1 _ I1 q1) fun u s2 ⟨x, H2, I2, rx, a, T, xs, k, ex, ey, g, kk, ka, q2⟩ => ?_
  subst ex ey
  cases (show u = Value.ref a from rx)
  cases (show iv = Value.ref T from ry)
  obtain ⟨z, hs, d⟩ := nd_of I2.hok g kk
  refine wpAny_notIn_heap (knd := nestedKind X.prog X.w) (show X.A.in1.units + 8 < cLine from (by show X.A.units + 1 + 8 < cLine; omega)) (ka.is I2.hok) hs d ?_
  rw [atKey_raw, Option.isSome_map]
  refine ⟨.bl (!(kdGet xs k).isSome), H2, I2.tok _, ?_, q2⟩
  show _ = Value.bool _
  unfold kdGet
  rw [Option.isSome_map]
/-- d[k], there -/
def tNdGet (P : Program) (w : World) (td ty : TE) : TE := fun σ H Q => td σ H fun x H1 => ty σ H1 fun y H2 => ∃ (a T : Addr) (xs : List KEnt) (k : KKey) (p : Addr), x = .ref a ∧ y = .ref T ∧ H2 a = some (NdO P w a xs) ∧ Keyed H2 xs ∧ KAt H2 k T ∧ kdGet xs k = some p ∧ Q (.ref p) H2
theorem pe_ndGet (hu : X.A.units + 9 < cLine) (ho : PE X o td) (hi : PE X i ty) (hs : NoSl i) : PE X (.Subscript o i pos) (tNdGet X.prog X.w td ty) := by
  refine ⟨fun pins s σ H Q I h => ?_⟩
  refine subD_of PySem.F.slot_dict_getitem.lookup hs (thn (ho.run pins s σ H _ I h) fun u s1 ⟨x, H1, I1, rx, q1⟩ => thn (hi.run pins s1 σ H1 _ I1 q1) fun iv s2 ⟨y, H2, I2, ry, a, T, xs, k, p, ex, ey, g, kk, ka, gp, q2⟩ => ?_)
  subst ex ey
  cases (show u = Value.ref a from rx)
  cases (show iv = Value.ref T from ry)
  obtain ⟨z, hs, d⟩ := nd_of I2.hok g kk
  unfold kdGet at gp
  obtain ⟨e, he, hp⟩ := Option.map_eq_some_iff.mp gp
  refine ⟨d.typeIs, wpAny_getItem_heap (knd := nestedKind X.prog X.w) (p := (e.2.1, Value.ref e.2.2)) (show X.A.in1.units + 8 < cLine from (by show X.A.units + 1 + 8 < cLine; omega)) (ka.is I2.hok) d ?_ ⟨.ref p, H2, I2.tok _, ?_, q2⟩⟩
  · rw [atKey_raw, he]; rfl
  · show Value.ref e.2.2 = Value.ref p
    rw [hp]
/-- d[k] = a list -/
def sNdPut (P : Program) (w : World) (td ty tv : TE) : TS := fun D σ H => tv σ H fun v H1 => td σ H1 fun x H2 => ty σ H2 fun y H3 => ∃ (a T : Addr) (xs : List KEnt) (k : KKey) (p : Addr), x = .ref a ∧ y = .ref T ∧ v = .ref p ∧ H3 a = some (NdO P w a xs) ∧ Keyed H3 xs ∧ KAt H3 k T ∧ xs.length < sizeLine ∧
  D.nx σ (upd H3 a (NdO P w a (kdPut xs k T p)))
theorem ps_ndPut (hu : X.A.units + 9 < cLine) (ho : PE X o td) (hi : PE X i ty) (hv : PE X value tv) (hs : swapsWith value (some (.Subscript o i pos')) pos.line X.env = pure false) :
    PS X (.Assign [.Subscript o i pos'] value pos) (sNdPut X.prog X.w td ty tv) := by
  refine ⟨fun pins s σ H D I h => ?_⟩
  refine wpAny_Assign_Subscript (thn (hv.run pins s σ H _ I h) fun r s1 ⟨v, H1, I1, rv, q1⟩ => thn (ho.run pins s1 σ H1 _ I1 q1) fun u s2 ⟨x, H2, I2, rx, q2⟩ => thn (hi.run pins s2 σ H2 _ I2 q2) fun iv s3 ⟨y, H3, I3, ry, a, T, xs, k, p, ex, ey, ev, g, kk, ka, lz, q3⟩ => ?_) hs
  subst ex ey ev
  cases (show u = Value.ref a from rx)
  cases (show iv = Value.ref T from ry)
  cases (show r = Value.ref p from rv)
  obtain ⟨z, hsy, d⟩ := nd_of I3.hok g kk
  refine wpAny_setItem_heap (knd := nestedKind X.prog X.w) (hsz := by rw [List.length_map]; exact z) (show X.A.in1.units + 8 < cLine from (by show X.A.units + 1 + 8 < cLine; omega)) (ka.is I3.hok) d fun h' d' sb => ?_
  rw [stored_raw] at d'
  have he : ∃ q, h'.get? a = some q := let ⟨q, _, _, hq, _⟩ := d'; ⟨q, hq⟩
  exact ⟨σ, _, d_write I3 (by rw [g]; exact True.intro) sb he (nd_ok (Nat.le_trans (kdPut_len xs k T p) lz) hsy d'), q3⟩
end
end WbR
set_option maxHeartbeats 2000000
/-! Wakebells: what the promises speak of. -/
namespace Wb
open PySem PySem.Spec PyProof.Rows L2 WbR

/-! ### defs at hand -/
/-- a def of the module keeps a promise -/
structure Has (P : Program) (w : World) (K : PySem.W.Frag) (mg : Str → Option Value) (base : Heap) (x : Str) (k : Nat) (ps : List Str) (sp : Sp) : Prop where
  ex : ∃ (f : Addr) (fd : FuncData), FnOk P w K mg base CX0 k f fd ps sp ∧ mg x = some (.ref f) ∧ PySem.W.keepIn K (.ref f) = true ∧ Binds K fd ps []
theorem Has.mono {P : Program} {w : World} {K : PySem.W.Frag} {mg : Str → Option Value} {base : Heap} {x : Str} {j k : Nat} {ps : List Str} {sp : Sp} (a : Has P w K mg base x j ps sp) (h : j ≤ k) : Has P w K mg base x k ps sp :=
  let ⟨f, fd, G, g, kp, b⟩ := a.ex
  ⟨f, fd, G.mono h, g, kp, b⟩
/-- a def as the head tells it -/
def Def (K : PySem.W.Frag) (mg : Str → Option Value) (x : Str) (st : Stmt) : Prop := ∃ (f : Addr) (fd : FuncData), FnP K x x st f fd ∧ mg x = some (.ref f)
theorem has_mk {P : Program} {w : World} {K : PySem.W.Frag} {mg : Str → Option Value} {base : Heap} {x : Str} {st : Stmt} {N ps : List Str} {k : Nat} {sp : Sp} (F : Def K mg x st) (S : FnScope N ps (defScope st))
    (hbind : ∀ (kV doc pm : Value) (an : Option Addr) (cdv ct : Value) (us : List Value), us.length = ps.length → bindArgs (PySem.W.fnOf x x (defArgs st) (defBody st) (defScope st) .none kV doc pm an cdv ct) ⟨us, []⟩ = pure (ps.zip us))
    (len : ∀ vs H Q E, sp vs H Q E → vs.length = ps.length)
    (hbody : ∀ (f : Addr) (cdv : Value) (A : Around) (outer : List Env) (s : Shared) (H : Hp) (vs : List V) (Q : VK) (E : XK), Room k (A.deeper (envOfC x (defScope st) s.heap.objs.size f cdv)) → sp vs H Q E →
      ∃ t, PSs (cxOf CX0 P w K mg base N x (defScope st) f cdv A outer s H E).nox (defBody st) t ∧ t { nx := fun _ H' => Q .non H', rt := Q } (start N vs) H) : Has P w K mg base x (k + 1) ps sp := by
  obtain ⟨f, fd, D, gm⟩ := F
  refine ⟨f, fd, D.ok S len fun cdv A outer s H vs Q E hr h => ?_, gm, D.kp, D.bindsN hbind⟩
  obtain ⟨t, a, b⟩ := hbody f cdv A outer s H vs Q E hr h
  exact ⟨t, a.nox, b⟩

/-- what the module's names stand for, but its defs -/
structure Env (K : PySem.W.Frag) (mg : Str → Option Value) (C : Addr) : Prop where
  isinstance : mg "isinstance" = none
  int : mg "int" = none
  bool : mg "bool" = none
  tuple : mg "tuple" = none
  len : mg "len" = none
  enumerate : mg "enumerate" = none
  all : mg "all" = none
  str : mg "str" = none
  sum : mg "sum" = none
  range : mg "range" = none
  dict : mg "dict" = none
  zip : mg "zip" = none
  any : mg "any" = none
  max : mg "max" = none
  min : mg "min" = none
  abs : mg "abs" = none
  divmod : mg "divmod" = none
  sorted : mg "sorted" = none
  big : ∃ t, mg "BIG" = some (.int 1000000000000000000000000000000 t)
  mostBells : ∃ t, mg "MOST_BELLS" = some (.int 12 t)
  mostLetters : ∃ t, mg "MOST_LETTERS" = some (.int 8 t)
  mostRound : ∃ t, mg "MOST_ROUND" = some (.int 200 t)
  letters : ∃ t, mg "LETTERS" = some (.str "abcdefghijklmnopqrstuvwxyz" t)
  cl : Cls K C
  nB : NoAttr K C "bells"
  nW : NoAttr K C "wakes"
  web : mg "Web" = some (.ref C)
  ins : C8.InsC K C

/-! ### heaps -/
theorem same_upd {H : Hp} {p : Addr} {o : HO} (h : H p = none) : Same H (upd H p o) := fun b x e => by
  rw [upd_ne (ne_of_none e h)]
  exact e
theorem Same.seqT {K : PySem.W.Frag} {H H' : Hp} {a : Addr} {xs : List V} (e : Same H H') (h : SqT K H a xs) : SqT K H' a xs := by
  rcases h with (h | ⟨o, h⟩) | h
  · exact .inl (.inl (e _ _ h))
  · exact .inl (.inr ⟨o, e _ _ h⟩)
  · exact .inr h
/-- all but what stands at a is as it was -/
def SameBut (a : Addr) (H H' : Hp) : Prop := ∀ b o, b ≠ a → H b = some o → H' b = some o
theorem Same.but {H H' : Hp} {a : Addr} (s : Same H H') : SameBut a H H' := fun b o _ e => s b o e
theorem SameBut.trans {a : Addr} {H H1 H2 : Hp} (x : SameBut a H H1) (y : SameBut a H1 H2) : SameBut a H H2 := fun b o n e => y b o n (x b o n e)
theorem SameBut.tup {a b : Addr} {H H' : Hp} {xs : List V} {o : HO} (x : SameBut a H H') (e : H b = some (.tup xs)) (ha : H a = some o) (ho : o ≠ .tup xs) : H' b = some (.tup xs) :=
  x b _ (ne_of e ha (Ne.symm ho)) e

/-! ### dicts by names -/
/-- the pairs of a dict with these keys -/
def dkS (bs : List Str) (g : Str → V) : List (Key × V) := bs.map fun b => ((Sum.inr b : Key), g b)
theorem dkS_len (bs : List Str) (g : Str → V) : (dkS bs g).length = bs.length := List.length_map _
theorem inr_ne {a b : Str} (h : a ≠ b) : ¬ (Sum.inr a : Key) = Sum.inr b := fun e => h (Sum.inr.inj e)
theorem valV_dkS {g : Str → V} {b : Str} : ∀ {bs : List Str}, b ∈ bs → valV (dkS bs g) (Sum.inr b : Key) = some (g b)
  | a :: bs, h => by
    by_cases e : a = b
    · subst e
      exact valV_pos rfl
    · show valV ((Sum.inr a, g a) :: dkS bs g) _ = _
      rw [valV_neg (show ¬ ((Sum.inr a : Key), g a).1 = Sum.inr b from inr_ne e)]
      exact valV_dkS ((List.mem_cons.mp h).resolve_left fun z => e z.symm)
theorem valV_dkS_none {g : Str → V} {b : Str} : ∀ {bs : List Str}, b ∉ bs → valV (dkS bs g) (Sum.inr b : Key) = none
  | [], _ => rfl
  | a :: bs, h => by
    have e : a ≠ b := fun z => h (z ▸ List.mem_cons_self)
    show valV ((Sum.inr a, g a) :: dkS bs g) _ = _
    rw [valV_neg (show ¬ ((Sum.inr a : Key), g a).1 = Sum.inr b from inr_ne e)]
    exact valV_dkS_none fun z => h (List.mem_cons_of_mem _ z)
/-- a value changed -/
def setV (g : Str → V) (b : Str) (v : V) : Str → V := fun c => if c = b then v else g c
theorem putK_dkS {bs : List Str} {g : Str → V} {b : Str} {v : V} (h : b ∈ bs) : putK (dkS bs g) (Sum.inr b : Key) v = dkS bs (setV g b v) := by
  unfold putK
  rw [valV_any, valV_dkS h]
  show (List.map _ (List.map _ bs)) = List.map _ bs
  rw [List.map_map]
  refine List.map_congr_left fun c _ => ?_
  show (if (Sum.inr c : Key) = Sum.inr b then ((Sum.inr c : Key), v) else (Sum.inr c, g c)) = (Sum.inr c, setV g b v c)
  unfold setV
  by_cases e : c = b
  · rw [if_pos (by rw [e]), if_pos e]
  · rw [if_neg (inr_ne e), if_neg e]
theorem putK_dkS_new {bs : List Str} {g : Str → V} {b : Str} {v : V} (h : b ∉ bs) (hv : g b = v) : putK (dkS bs g) (Sum.inr b : Key) v = dkS (bs ++ [b]) g := by
  rw [putK_new v (valV_dkS_none h)]
  unfold dkS
  rw [List.map_append, List.map_singleton, hv]
theorem dkS_congr {bs : List Str} {g g' : Str → V} (h : ∀ b ∈ bs, g b = g' b) : dkS bs g = dkS bs g' := List.map_congr_left fun b hb => by rw [h b hb]
/-- reading, of a locked one too -/
theorem dget {H : Hp} {d : Addr} {bs : List Str} {g : Str → V} {b : Str} (h : H d = some (.dK (dkS bs g))) (hb : b ∈ bs) : DGet H d (.str b) (some (g b)) := by
  have := DGet.k (k := Sum.inr b) h
  rw [valV_dkS hb] at this
  exact this
theorem dgetR {H : Hp} {d : Addr} {bs : List Str} {g : Str → V} {b : Str} (h : Rd H d (.dK (dkS bs g))) (hb : b ∈ bs) : DGet H d (.str b) (some (g b)) :=
  .inl ⟨dkS bs g, Sum.inr b, h, rfl, (valV_dkS hb).symm⟩
theorem dput {H : Hp} {d : Addr} {bs : List Str} {g : Str → V} {b : Str} {v : V} (h : H d = some (.dK (dkS bs g))) (hb : b ∈ bs) (hz : bs.length ≤ 1000) : DPut H d (.str b) v (upd H d (.dK (dkS bs (setV g b v)))) := by
  have := DPut.k (k := Sum.inr b) (v := v) h (by rw [dkS_len]; exact small1000 hz)
  rw [putK_dkS hb] at this
  exact this
theorem mergeK_names {bs : List Str} {ys : List V} {g : Str → V} (hn : bs.Nodup) (hy : ys = bs.map g) : mergeK [] ((bs.map (Sum.inr : Str → Key)).zip ys) = dkS bs g := by
  subst hy
  have key : ∀ (l pre : List Str), (pre ++ l).Nodup → mergeK (dkS pre g) ((l.map (Sum.inr : Str → Key)).zip (l.map g)) = dkS (pre ++ l) g := by
    intro l
    induction l with
    | nil => intro pre _; rw [List.append_nil]; rfl
    | cons b l ih =>
      intro pre hnd
      have hb : b ∉ pre := fun z => by
        have := (List.nodup_append.mp hnd).2.2 b z b List.mem_cons_self
        exact this rfl
      show mergeK (putK (dkS pre g) (Sum.inr b) (g b)) ((l.map (Sum.inr : Str → Key)).zip (l.map g)) = _
      rw [putK_dkS_new hb rfl, ih (pre ++ [b]) (by rw [List.append_assoc]; exact hnd), List.append_assoc]
      rfl
  exact key bs [] hn

/-! ### texts in lists -/
theorem flat_strs (zs : List Str) : (zs.map V.str).all flatV = true := by
  rw [List.all_eq_true]
  intro x hx
  obtain ⟨z, _, rfl⟩ := List.mem_map.mp hx
  rfl
theorem inV_strs (z : Str) (zs : List Str) : inV (.str z) (zs.map V.str) = decide (z ∈ zs) := by
  induction zs with
  | nil => rfl
  | cons a zs ih =>
    show (eqV (.str a) (.str z) || inV (.str z) (zs.map V.str)) = _
    rw [ih, Bool.eq_iff_iff, Bool.or_eq_true, decide_eq_true_eq, decide_eq_true_eq, List.mem_cons]
    have : eqV (.str a) (.str z) = true ↔ z = a := by
      show (a == z) = true ↔ _
      rw [beq_iff_eq]
      exact ⟨Eq.symm, Eq.symm⟩
    rw [this]

/-! ### webs -/
/-- a tuple that is known as an object -/
theorem sqz {K : PySem.W.Frag} {H : Hp} {a : Addr} {o : Obj} {xs : List V} (h : H a = some (.frz o (.tup xs))) : SqT K H a xs := .inl (.inr ⟨o, h⟩)
def wflds (B W : Addr) : List (Str × V) := putF "wakes" (.ref W) (putF "bells" (.ref B) [])
theorem bw : ¬ (("bells" : Str) = "wakes") := by decide +kernel
theorem wflds_bells (B W : Addr) : (wflds B W).lookup ("bells" : Str) = some (.ref B) := by
  unfold wflds
  rw [lookup_putF, if_neg bw, lookup_putF, if_pos rfl]
theorem wflds_wakes (B W : Addr) : (wflds B W).lookup ("wakes" : Str) = some (.ref W) := by
  unfold wflds
  rw [lookup_putF, if_pos rfl]
/-- the pairs' tuples -/
def PairsAt (H : Hp) (ps : List Addr) (ws : List (Str × Str)) : Prop := Paired (fun p q => H p = some (.tup [.str q.1, .str q.2])) ps ws
theorem PairsAt.mono {H H' : Hp} {ps : List Addr} {ws : List (Str × Str)} (x : PairsAt H ps ws) (m : ∀ b xs, H b = some (.tup xs) → H' b = some (.tup xs)) : PairsAt H' ps ws := Paired.mapP x fun _ _ e => m _ _ e
theorem PairsAt.at {H : Hp} {ps : List Addr} {ws : List (Str × Str)} (x : PairsAt H ps ws) : ∀ {i : Nat} {q : Str × Str}, ws[i]? = some q → ∃ p, ps[i]? = some p ∧ H p = some (.tup [.str q.1, .str q.2]) := by
  unfold PairsAt at x
  induction x with
  | nil => intro i q h; simp at h
  | cons r t ih =>
    intro i q h
    cases i with
    | zero =>
      have e := Option.some.inj (show some _ = some q from h)
      exact ⟨_, rfl, by rw [← e]; exact r⟩
    | succ i =>
      obtain ⟨p, h1, h2⟩ := ih (i := i) (q := q) (by simpa using h)
      exact ⟨p, by simpa using h1, h2⟩
theorem PairsAt.len {H : Hp} {ps : List Addr} {ws : List (Str × Str)} (x : PairsAt H ps ws) : ps.length = ws.length := Paired.length x
/-- a Web stands at w, its bells and wakes -/
structure WebAt (C : Addr) (H : Hp) (w : Addr) (bs : List Str) (ws : List (Str × Str)) : Prop where
  ex : ∃ (dx B W : Addr) (ps : List Addr) (ob : Obj), H w = some (.ins C dx (wflds B W)) ∧ H B = some (.frz ob (.tup (bs.map V.str))) ∧ H W = some (.tup (ps.map V.ref)) ∧ PairsAt H ps ws
theorem WebAt.mono {C : Addr} {H H' : Hp} {w : Addr} {bs : List Str} {ws : List (Str × Str)} (x : WebAt C H w bs ws) (s : Same H H') : WebAt C H' w bs ws :=
  let ⟨dx, B, W, ps, ob, h1, h2, h3, h4⟩ := x.ex
  ⟨dx, B, W, ps, ob, s _ _ h1, s _ _ h2, s _ _ h3, h4.mono fun b xs e => s _ _ e⟩
/-- what is so of the bells and wakes -/
structure WebOk (bs : List Str) (ws : List (Str × Str)) : Prop where
  nd : bs.Nodup
  pos : 1 ≤ bs.length
  few : bs.length ≤ 12
  sub : ∀ p ∈ ws, p.1 ∈ bs ∧ p.2 ∈ bs
  ndw : ws.Nodup
  fewW : ws.length ≤ 144
theorem WebOk.few1000 {bs : List Str} {ws : List (Str × Str)} (o : WebOk bs ws) : bs.length ≤ 1000 := Nat.le_trans o.few (by decide)
end Wb
set_option maxHeartbeats 2000000
/-! Wakebells: comprehensions whose parts leave the heap as it is. -/
namespace Wb
open PySem PySem.Spec PyProof.Rows L2 WbR
section
variable {K : PySem.W.Frag} {a : Addr} {xs : List V} {g : TG} {tt : TT} {te : TE} {vs : List Nat} {σ : L2.St} {H1 : Hp} {D : Addr} {Qd : Hp → Prop}
theorem filterMap_take {α β : Type} (f : α → Option β) {xs : List α} {i : Nat} {x : α} (h : xs[i]? = some x) : (xs.take (i + 1)).filterMap f = (xs.take i).filterMap f ++ (f x).toList := by
  rw [List.take_add_one, List.filterMap_append, h]
  show _ ++ [x].filterMap f = _
  rw [List.filterMap_cons, List.filterMap_nil]
  cases f x <;> rfl
theorem filterMap_len {α β : Type} (f : α → Option β) : ∀ xs : List α, (xs.filterMap f).length ≤ xs.length := fun xs => List.length_filterMap_le f xs
/-- the turn of a part that leaves the heap: f tells what it gives of an item -/
abbrev TurnP (f : V → Option V) (xs : List V) (g : TG) (tt : TT) (te : TE) (vs : List Nat) (σ : L2.St) (H1 : Hp) (D : Addr) : Prop :=
  ∀ (i : Nat) (x : V) (acc : List V) (R1 : V → Hp → Prop) (R0 : Hp → Prop), xs[i]? = some x → (f x = none → R0 (upd H1 D (.lst acc))) → (∀ y, f x = some y → R1 y (upd H1 D (.lst acc))) →
    g x (wipe σ vs) (upd H1 D (.lst acc)) fun σ2 H2 => wipe σ2 vs = wipe σ vs ∧ tt σ2 H2 fun b H3 => if b = true then te σ2 H3 R1 else R0 H3
theorem lc_turn {f : V → Option V} (hz : xs.length ≤ 1000) (hs : TurnP f xs g tt te vs σ H1 D) : ∀ (i : Nat) (x : V) (H : Hp), xs[i]? = some x → H = upd H1 D (.lst ((xs.take i).filterMap f)) →
    g x (wipe σ vs) H fun σ2 H2 => wipe σ2 vs = wipe σ vs ∧ tt σ2 H2 fun b H3 =>
      if b = true then te σ2 H3 fun y H4 => ∃ acc, H4 D = some (.lst acc) ∧ acc.length < sizeLine ∧ (upd H4 D (.lst (acc ++ [y]))) = upd H1 D (.lst ((xs.take (i + 1)).filterMap f)) else H3 = upd H1 D (.lst ((xs.take (i + 1)).filterMap f)) := by
  rintro i x H hi rfl
  refine hs i x _ _ _ hi (fun e => ?_) (fun y e => ?_)
  · rw [filterMap_take f hi, e]
    show upd H1 D _ = upd H1 D (.lst (_ ++ []))
    rw [List.append_nil]
  · refine ⟨_, upd_same, small1000 (Nat.le_trans (Nat.le_trans (filterMap_len f _) (by rw [List.length_take]; exact Nat.min_le_right _ _)) hz), ?_⟩
    rw [upd_upd, filterMap_take f hi, e]
    rfl
theorem lc_pureT (f : V → Option V) (ha : SqT K H1 a xs) (hD : H1 D = none) (hz : xs.length ≤ 1000) (hs : TurnP f xs g tt te vs σ H1 D) (hd : Qd (upd H1 D (.lst (xs.filterMap f)))) :
    ∃ W : Nat → Nat → Hp → Prop, (∃ m, W 0 m (upd H1 D (.lst []))) ∧ ∀ i m H, W i m H →
      ((Itt K a).stop i H ∧ Qd H) ∨ ((Itt K a).go i H ∧ ∃ Nx : Hp → Prop, (∀ H', Nx H' → ∃ m', m' < m ∧ W (i + 1) m' H') ∧ ∀ x H', (Itt K a).yld i H x H' → g x (wipe σ vs) H' fun σ2 H2 => wipe σ2 vs = wipe σ vs ∧ tt σ2 H2 fun b H3 =>
        if b = true then te σ2 H3 fun y H4 => ∃ acc, H4 D = some (.lst acc) ∧ acc.length < sizeLine ∧ Nx (upd H4 D (.lst (acc ++ [y]))) else Nx H3) := by
  refine lc_tup (K := K) (a := a) (xs := xs) (fun i H => H = upd H1 D (.lst ((xs.take i).filterMap f))) (by rw [List.take_zero]; rfl) (fun i H _ e => by rw [e]; exact Same.seqT (same_upd hD) ha) (fun i x H hi e => lc_turn hz hs i x H hi e) (fun H e => ?_)
  rw [List.take_length] at e
  rw [e]
  exact hd
theorem lc_pureL (f : V → Option V) (ha : SqL K H1 a xs) (hD : H1 D = none) (hz : xs.length ≤ 1000) (hs : TurnP f xs g tt te vs σ H1 D) (hd : Qd (upd H1 D (.lst (xs.filterMap f)))) :
    ∃ W : Nat → Nat → Hp → Prop, (∃ m, W 0 m (upd H1 D (.lst []))) ∧ ∀ i m H, W i m H →
      ((Itl K a).stop i H ∧ Qd H) ∨ ((Itl K a).go i H ∧ ∃ Nx : Hp → Prop, (∀ H', Nx H' → ∃ m', m' < m ∧ W (i + 1) m' H') ∧ ∀ x H', (Itl K a).yld i H x H' → g x (wipe σ vs) H' fun σ2 H2 => wipe σ2 vs = wipe σ vs ∧ tt σ2 H2 fun b H3 =>
        if b = true then te σ2 H3 fun y H4 => ∃ acc, H4 D = some (.lst acc) ∧ acc.length < sizeLine ∧ Nx (upd H4 D (.lst (acc ++ [y]))) else Nx H3) := by
  refine lc_list (K := K) (a := a) (xs := xs) (fun i H => H = upd H1 D (.lst ((xs.take i).filterMap f))) (by rw [List.take_zero]; rfl) (fun i H _ e => by rw [e]; exact Same.seq (same_upd hD) ha) (fun i x H hi e => lc_turn hz hs i x H hi e) (fun H e => ?_)
  rw [List.take_length] at e
  rw [e]
  exact hd
end
/-- the same over the signs of a text -/
theorem lc_pureS {z : Str} {g : TG} {tt : TT} {te : TE} {vs : List Nat} {σ : L2.St} {H1 : Hp} {D : Addr} {Qd : Hp → Prop} (f : V → Option V) (hz : z.cps.size ≤ 1000) (hs : TurnP f (z.cps.toList.map fun c => V.str ⟨#[c]⟩) g tt te vs σ H1 D)
    (hd : Qd (upd H1 D (.lst ((z.cps.toList.map fun c => V.str ⟨#[c]⟩).filterMap f)))) :
    ∃ W : Nat → Nat → Hp → Prop, (∃ m, W 0 m (upd H1 D (.lst []))) ∧ ∀ i m H, W i m H →
      ((Its z).stop i H ∧ Qd H) ∨ ((Its z).go i H ∧ ∃ Nx : Hp → Prop, (∀ H', Nx H' → ∃ m', m' < m ∧ W (i + 1) m' H') ∧ ∀ x H', (Its z).yld i H x H' → g x (wipe σ vs) H' fun σ2 H2 => wipe σ2 vs = wipe σ vs ∧ tt σ2 H2 fun b H3 =>
        if b = true then te σ2 H3 fun y H4 => ∃ acc, H4 D = some (.lst acc) ∧ acc.length < sizeLine ∧ Nx (upd H4 D (.lst (acc ++ [y]))) else Nx H3) := by
  refine ⟨fun i m H => m + i = z.cps.size ∧ H = upd H1 D (.lst (((z.cps.toList.map fun c => V.str ⟨#[c]⟩).take i).filterMap f)), ⟨z.cps.size, rfl, by rw [List.take_zero]; rfl⟩, ?_⟩
  rintro i m H ⟨em, e⟩
  have lenz : (z.cps.toList.map fun c => V.str ⟨#[c]⟩).length = z.cps.size := by simp
  by_cases hlt : i < z.cps.size
  · refine .inr ⟨hlt, fun H' => H' = upd H1 D (.lst (((z.cps.toList.map fun c => V.str ⟨#[c]⟩).take (i + 1)).filterMap f)), fun H' p => ⟨m - 1, by omega, by omega, p⟩, fun x H' y => ?_⟩
    obtain ⟨rfl, c, hc, rfl⟩ := y
    exact lc_turn (by rw [lenz]; exact hz) hs i _ H' (by rw [List.getElem?_map, Array.getElem?_toList, hc]; rfl) e
  · have e2 : i = z.cps.size := by omega
    subst e2
    refine .inl ⟨Nat.le_refl _, ?_⟩
    have e3 : ((z.cps.toList.map fun c => V.str ⟨#[c]⟩).take z.cps.size) = z.cps.toList.map fun c => V.str ⟨#[c]⟩ := List.take_of_length_le (Nat.le_of_eq lenz)
    rw [e3] at e
    rw [e]
    exact hd
/-- no test -/
theorem yesT {te : TE} {σ : L2.St} {H : Hp} {R1 : V → Hp → Prop} {R0 : Hp → Prop} (h : te σ H R1) : tYes σ H fun b H3 => if b = true then te σ H3 R1 else R0 H3 := by
  show (if true = true then te σ H R1 else R0 H)
  rw [if_pos rfl]
  exact h
/-- what is kept of some texts -/
def keepS (p : Str → Bool) : V → Option V
  | .str z => if p z = true then some (.str z) else none
  | _ => none
theorem keepS_str (p : Str → Bool) (z : Str) : keepS p (.str z) = if p z = true then some (.str z) else none := rfl
theorem filterMap_strs (p : Str → Bool) (bs : List Str) : (bs.map V.str).filterMap (keepS p) = (bs.filter p).map V.str := by
  induction bs with
  | nil => rfl
  | cons b bs ih =>
    rw [List.map_cons, List.filterMap_cons, List.filter_cons, keepS_str]
    cases h : p b with
    | true => rw [if_pos rfl, if_pos rfl, List.map_cons, ih]
    | false => rw [if_neg Bool.false_ne_true, if_neg Bool.false_ne_true, ih]
end Wb
set_option maxHeartbeats 2000000
namespace Wb
open PySem PySem.Spec PyProof.Rows L2 WbR
section
variable {P : Program} {w : World} {K : PySem.W.Frag} {mg : Str → Option Value} {base : Heap} {C : Addr}

/-! ### is_whole, is_within -/
def spIsWhole : Sp := fun vs H Q _ => ∃ n : Int, vs = [.int n] ∧ Q (.bl true) H
theorem sc_is_whole : FnScope ["thing"] ["thing"] (defScope s_is_whole) := ⟨rfl, rfl, rfl, by decide +kernel, rfl, by decide +kernel, by decide +kernel⟩
theorem has_is_whole (E : Env K mg C) (F : Def K mg "is_whole" s_is_whole) : Has P w K mg base "is_whole" 1 ["thing"] spIsWhole := by
  refine has_mk F sc_is_whole (fun _ _ _ _ _ _ us hl => match us, hl with | [_], _ => rfl) (fun vs H Q E h => ?_) (fun f cdv A outer s H vs Q E' hr h => ?_)
  · obtain ⟨n, rfl, _⟩ := h
    rfl
  · obtain ⟨n, rfl, q⟩ := h
    refine ⟨_, pss_one (ps_ret (pe_and (pe_callB call_isi (by rfl) E.isinstance boot_isinstance (pa_cons (pv 0) (pa_cons (pe_bltn (v := .ty "int") (by rfl) E.int boot_int rfl) pa_nil)))
      (pe_one (pe_not (pe_callB call_isi (by rfl) E.isinstance boot_isinstance (pa_cons (pv 0) (pa_cons (pe_bltn (v := .ty "bool") (by rfl) E.bool boot_bool rfl) pa_nil))))))), ?_⟩
    refine ⟨_, rfl, _, _, _, _, true, rfl, .ty _, .base (.int n), kit_ty (by decide +kernel), true, rfl, iteT ?_⟩
    exact ⟨_, rfl, _, _, _, _, false, rfl, .ty _, .base (.int n), kit_ty (by decide +kernel), false, rfl, q⟩
/-- within the bounds -/
def spIsWithin : Sp := fun vs H Q _ => ∃ a lo hi : Int, vs = [.int a, .int lo, .int hi] ∧ lo ≤ a ∧ a ≤ hi ∧ Q (.bl true) H
theorem sc_is_within : FnScope ["thing", "least", "most"] ["thing", "least", "most"] (defScope s_is_within) := ⟨rfl, rfl, rfl, by decide +kernel, rfl, by decide +kernel, by decide +kernel⟩
theorem has_is_within (F : Def K mg "is_within" s_is_within) (hw : Has P w K mg base "is_whole" 1 ["thing"] spIsWhole) : Has P w K mg base "is_within" 2 ["thing", "least", "most"] spIsWithin := by
  obtain ⟨f1, fd1, G1, g1, kp1, b1⟩ := hw.ex
  refine has_mk F sc_is_within (fun _ _ _ _ _ _ us hl => match us, hl with | [_, _, _], _ => rfl) (fun vs H Q E h => ?_) (fun f cdv A outer s H vs Q E' hr h => ?_)
  · obtain ⟨_, _, _, rfl, _⟩ := h
    rfl
  · obtain ⟨a, lo, hi, rfl, h1, h2, q⟩ := h
    refine ⟨_, pss_one (ps_ret (pe_and (pe_call G1 hr (by rfl) g1 kp1 b1 .nil pass0 (pa_cons (pv 0) pa_nil)) (pe_one (pe_chain op_le op_le (pv 1) (pv 0) (pv 2))))), ?_⟩
    refine ⟨_, rfl, a, rfl, true, rfl, iteT ?_⟩
    refine ⟨_, rfl, _, rfl, _, _, rfl, rfl, decide (lo ≤ a), rfl, ?_⟩
    rw [decide_eq_true h1]
    refine iteT ⟨_, rfl, _, _, rfl, rfl, ?_⟩
    show Q (.bl (decide (a ≤ hi))) H
    rw [decide_eq_true h2]
    exact q
/-! ### check_counts -/
def spCheckCounts (C : Addr) : Sp := fun vs H Q _ => ∃ (a c : Addr) (bs : List Str) (ws : List (Str × Str)) (ns : List Nat), vs = [.ref a, .ref c] ∧ WebAt C H a bs ws ∧ H c = some (.tup (ns.map vN)) ∧ ns.length = bs.length ∧ (∀ n ∈ ns, n ≤ 1000) ∧
  ∀ H', Same H H' → Q .non H'
theorem sc_check_counts : FnScope ["web", "counts", "number", "many"] ["web", "counts"] (defScope s_check_counts) := ⟨rfl, rfl, rfl, by decide +kernel, rfl, by decide +kernel, by decide +kernel⟩
theorem has_check_counts (E : Env K mg C) (F : Def K mg "check_counts" s_check_counts) (hw : Has P w K mg base "is_within" 2 ["thing", "least", "most"] spIsWithin) : Has P w K mg base "check_counts" 3 ["web", "counts"] (spCheckCounts C) := by
  obtain ⟨f1, fd1, G1, g1, kp1, b1⟩ := hw.ex
  obtain ⟨tb, mb⟩ := E.big
  refine has_mk F sc_check_counts (fun _ _ _ _ _ _ us hl => match us, hl with | [_, _], _ => rfl) (fun vs H Q E h => ?_) (fun f cdv A outer s H vs Q E' hr h => ?_)
  · obtain ⟨_, _, _, _, _, rfl, _⟩ := h
    rfl
  · obtain ⟨a, c, bs, ws, ns, rfl, ⟨dx, B, W, ps, ob, ha, hB, hW, hps⟩, hc, hl, hn, q⟩ := h
    refine ⟨_, pss_cons (ps_if (PW.pt (pw_or (pt_not (pt_val (pe_callB call_isi (by rfl) E.isinstance boot_isinstance (pa_cons (pv 1) (pa_cons (pe_bltn (v := .ty "tuple") (by rfl) E.tuple boot_tuple rfl) pa_nil)))))
        (pw_or1 (pt_cmpR op_ne (pe_callB call_len_seq (by rfl) E.len PySem.boot_len (pa_cons (pv 1) pa_nil)) (pe_callB call_len_seq (by rfl) E.len PySem.boot_len (pa_cons (pe_fld (pv 0) rfl) pa_nil)) (nomark _))))) (pss_one ps_never) pss_nil)
      (pss_one (ps_for PassesOwn.never rfl (pi_enumT (by rfl) E.enumerate (pa_cons (pv 1) pa_nil)) (pg_tup rfl (pgs_cons (pg_name (i := 2) sc_check_counts.nd rfl (.inl rfl)) (pgs_cons (pg_name (i := 3) sc_check_counts.nd rfl (.inl rfl)) pgs_nil)))
        (pss_one (ps_if (pt_not (pt_val (pe_call G1 hr (by rfl) g1 kp1 b1 .nil pass0 (pa_cons (pv 3) (pa_cons pe_int (pa_cons (pe_glob (v := .int 1000000000000000000000000000000) (by rfl) mb ⟨tb, rfl⟩) pa_nil)))))) (pss_one ps_never) pss_nil)))), ?_⟩
    refine ⟨_, rfl, _, _, _, _, true, rfl, .ty _, .base (.tup hc), kit_ty (by decide +kernel), true, rfl, iteF ?_⟩
    refine ⟨_, rfl, c, _, rfl, .inr (SqT.of hc), _, rfl, a, C, dx, _, _, rfl, ha, E.cl, E.nB, wflds_bells B W, B, _, rfl, .inr (sqz hB), rfl, _, rfl, ?_⟩
    refine iteNS (by rw [List.length_map, List.length_map, hl]) ?_
    refine ⟨_, rfl, c, ns.map vN, rfl, SqT.of hc, for_enumT (K := K) (a := c) (xs := ns.map vN) (fun i σ H2 => ∃ y2 y3, σ = [some (.ref a), some (.ref c), y2, y3] ∧ Same H H2) ⟨none, none, rfl, Same.refl H⟩ (fun i σ H2 _ ⟨_, _, _, s2⟩ => SqT.of (s2 _ _ hc)) ?_ ?_⟩
    · rintro i x T σ H2 hi ⟨y2, y3, rfl, s2⟩ nT
      rw [List.getElem?_map] at hi
      obtain ⟨n, hn1, rfl⟩ := Option.map_eq_some_iff.mp hi
      refine ⟨T, _, rfl, SqT.of upd_same, rfl, _, _, rfl, _, _, rfl, rfl, ?_⟩
      refine ⟨_, rfl, (n : Int), 0, _, rfl, Int.natCast_nonneg n, ?_, true, rfl, iteF ⟨_, _, rfl, s2.trans (same_upd nT)⟩⟩
      have := hn n (List.mem_of_getElem? hn1)
      omega
    · rintro σ H2 ⟨y2, y3, rfl, s2⟩
      exact q H2 s2
end
end Wb
set_option maxHeartbeats 2000000
namespace Wb
open PySem PySem.Spec PyProof.Rows L2 WbR
section
variable {P : Program} {w : World} {K : PySem.W.Frag} {mg : Str → Option Value} {base : Heap} {C : Addr}

/-! ### in_order -/
def spInOrder (K : PySem.W.Frag) (C : Addr) : Sp := fun vs H Q _ => ∃ (a n : Addr) (bs : List Str) (ws : List (Str × Str)) (zs : List Str), vs = [.ref a, .ref n] ∧ WebAt C H a bs ws ∧ SqL K H n (zs.map V.str) ∧ bs.length ≤ 1000 ∧
  ∀ H' p, Same H H' → H p = none → H' p = some (.tup ((bs.filter fun b => decide (b ∈ zs)).map V.str)) → Q (.ref p) H'
theorem sc_in_order : FnScope ["web", "names", "name"] ["web", "names"] (defScope s_in_order) := ⟨rfl, rfl, rfl, by decide +kernel, rfl, by decide +kernel, by decide +kernel⟩
theorem has_in_order (E : Env K mg C) (F : Def K mg "in_order" s_in_order) : Has P w K mg base "in_order" 1 ["web", "names"] (spInOrder K C) := by
  refine has_mk F sc_in_order (fun _ _ _ _ _ _ us hl => match us, hl with | [_, _], _ => rfl) (fun vs H Q E h => ?_) (fun f cdv A outer s H vs Q E' hr h => ?_)
  · obtain ⟨_, _, _, _, _, rfl, _⟩ := h
    rfl
  · obtain ⟨a, n, bs, ws, zs, rfl, ⟨dx, B, W, ps, ob, ha, hB, hW, hps⟩, hn, hlen, q⟩ := h
    refine ⟨_, pss_one (ps_ret (pe_callTy call_tuple_of (by rfl) E.tuple boot_tuple (pa_cons (pe_lc (own := [("name", 2)]) (g := gName 2) (by rfl) sc_in_order.nd (pi_tup (pe_fld (pv 0) rfl))
      (blkOk_by (own := [("name", 2)]) (N := ["web", "names", "name"]) (sc := defScope s_in_order) (by decide +kernel)) (fun _ _ _ _ _ => pg_name (i := 2) sc_in_order.nd rfl (Or.inl rfl))
      (fun _ _ _ _ _ => pts_one (pt_cmpR (show OpR _ _ (rIn K false) from op_in_seq) (pv 2) (pv 1) (by rfl))) (fun _ _ _ _ _ => pv 2)) pa_nil))), ?_⟩
    refine ⟨_, rfl, a, C, dx, _, _, rfl, ha, E.cl, E.nB, wflds_bells B W, B, rfl, ⟨_, sqz hB⟩, fun D hD => ?_⟩
    refine lc_pureT (K := K) (a := B) (xs := bs.map V.str) (keepS fun b => decide (b ∈ zs)) (sqz hB) hD (by rw [List.length_map]; exact hlen) (fun i x acc R1 R0 hx h0 h1 => ?_) ?_
    · rw [List.getElem?_map] at hx
      obtain ⟨b, hb, rfl⟩ := Option.map_eq_some_iff.mp hx
      refine ⟨rfl, _, rfl, _, rfl, n, _, rfl, .inl (Same.seq (same_upd hD) hn), rfl, flat_strs _, _, rfl, ?_⟩
      show if inV (V.str b) (zs.map V.str) = true then _ else _
      rw [inV_strs]
      rw [keepS_str] at h0 h1
      refine ite2 (fun e => ?_) (fun e => ?_)
      · rw [if_pos e] at h1
        exact ⟨_, rfl, h1 _ rfl⟩
      · rw [if_neg e] at h0
        exact h0 rfl
    · refine ⟨D, _, rfl, .inl ⟨SqL.of upd_same, fun p hp => ?_⟩⟩
      have nD : H p = none := Same.free (same_upd hD) hp
      refine q _ p ((same_upd hD).trans (same_upd hp)) nD ?_
      rw [upd_same, filterMap_strs]

/-! ### is_name -/
def letters : Str := "abcdefghijklmnopqrstuvwxyz"
/-- a NAME -/
structure NameOk (z : Str) : Prop where
  pos : 1 ≤ z.cps.size
  few : z.cps.size ≤ 8
  low : ∀ c ∈ z.cps.toList, c ∈ letters.cps.toList
def spIsName : Sp := fun vs H Q _ => ∃ z : Str, vs = [.str z] ∧ NameOk z ∧ ∀ H', Same H H' → Q (.bl true) H'
theorem sc_is_name : FnScope ["thing", "sign"] ["thing"] (defScope s_is_name) := ⟨rfl, rfl, rfl, by decide +kernel, rfl, by decide +kernel, by decide +kernel⟩
theorem filterMap_const {α β : Type} (f : α → β) (b : Bool) (l : List α) : (l.map f).filterMap (fun _ => some (V.bl b)) = (l.map fun _ => b).map V.bl := by
  induction l with
  | nil => rfl
  | cons a l ih =>
    rw [List.map_cons, List.map_cons, List.map_cons, ← ih]
    rfl
theorem all_true {α : Type} (l : List α) : (l.map fun _ => true).all id = true := by
  rw [List.all_map, List.all_eq_true]
  intro _ _
  rfl
theorem has_is_name (E : Env K mg C) (F : Def K mg "is_name" s_is_name) : Has P w K mg base "is_name" 1 ["thing"] spIsName := by
  obtain ⟨tl, ml⟩ := E.mostLetters
  obtain ⟨tz, mz⟩ := E.letters
  refine has_mk F sc_is_name (fun _ _ _ _ _ _ us hl => match us, hl with | [_], _ => rfl) (fun vs H Q E h => ?_) (fun f cdv A outer s H vs Q E' hr h => ?_)
  · obtain ⟨_, rfl, _⟩ := h
    rfl
  · obtain ⟨z, rfl, ok, q⟩ := h
    refine ⟨_, pss_cons (ps_if (PW.pt (pw_or (pt_not (pt_val (pe_callB call_isi (by rfl) E.isinstance boot_isinstance (pa_cons (pv 0) (pa_cons (pe_bltn (v := .ty "str") (by rfl) E.str boot_str rfl) pa_nil)))))
        (pw_or1 (pt_not (pt_chain op_le op_le pe_int (pe_callB call_len_str (by rfl) E.len PySem.boot_len (pa_cons (pv 0) pa_nil)) (pe_glob (v := .int 8) (by rfl) ml ⟨tl, rfl⟩)))))) (pss_one ps_never) pss_nil)
      (pss_one (ps_ret (pe_callB (cr_all rfl) (by rfl) E.all boot_all (pa_cons (pe_lc (own := [("sign", 1)]) (g := gName 1) (tt := tYes) (by rfl) sc_is_name.nd (pi_str (pv 0))
        (blkOk_by (own := [("sign", 1)]) (N := ["thing", "sign"]) (sc := defScope s_is_name) (by decide +kernel)) (fun _ _ _ _ _ => pg_name (i := 1) sc_is_name.nd rfl (Or.inl rfl))
        (fun _ _ _ _ _ => pts_nil) (fun _ _ _ _ _ => pe_cmpR op_in_sign (pv 1) (pe_glob (v := .str letters) (by rfl) mz ⟨tz, rfl⟩) (by rfl))) pa_nil)))), ?_⟩
    have zl : (z.length : Int) = (z.cps.size : Int) := rfl
    refine ⟨_, rfl, _, _, _, _, true, rfl, .ty _, .base (.str z), kit_ty (by decide +kernel), true, rfl, iteF ?_⟩
    refine ⟨_, rfl, z, rfl, ?_, _, _, rfl, rfl, true, ?_, iteT ⟨_, _, rfl, rfl, true, ?_, iteF ?_⟩⟩
    · exact Nat.le_of_lt (small1000 (Nat.le_trans ok.few (by decide)))
    · show V.bl (decide ((1 : Int) ≤ (z.length : Int))) = _
      rw [decide_eq_true (by rw [zl]; exact Int.ofNat_le.mpr ok.pos)]
    · show V.bl (decide ((z.length : Int) ≤ 8)) = _
      rw [decide_eq_true (by rw [zl]; exact Int.ofNat_le.mpr ok.few)]
    · refine ⟨_, rfl, z, rfl, fun D hD => ?_⟩
      refine lc_pureS (z := z) (fun _ => some (.bl true)) (Nat.le_trans ok.few (by decide)) (fun i x acc R1 R0 hx h0 h1 => ?_) ?_
      · rw [List.getElem?_map] at hx
        obtain ⟨c, hc, rfl⟩ := Option.map_eq_some_iff.mp hx
        refine ⟨rfl, yesT ?_⟩
        refine ⟨_, rfl, c, letters, rfl, rfl, ?_⟩
        rw [decide_eq_true (ok.low c (List.mem_of_getElem? hc))]
        exact h1 _ rfl
      · refine ⟨D, z.cps.toList.map fun _ => true, rfl, SqL.of ?_, ?_⟩
        · rw [upd_same, filterMap_const]
        · rw [all_true]
          exact q _ (same_upd hD)
end
end Wb
set_option maxHeartbeats 2000000
namespace Wb
open PySem PySem.Spec PyProof.Rows L2 WbR
section
variable {P : Program} {w : World} {K : PySem.W.Frag} {mg : Str → Option Value} {base : Heap} {C : Addr}

/-! ### check_bells -/
/-- rising -/
def Rises (bs : List Str) : Prop := ∀ (i : Nat) (a b : Str), bs[i]? = some a → bs[i + 1]? = some b → a.cps.toList < b.cps.toList
def spCheckBells : Sp := fun vs H Q _ => ∃ (c : Addr) (bs : List Str) (ob : Obj), vs = [.ref c] ∧ H c = some (.frz ob (.tup (bs.map V.str))) ∧ 1 ≤ bs.length ∧ bs.length ≤ 12 ∧ (∀ b ∈ bs, NameOk b) ∧ Rises bs ∧ ∀ H', Same H H' → Q .non H'
theorem sc_check_bells : FnScope ["bells", "number", "name"] ["bells"] (defScope s_check_bells) := ⟨rfl, rfl, rfl, by decide +kernel, rfl, by decide +kernel, by decide +kernel⟩
theorem has_check_bells (E : Env K mg C) (F : Def K mg "check_bells" s_check_bells) (hn : Has P w K mg base "is_name" 1 ["thing"] spIsName) : Has P w K mg base "check_bells" 2 ["bells"] spCheckBells := by
  obtain ⟨f1, fd1, G1, g1, kp1, b1⟩ := hn.ex
  obtain ⟨tb, mb⟩ := E.mostBells
  refine has_mk F sc_check_bells (fun _ _ _ _ _ _ us hl => match us, hl with | [_], _ => rfl) (fun vs H Q E h => ?_) (fun f cdv A outer s H vs Q E' hr h => ?_)
  · obtain ⟨_, _, _, rfl, _⟩ := h
    rfl
  · obtain ⟨c, bs, ob, rfl, hc, l1, l2, ok, ri, q⟩ := h
    refine ⟨_, pss_cons (ps_if (PW.pt (pw_or (pt_not (pt_val (pe_callB call_isi (by rfl) E.isinstance boot_isinstance (pa_cons (pv 0) (pa_cons (pe_bltn (v := .ty "tuple") (by rfl) E.tuple boot_tuple rfl) pa_nil)))))
        (pw_or1 (pt_not (pt_chain op_le op_le pe_int (pe_callB call_len_seq (by rfl) E.len PySem.boot_len (pa_cons (pv 0) pa_nil)) (pe_glob (v := .int 12) (by rfl) mb ⟨tb, rfl⟩)))))) (pss_one ps_never) pss_nil)
      (pss_one (ps_for PassesOwn.never rfl (pi_enumT (by rfl) E.enumerate (pa_cons (pv 0) pa_nil)) (pg_tup rfl (pgs_cons (pg_name (i := 1) sc_check_bells.nd rfl (.inl rfl)) (pgs_cons (pg_name (i := 2) sc_check_bells.nd rfl (.inl rfl)) pgs_nil)))
        (pss_one (ps_if (PW.pt (pw_or (pt_not (pt_val (pe_call G1 hr (by rfl) g1 kp1 b1 .nil pass0 (pa_cons (pv 2) pa_nil))))
          (pw_or1 (PW.pt (pw_and (pt_cmpR op_gt (pv 1) pe_int (nomark _)) (pw_and1 (pt_cmpR op_le_str (pv 2) (pe_ix ix_tup (pv 0) (pe_op op_sub (pv 1) pe_int) (fun _ _ => rfl)) (nomark _)))))))) (pss_one ps_never) pss_nil)))), ?_⟩
    refine ⟨_, rfl, _, _, _, _, true, rfl, .ty _, .fTuple hc, kit_ty (by decide +kernel), true, rfl, iteF ?_⟩
    refine ⟨_, rfl, c, _, rfl, .inr (sqz hc), _, _, rfl, rfl, true, ?_, iteT ⟨_, _, rfl, rfl, true, ?_, iteF ?_⟩⟩
    · show V.bl (decide ((1 : Int) ≤ ((bs.map V.str).length : Int))) = _
      rw [decide_eq_true (by rw [List.length_map]; exact Int.ofNat_le.mpr l1)]
    · show V.bl (decide (((bs.map V.str).length : Int) ≤ 12)) = _
      rw [decide_eq_true (by rw [List.length_map]; exact Int.ofNat_le.mpr l2)]
    · refine ⟨_, rfl, c, bs.map V.str, rfl, sqz hc, for_enumT (K := K) (a := c) (xs := bs.map V.str) (fun i σ H2 => ∃ y1 y2, σ = [some (.ref c), y1, y2] ∧ Same H H2) ⟨none, none, rfl, Same.refl H⟩ (fun i σ H2 _ ⟨_, _, _, s2⟩ => sqz (s2 _ _ hc)) ?_ ?_⟩
      · rintro i x T σ H2 hi ⟨y1, y2, rfl, s2⟩ nT
        rw [List.getElem?_map] at hi
        obtain ⟨b, hb, rfl⟩ := Option.map_eq_some_iff.mp hi
        refine ⟨T, _, rfl, SqT.of upd_same, rfl, _, _, rfl, _, _, rfl, rfl, ?_⟩
        refine ⟨_, rfl, b, rfl, ok b (List.mem_of_getElem? hb), fun H3 s3 => ⟨true, rfl, iteF ?_⟩⟩
        have s13 : Same H H3 := (s2.trans (same_upd nT)).trans s3
        refine ⟨_, rfl, _, _, rfl, rfl, _, rfl, ?_⟩
        cases i with
        | zero => exact iteF (iteF ⟨_, _, rfl, s13⟩)
        | succ i =>
          have e0 : decide ((0 : Int) < ((i + 1 : Nat) : Int)) = true := decide_eq_true (by omega)
          rw [e0]
          refine iteT ?_
          have hlt : i < bs.length := by
            have := (List.getElem?_eq_some_iff.mp hb).1
            omega
          have ha := List.getElem?_eq_getElem hlt
          have lt := ri i _ b ha hb
          have ei : ((i + 1 : Nat) : Int) - 1 = ((i : Nat) : Int) := by omega
          refine ⟨_, rfl, _, rfl, _, rfl, _, _, rfl, rfl, c, bs.map V.str, ((i + 1 : Nat) : Int) - 1, .str bs[i], rfl, rfl, sqz (s13 _ _ hc), ?_, ?_⟩
          · rw [ei]
            exact atI_nat (by rw [List.getElem?_map, ha]; rfl)
          · refine ⟨b, bs[i], rfl, rfl, _, rfl, ?_⟩
            rw [decide_eq_true lt]
            exact iteF ⟨_, _, rfl, s13⟩
      · rintro σ H2 ⟨y1, y2, rfl, s2⟩
        exact q H2 s2

/-! ### is_wake -/
def spIsWake : Sp := fun vs H Q _ => ∃ (c d : Addr) (x y : Str) (bs : List Str) (ob : Obj), vs = [.ref c, .ref d] ∧ H c = some (.tup [.str x, .str y]) ∧ H d = some (.frz ob (.tup (bs.map V.str))) ∧ x ∈ bs ∧ y ∈ bs ∧ (∀ b ∈ bs, NameOk b) ∧ ∀ H', Same H H' → Q (.bl true) H'
theorem sc_is_wake : FnScope ["thing", "bells", "name"] ["thing", "bells"] (defScope s_is_wake) := ⟨rfl, rfl, rfl, by decide +kernel, rfl, by decide +kernel, by decide +kernel⟩
theorem has_is_wake (E : Env K mg C) (F : Def K mg "is_wake" s_is_wake) (hn : Has P w K mg base "is_name" 1 ["thing"] spIsName) : Has P w K mg base "is_wake" 2 ["thing", "bells"] spIsWake := by
  obtain ⟨f1, fd1, G1, g1, kp1, b1⟩ := hn.ex
  refine has_mk F sc_is_wake (fun _ _ _ _ _ _ us hl => match us, hl with | [_, _], _ => rfl) (fun vs H Q E h => ?_) (fun f cdv A outer s H vs Q E' hr h => ?_)
  · obtain ⟨_, _, _, _, _, _, rfl, _⟩ := h
    rfl
  · obtain ⟨c, d, x, y, bs, ob, rfl, hc, hd, hx, hy, ok, q⟩ := h
    refine ⟨_, pss_cons (ps_if (PW.pt (pw_or (pt_not (pt_val (pe_callB call_isi (by rfl) E.isinstance boot_isinstance (pa_cons (pv 0) (pa_cons (pe_bltn (v := .ty "tuple") (by rfl) E.tuple boot_tuple rfl) pa_nil)))))
        (pw_or1 (pt_cmpR op_ne (pe_callB call_len_seq (by rfl) E.len PySem.boot_len (pa_cons (pv 0) pa_nil)) pe_int (nomark _))))) (pss_one ps_never) pss_nil)
      (pss_one (ps_ret (pe_callB (cr_all rfl) (by rfl) E.all boot_all (pa_cons (pe_lc (own := [("name", 2)]) (g := gName 2) (tt := tYes) (by rfl) sc_is_wake.nd (pi_tup (pv 0))
        (blkOk_by (own := [("name", 2)]) (N := ["thing", "bells", "name"]) (sc := defScope s_is_wake) (by decide +kernel)) (fun _ _ _ _ _ => pg_name (i := 2) sc_is_wake.nd rfl (Or.inl rfl))
        (fun _ _ _ _ _ => pts_nil) (fun _ _ _ _ _ => pe_and (pe_call G1 hr (by rfl) g1 kp1 b1 .nil pass0 (pa_cons (pv 2) pa_nil)) (pe_one (pe_cmpR (show OpR _ _ (rIn K false) from op_in_seq) (pv 2) (pv 1) (by rfl))))) pa_nil)))), ?_⟩
    refine ⟨_, rfl, _, _, _, _, true, rfl, .ty _, .base (.tup hc), kit_ty (by decide +kernel), true, rfl, iteF ?_⟩
    refine ⟨_, rfl, c, _, rfl, .inr (SqT.of hc), rfl, _, rfl, iteF ?_⟩
    refine ⟨_, rfl, c, rfl, ⟨_, SqT.of hc⟩, fun D hD => ?_⟩
    refine lc_tup (K := K) (a := c) (xs := [.str x, .str y]) (fun i H2 => i ≤ 2 ∧ SameBut D (upd H D (.lst [])) H2 ∧ H2 D = some (.lst ((List.replicate i true).map V.bl))) ⟨by decide, fun b o _ e => e, upd_same⟩ (fun i H2 _ ⟨_, s2, _⟩ => ?_) (fun i v H2 hi ⟨_, s2, e2⟩ => ?_) (fun H2 ⟨_, s2, e2⟩ => ?_)
    · exact SqT.of (s2 _ _ (ne_of_none hc hD) (by rw [upd_ne (ne_of_none hc hD)]; exact hc))
    · obtain ⟨z, rfl, hz⟩ : ∃ z, v = .str z ∧ z ∈ bs := by
        match i, hi with
        | 0, hi => exact ⟨x, (Option.some.inj hi).symm, hx⟩
        | 1, hi => exact ⟨y, (Option.some.inj hi).symm, hy⟩
        | i + 2, hi => simp at hi
      have il : i < 2 := (List.getElem?_eq_some_iff.mp hi).1
      refine ⟨rfl, yesT ?_⟩
      refine ⟨_, rfl, z, rfl, ok z hz, fun H3 s3 => ⟨true, rfl, iteT ?_⟩⟩
      have hd3 : H3 d = some (.frz ob (.tup (bs.map V.str))) := s3 _ _ (s2 _ _ (ne_of_none hd hD) (by rw [upd_ne (ne_of_none hd hD)]; exact hd))
      refine ⟨_, rfl, _, rfl, d, _, rfl, .inr (sqz hd3), rfl, flat_strs bs, ?_⟩
      show ∃ acc, _
      have ein : inV (V.str z) (bs.map V.str) = true := by rw [inV_strs]; exact decide_eq_true hz
      refine ⟨_, s3 _ _ e2, ?_, by omega, ?_, ?_⟩
      · rw [List.length_map, List.length_replicate]
        exact small1000 (by omega)
      · exact fun b o n e => by rw [upd_ne n]; exact s3 _ _ (s2 _ _ n e)
      · rw [upd_same]
        show some (HO.lst ((List.replicate i true).map V.bl ++ [V.bl (inV (V.str z) (bs.map V.str))])) = _
        rw [ein, List.replicate_succ', List.map_append]
        rfl
    · refine ⟨D, _, rfl, SqL.of e2, ?_⟩
      exact q H2 fun b o e => s2 _ _ (ne_of_none e hD) (by rw [upd_ne (ne_of_none e hD)]; exact e)

/-! ### check_wakes -/
/-- rising pairs -/
def RisesP (ws : List (Str × Str)) : Prop := ∀ (i : Nat) (p q : Str × Str), ws[i]? = some p → ws[i + 1]? = some q → pairLe q.1 q.2 p.1 p.2 = false
def spCheckWakes : Sp := fun vs H Q _ => ∃ (W c : Addr) (ps : List Addr) (ws : List (Str × Str)) (bs : List Str) (ob : Obj), vs = [.ref W, .ref c] ∧ H W = some (.tup (ps.map V.ref)) ∧ PairsAt H ps ws ∧ H c = some (.frz ob (.tup (bs.map V.str))) ∧ (∀ q ∈ ws, q.1 ∈ bs ∧ q.2 ∈ bs) ∧ (∀ b ∈ bs, NameOk b) ∧ RisesP ws ∧ ∀ H', Same H H' → Q .non H'
theorem sc_check_wakes : FnScope ["wakes", "bells", "number", "wake"] ["wakes", "bells"] (defScope s_check_wakes) := ⟨rfl, rfl, rfl, by decide +kernel, rfl, by decide +kernel, by decide +kernel⟩
theorem has_check_wakes (E : Env K mg C) (F : Def K mg "check_wakes" s_check_wakes) (hn : Has P w K mg base "is_wake" 2 ["thing", "bells"] spIsWake) : Has P w K mg base "check_wakes" 3 ["wakes", "bells"] spCheckWakes := by
  obtain ⟨f1, fd1, G1, g1, kp1, b1⟩ := hn.ex
  refine has_mk F sc_check_wakes (fun _ _ _ _ _ _ us hl => match us, hl with | [_, _], _ => rfl) (fun vs H Q E h => ?_) (fun f cdv A outer s H vs Q E' hr h => ?_)
  · obtain ⟨_, _, _, _, _, _, rfl, _⟩ := h
    rfl
  · obtain ⟨W, c, ps, ws, bs, ob, rfl, hW, hp, hc, sub, ok, ri, q⟩ := h
    refine ⟨_, pss_cons (ps_if (pt_not (pt_val (pe_callB call_isi (by rfl) E.isinstance boot_isinstance (pa_cons (pv 0) (pa_cons (pe_bltn (v := .ty "tuple") (by rfl) E.tuple boot_tuple rfl) pa_nil))))) (pss_one ps_never) pss_nil)
      (pss_one (ps_for PassesOwn.never rfl (pi_enumT (by rfl) E.enumerate (pa_cons (pv 0) pa_nil)) (pg_tup rfl (pgs_cons (pg_name (i := 2) sc_check_wakes.nd rfl (.inl rfl)) (pgs_cons (pg_name (i := 3) sc_check_wakes.nd rfl (.inl rfl)) pgs_nil)))
        (pss_one (ps_if (PW.pt (pw_or (pt_not (pt_val (pe_call G1 hr (by rfl) g1 kp1 b1 .nil pass0 (pa_cons (pv 3) (pa_cons (pv 1) pa_nil)))))
          (pw_or1 (PW.pt (pw_and (pt_cmpR op_gt (pv 2) pe_int (nomark _)) (pw_and1 (pt_cmpR (op_leP hr.units0) (pv 3) (pe_ix ix_tup (pv 0) (pe_op op_sub (pv 2) pe_int) (fun _ _ => rfl)) (nomark _)))))))) (pss_one ps_never) pss_nil)))), ?_⟩
    refine ⟨_, rfl, _, _, _, _, true, rfl, .ty _, .base (.tup hW), kit_ty (by decide +kernel), true, rfl, iteF ?_⟩
    refine ⟨_, rfl, W, ps.map V.ref, rfl, SqT.of hW, for_enumT (K := K) (a := W) (xs := ps.map V.ref) (fun i σ H2 => ∃ y2 y3, σ = [some (.ref W), some (.ref c), y2, y3] ∧ Same H H2) ⟨none, none, rfl, Same.refl H⟩ (fun i σ H2 _ ⟨_, _, _, s2⟩ => SqT.of (s2 _ _ hW)) ?_ ?_⟩
    · rintro i x T σ H2 hi ⟨y2, y3, rfl, s2⟩ nT
      rw [List.getElem?_map] at hi
      obtain ⟨p, hpi, rfl⟩ := Option.map_eq_some_iff.mp hi
      have iw : i < ws.length := by
        rw [← hp.len]
        exact (List.getElem?_eq_some_iff.mp hpi).1
      have hw := List.getElem?_eq_getElem iw
      obtain ⟨p', hp1, hp2⟩ := hp.at hw
      rw [hpi] at hp1
      cases hp1
      have sb := sub _ (List.mem_of_getElem? hw)
      refine ⟨T, _, rfl, SqT.of upd_same, rfl, _, _, rfl, _, _, rfl, rfl, ?_⟩
      have s2' : Same H (upd H2 T (.tup [.int (i : Nat), .ref p])) := s2.trans (same_upd nT)
      refine ⟨_, rfl, _, rfl, p, c, _, _, bs, ob, rfl, s2' _ _ hp2, s2' _ _ hc, sb.1, sb.2, ok, fun H3 s3 => ⟨true, rfl, iteF ?_⟩⟩
      have s13 : Same H H3 := s2'.trans s3
      refine ⟨_, rfl, _, _, rfl, rfl, _, rfl, ?_⟩
      cases i with
      | zero => exact iteF (iteF ⟨_, _, rfl, s13⟩)
      | succ i =>
        have e0 : decide ((0 : Int) < ((i + 1 : Nat) : Int)) = true := decide_eq_true (by omega)
        rw [e0]
        refine iteT ?_
        have hlt : i < ws.length := by omega
        have ha := List.getElem?_eq_getElem hlt
        obtain ⟨p0, hp3, hp4⟩ := hp.at ha
        have lt := ri i _ _ ha hw
        have ei : ((i + 1 : Nat) : Int) - 1 = ((i : Nat) : Int) := by omega
        refine ⟨_, rfl, _, rfl, _, rfl, _, _, rfl, rfl, W, ps.map V.ref, ((i + 1 : Nat) : Int) - 1, .ref p0, rfl, rfl, SqT.of (s13 _ _ hW), ?_, ?_⟩
        · rw [ei]
          exact atI_nat (by rw [List.getElem?_map, hp3]; rfl)
        · refine ⟨p, p0, _, _, _, _, rfl, rfl, SqT.of (s13 _ _ hp2), SqT.of (s13 _ _ hp4), _, rfl, ?_⟩
          rw [lt]
          exact iteF ⟨_, _, rfl, s13⟩
    · rintro σ H2 ⟨y2, y3, rfl, s2⟩
      exact q H2 s2
/-! ### check_web -/
def spCheckWeb (C : Addr) : Sp := fun vs H Q _ => ∃ (a dx : Addr) (fs : List (Str × V)), vs = [.ref a] ∧ H a = some (.ins C dx fs) ∧ Q .non H
theorem sc_check_web : FnScope ["thing"] ["thing"] (defScope s_check_web) := ⟨rfl, rfl, rfl, by decide +kernel, rfl, by decide +kernel, by decide +kernel⟩
theorem has_check_web (E : Env K mg C) (F : Def K mg "check_web" s_check_web) : Has P w K mg base "check_web" 1 ["thing"] (spCheckWeb C) := by
  refine has_mk F sc_check_web (fun _ _ _ _ _ _ us hl => match us, hl with | [_], _ => rfl) (fun vs H Q E h => ?_) (fun f cdv A outer s H vs Q E' hr h => ?_)
  · obtain ⟨_, _, _, rfl, _⟩ := h
    rfl
  · obtain ⟨a, dx, fs, rfl, ha, q⟩ := h
    refine ⟨_, pss_one (ps_if (pt_not (pt_val (pe_callB (C8.call_isC E.ins) (by rfl) E.isinstance boot_isinstance (pa_cons (pv 0) (pa_cons (pe_glob (v := .ref C) (by rfl) E.web rfl) pa_nil))))) (pss_one ps_never) pss_nil), ?_⟩
    exact ⟨_, rfl, a, dx, fs, rfl, ha, true, rfl, iteF q⟩
end
end Wb
set_option maxHeartbeats 2000000
namespace Wb
open PySem PySem.Spec PyProof.Rows L2 WbR
section
variable {P : Program} {w : World} {K : PySem.W.Frag} {mg : Str → Option Value} {base : Heap} {C : Addr}
/-! ### Web.__init__ -/
def spWebInit (C : Addr) : Sp := fun vs H Q _ => ∃ (p dx B W : Addr) (bs : List Str) (ps : List Addr) (ws : List (Str × Str)) (ob : Obj), vs = [.ref p, .ref B, .ref W] ∧ H p = some (.ins C dx []) ∧ H B = some (.frz ob (.tup (bs.map V.str))) ∧ H W = some (.tup (ps.map V.ref)) ∧ PairsAt H ps ws ∧
  1 ≤ bs.length ∧ bs.length ≤ 12 ∧ (∀ b ∈ bs, NameOk b) ∧ Rises bs ∧ (∀ q ∈ ws, q.1 ∈ bs ∧ q.2 ∈ bs) ∧ RisesP ws ∧
  ∀ H', H' p = some (.ins C dx (wflds B W)) → SameBut p H H' → Q .non H'
theorem sc_web_init : FnScope ["self", "bells", "wakes"] ["self", "bells", "wakes"] (defScope s_web_init) := ⟨rfl, rfl, rfl, by decide +kernel, rfl, by decide +kernel, by decide +kernel⟩
theorem web_init_ok {kws : List (Str × V)} {f : Addr} {fd : FuncData} (E : Env K mg C) (F : FunD K "__init__" "Web.__init__" (defArgs s_web_init) (defBody s_web_init) (defScope s_web_init) [] kws f fd)
    (hb : Has P w K mg base "check_bells" 2 ["bells"] spCheckBells) (hw : Has P w K mg base "check_wakes" 3 ["wakes", "bells"] spCheckWakes) : FnOk P w K mg base CX0 4 f fd ["self", "bells", "wakes"] (spWebInit C) := by
  obtain ⟨f1, fd1, G1, g1, kp1, b1⟩ := hb.ex
  obtain ⟨f2, fd2, G2, g2, kp2, b2⟩ := hw.ex
  refine F.ok sc_web_init (fun vs H Q E h => ?_) (fun cdv A outer s H vs Q E' hr h => ?_)
  · obtain ⟨_, _, _, _, _, _, _, _, rfl, _⟩ := h
    rfl
  · obtain ⟨p, dx, B, W, bs, ps, ws, ob, rfl, hp, hB, hW, hps, l1, l2, ok, ri, sub, rp, q⟩ := h
    refine ⟨_, PSs.nox (pss_cons (ps_expr (pe_call G1 (hr.mono (by decide)) (by rfl) g1 kp1 b1 .nil pass0 (pa_cons (pv 1) pa_nil)))
      (pss_cons (ps_expr (pe_call G2 hr (by rfl) g2 kp2 b2 .nil pass0 (pa_cons (pv 2) (pa_cons (pv 1) pa_nil))))
      (pss_cons (ps_fld (pv 0) (pv 1) rfl) (pss_one (ps_fld (pv 0) (pv 2) rfl))))), ?_⟩
    refine ⟨_, rfl, B, bs, ob, rfl, hB, l1, l2, ok, ri, fun H1 s1 => ?_⟩
    refine ⟨_, rfl, _, rfl, W, B, ps, ws, bs, ob, rfl, s1 _ _ hW, hps.mono fun b xs e => s1 _ _ e, s1 _ _ hB, sub, ok, rp, fun H2 s2 => ?_⟩
    have hp2 : H2 p = some (.ins C dx []) := s2 _ _ (s1 _ _ hp)
    refine ⟨_, rfl, _, rfl, p, C, dx, _, rfl, hp2, E.cl, E.nB, (by show 0 < 1000; decide), ?_⟩
    refine ⟨_, rfl, _, rfl, p, C, dx, _, rfl, upd_same, E.cl, E.nW, (by show 1 < 1000; decide), ?_⟩
    refine q _ upd_same fun b o n e => ?_
    rw [upd_ne n, upd_ne n]
    exact s2 _ _ (s1 _ _ e)
theorem web_kb {kws : List (Str × V)} {f : Addr} {fd : FuncData} (F : FunD K "__init__" "Web.__init__" (defArgs s_web_init) (defBody s_web_init) (defScope s_web_init) [] kws f fd) (hk : kws ≠ []) :
    ∃ mv : List Value, KBn K fd ["self", "bells", "wakes"] 2 ["wakes"] (fun us ws => us ++ ws) (fun vs zs => vs ++ zs) := by
  obtain ⟨mv, k⟩ := F.kbinds0 (ps := ["self", "bells", "wakes"]) 2 ["wakes"] [] (fun {α} (us mv ws : List α) => us ++ ws) hk (fun _ z => nomatch z) (fun r1 _ r3 => r1.append r3)
    (fun D doc pm an cdv ct us mv ws l1 l2 l3 => match us, ws, l1, l3 with | [_, _], [_], _, _ => rfl)
  exact ⟨mv, k⟩
end
end Wb
set_option maxHeartbeats 2000000
/-! Wakebells: name = {k: v for ..} as a statement, the name a local. -/
namespace WbR
open PySem PySem.Spec PyProof.Rows L2
section
variable {X : Cx}
theorem swap_dc {kx vx : Expr} {gs : List Comprehension} {scope : Scope} {pos py : Pos} {y : Str} {l : Nat} {env : Env} (hk : env.scope.kind = .function) (hy : env.scope.names.lookup y = some .local) (hl : (py.line == pos.line) = true)
    (ha : (scope.names.any fun (n, k) => n == y && (k == .local || k == .cell)) = false) : swapsWith (.DictComp kx vx gs scope pos) (some (.Name y py)) l env = pure true := by
  have hb : env.blockKind = .function := by
    unfold Env.blockKind
    rw [hk]
    rfl
  have ky : env.kindOf y = some .local := hy
  unfold swapsWith
  simp only [hb, ky, ha, Expr.pos, hl]
  rfl
theorem ps_setDc {i : Nat} {y : Str} {py : Pos} {kx vx tg iter : Expr} {ifs : List Expr} {scope : Scope} {own : List (Str × Nat)} {pos spos : Pos} {wi : TI} {g : TG} {tt : TT} {tk tv : TE} (hc : X.calm = true) (hN : X.N.Nodup) (hy : X.N[i]? = some y) (hyl : X.env.scope.names.lookup y = some .local)
    (hsw : swapsWith (.DictComp kx vx [⟨tg, iter, ifs, 0⟩] scope pos) (some (.Name y py)) spos.line X.env = pure true) (hi : PI X tg iter wi) (ok : BlkOk X.N X.env.scope scope own)
    (hg : ∀ (s : Shared) (H : Hp) (C : Addr) (cl : List (Str × Addr)) (fp : List Addr), PG (X.blk s H scope (compEnvC scope cl C X.env) fp) tg g) (ht : ∀ (s : Shared) (H : Hp) (C : Addr) (cl : List (Str × Addr)) (fp : List Addr), PTs (X.blk s H scope (compEnvC scope cl C X.env) fp) ifs tt)
    (hk : ∀ (s : Shared) (H : Hp) (C : Addr) (cl : List (Str × Addr)) (fp : List Addr), PE (X.blk s H scope (compEnvC scope cl C X.env) fp) kx tk) (he : ∀ (s : Shared) (H : Hp) (C : Addr) (cl : List (Str × Addr)) (fp : List Addr), PE (X.blk s H scope (compEnvC scope cl C X.env) fp) vx tv)
    (hs : ∀ x, foldedSetIterable iter X.env x = pure x := by intro _; rfl) :
    PS X (.Assign [.Name y py] (.DictComp kx vx [⟨tg, iter, ifs, 0⟩] scope pos) spos) (tAsg (tDc wi g tt tk tv (own.map (·.2))) (gName i)) := by
  refine ⟨fun pins s σ H D I h => ?_⟩
  rw [exec_Assign_Name_used _ _ _ _ hsw]
  refine wpAny_bind (wpAny_standAt (wpAny_bind ?_))
  show wpAny _ X.A (do let _ ← comprehension (.DictComp kx vx [⟨tg, iter, ifs, 0⟩] scope pos) scope X.env (firstIterPos [⟨tg, iter, ifs, 0⟩] pos) newDict false (eval iter X.env) (some (assign (.Name y py) X.env))) _ _ s
  have h : tDc wi g tt tk tv (own.map (·.2)) σ H (fun x H1 => gName i x σ H1 D.nx) := h
  refine wpAny_bind (thn (dc_core (Qf := fun _ s' => SP X pins D .next s') hc hN I hi ok hg ht hk he hs h fun L Cf s' m H' I' q hn fo => ?_) fun _ s' hq => wpAny_pure (wpAny_pure hq))
  show wpAny _ _ (assign (.Name y py) X.env (.ref L)) _ _ _
  refine wpAny_assign_Name (store_ok2 (v := V.ref L) I' hN hy (.inl hyl) rfl (fun s2 I2 ⟨a, sb, ha⟩ => ?_) (.inr hyl))
  have neq : Cf ≠ a := by
    rcases ha with z | z
    · rw [z]; exact fo.2.1
    · exact fun e => fo.2.2.2.2.1 y a z e.symm
  refine ⟨m, hn.sameBut sb neq, fun h3 sb3 => ?_⟩
  exact ⟨_, H', I2.turned (t' := s2.toks) (fun b o hb e => (sb3.2 b hb).trans e) fo.1 fo.2.1 fo.2.2.2.1 fo.2.2.2.2.1 fo.2.2.2.2.2, q⟩
end
end WbR
set_option maxHeartbeats 2000000
/-! Wakebells: a tuple kept as the object it is, and its methods. -/
namespace WbR
open PySem PySem.Spec PyProof.Rows L2
/-- a tuple's object: no dict of its own -/
structure PlainT (o : Obj) : Prop where
  cls : o.cls = .type "tuple"
  dict : o.dict = none
section
variable {X : Cx}
/-- tuple(list): a new one, its object known -/
def rTupleZ (K : PySem.W.Frag) : List V → Hp → VK → Prop := fun xs H Q => ∃ p ys, xs = [.ref p] ∧ SqL K H p ys ∧ ∀ (l : Addr) (o : Obj), H l = none → PlainT o → Q (.ref l) (upd H l (.frz o (.tup ys)))
theorem call_tupleZ : CallR X (.type "tuple") (rTupleZ X.K) := by
  intro pins s σ H xs us Q I r h
  obtain ⟨p, ys, rfl, hq, q⟩ := h
  obtain ⟨u, rfl, rx⟩ := vals1 r
  cases rx
  obtain ⟨its, r', pl, hz⟩ := I.list hq
  have hlen := r'.length
  refine call_tuple_list pl.isList (fun h' kp => ?_) (by simp only [List.size_toArray] <;> omega)
  have I1 : Inv X pins σ H { s with heap := h' } := I.kept (t' := s.toks) kp
  have I2 : Inv X pins σ (upd H h'.objs.size (.frz { cls := .type "tuple", data := .seq its.toArray } (.tup ys))) { s with heap := h'.push { cls := .type "tuple", data := .seq its.toArray } } :=
    I1.laid (t' := s.toks) (fun b o e => Heap.get?_push_of_some _ e) (Nat.le_refl _) (show ObjOk X.prog X.w _ _ _ (.frz _ (.tup ys)) from ⟨Heap.get?_push_size _ rfl, hz, its, r', IsTup.new _ _⟩)
  exact ⟨.ref h'.objs.size, _, I2, rfl, q _ _ (I1.hok.fresh (Nat.le_refl _)) ⟨rfl, rfl⟩⟩
/-- a method of such a tuple -/
def tTM (r : V → List V → Hp → VK → Prop) (to : TE) (t : TA) : TE := fun σ H Q => to σ H fun x H1 => (∃ (a : Addr) (ob : Obj) (ys : List V), x = .ref a ∧ H1 a = some (.frz ob (.tup ys)) ∧ PlainT ob) ∧ t σ H1 fun xs H2 => r x xs H2 Q
variable {o e : Expr} {es : List Expr} {to : TE} {t : TA} {name : Str} {apos cpos : Pos} {id : String} {r : V → List V → Hp → VK → Prop}
theorem pe_tm (pa : PlainAttrs "tuple") (slot : Slot "tuple" name id) (hty : typeOf (.builtin id) = pure (.type "method_descriptor")) (hm : MtR X id r) (ho : PE X o to) (ha : PA X (e :: es) t)
    (hbase : attributeBase o name X.env (eval o X.env) = eval o X.env := by rfl)
    (hfew : ((backTo cpos (starEach (e :: es) X.env)).all (fun x => !x.1) && (backToKw cpos (keywordEach [] X.env)).all (fun x => x.1.isSome)
      && decide ((e :: es).length + ([] : List Keyword).length + (if ([] : List Keyword).isEmpty then 0 else 1) < 30)) = true := by rfl)
    (hline : (apos.endLine == cpos.line) = true := by rfl) (hs : starEach (e :: es) X.env = (false, eval e X.env) :: starEach es X.env := by rfl) (hplain : (backTo cpos (starEach es X.env)).any (·.1) = false := by rfl) :
    PE X (.Call (.Attribute o name apos) (e :: es) [] cpos) (tTM r to t) := by
  refine ⟨fun pins s σ H Q I h => ?_⟩
  refine wpAny_Call_method_late hbase hfew hline rfl (thn (ho.run pins s σ H _ I h) fun v s1 ⟨x, H1, I1, r1, ty, q1⟩ => ?_)
  obtain ⟨a, ob, ys, rfl, ea, pt⟩ := ty
  cases r1
  obtain ⟨e1, _⟩ := (show ObjOk X.prog X.w H1 s1.heap a (.frz ob (.tup ys)) from I1.hok a _ ea)
  refine ⟨"tuple", id, pa, slot, hty, ⟨ob, e1, pt.cls⟩, fun b z => ?_, ?_⟩
  · cases z
    exact ⟨ob, e1, pt.dict⟩
  have hA := ha.run cpos pins s1 σ H1 _ I1 q1
  rw [hs] at hA ⊢
  refine Calls.callWith_builtin (by show (false || (backTo cpos (starEach es X.env)).any (·.1)) = false; rw [hplain] <;> rfl) (Calls.evalArgs_plain ?_)
  exact thn hA fun us s2 ⟨vs, H2, I2, r2, q2⟩ => hm pins s2 σ H2 (.ref a) vs (.ref a) us Q I2 rfl r2 q2
end
end WbR
set_option maxHeartbeats 2000000
namespace Wb
open PySem PySem.Spec PyProof.Rows L2 WbR
theorem yesG {σ : L2.St} {H : Hp} {A B : Hp → Prop} (h : A H) : tYes σ H fun b H3 => if b = true then A H3 else B H3 := by
  show (if true = true then A H else B H)
  rw [if_pos rfl]
  exact h
/-- a dict of lists of texts, by names -/
structure ListsAt (H : Hp) (d : Addr) (bs : List Str) (L : Str → List Str) : Prop where
  ex : ∃ ad : Str → Addr, H d = some (.dK (dkS bs fun b => .ref (ad b))) ∧ ∀ b ∈ bs, H (ad b) = some (.lst ((L b).map V.str))
theorem ListsAt.mono {H H' : Hp} {d : Addr} {bs : List Str} {L : Str → List Str} (x : ListsAt H d bs L) (s : Same H H') : ListsAt H' d bs L :=
  let ⟨ad, h1, h2⟩ := x.ex
  ⟨ad, s _ _ h1, fun b hb => s _ _ (h2 b hb)⟩
/-- the lists while they are filled: new, each in a place of its own -/
structure Filling (H H2 : Hp) (d : Addr) (bs : List Str) (L : Str → List Str) : Prop where
  ex : ∃ ad : Str → Addr, (∀ b ∈ bs, ∀ c ∈ bs, ad b = ad c → b = c) ∧ H2 d = some (.dK (dkS bs fun b => .ref (ad b))) ∧ ∀ b ∈ bs, H (ad b) = none ∧ H2 (ad b) = some (.lst ((L b).map V.str))
  same : Same H H2
theorem wokenOf_snoc {ws : List (Str × Str)} {j : Nat} {q : Str × Str} (h : ws[j]? = some q) (b : Str) : wokenOf (ws.take (j + 1)) b = wokenOf (ws.take j) b ++ if q.1 = b then [q.2] else [] := by
  unfold wokenOf
  rw [List.take_add_one, h, List.filter_append, List.map_append]
  congr 1
  show List.map _ (List.filter _ [q]) = _
  rw [List.filter_cons]
  by_cases e : q.1 = b
  · rw [if_pos (decide_eq_true e), if_pos e]; rfl
  · rw [if_neg (by rw [decide_eq_true_eq]; exact e), if_neg e]; rfl
theorem wakersOf_snoc {ws : List (Str × Str)} {j : Nat} {q : Str × Str} (h : ws[j]? = some q) (b : Str) : wakersOf (ws.take (j + 1)) b = wakersOf (ws.take j) b ++ if q.2 = b then [q.1] else [] := by
  unfold wakersOf
  rw [List.take_add_one, h, List.filter_append, List.map_append]
  congr 1
  show List.map _ (List.filter _ [q]) = _
  rw [List.filter_cons]
  by_cases e : q.2 = b
  · rw [if_pos (decide_eq_true e), if_pos e]; rfl
  · rw [if_neg (by rw [decide_eq_true_eq]; exact e), if_neg e]; rfl
theorem wakersOf_len (ws : List (Str × Str)) (b : Str) : (wakersOf ws b).length ≤ ws.length := by
  unfold wakersOf
  rw [List.length_map]
  exact List.length_filter_le _ _
theorem wokenOf_len (ws : List (Str × Str)) (b : Str) : (wokenOf ws b).length ≤ ws.length := by
  unfold wokenOf
  rw [List.length_map]
  exact List.length_filter_le _ _
theorem not_mem_take {bs : List Str} (hn : bs.Nodup) {i : Nat} {b : Str} (h : bs[i]? = some b) : b ∉ bs.take i := by
  intro hm
  obtain ⟨j, hj⟩ := List.getElem?_of_mem hm
  have hjl : j < i := by
    have := (List.getElem?_eq_some_iff.mp hj).1
    rw [List.length_take] at this
    omega
  rw [List.getElem?_take, if_pos hjl] at hj
  have hi := (List.getElem?_eq_some_iff.mp h).1
  have hj' := (List.getElem?_eq_some_iff.mp hj).1
  have : j = i := (List.getElem?_inj hj' hn).mp (hj.trans h.symm)
  omega
theorem take_snoc {bs : List Str} {i : Nat} {b : Str} (h : bs[i]? = some b) : bs.take (i + 1) = bs.take i ++ [b] := by
  rw [List.take_add_one, h]
  rfl
section
variable {P : Program} {w : World} {K : PySem.W.Frag} {mg : Str → Option Value} {base : Heap} {C : Addr}

/-! ### wakes_of -/
def spWakesOf (C : Addr) : Sp := fun vs H Q _ => ∃ (a : Addr) (bs : List Str) (ws : List (Str × Str)), vs = [.ref a] ∧ WebAt C H a bs ws ∧ WebOk bs ws ∧ ∀ H' d, Same H H' → H d = none → ListsAt H' d bs (wokenOf ws) → Q (.ref d) H'
theorem sc_wakes_of : FnScope ["web", "found", "one", "other", "name"] ["web"] (defScope s_wakes_of) := ⟨rfl, rfl, rfl, by decide +kernel, rfl, by decide +kernel, by decide +kernel⟩
theorem has_wakes_of (E : Env K mg C) (F : Def K mg "wakes_of" s_wakes_of) : Has P w K mg base "wakes_of" 1 ["web"] (spWakesOf C) := by
  refine has_mk F sc_wakes_of (fun _ _ _ _ _ _ us hl => match us, hl with | [_], _ => rfl) (fun vs H Q E h => ?_) (fun f cdv A outer s H vs Q E' hr h => ?_)
  · obtain ⟨_, _, _, rfl, _⟩ := h
    rfl
  · obtain ⟨a, bs, ws, rfl, ⟨dx, B, W, ps, ob, ha, hB, hW, hps⟩, ok, q⟩ := h
    have hu := hu_of hr
    refine ⟨_, pss_cons (ps_setDc (i := 1) (own := [("name", 4)]) (g := gName 4) (tt := tYes) rfl sc_wakes_of.nd rfl rfl (swap_dc rfl rfl rfl (by decide +kernel)) (pi_tup (pe_fld (pv 0) rfl))
        (blkOk_by (own := [("name", 4)]) (N := ["web", "found", "one", "other", "name"]) (sc := defScope s_wakes_of) (by decide +kernel)) (fun _ _ _ _ _ => pg_name (i := 4) sc_wakes_of.nd rfl (Or.inl rfl))
        (fun _ _ _ _ _ => pts_nil) (fun _ _ _ _ _ => pv 4) (fun _ _ _ _ _ => pe_lst pa_nil))
      (pss_cons (ps_for PassesOwn.never rfl (pi_tup (pe_fld (pv 0) rfl)) (pg_tup rfl (pgs_cons (pg_name (i := 2) sc_wakes_of.nd rfl (.inl rfl)) (pgs_cons (pg_name (i := 3) sc_wakes_of.nd rfl (.inl rfl)) pgs_nil)))
        (pss_one (ps_expr (pe_bm PySem.F.plainAttrs_list PySem.F.slot_list_append PySem.F.type_list_append mt_append (pe_dget hu (pv 1) (pv 2) (fun _ _ => rfl)) (pa_cons (pv 3) pa_nil)))))
      (pss_one (ps_ret (pv 1)))), ?_⟩
    refine ⟨_, rfl, a, C, dx, _, _, rfl, ha, E.cl, E.nB, wflds_bells B W, B, rfl, ⟨_, sqz hB⟩, fun D hD => ?_⟩
    have hBD : B ≠ D := ne_of_none hB hD
    refine dc_tup (K := K) (a := B) (xs := bs.map V.str) (fun i H2 => Filling H H2 D (bs.take i) fun _ => []) ⟨⟨fun _ => 0, fun b hb => absurd hb (by simp), by rw [List.take_zero]; exact upd_same, fun b hb => absurd hb (by simp)⟩, same_upd hD⟩
      (fun i H2 _ x => sqz (x.same _ _ hB)) (fun i x H2 hi fl => ?_) (fun H2 fl => ?_)
    · rw [List.getElem?_map] at hi
      obtain ⟨b, hb, rfl⟩ := Option.map_eq_some_iff.mp hi
      obtain ⟨⟨ad, inj, hd2, each⟩, sm⟩ := fl
      have nb := not_mem_take ok.nd hb
      have tk := take_snoc hb
      refine ⟨rfl, yesG ?_⟩
      refine ⟨_, rfl, Nat.zero_le _, fun p hp => ?_⟩
      have pD : D ≠ p := ne_of_none hd2 hp
      have Hp0 : H p = none := Same.free sm hp
      refine ⟨dkS (bs.take i) fun c => .ref (if c = b then p else ad c), Sum.inr b, rfl, ?_, ?_, ⟨⟨fun c => if c = b then p else ad c, ?_, ?_, ?_⟩, ?_⟩⟩
      · rw [upd_ne pD, hd2]
        congr 2
        exact dkS_congr fun c hc => by
          have : c ≠ b := fun e => nb (e ▸ hc)
          rw [if_neg this]
      · rw [dkS_len, List.length_take]
        exact small1000 (Nat.le_trans (Nat.min_le_right _ _) ok.few1000)
      · intro x hx y hy e
        replace e : (if x = b then p else ad x) = (if y = b then p else ad y) := e
        rw [tk] at hx hy
        have nx : ∀ z, z ∈ bs.take i ++ [b] → z ≠ b → z ∈ bs.take i := fun z hz n => (List.mem_append.mp hz).resolve_right fun q => n (List.mem_singleton.mp q)
        by_cases ex : x = b
        · by_cases ey : y = b
          · rw [ex, ey]
          · rw [if_pos ex, if_neg ey] at e
            exact absurd e.symm (ne_of_none (each y (nx y hy ey)).2 hp)
        · by_cases ey : y = b
          · rw [if_neg ex, if_pos ey] at e
            exact absurd e (ne_of_none (each x (nx x hx ex)).2 hp)
          · rw [if_neg ex, if_neg ey] at e
            exact inj x (nx x hx ex) y (nx y hy ey) e
      · rw [upd_same, tk, putK_dkS_new nb]
        show V.ref (if b = b then p else ad b) = V.ref p
        rw [if_pos rfl]
      · intro c hc
        rw [tk] at hc
        show H (if c = b then p else ad c) = none ∧ (upd (upd H2 p (.lst [])) D _) (if c = b then p else ad c) = _
        by_cases ec : c = b
        · rw [if_pos ec]
          exact ⟨Hp0, by rw [upd_ne pD.symm, upd_same]; rfl⟩
        · rw [if_neg ec]
          have hc' := (List.mem_append.mp hc).resolve_right fun q => ec (List.mem_singleton.mp q)
          obtain ⟨e1, e2⟩ := each c hc'
          refine ⟨e1, ?_⟩
          rw [upd_ne (ne_of e2 hd2 (fun z => nomatch z)), upd_ne (ne_of_none e2 hp)]
          exact e2
      · intro c o e
        rw [upd_ne (ne_of_none e hD), upd_ne (ne_of_none e Hp0)]
        exact sm _ _ e
    · have fl' : Filling H H2 D bs fun _ => [] := by
        rw [List.length_map, List.take_length] at fl
        exact fl
      have hW2 := fl'.same _ _ hW
      refine ⟨_, rfl, a, C, dx, _, _, rfl, fl'.same _ _ ha, E.cl, E.nW, wflds_wakes B W, W, rfl, ⟨_, SqT.of hW2⟩, for_tup (K := K) (a := W) (xs := ps.map V.ref) (fun j σ H3 => ∃ y2 y3, σ = [some (.ref a), some (.ref D), y2, y3, none] ∧ Filling H H3 D bs (wokenOf (ws.take j)))
        ⟨none, none, rfl, fl'⟩ (fun j σ H3 _ ⟨_, _, _, f3⟩ => SqT.of (f3.same _ _ hW)) ?_ ?_⟩
      · rintro j x σ H3 hj ⟨y2, y3, rfl, ⟨ad, inj, hd3, each⟩, sm⟩
        rw [List.getElem?_map] at hj
        obtain ⟨p, hp1, rfl⟩ := Option.map_eq_some_iff.mp hj
        have jl : j < ws.length := by
          rw [← hps.len]
          exact (List.getElem?_eq_some_iff.mp hp1).1
        have hw := List.getElem?_eq_getElem jl
        obtain ⟨p', e1, e2⟩ := hps.at hw
        rw [hp1] at e1
        cases e1
        have sb := ok.sub _ (List.mem_of_getElem? hw)
        refine ⟨p, _, rfl, SqT.of (sm _ _ e2), rfl, _, _, rfl, _, _, rfl, rfl, ?_⟩
        obtain ⟨n1, l1⟩ := each _ sb.1
        have lz : (wokenOf (ws.take j) (ws[j]).1).length ≤ 144 := Nat.le_trans (wokenOf_len _ _) (by rw [List.length_take]; exact Nat.le_trans (Nat.min_le_right _ _) ok.fewW)
        refine ⟨_, rfl, _, rfl, D, _, rfl, dget hd3 sb.1, .inl ⟨rfl, _, SqL.of l1⟩, _, rfl, ad (ws[j]).1, _, _, rfl, rfl, l1, by rw [List.length_map]; exact small1000 (Nat.le_trans lz (by decide)), ?_⟩
        refine ⟨_, _, rfl, ⟨ad, inj, ?_, fun c hc => ⟨(each c hc).1, ?_⟩⟩, fun c o e => ?_⟩
        · rw [upd_ne (ne_of hd3 l1 (fun z => nomatch z))]
          exact hd3
        · rw [wokenOf_snoc hw]
          by_cases ec : (ws[j]).1 = c
          · rw [if_pos ec, ← ec, upd_same, List.map_append]
            rfl
          · rw [if_neg ec, List.append_nil, upd_ne (fun z => ec (inj c hc _ sb.1 z).symm)]
            exact (each c hc).2
        · rw [upd_ne (ne_of_none e n1)]
          exact sm _ _ e
      · rintro σ H3 ⟨y2, y3, rfl, f3⟩
        rw [List.length_map, hps.len, List.take_length] at f3
        obtain ⟨⟨ad, inj, hd3, each⟩, sm⟩ := f3
        exact ⟨_, rfl, q H3 D sm hD ⟨ad, hd3, fun b hb => (each b hb).2⟩⟩

/-! ### wakers_of -/
def spWakersOf (C : Addr) : Sp := fun vs H Q _ => ∃ (a : Addr) (bs : List Str) (ws : List (Str × Str)), vs = [.ref a] ∧ WebAt C H a bs ws ∧ WebOk bs ws ∧ ∀ H' d, Same H H' → H d = none → ListsAt H' d bs (wakersOf ws) → Q (.ref d) H'
theorem sc_wakers_of : FnScope ["web", "found", "one", "other", "name"] ["web"] (defScope s_wakers_of) := ⟨rfl, rfl, rfl, by decide +kernel, rfl, by decide +kernel, by decide +kernel⟩
theorem has_wakers_of (E : Env K mg C) (F : Def K mg "wakers_of" s_wakers_of) : Has P w K mg base "wakers_of" 1 ["web"] (spWakersOf C) := by
  refine has_mk F sc_wakers_of (fun _ _ _ _ _ _ us hl => match us, hl with | [_], _ => rfl) (fun vs H Q E h => ?_) (fun f cdv A outer s H vs Q E' hr h => ?_)
  · obtain ⟨_, _, _, rfl, _⟩ := h
    rfl
  · obtain ⟨a, bs, ws, rfl, ⟨dx, B, W, ps, ob, ha, hB, hW, hps⟩, ok, q⟩ := h
    have hu := hu_of hr
    refine ⟨_, pss_cons (ps_setDc (i := 1) (own := [("name", 4)]) (g := gName 4) (tt := tYes) rfl sc_wakers_of.nd rfl rfl (swap_dc rfl rfl rfl (by decide +kernel)) (pi_tup (pe_fld (pv 0) rfl))
        (blkOk_by (own := [("name", 4)]) (N := ["web", "found", "one", "other", "name"]) (sc := defScope s_wakers_of) (by decide +kernel)) (fun _ _ _ _ _ => pg_name (i := 4) sc_wakers_of.nd rfl (Or.inl rfl))
        (fun _ _ _ _ _ => pts_nil) (fun _ _ _ _ _ => pv 4) (fun _ _ _ _ _ => pe_lst pa_nil))
      (pss_cons (ps_for PassesOwn.never rfl (pi_tup (pe_fld (pv 0) rfl)) (pg_tup rfl (pgs_cons (pg_name (i := 2) sc_wakers_of.nd rfl (.inl rfl)) (pgs_cons (pg_name (i := 3) sc_wakers_of.nd rfl (.inl rfl)) pgs_nil)))
        (pss_one (ps_expr (pe_bm PySem.F.plainAttrs_list PySem.F.slot_list_append PySem.F.type_list_append mt_append (pe_dget hu (pv 1) (pv 3) (fun _ _ => rfl)) (pa_cons (pv 2) pa_nil)))))
      (pss_one (ps_ret (pv 1)))), ?_⟩
    refine ⟨_, rfl, a, C, dx, _, _, rfl, ha, E.cl, E.nB, wflds_bells B W, B, rfl, ⟨_, sqz hB⟩, fun D hD => ?_⟩
    have hBD : B ≠ D := ne_of_none hB hD
    refine dc_tup (K := K) (a := B) (xs := bs.map V.str) (fun i H2 => Filling H H2 D (bs.take i) fun _ => []) ⟨⟨fun _ => 0, fun b hb => absurd hb (by simp), by rw [List.take_zero]; exact upd_same, fun b hb => absurd hb (by simp)⟩, same_upd hD⟩
      (fun i H2 _ x => sqz (x.same _ _ hB)) (fun i x H2 hi fl => ?_) (fun H2 fl => ?_)
    · rw [List.getElem?_map] at hi
      obtain ⟨b, hb, rfl⟩ := Option.map_eq_some_iff.mp hi
      obtain ⟨⟨ad, inj, hd2, each⟩, sm⟩ := fl
      have nb := not_mem_take ok.nd hb
      have tk := take_snoc hb
      refine ⟨rfl, yesG ?_⟩
      refine ⟨_, rfl, Nat.zero_le _, fun p hp => ?_⟩
      have pD : D ≠ p := ne_of_none hd2 hp
      have Hp0 : H p = none := Same.free sm hp
      refine ⟨dkS (bs.take i) fun c => .ref (if c = b then p else ad c), Sum.inr b, rfl, ?_, ?_, ⟨⟨fun c => if c = b then p else ad c, ?_, ?_, ?_⟩, ?_⟩⟩
      · rw [upd_ne pD, hd2]
        congr 2
        exact dkS_congr fun c hc => by
          have : c ≠ b := fun e => nb (e ▸ hc)
          rw [if_neg this]
      · rw [dkS_len, List.length_take]
        exact small1000 (Nat.le_trans (Nat.min_le_right _ _) ok.few1000)
      · intro x hx y hy e
        replace e : (if x = b then p else ad x) = (if y = b then p else ad y) := e
        rw [tk] at hx hy
        have nx : ∀ z, z ∈ bs.take i ++ [b] → z ≠ b → z ∈ bs.take i := fun z hz n => (List.mem_append.mp hz).resolve_right fun q => n (List.mem_singleton.mp q)
        by_cases ex : x = b
        · by_cases ey : y = b
          · rw [ex, ey]
          · rw [if_pos ex, if_neg ey] at e
            exact absurd e.symm (ne_of_none (each y (nx y hy ey)).2 hp)
        · by_cases ey : y = b
          · rw [if_neg ex, if_pos ey] at e
            exact absurd e (ne_of_none (each x (nx x hx ex)).2 hp)
          · rw [if_neg ex, if_neg ey] at e
            exact inj x (nx x hx ex) y (nx y hy ey) e
      · rw [upd_same, tk, putK_dkS_new nb]
        show V.ref (if b = b then p else ad b) = V.ref p
        rw [if_pos rfl]
      · intro c hc
        rw [tk] at hc
        show H (if c = b then p else ad c) = none ∧ (upd (upd H2 p (.lst [])) D _) (if c = b then p else ad c) = _
        by_cases ec : c = b
        · rw [if_pos ec]
          exact ⟨Hp0, by rw [upd_ne pD.symm, upd_same]; rfl⟩
        · rw [if_neg ec]
          have hc' := (List.mem_append.mp hc).resolve_right fun q => ec (List.mem_singleton.mp q)
          obtain ⟨e1, e2⟩ := each c hc'
          refine ⟨e1, ?_⟩
          rw [upd_ne (ne_of e2 hd2 (fun z => nomatch z)), upd_ne (ne_of_none e2 hp)]
          exact e2
      · intro c o e
        rw [upd_ne (ne_of_none e hD), upd_ne (ne_of_none e Hp0)]
        exact sm _ _ e
    · have fl' : Filling H H2 D bs fun _ => [] := by
        rw [List.length_map, List.take_length] at fl
        exact fl
      have hW2 := fl'.same _ _ hW
      refine ⟨_, rfl, a, C, dx, _, _, rfl, fl'.same _ _ ha, E.cl, E.nW, wflds_wakes B W, W, rfl, ⟨_, SqT.of hW2⟩, for_tup (K := K) (a := W) (xs := ps.map V.ref) (fun j σ H3 => ∃ y2 y3, σ = [some (.ref a), some (.ref D), y2, y3, none] ∧ Filling H H3 D bs (wakersOf (ws.take j)))
        ⟨none, none, rfl, fl'⟩ (fun j σ H3 _ ⟨_, _, _, f3⟩ => SqT.of (f3.same _ _ hW)) ?_ ?_⟩
      · rintro j x σ H3 hj ⟨y2, y3, rfl, ⟨ad, inj, hd3, each⟩, sm⟩
        rw [List.getElem?_map] at hj
        obtain ⟨p, hp1, rfl⟩ := Option.map_eq_some_iff.mp hj
        have jl : j < ws.length := by
          rw [← hps.len]
          exact (List.getElem?_eq_some_iff.mp hp1).1
        have hw := List.getElem?_eq_getElem jl
        obtain ⟨p', e1, e2⟩ := hps.at hw
        rw [hp1] at e1
        cases e1
        have sb := ok.sub _ (List.mem_of_getElem? hw)
        refine ⟨p, _, rfl, SqT.of (sm _ _ e2), rfl, _, _, rfl, _, _, rfl, rfl, ?_⟩
        obtain ⟨n1, l1⟩ := each _ sb.2
        have lz : (wakersOf (ws.take j) (ws[j]).2).length ≤ 144 := Nat.le_trans (wakersOf_len _ _) (by rw [List.length_take]; exact Nat.le_trans (Nat.min_le_right _ _) ok.fewW)
        refine ⟨_, rfl, _, rfl, D, _, rfl, dget hd3 sb.2, .inl ⟨rfl, _, SqL.of l1⟩, _, rfl, ad (ws[j]).2, _, _, rfl, rfl, l1, by rw [List.length_map]; exact small1000 (Nat.le_trans lz (by decide)), ?_⟩
        refine ⟨_, _, rfl, ⟨ad, inj, ?_, fun c hc => ⟨(each c hc).1, ?_⟩⟩, fun c o e => ?_⟩
        · rw [upd_ne (ne_of hd3 l1 (fun z => nomatch z))]
          exact hd3
        · rw [wakersOf_snoc hw]
          by_cases ec : (ws[j]).2 = c
          · rw [if_pos ec, ← ec, upd_same, List.map_append]
            rfl
          · rw [if_neg ec, List.append_nil, upd_ne (fun z => ec (inj c hc _ sb.2 z).symm)]
            exact (each c hc).2
        · rw [upd_ne (ne_of_none e n1)]
          exact sm _ _ e
      · rintro σ H3 ⟨y2, y3, rfl, f3⟩
        rw [List.length_map, hps.len, List.take_length] at f3
        obtain ⟨⟨ad, inj, hd3, each⟩, sm⟩ := f3
        exact ⟨_, rfl, q H3 D sm hD ⟨ad, hd3, fun b hb => (each b hb).2⟩⟩
end
end Wb
set_option maxHeartbeats 2000000
namespace Wb
open PySem PySem.Spec PyProof.Rows L2 WbR
theorem dkS_ne {bs : List Str} {g g' : Str → V} {b : Str} (hb : b ∈ bs) (h : g b ≠ g' b) : dkS bs g ≠ dkS bs g' := fun e => by
  have h1 := valV_dkS (g := g) hb
  rw [e, valV_dkS hb] at h1
  exact h (Option.some.inj h1).symm
theorem dk_ne {bs : List Str} {g g' : Str → V} {b : Str} (hb : b ∈ bs) (h : g b ≠ g' b) : HO.dK (dkS bs g) ≠ HO.dK (dkS bs g') := fun e => dkS_ne hb h (by injection e)
/-- truths, numbers, by names -/
abbrev dBl (bs : List Str) (f : Str → Bool) : HO := .dK (dkS bs fun c => .bl (f c))
abbrev dN (bs : List Str) (f : Str → Nat) : HO := .dK (dkS bs fun c => vN (f c))
theorem dBl_congr {bs : List Str} {f g : Str → Bool} (h : ∀ b ∈ bs, f b = g b) : dBl bs f = dBl bs g := congrArg HO.dK (dkS_congr fun b hb => congrArg V.bl (h b hb))
theorem dN_congr {bs : List Str} {f g : Str → Nat} (h : ∀ b ∈ bs, f b = g b) : dN bs f = dN bs g := congrArg HO.dK (dkS_congr fun b hb => congrArg vN (h b hb))
theorem setV_bl (f : Str → Bool) (x : Str) (k : Bool) : setV (fun c => V.bl (f c)) x (.bl k) = fun c => .bl (if c = x then k else f c) := by
  funext c
  unfold setV
  by_cases e : c = x
  · rw [if_pos e, if_pos e]
  · rw [if_neg e, if_neg e]
/-- a value for each text -/
def onS (g : Str → V) : V → Option V
  | .str z => some (g z)
  | _ => none
theorem filterMap_onS (g : Str → V) (bs : List Str) : (bs.map V.str).filterMap (onS g) = bs.map g := by
  induction bs with
  | nil => rfl
  | cons b bs ih =>
    rw [List.map_cons, List.map_cons, ← ih]
    rfl
theorem sum_cast (l : List Nat) : (l.map fun n : Nat => (n : Int)).sum = (l.sum : Int) := by
  induction l with
  | nil => rfl
  | cons a l ih =>
    rw [List.map_cons, List.sum_cons, List.sum_cons, ih]
    omega
section
variable {P : Program} {w : World} {K : PySem.W.Frag} {mg : Str → Option Value} {base : Heap} {C : Addr}

/-! ### rung -/
def spRung : Sp := fun vs H Q _ => ∃ (n k : Addr) (b : Str) (bs : List Str) (ws : List (Str × Str)) (now : Str → Bool), vs = [.ref n, .ref k, .str b] ∧ H n = some (dBl bs now) ∧ ListsAt H k bs (wokenOf ws) ∧ b ∈ bs ∧ WebOk bs ws ∧
  ∀ H', H' n = some (dBl bs (ringNow ws now b)) → SameBut n H H' → Q .non H'
theorem sc_rung : FnScope ["now", "woken", "name", "other"] ["now", "woken", "name"] (defScope s_rung) := ⟨rfl, rfl, rfl, by decide +kernel, rfl, by decide +kernel, by decide +kernel⟩
theorem has_rung (F : Def K mg "rung" s_rung) : Has P w K mg base "rung" 1 ["now", "woken", "name"] spRung := by
  refine has_mk F sc_rung (fun _ _ _ _ _ _ us hl => match us, hl with | [_, _, _], _ => rfl) (fun vs H Q E h => ?_) (fun f cdv A outer s H vs Q E' hr h => ?_)
  · obtain ⟨_, _, _, _, _, _, rfl, _⟩ := h
    rfl
  · obtain ⟨n, k, b, bs, ws, now, rfl, hn, ⟨ad, hk, each⟩, hb, ok, q⟩ := h
    have hu := hu_of hr
    have few := ok.few1000
    have nk : k ≠ n := ne_of hk hn (dk_ne hb (fun z => nomatch z))
    have nl : ad b ≠ n := ne_of (each b hb) hn (fun z => nomatch z)
    refine ⟨_, pss_cons (ps_dput hu (pv 0) (pv 2) pe_bl rfl)
      (pss_one (ps_for PassesOwn.never rfl (pi_list (pe_dget hu (pv 1) (pv 2) (fun _ _ => rfl))) (pg_name (i := 3) sc_rung.nd rfl (Or.inl rfl)) (pss_one (ps_dput hu (pv 0) (pv 3) pe_bl rfl)))), ?_⟩
    refine ⟨_, rfl, _, rfl, n, _, rfl, dput hn hb few, ?_⟩
    rw [setV_bl]
    refine ⟨_, rfl, _, rfl, k, _, rfl, dget (by rw [upd_ne nk]; exact hk) hb, ad b, rfl, ⟨_, SqL.of (by rw [upd_ne nl]; exact each b hb)⟩,
      for_list (K := K) (a := ad b) (xs := (wokenOf ws b).map V.str) (fun j σ H2 => ∃ y, σ = [some (.ref n), some (.ref k), some (.str b), y] ∧ SameBut n H H2 ∧ H2 n = some (dBl bs fun c => if c ∈ (wokenOf ws b).take j then true else if c = b then false else now c)) ⟨none, rfl, fun c o m e => by rw [upd_ne m]; exact e, ?_⟩ (fun j σ H2 _ ⟨_, _, s2, _⟩ => SqL.of (s2 _ _ nl (each b hb))) ?_ ?_⟩
    · rw [upd_same]
      refine congrArg some (dBl_congr (f := fun c => if c = b then false else now c) (g := fun c => if c ∈ (wokenOf ws b).take 0 then true else if c = b then false else now c) fun c _ => ?_)
      show (if c = b then false else now c) = (if c ∈ (wokenOf ws b).take 0 then true else if c = b then false else now c)
      rw [List.take_zero, if_neg (List.not_mem_nil)]
    · rintro j x σ H2 hj ⟨y, rfl, s2, e2⟩
      rw [List.getElem?_map] at hj
      obtain ⟨c, hc, rfl⟩ := Option.map_eq_some_iff.mp hj
      have hcb : c ∈ bs := (ok.sub _ (mem_woken.mp (List.mem_of_getElem? hc))).2
      refine ⟨_, rfl, _, rfl, n, _, rfl, dput e2 hcb few, _, rfl, fun d o m e => by rw [upd_ne m]; exact s2 _ _ m e, ?_⟩
      rw [upd_same, setV_bl]
      refine congrArg some (dBl_congr fun d _ => ?_)
      rw [List.take_add_one, hc]
      show _ = (if d ∈ _ ++ [c] then _ else _)
      by_cases e : d = c
      · rw [if_pos e, if_pos (List.mem_append.mpr (.inr (List.mem_singleton.mpr e)))]
      · rw [if_neg e]
        by_cases m : d ∈ (wokenOf ws b).take j
        · rw [if_pos m, if_pos (List.mem_append.mpr (.inl m))]
        · rw [if_neg m, if_neg (fun z => (List.mem_append.mp z).elim m fun z => e (List.mem_singleton.mp z))]
    · rintro σ H2 ⟨y, rfl, s2, e2⟩
      rw [List.length_map, List.take_length] at e2
      refine q H2 ?_ s2
      rw [e2]
      refine congrArg some (dBl_congr fun c _ => ?_)
      unfold ringNow
      by_cases m : (b, c) ∈ ws
      · rw [if_pos m, if_pos (mem_woken.mpr m)]
      · rw [if_neg m, if_neg (fun z => m (mem_woken.mp z))]
/-! ### let -/
def spLet : Sp := fun vs H Q _ => ∃ (d k : Addr) (b : Str) (lv : Bool) (bs : List Str) (ws : List (Str × Str)) (f : Str → Nat), vs = [.ref d, .ref k, .str b, .bl lv] ∧ H d = some (dN bs f) ∧ ListsAt H k bs (wakersOf ws) ∧ b ∈ bs ∧ WebOk bs ws ∧
  ∀ H', Same H H' → Q (vN (lv.toNat + need ws f b)) H'
theorem sc_let : FnScope ["wished", "wakers", "name", "is_live", "waker"] ["wished", "wakers", "name", "is_live"] (defScope s_let) := ⟨rfl, rfl, rfl, by decide +kernel, rfl, by decide +kernel, by decide +kernel⟩
theorem has_let (E : Env K mg C) (F : Def K mg "let" s_let) : Has P w K mg base "let" 1 ["wished", "wakers", "name", "is_live"] spLet := by
  refine has_mk F sc_let (fun _ _ _ _ _ _ us hl => match us, hl with | [_, _, _, _], _ => rfl) (fun vs H Q E h => ?_) (fun f cdv A outer s H vs Q E' hr h => ?_)
  · obtain ⟨_, _, _, _, _, _, _, rfl, _⟩ := h
    rfl
  · obtain ⟨d, k, b, lv, bs, ws, fw, rfl, hd, ⟨ad, hk, each⟩, hb, ok, q⟩ := h
    have hu := hu_of hr
    refine ⟨_, pss_one (ps_ret (pe_op op_add (pe_callTy call_int1 (by rfl) E.int boot_int (pa_cons (pv 3) pa_nil)) (pe_callB (cr_sum rfl) (by rfl) E.sum boot_sum (pa_cons (pe_lc (own := [("waker", 4)]) (g := gName 4) (tt := tYes) (by rfl) sc_let.nd
      (pi_list (pe_dget hu (pv 1) (pv 2) (fun _ _ => rfl))) (blkOk_by (own := [("waker", 4)]) (N := ["wished", "wakers", "name", "is_live", "waker"]) (sc := defScope s_let) (by decide +kernel)) (fun _ _ _ _ _ => pg_name (i := 4) sc_let.nd rfl (Or.inl rfl))
      (fun _ _ _ _ _ => pts_nil) (fun _ _ _ _ _ => pe_dget hu (pv 0) (pv 4) (fun _ _ => rfl))) pa_nil)))), ?_⟩
    refine ⟨_, rfl, .inr ⟨lv, rfl, ?_⟩⟩
    refine ⟨_, rfl, _, rfl, k, _, rfl, dget hk hb, ad b, rfl, ⟨_, SqL.of (each b hb)⟩, fun D hD => ?_⟩
    refine lc_pureL (K := K) (a := ad b) (xs := (wakersOf ws b).map V.str) (onS fun c => vN (fw c)) (SqL.of (each b hb)) hD (by rw [List.length_map]; exact Nat.le_trans (wakersOf_len ws b) (Nat.le_trans ok.fewW (by decide))) (fun i x acc R1 R0 hx h0 h1 => ?_) ?_
    · rw [List.getElem?_map] at hx
      obtain ⟨c, hc, rfl⟩ := Option.map_eq_some_iff.mp hx
      have hcb : c ∈ bs := (ok.sub _ (mem_wakers.mp (List.mem_of_getElem? hc))).1
      refine ⟨rfl, yesT ?_⟩
      exact ⟨_, rfl, _, rfl, d, _, rfl, dget (by rw [upd_ne (ne_of_none hd hD)]; exact hd) hcb, h1 _ rfl⟩
    · refine ⟨D, ((wakersOf ws b).map fw).map fun n : Nat => (n : Int), rfl, SqL.of ?_, _, _, rfl, rfl, ?_⟩
      · rw [upd_same, filterMap_onS, List.map_map, List.map_map]
        rfl
      · have e : (if lv = true then (1 : Int) else 0) + (((wakersOf ws b).map fw).map fun n : Nat => (n : Int)).sum = ((lv.toNat + need ws fw b : Nat) : Int) := by
          rw [sum_cast]
          unfold need
          cases lv
          · show (0 : Int) + _ = ((0 + _ : Nat) : Int)
            omega
          · show (1 : Int) + _ = ((1 + _ : Nat) : Int)
            omega
        show Q (.int _) _
        rw [e]
        exact q _ (same_upd hD)
end
end Wb
set_option maxHeartbeats 2000000
namespace Wb
open PySem PySem.Spec PyProof.Rows L2 WbR
/-- what is so of the found ones -/
structure Came (bs : List Str) (ws : List (Str × Str)) (f : Str → Nat) (n : Str) (l : List Str) : Prop where
  has : n ∈ l
  so : ∀ x ∈ l, x ∈ bs ∧ Conn ws f n x
  nd : l.Nodup
theorem Came.snoc {bs : List Str} {ws : List (Str × Str)} {f : Str → Nat} {n : Str} {l : List Str} (c : Came bs ws f n l) {x y : Str} (hx : x ∈ l) (m : (x, y) ∈ ws) (hy : y ∈ bs) (p : 0 < f y) (nl : y ∉ l) : Came bs ws f n (l ++ [y]) := by
  refine ⟨List.mem_append.mpr (.inl c.has), fun z hz => ?_, ?_⟩
  · rcases List.mem_append.mp hz with hz | hz
    · exact c.so z hz
    · rw [List.mem_singleton.mp hz]
      exact ⟨hy, .step (c.so x hx).2 m p⟩
  · rw [List.nodup_append]
    refine ⟨c.nd, by simp, fun a ha b hb e => ?_⟩
    rw [List.mem_singleton] at hb
    rw [e, hb] at ha
    exact nl ha
theorem Came.len {bs : List Str} {ws : List (Str × Str)} {f : Str → Nat} {n : Str} {l : List Str} (c : Came bs ws f n l) : l.length ≤ bs.length := length_le_of_sub c.nd fun x hx => (c.so x hx).1
def ClosedTo (ws : List (Str × Str)) (f : Str → Nat) (i : Nat) (l : List Str) : Prop := ∀ j, j < i → ∀ x, l[j]? = some x → ∀ y, (x, y) ∈ ws → 0 < f y → y ∈ l
theorem Came.done {bs : List Str} {ws : List (Str × Str)} {f : Str → Nat} {n : Str} {l : List Str} (c : Came bs ws f n l) (h : ClosedTo ws f l.length l) (x : Str) : x ∈ l ↔ Conn ws f n x := by
  refine ⟨fun m => (c.so x m).2, fun m => ?_⟩
  induction m with
  | refl _ => exact c.has
  | step _ w p ih =>
    have hi := ih
    obtain ⟨j, hj⟩ := List.getElem?_of_mem hi
    exact h j (List.getElem?_eq_some_iff.mp hj).1 _ hj _ w p
theorem prefix_get {l l' : List Str} (h : l <+: l') {j : Nat} (hj : j < l.length) : l'[j]? = l[j]? := by
  obtain ⟨r, rfl⟩ := h
  rw [List.getElem?_append_left hj]
theorem came_start {bs : List Str} {ws : List (Str × Str)} {f : Str → Nat} {n : Str} (hn : n ∈ bs) (p : 0 < f n) (nd : bs.Nodup) : Came bs ws f n (bs.filter fun b => decide (b ∈ [n]) && decide (0 < f b)) := by
  refine ⟨List.mem_filter.mpr ⟨hn, ?_⟩, fun x hx => ?_, nd.filter _⟩
  · rw [Bool.and_eq_true, decide_eq_true_eq, decide_eq_true_eq]
    exact ⟨List.mem_singleton.mpr rfl, p⟩
  · obtain ⟨h1, h2⟩ := List.mem_filter.mp hx
    rw [Bool.and_eq_true, decide_eq_true_eq, decide_eq_true_eq, List.mem_singleton] at h2
    obtain ⟨rfl, h3⟩ := h2
    exact ⟨h1, .refl h3⟩
section
variable {P : Program} {w : World} {K : PySem.W.Frag} {mg : Str → Option Value} {base : Heap} {C : Addr}

/-! ### come_by -/
def spComeBy (C : Addr) : Sp := fun vs H Q _ => ∃ (a lv d : Addr) (n : Str) (bs : List Str) (ws : List (Str × Str)) (f : Str → Nat), vs = [.ref a, .ref lv, .ref d] ∧ WebAt C H a bs ws ∧ WebOk bs ws ∧ H lv = some (.lst [.str n]) ∧ H d = some (dN bs f) ∧ n ∈ bs ∧ 0 < f n ∧
  ∀ (H' : Hp) (p : Addr) (l : List Str), Same H H' → H p = none → H' p = some (.lst (l.map V.str)) → (∀ x, x ∈ l ↔ Conn ws f n x) → l.length ≤ 12 → Q (.ref p) H'
theorem sc_come_by : FnScope ["web", "live", "wished", "woken", "found", "at", "name"] ["web", "live", "wished"] (defScope s_come_by) := ⟨rfl, rfl, rfl, by decide +kernel, rfl, by decide +kernel, by decide +kernel⟩
theorem has_come_by (E : Env K mg C) (F : Def K mg "come_by" s_come_by) (h1 : Has P w K mg base "wakes_of" 1 ["web"] (spWakesOf C)) : Has P w K mg base "come_by" 2 ["web", "live", "wished"] (spComeBy C) := by
  obtain ⟨f1, fd1, G1, g1, kp1, b1⟩ := h1.ex
  refine has_mk F sc_come_by (fun _ _ _ _ _ _ us hl => match us, hl with | [_, _, _], _ => rfl) (fun vs H Q E h => ?_) (fun f cdv A outer s H vs Q E' hr h => ?_)
  · obtain ⟨_, _, _, _, _, _, _, rfl, _⟩ := h
    rfl
  · obtain ⟨a, lv, d, n, bs, ws, fw, rfl, wa, ok, hlv, hd, hn, hp, q⟩ := h
    have hu := hu_of hr
    refine ⟨_, pss_cons (ps_set (i := 3) sc_come_by.nd rfl (.inl rfl) (pe_call G1 hr (by rfl) g1 kp1 b1 .nil pass0 (pa_cons (pv 0) pa_nil)))
      (pss_cons (ps_setLc (i := 4) (own := [("name", 6)]) (g := gName 6) rfl sc_come_by.nd rfl rfl (sw_true rfl rfl rfl (by decide +kernel)) (pi_tup (pe_fld (pv 0) rfl))
        (blkOk_by (own := [("name", 6)]) (N := ["web", "live", "wished", "woken", "found", "at", "name"]) (sc := defScope s_come_by) (by decide +kernel)) (fun _ _ _ _ _ => pg_name (i := 6) sc_come_by.nd rfl (Or.inl rfl))
        (fun _ _ _ _ _ => pts_one (PW.pt (pw_and (pt_cmpR (show OpR _ _ (rIn K false) from op_in_seq) (pv 6) (pv 1) (by rfl)) (pw_and1 (pt_cmpR op_gt (pe_dget hu (pv 2) (pv 6) (fun _ _ => rfl)) pe_int (by rfl))))))
        (fun _ _ _ _ _ => pv 6))
      (pss_cons (ps_set (i := 5) sc_come_by.nd rfl (.inl rfl) pe_int)
      (pss_cons (ps_while PassesOwn.never (pt_cmpR op_lt (pv 5) (pe_callB call_len_seq (by rfl) E.len PySem.boot_len (pa_cons (pv 4) pa_nil)) (nomark _))
        (pss_cons (ps_for PassesOwn.never rfl (pi_list (pe_dget hu (pv 3) (pe_ix ix_list (pv 4) (pv 5) (fun _ _ => rfl)) (fun _ _ => rfl))) (pg_name (i := 6) sc_come_by.nd rfl (.inl rfl))
          (pss_one (ps_if (PW.pt (pw_and (pt_cmpR op_gt (pe_dget hu (pv 2) (pv 6) (fun _ _ => rfl)) pe_int (nomark _)) (pw_and1 (pt_cmpR (show OpR _ _ (rIn K true) from op_notIn_seq) (pv 6) (pv 4) (by rfl)))))
            (pss_one (ps_expr (pe_bm PySem.F.plainAttrs_list PySem.F.slot_list_append PySem.F.type_list_append mt_append (pv 4) (pa_cons (pv 6) pa_nil)))) pss_nil)))
          (pss_one (ps_aug (i := 5) sc_come_by.nd rfl (.inl rfl) pe_int ip_add))))
      (pss_one (ps_ret (pv 4)))))), ?_⟩
    refine ⟨_, rfl, a, bs, ws, rfl, wa, ok, fun H1 k s1 nk la => ?_⟩
    obtain ⟨ad, hk, each⟩ := la.ex
    obtain ⟨dx, B, W, ps, ob, ha, hB, hW, hps⟩ := wa.mono s1
    have hd1 := s1 _ _ hd
    have hlv1 := s1 _ _ hlv
    refine ⟨_, rfl, a, C, dx, _, _, rfl, ha, E.cl, E.nB, wflds_bells B W, B, rfl, ⟨_, sqz hB⟩, fun D hD => ?_⟩
    have HD : H D = none := Same.free s1 hD
    refine lc_pureT (K := K) (a := B) (xs := bs.map V.str) (keepS fun b => decide (b ∈ [n]) && decide (0 < fw b)) (sqz hB) hD (by rw [List.length_map]; exact ok.few1000) (fun i x acc R1 R0 hx h0 h1 => ?_) ?_
    · rw [List.getElem?_map] at hx
      obtain ⟨b, hb, rfl⟩ := Option.map_eq_some_iff.mp hx
      have hbb : b ∈ bs := List.mem_of_getElem? hb
      refine ⟨rfl, _, rfl, _, rfl, lv, [V.str n], rfl, .inl (Same.seq (same_upd hD) (SqL.of hlv1)), rfl, rfl, _, rfl, ?_⟩
      have e1 : inV (V.str b) [V.str n] = decide (b ∈ [n]) := inV_strs b [n]
      show if inV (V.str b) [V.str n] = true then _ else _
      rw [e1]
      rw [keepS_str] at h0 h1
      refine ite2 (fun e => ?_) (fun e => ?_)
      · refine ⟨_, rfl, _, rfl, d, _, rfl, dget (by rw [upd_ne (ne_of_none hd1 hD)]; exact hd1) hbb, _, _, rfl, rfl, _, rfl, ?_⟩
        have e2 : decide ((0 : Int) < ((fw b : Nat) : Int)) = decide (0 < fw b) := by
          rw [Bool.eq_iff_iff, decide_eq_true_eq, decide_eq_true_eq]
          omega
        show if decide ((0 : Int) < ((fw b : Nat) : Int)) = true then _ else _
        rw [e2]
        rw [e] at h0 h1
        refine ite2 (fun e' => ?_) (fun e' => ?_)
        · rw [e'] at h1
          exact ⟨_, rfl, h1 _ rfl⟩
        · have : decide (0 < fw b) = false := by cases h : decide (0 < fw b) with | true => exact absurd h e' | false => rfl
          rw [this] at h0
          exact h0 rfl
      · have : decide (b ∈ [n]) = false := by cases h : decide (b ∈ [n]) with | true => exact absurd h e | false => rfl
        rw [this] at h0
        exact h0 rfl
    · rw [filterMap_strs]
      have c0 : Came bs ws fw n (bs.filter fun b => decide (b ∈ [n]) && decide (0 < fw b)) := came_start hn hp ok.nd
      revert c0
      generalize (bs.filter fun b => decide (b ∈ [n]) && decide (0 < fw b)) = l0
      intro c0
      refine ⟨fun m σ H2 => ∃ (i : Nat) (l : List Str) (y : Option V), m = bs.length - i ∧ σ = [some (.ref a), some (.ref lv), some (.ref d), some (.ref k), some (.ref D), some (.int i), y] ∧ Came bs ws fw n l ∧ i ≤ l.length ∧ ClosedTo ws fw i l ∧ SameBut D H1 H2 ∧ H2 D = some (.lst (l.map V.str)),
        ⟨_, 0, l0, _, rfl, rfl, c0, Nat.zero_le _, fun j hj => absurd hj (Nat.not_lt_zero _), fun b o n e => by rw [upd_ne n]; exact e, upd_same⟩, ?_⟩
      rintro m σ H2 ⟨i, l, y, rfl, rfl, cm, il, cl, s2, e2⟩
      refine ⟨_, rfl, _, rfl, D, l.map V.str, rfl, .inl (SqL.of e2), _, _, rfl, rfl, _, rfl, ?_⟩
      have e3 : decide (((i : Nat) : Int) < ((l.map V.str).length : Int)) = decide (i < l.length) := by
        rw [List.length_map, Bool.eq_iff_iff, decide_eq_true_eq, decide_eq_true_eq]
        omega
      show if decide (((i : Nat) : Int) < ((l.map V.str).length : Int)) = true then _ else _
      rw [e3]
      refine ite2 (fun e => ?_) (fun e => ?_)
      · have lt : i < l.length := of_decide_eq_true e
        have hx := List.getElem?_eq_getElem lt
        have hxm : l[i] ∈ l := List.mem_of_getElem? hx
        have hxb : l[i] ∈ bs := (cm.so _ hxm).1
        have nK : k ≠ D := ne_of_none hk hD
        have nL : ad l[i] ≠ D := ne_of_none (each _ hxb) hD
        have nd : d ≠ D := ne_of_none hd1 hD
        refine ⟨_, fun σ' H' x => x, ?_⟩
        refine ⟨_, rfl, _, rfl, _, rfl, D, l.map V.str, _, .str l[i], rfl, rfl, SqL.of e2, atI_nat (by rw [List.getElem?_map, hx]; rfl), ?_⟩
        refine ⟨k, _, rfl, dget (s2 _ _ nK hk) hxb, ad l[i], rfl, ⟨_, SqL.of (s2 _ _ nL (each _ hxb))⟩, for_list (K := K) (a := ad l[i]) (xs := (wokenOf ws l[i]).map V.str)
          (fun j σ H3 => ∃ (l' : List Str) (y : Option V), σ = [some (.ref a), some (.ref lv), some (.ref d), some (.ref k), some (.ref D), some (.int i), y] ∧ Came bs ws fw n l' ∧ l <+: l' ∧ (∀ c ∈ (wokenOf ws l[i]).take j, 0 < fw c → c ∈ l') ∧ SameBut D H1 H3 ∧ H3 D = some (.lst (l'.map V.str)))
          ⟨l, y, rfl, cm, List.prefix_refl l, fun c hc => absurd hc (by rw [List.take_zero]; exact List.not_mem_nil), s2, e2⟩ (fun j σ H3 _ ⟨_, _, _, _, _, _, s3, _⟩ => SqL.of (s3 _ _ nL (each _ hxb))) ?_ ?_⟩
        · rintro j x σ H3 hj ⟨l', y, rfl, cm', pf, cl', s3, e4⟩
          rw [List.getElem?_map] at hj
          obtain ⟨c, hc, rfl⟩ := Option.map_eq_some_iff.mp hj
          have hw : (l[i], c) ∈ ws := mem_woken.mp (List.mem_of_getElem? hc)
          have hcb : c ∈ bs := (ok.sub _ hw).2
          have tk : ∀ z, z ∈ (wokenOf ws l[i]).take (j + 1) → z ∈ (wokenOf ws l[i]).take j ∨ z = c := by
            intro z hz
            rw [List.take_add_one, hc] at hz
            rcases List.mem_append.mp hz with hz | hz
            · exact .inl hz
            · exact .inr (List.mem_singleton.mp hz)
          refine ⟨_, rfl, _, rfl, d, _, rfl, dget (s3 _ _ nd hd1) hcb, _, _, rfl, rfl, _, rfl, ?_⟩
          have e5 : decide ((0 : Int) < ((fw c : Nat) : Int)) = decide (0 < fw c) := by
            rw [Bool.eq_iff_iff, decide_eq_true_eq, decide_eq_true_eq]
            omega
          show if decide ((0 : Int) < ((fw c : Nat) : Int)) = true then _ else _
          rw [e5]
          refine ite2 (fun e' => ?_) (fun e' => ?_)
          · refine ⟨_, rfl, _, rfl, D, _, rfl, .inl (SqL.of e4), rfl, flat_strs _, _, rfl, ?_⟩
            show if (!inV (V.str c) (l'.map V.str)) = true then _ else _
            rw [inV_strs]
            refine ite2 (fun e6 => ?_) (fun e6 => ?_)
            · have nl : c ∉ l' := by
                intro z
                rw [decide_eq_true z] at e6
                exact absurd e6 (by decide)
              have cz : l'.length ≤ 1000 := Nat.le_trans cm'.len ok.few1000
              refine ⟨_, rfl, .inl ⟨rfl, _, SqL.of e4⟩, _, rfl, D, _, _, rfl, rfl, e4, by rw [List.length_map]; exact small1000 cz, ?_⟩
              refine ⟨l' ++ [c], _, rfl, cm'.snoc (pf.subset hxm) hw hcb (of_decide_eq_true e') nl, pf.trans (List.prefix_append _ _), fun z hz p => ?_, fun b o n e => by rw [upd_ne n]; exact s3 _ _ n e, ?_⟩
              · rcases tk z hz with hz | hz
                · exact List.mem_append.mpr (.inl (cl' z hz p))
                · exact List.mem_append.mpr (.inr (List.mem_singleton.mpr hz))
              · rw [upd_same, List.map_append]
                rfl
            · have nl : c ∈ l' := by
                apply Classical.byContradiction
                intro z
                rw [decide_eq_false z] at e6
                exact e6 rfl
              refine ⟨l', _, rfl, cm', pf, fun z hz p => ?_, s3, e4⟩
              rcases tk z hz with hz | hz
              · exact cl' z hz p
              · rw [hz]; exact nl
          · refine ⟨l', _, rfl, cm', pf, fun z hz p => ?_, s3, e4⟩
            rcases tk z hz with hz | hz
            · exact cl' z hz p
            · rw [hz] at p
              exact absurd (decide_eq_true p) e'
        · rintro σ H3 ⟨l', y, rfl, cm', pf, cl', s3, e4⟩
          rw [List.length_map, List.take_length] at cl'
          have ll := pf.length_le
          have lb := cm'.len
          refine ⟨_, rfl, _, _, rfl, rfl, ?_⟩
          refine ⟨bs.length - (i + 1), by omega, i + 1, l', y, rfl, rfl, cm', by omega, fun j hj x hxj z hz p => ?_, s3, e4⟩
          by_cases ej : j = i
          · subst ej
            rw [prefix_get pf lt, hx] at hxj
            cases hxj
            exact cl' z (mem_woken.mpr hz) p
          · rw [prefix_get pf (by omega)] at hxj
            exact pf.subset (cl j (by omega) x hxj z hz p)
      · have ge : i = l.length := by
          have : ¬ i < l.length := fun z => e (decide_eq_true z)
          omega
        subst ge
        refine ⟨_, rfl, q H2 D l (fun b o e => s2 _ _ (ne_of_none (s1 _ _ e) hD) (s1 _ _ e)) HD e2 (cm.done cl) (Nat.le_trans cm.len ok.few)⟩
end
end Wb
set_option maxHeartbeats 2000000
namespace Wb
open PySem PySem.Spec PyProof.Rows L2 WbR
theorem dkS_get {bs : List Str} {g : Str → V} {i : Nat} {k : Key} {v : V} (h : (dkS bs g)[i]? = some (k, v)) : ∃ b, bs[i]? = some b ∧ k = Sum.inr b := by
  unfold dkS at h
  rw [List.getElem?_map] at h
  obtain ⟨b, hb, e⟩ := Option.map_eq_some_iff.mp h
  exact ⟨b, hb, (congrArg Prod.fst e).symm⟩
theorem filter_snoc {α : Type} {bs : List α} {p : α → Bool} {i : Nat} {b : α} (h : bs[i]? = some b) : (bs.take (i + 1)).filter p = (bs.take i).filter p ++ if p b = true then [b] else [] := by
  rw [List.take_add_one, h, List.filter_append]
  show _ ++ List.filter p [b] = _
  rw [List.filter_cons, List.filter_nil]
theorem filter_len {α : Type} {bs : List α} {p : α → Bool} {i : Nat} : ((bs.take i).filter p).length ≤ bs.length := Nat.le_trans (List.length_filter_le _ _) (by rw [List.length_take]; exact Nat.min_le_right _ _)
theorem eq_less (x y : Nat) (kb : Bool) : decide (vN x = V.int ((((true : Bool).toNat + y : Nat) : Int) - if kb = true then 1 else 0)) = decide (x + kb.toNat = 1 + y) := by
  rw [Bool.eq_iff_iff, decide_eq_true_eq, decide_eq_true_eq]
  have t1 : (true : Bool).toNat = 1 := rfl
  have t0 : (false : Bool).toNat = 0 := rfl
  cases kb
  · rw [if_neg Bool.false_ne_true, t1, t0]
    refine ⟨fun e => ?_, fun e => ?_⟩
    · have e' : ((x : Nat) : Int) = _ := V.int.inj e
      omega
    · refine congrArg V.int (a₁ := (x : Int)) ?_
      omega
  · rw [if_pos rfl, t1]
    refine ⟨fun e => ?_, fun e => ?_⟩
    · have e' : ((x : Nat) : Int) = _ := V.int.inj e
      omega
    · refine congrArg V.int (a₁ := (x : Int)) ?_
      omega
/-- a full one, as a truth -/
def fullB (ws : List (Str × Str)) (k : Str → Bool) (left : Str → Nat) (now : Str → Bool) (b : Str) : Bool := now b && decide (left b + (k b).toNat = 1 + need ws left b)
theorem fullB_iff {ws : List (Str × Str)} {k : Str → Bool} {left : Str → Nat} {now : Str → Bool} {b : Str} : fullB ws k left now b = true ↔ Full ws k left now b := by
  unfold fullB Full
  rw [Bool.and_eq_true, decide_eq_true_eq]
def freeB (bs : List Str) (ws : List (Str × Str)) (k : Str → Bool) (left : Str → Nat) (now : Str → Bool) (b : Str) : Bool :=
  now b && (decide (0 < left b) && !((wokenOf ws b).map fun c => decide (c ∈ bs.filter (fullB ws k left now)) && !decide (c = b)).any id)
theorem freeB_iff {bs : List Str} {ws : List (Str × Str)} (ok : WebOk bs ws) {k : Str → Bool} {left : Str → Nat} {now : Str → Bool} {b : Str} : freeB bs ws k left now b = true ↔ Free ws k left now b := by
  unfold freeB Free
  rw [Bool.and_eq_true, Bool.and_eq_true, decide_eq_true_eq, Bool.not_eq_true', List.any_map, List.any_eq_false]
  refine and_congr Iff.rfl (and_congr Iff.rfl ⟨fun h c m ne fl => ?_, fun h c m => ?_⟩)
  · refine h c (mem_woken.mpr m) ?_
    show (decide (c ∈ bs.filter (fullB ws k left now)) && !decide (c = b)) = true
    rw [decide_eq_true (List.mem_filter.mpr ⟨(ok.sub _ m).2, fullB_iff.mpr fl⟩), decide_eq_false ne]
    rfl
  · show ¬ (decide (c ∈ bs.filter (fullB ws k left now)) && !decide (c = b)) = true
    rw [Bool.and_eq_true, decide_eq_true_eq, Bool.not_eq_true', decide_eq_false_iff_not]
    rintro ⟨h1, h2⟩
    exact h c (mem_woken.mp m) h2 (fullB_iff.mp (List.mem_filter.mp h1).2)
section
variable {P : Program} {w : World} {K : PySem.W.Frag} {mg : Str → Option Value} {base : Heap} {C : Addr}

/-! ### free_one -/
def spFreeOne (K : PySem.W.Frag) : Sp := fun vs H Q _ => ∃ (kw kr d n kp : Addr) (bs : List Str) (ws : List (Str × Str)) (left : Str → Nat) (now : Str → Bool) (zs : List Str), vs = [.ref kw, .ref kr, .ref d, .ref n, .ref kp] ∧ ListsAt H kw bs (wokenOf ws) ∧ ListsAt H kr bs (wakersOf ws) ∧
  H d = some (dN bs left) ∧ H n = some (dBl bs now) ∧ H kp = some (.tup (zs.map V.str)) ∧ WebOk bs ws ∧ (∃ c ∈ bs, Free ws (fun b => decide (b ∈ zs)) left now c) ∧ ∀ b ∈ bs, Free ws (fun b => decide (b ∈ zs)) left now b → ∀ H', Same H H' → Q (.str b) H'
theorem sc_free_one : FnScope ["woken", "wakers", "left", "now", "kept", "full", "name", "other"] ["woken", "wakers", "left", "now", "kept"] (defScope s_free_one) := ⟨rfl, rfl, rfl, by decide +kernel, rfl, by decide +kernel, by decide +kernel⟩
theorem has_free_one (E : Env K mg C) (F : Def K mg "free_one" s_free_one) (h1 : Has P w K mg base "let" 1 ["wished", "wakers", "name", "is_live"] spLet) : Has P w K mg base "free_one" 2 ["woken", "wakers", "left", "now", "kept"] (spFreeOne K) := by
  obtain ⟨f1, fd1, G1, g1, kp1, b1⟩ := h1.ex
  refine has_mk F sc_free_one (fun _ _ _ _ _ _ us hl => match us, hl with | [_, _, _, _, _], _ => rfl) (fun vs H Q E h => ?_) (fun f cdv A outer s H vs Q E' hr h => ?_)
  · obtain ⟨_, _, _, _, _, _, _, _, _, _, rfl, _⟩ := h
    rfl
  · obtain ⟨kw, kr, d, n, kp, bs, ws, left, now, zs, rfl, lw, lr, hd, hn, hk, ok, free, q⟩ := h
    have hu := hu_of hr
    refine ⟨_, pss_cons (ps_set (i := 5) sc_free_one.nd rfl (.inr rfl) (pe_lst pa_nil))
      (pss_cons (ps_lock (ps_for PassesOwn.never rfl (pi_keys (pv 3)) (pg_name (i := 6) sc_free_one.nd rfl (.inr rfl))
        (pss_one (ps_if (PW.pt (pw_and (pt_val (pe_dget hu (pv 3) (pv 6) (fun _ _ => rfl)))
          (pw_and1 (pt_cmpR op_eq (pe_dget hu (pv 2) (pv 6) (fun _ _ => rfl)) (pe_op op_sub (pe_call G1 hr (by rfl) g1 kp1 b1 .nil pass0 (pa_cons (pv 2) (pa_cons (pv 1) (pa_cons (pv 6) (pa_cons pe_bl pa_nil)))))
            (pe_callTy call_int1 (by rfl) E.int boot_int (pa_cons (pe_cmpR (show OpR _ _ (rIn K false) from op_in_seq) (pv 6) (pv 4) (by rfl)) pa_nil))) (nomark _)))))
          (pss_one (ps_expr (pe_bm PySem.F.plainAttrs_list PySem.F.slot_list_append PySem.F.type_list_append mt_append (pv 5) (pa_cons (pv 6) pa_nil)))) pss_nil))))
      (pss_cons (ps_lock (ps_for PassesOwn.never rfl (pi_keys (pv 3)) (pg_name (i := 6) sc_free_one.nd rfl (.inr rfl))
        (pss_one (ps_if (PW.pt (pw_and (pt_val (pe_dget hu (pv 3) (pv 6) (fun _ _ => rfl)))
          (pw_and (pt_cmpR op_gt (pe_dget hu (pv 2) (pv 6) (fun _ _ => rfl)) pe_int (nomark _))
          (pw_and1 (pt_not (pt_val (pe_callB (cr_any rfl) (by rfl) E.any boot_any (pa_cons (pe_lc (own := [("other", 7)]) (g := gName 7) (tt := tYes) (by rfl) sc_free_one.nd
            (pi_list (pe_dget hu (pv 0) (pv 6) (fun _ _ => rfl))) (blkOk_by (own := [("other", 7)]) (N := ["woken", "wakers", "left", "now", "kept", "full", "name", "other"]) (sc := defScope s_free_one) (by decide +kernel)) (fun _ _ _ _ _ => pg_name (i := 7) sc_free_one.nd rfl (Or.inl rfl))
            (fun _ _ _ _ _ => pts_nil) (fun _ _ _ _ _ => pe_and (pe_cmpR (show OpR _ _ (rIn K false) from op_in_seq) (pv 7) (pv 5) (by rfl)) (pe_one (pe_cmpR op_ne (pv 7) (pv 6) (by rfl))))) pa_nil))))))))
          (pss_one (ps_ret (pv 6))) pss_nil))))
      (pss_one ps_never))), ?_⟩
    refine ⟨Nat.zero_le _, fun Fa hFa => ?_⟩
    obtain ⟨aw, hw, eachw⟩ := lw.ex
    obtain ⟨ar, hkr, eachr⟩ := lr.ex
    have sF := same_upd (o := .lst []) hFa
    refine ⟨n, dBl bs now, sF _ _ hn, trivial, fun od => ?_⟩
    have nF : n ≠ Fa := ne_of_none hn hFa
    -- what stands while now is locked
    have lockd : ∀ {H2 : Hp} {od : Obj} {b : Addr} {o : HO}, SameBut Fa H H2 → b ≠ n → H b = some o → upd H2 n (.frz od (dBl bs now)) b = some o := by
      intro H2 od b o s2 nb e
      rw [upd_ne nb]
      exact s2 _ _ (ne_of_none e hFa) e
    have dn : d ≠ n := fun z => by
      rw [z, hn] at hd
      have e1 := Option.some.inj hd
      obtain ⟨c, hc, _⟩ := free
      have e2 := valV_dkS (g := fun c => V.bl (now c)) hc
      have e3 : dkS bs (fun c => V.bl (now c)) = dkS bs (fun c => vN (left c)) := by injection e1
      rw [e3, valV_dkS hc] at e2
      cases e2
    have wn : kw ≠ n := fun z => by
      rw [z, hn] at hw
      have e1 := Option.some.inj hw
      obtain ⟨c, hc, _⟩ := free
      have e2 := valV_dkS (g := fun c => V.bl (now c)) hc
      have e3 : dkS bs (fun c => V.bl (now c)) = dkS bs (fun c => V.ref (aw c)) := by injection e1
      rw [e3, valV_dkS hc] at e2
      cases e2
    have rn : kr ≠ n := fun z => by
      rw [z, hn] at hkr
      have e1 := Option.some.inj hkr
      obtain ⟨c, hc, _⟩ := free
      have e2 := valV_dkS (g := fun c => V.bl (now c)) hc
      have e3 : dkS bs (fun c => V.bl (now c)) = dkS bs (fun c => V.ref (ar c)) := by injection e1
      rw [e3, valV_dkS hc] at e2
      cases e2
    have kn : kp ≠ n := ne_of hk hn (fun z => nomatch z)
    have awn : ∀ b ∈ bs, aw b ≠ n := fun b hb => ne_of (eachw b hb) hn (fun z => nomatch z)
    have arn : ∀ b ∈ bs, ar b ≠ n := fun b hb => ne_of (eachr b hb) hn (fun z => nomatch z)
    -- the first loop's heaps
    let Hn : Hp := upd (upd H Fa (.lst [])) n (.frz od (dBl bs now))
    have hnn : Hn n = some (.frz od (dBl bs now)) := upd_same
    have inHn : ∀ {b : Addr} {o : HO}, b ≠ n → H b = some o → Hn b = some o := fun nb e => lockd (H2 := upd H Fa (.lst [])) (Same.but sF) nb e
    have hFn : Hn Fa = some (.lst []) := by
      show upd _ n _ Fa = _
      rw [upd_ne (Ne.symm nF), upd_same]
    refine ⟨_, rfl, n, od, rfl, .inl ⟨_, hnn, for_it walk_keys (fun i σ H3 => ∃ y6 y7, σ = [some (.ref kw), some (.ref kr), some (.ref d), some (.ref n), some (.ref kp), some (.ref Fa), y6, y7] ∧ SameBut Fa Hn H3 ∧ H3 Fa = some (.lst (((bs.take i).filter (fullB ws (fun b => decide (b ∈ zs)) left now)).map V.str)))
      ⟨none, none, rfl, fun b o _ e => e, hFn⟩ (fun i σ H3 _ ⟨_, _, _, s3, _⟩ => s3 _ _ nF hnn) ?_ ?_⟩⟩
    · rintro i x σ H3 H3' hi ⟨y6, y7, rfl, s3, e3⟩ ⟨rfl, kk, v, hkv, rfl⟩
      obtain ⟨b, hb, rfl⟩ := dkS_get hkv
      have hbb : b ∈ bs := List.mem_of_getElem? hb
      have fs := filter_snoc (p := fullB ws (fun b => decide (b ∈ zs)) left now) hb
      have dF : d ≠ Fa := ne_of_none hd hFa
      refine ⟨_, rfl, _, rfl, n, _, rfl, dgetR (.inr ⟨od, s3 _ _ nF hnn⟩) hbb, _, rfl, ?_⟩
      cases nb : now b with
      | false =>
        refine iteF ?_
        refine iteF ⟨_, _, rfl, s3, ?_⟩
        have : fullB ws (fun b => decide (b ∈ zs)) left now b = false := by unfold fullB; rw [nb]; rfl
        rw [fs, this, if_neg Bool.false_ne_true, List.append_nil]
        exact e3
      | true =>
        refine iteT ?_
        refine ⟨_, rfl, _, rfl, d, _, rfl, dget (s3 _ _ dF (inHn dn hd)) hbb, ?_⟩
        refine ⟨_, rfl, _, rfl, _, rfl, d, kr, b, true, bs, ws, left, rfl, s3 _ _ dF (inHn dn hd), ⟨ar, s3 _ _ (ne_of_none hkr hFa) (inHn rn hkr), fun c hc => s3 _ _ (ne_of_none (eachr c hc) hFa) (inHn (arn c hc) (eachr c hc))⟩, hbb, ok, fun H4 s4 => ?_⟩
        refine ⟨_, rfl, _, rfl, kp, _, rfl, .inr (SqT.of (s4 _ _ (s3 _ _ (ne_of_none hk hFa) (inHn kn hk)))), rfl, flat_strs _, .inr ⟨_, rfl, ?_⟩⟩
        refine ⟨_, _, rfl, rfl, rfl, _, rfl, ?_⟩
        have e5 : decide (vN (left b) = V.int ((((true : Bool).toNat + need ws left b : Nat) : Int) - if inV (V.str b) (zs.map V.str) = true then 1 else 0)) = decide (left b + (decide (b ∈ zs)).toNat = 1 + need ws left b) := by
          rw [inV_strs]
          exact eq_less ..
        have fb : fullB ws (fun b => decide (b ∈ zs)) left now b = decide (left b + (decide (b ∈ zs)).toNat = 1 + need ws left b) := by unfold fullB; rw [nb]; rfl
        have s5 : SameBut Fa Hn H4 := fun c o ne e => s4 _ _ (s3 _ _ ne e)
        have e6 := s4 _ _ e3
        refine ite2 (fun e => ?_) (fun e => ?_)
        · replace e := e5.symm.trans e
          rw [← fb] at e
          refine ⟨_, rfl, .inl ⟨rfl, _, SqL.of e6⟩, _, rfl, Fa, _, _, rfl, rfl, e6, by rw [List.length_map]; exact small1000 (Nat.le_trans filter_len ok.few1000), _, _, rfl, fun c o ne e => by rw [upd_ne ne]; exact s5 _ _ ne e, ?_⟩
          rw [upd_same, fs, if_pos e, List.map_append]
          rfl
        · have e' : fullB ws (fun b => decide (b ∈ zs)) left now b ≠ true := fun z => e (e5.trans (fb.symm.trans z))
          refine ⟨_, _, rfl, s5, ?_⟩
          rw [fs, if_neg e', List.append_nil]
          exact e6
    · rintro σ H3 ⟨y6, y7, rfl, s3, e3⟩
      rw [dkS_len, List.take_length] at e3
      refine ⟨s3 _ _ nF hnn, ?_⟩
      have s3' : ∀ {b : Addr} {o : HO}, b ≠ n → H b = some o → H3 b = some o := fun nb e => s3 _ _ (ne_of_none e hFa) (inHn nb e)
      refine ⟨n, dBl bs now, upd_same, trivial, fun od2 => ?_⟩
      have h4 : upd (upd H3 n (dBl bs now)) n (.frz od2 (dBl bs now)) = upd H3 n (.frz od2 (dBl bs now)) := upd_upd
      rw [h4]
      have hnn2 : upd H3 n (.frz od2 (dBl bs now)) n = some (.frz od2 (dBl bs now)) := upd_same
      have in4 : ∀ {b : Addr} {o : HO}, b ≠ n → H3 b = some o → upd H3 n (.frz od2 (dBl bs now)) b = some o := fun nb e => by rw [upd_ne nb]; exact e
      refine ⟨_, rfl, n, od2, rfl, .inl ⟨_, hnn2, for_it walk_keys (fun i σ H5 => ∃ y6 y7, σ = [some (.ref kw), some (.ref kr), some (.ref d), some (.ref n), some (.ref kp), some (.ref Fa), y6, y7] ∧ Same (upd H3 n (.frz od2 (dBl bs now))) H5 ∧ ∀ b ∈ bs.take i, ¬ Free ws (fun b => decide (b ∈ zs)) left now b)
        ⟨y6, y7, rfl, Same.refl _, fun b hb => absurd hb (by rw [List.take_zero]; exact List.not_mem_nil)⟩ (fun i σ H5 _ ⟨_, _, _, s5, _⟩ => s5 _ _ hnn2) ?_ ?_⟩⟩
      · rintro i x σ H5x H5 hi ⟨z6, z7, rfl, s5, nf⟩ ⟨rfl, kk, v, hkv, rfl⟩
        obtain ⟨b, hb, rfl⟩ := dkS_get hkv
        have hbb : b ∈ bs := List.mem_of_getElem? hb
        have fi := freeB_iff ok (k := fun b => decide (b ∈ zs)) (left := left) (now := now) (b := b)
        have nx : freeB bs ws (fun b => decide (b ∈ zs)) left now b = false → ∀ c ∈ bs.take (i + 1), ¬ Free ws (fun b => decide (b ∈ zs)) left now c := by
          intro e c hc
          rw [take_snoc hb] at hc
          rcases List.mem_append.mp hc with hc | hc
          · exact nf c hc
          · rw [List.mem_singleton.mp hc]
            intro z
            rw [fi.mpr z] at e
            cases e
        have s35 : ∀ {b : Addr} {o : HO}, b ≠ n → H b = some o → H5 b = some o := fun nb e => s5 _ _ (in4 nb (s3' nb e))
        refine ⟨_, rfl, _, rfl, n, _, rfl, dgetR (.inr ⟨od2, s5 _ _ hnn2⟩) hbb, _, rfl, ?_⟩
        cases nb : now b with
        | false =>
          refine iteF ?_
          exact iteF ⟨_, _, rfl, s5, nx (by unfold freeB; rw [nb]; rfl)⟩
        | true =>
          refine iteT ?_
          refine ⟨_, rfl, _, rfl, d, _, rfl, dget (s35 dn hd) hbb, _, _, rfl, rfl, _, rfl, ?_⟩
          have e5 : decide ((0 : Int) < ((left b : Nat) : Int)) = decide (0 < left b) := by
            rw [Bool.eq_iff_iff, decide_eq_true_eq, decide_eq_true_eq]
            omega
          show if decide ((0 : Int) < ((left b : Nat) : Int)) = true then _ else _
          rw [e5]
          cases lb : decide (0 < left b) with
          | false =>
            refine iteF ?_
            exact iteF ⟨_, _, rfl, s5, nx (by unfold freeB; rw [nb, lb]; rfl)⟩
          | true =>
            refine iteT ?_
            have hFn' : H5 Fa = some (.lst ((bs.filter (fullB ws (fun b => decide (b ∈ zs)) left now)).map V.str)) := s5 _ _ (in4 (Ne.symm nF) e3)
            refine ⟨_, rfl, _, rfl, kw, _, rfl, dget (s35 wn hw) hbb, aw b, rfl, ⟨_, SqL.of (s35 (awn b hbb) (eachw b hbb))⟩, fun D hD => ?_⟩
            have sD := same_upd (o := .lst []) hD
            refine lc_pureL (K := K) (a := aw b) (xs := (wokenOf ws b).map V.str) (onS fun c => .bl (decide (c ∈ bs.filter (fullB ws (fun b => decide (b ∈ zs)) left now)) && !decide (c = b))) (SqL.of (s35 (awn b hbb) (eachw b hbb))) hD (by rw [List.length_map]; exact Nat.le_trans (wokenOf_len ws b) (Nat.le_trans ok.fewW (by decide))) (fun j x acc R1 R0 hx h0 h1 => ?_) ?_
            · rw [List.getElem?_map] at hx
              obtain ⟨c, hc, rfl⟩ := Option.map_eq_some_iff.mp hx
              refine ⟨rfl, yesT ?_⟩
              refine ⟨_, rfl, _, rfl, Fa, _, rfl, .inl (Same.seq (same_upd hD) (SqL.of hFn')), rfl, flat_strs _, _, rfl, ?_⟩
              have e6 : inV (V.str c) ((bs.filter (fullB ws (fun b => decide (b ∈ zs)) left now)).map V.str) = decide (c ∈ bs.filter (fullB ws (fun b => decide (b ∈ zs)) left now)) := inV_strs _ _
              replace h1 := h1 _ rfl
              revert h1
              show R1 (V.bl (decide (c ∈ bs.filter (fullB ws (fun b => decide (b ∈ zs)) left now)) && !decide (c = b))) _ → if inV (V.str c) ((bs.filter (fullB ws (fun b => decide (b ∈ zs)) left now)).map V.str) = true then _ else _
              rw [e6]
              cases m : decide (c ∈ bs.filter (fullB ws (fun b => decide (b ∈ zs)) left now)) with
              | false => exact fun h1 => iteF h1
              | true =>
                intro h1
                refine iteT ⟨_, rfl, _, rfl, rfl, ?_⟩
                have e7 : decide (V.str c = V.str b) = decide (c = b) := by
                  rw [Bool.eq_iff_iff, decide_eq_true_eq, decide_eq_true_eq]
                  exact ⟨fun e => V.str.inj e, fun e => by rw [e]⟩
                show R1 (V.bl (!decide (V.str c = V.str b))) _
                rw [e7]
                exact h1
            · refine ⟨D, (wokenOf ws b).map fun c => decide (c ∈ bs.filter (fullB ws (fun b => decide (b ∈ zs)) left now)) && !decide (c = b), rfl, SqL.of ?_, _, rfl, ?_⟩
              · rw [upd_same, filterMap_onS, List.map_map]
                rfl
              · have fe : freeB bs ws (fun b => decide (b ∈ zs)) left now b = !((wokenOf ws b).map fun c => decide (c ∈ bs.filter (fullB ws (fun b => decide (b ∈ zs)) left now)) && !decide (c = b)).any id := by unfold freeB; rw [nb, lb]; rfl
                show if (!((wokenOf ws b).map fun c => decide (c ∈ bs.filter (fullB ws (fun b => decide (b ∈ zs)) left now)) && !decide (c = b)).any id) = true then _ else _
                rw [← fe]
                have s6 := s5.trans (same_upd (o := .lst (List.filterMap (onS fun c => .bl (decide (c ∈ bs.filter (fullB ws (fun b => decide (b ∈ zs)) left now)) && !decide (c = b))) ((wokenOf ws b).map V.str))) hD)
                refine ite2 (fun e => ?_) (fun e => ?_)
                · refine ⟨_, rfl, s6 _ _ hnn2, q b hbb (fi.mp e) _ fun c o e => ?_⟩
                  by_cases cn : c = n
                  · rw [cn, upd_same]
                    rw [cn, hn] at e
                    exact e
                  · rw [upd_ne cn]
                    exact s6 _ _ (in4 cn (s3' cn e))
                · refine ⟨_, _, rfl, s6, nx ?_⟩
                  cases z : freeB bs ws (fun b => decide (b ∈ zs)) left now b with
                  | true => exact absurd z e
                  | false => rfl
      · rintro σ H5 ⟨z6, z7, rfl, s5, nf⟩
        rw [dkS_len, List.take_length] at nf
        obtain ⟨c, hc, fr⟩ := free
        exact absurd fr (nf c hc)
end
end Wb
set_option maxHeartbeats 2000000
namespace Wb
open PySem PySem.Spec PyProof.Rows L2 WbR
theorem setV_n (f : Str → Nat) (x : Str) {v : Int} (h : v = ((f x - 1 : Nat) : Int)) : setV (fun c => vN (f c)) x (.int v) = fun c => vN (dec f x c) := by
  funext c
  unfold setV
  by_cases e : c = x
  · rw [if_pos e, e, dec_self, h]
    rfl
  · rw [if_neg e, dec_ne e]
theorem sum_vals (bs : List Str) (f : Str → Nat) : (dkS bs fun c => vN (f c)).map Prod.snd = ((bs.map f).map fun n : Nat => (n : Int)).map V.int := by
  unfold dkS
  rw [List.map_map, List.map_map, List.map_map]
  rfl
section
variable {P : Program} {w : World} {K : PySem.W.Frag} {mg : Str → Option Value} {base : Heap} {C : Addr}

/-! ### rung_out -/
def spRungOut (C : Addr) : Sp := fun vs H Q _ => ∃ (a d kp : Addr) (bs : List Str) (ws : List (Str × Str)) (f : Str → Nat) (zs : List Str), vs = [.ref a, .ref d, .ref kp, .ref kp] ∧ WebAt C H a bs ws ∧ WebOk bs ws ∧ H d = some (dN bs f) ∧ H kp = some (.tup (zs.map V.str)) ∧
  Inv bs ws (fun b => decide (b ∈ zs)) f (fun b => decide (b ∈ zs)) ∧ (bs.map f).sum ≤ 200 ∧ ∀ H' p, Same H H' → Q (.ref p) H'
theorem sc_rung_out : FnScope ["web", "wished", "live", "kept", "woken", "wakers", "left", "found", "now", "turn", "name"] ["web", "wished", "live", "kept"] (defScope s_rung_out) := ⟨rfl, rfl, rfl, by decide +kernel, rfl, by decide +kernel, by decide +kernel⟩
theorem has_rung_out (E : Env K mg C) (F : Def K mg "rung_out" s_rung_out) (h1 : Has P w K mg base "wakes_of" 1 ["web"] (spWakesOf C)) (h2 : Has P w K mg base "wakers_of" 1 ["web"] (spWakersOf C))
    (h3 : Has P w K mg base "free_one" 2 ["woken", "wakers", "left", "now", "kept"] (spFreeOne K)) (h4 : Has P w K mg base "rung" 1 ["now", "woken", "name"] spRung) : Has P w K mg base "rung_out" 3 ["web", "wished", "live", "kept"] (spRungOut C) := by
  obtain ⟨f1, fd1, G1, g1, kp1, b1⟩ := h1.ex
  obtain ⟨f2, fd2, G2, g2, kp2, b2⟩ := h2.ex
  obtain ⟨f3, fd3, G3, g3, kp3, b3⟩ := h3.ex
  obtain ⟨f4, fd4, G4, g4, kp4, b4⟩ := h4.ex
  refine has_mk F sc_rung_out (fun _ _ _ _ _ _ us hl => match us, hl with | [_, _, _, _], _ => rfl) (fun vs H Q E h => ?_) (fun f cdv A outer s H vs Q E' hr h => ?_)
  · obtain ⟨_, _, _, _, _, _, _, rfl, _⟩ := h
    rfl
  · obtain ⟨a, d, kp, bs, ws, fw, zs, rfl, wa, ok, hd, hk, iv, small, q⟩ := h
    have hu := hu_of hr
    refine ⟨_, pss_cons (ps_asg (pe_tup (pa_cons (pe_call G1 (hr.mono (by decide)) (by rfl) g1 kp1 b1 .nil pass0 (pa_cons (pv 0) pa_nil)) (pa_cons (pe_call G2 (hr.mono (by decide)) (by rfl) g2 kp2 b2 .nil pass0 (pa_cons (pv 0) pa_nil))
        (pa_cons (pe_callTy call_dictD (by rfl) E.dict boot_dict (pa_cons (pv 1) pa_nil)) (pa_cons (pe_lst pa_nil) pa_nil)))))
        (pg_tup rfl (pgs_cons (pg_name (i := 4) sc_rung_out.nd rfl (.inl rfl)) (pgs_cons (pg_name (i := 5) sc_rung_out.nd rfl (.inl rfl)) (pgs_cons (pg_name (i := 6) sc_rung_out.nd rfl (.inl rfl)) (pgs_cons (pg_name (i := 7) sc_rung_out.nd rfl (.inl rfl)) pgs_nil))))))
      (pss_cons (ps_setDc (i := 8) (own := [("name", 10)]) (g := gName 10) (tt := tYes) rfl sc_rung_out.nd rfl rfl (swap_dc rfl rfl rfl (by decide +kernel)) (pi_tup (pe_fld (pv 0) rfl))
        (blkOk_by (own := [("name", 10)]) (N := ["web", "wished", "live", "kept", "woken", "wakers", "left", "found", "now", "turn", "name"]) (sc := defScope s_rung_out) (by decide +kernel)) (fun _ _ _ _ _ => pg_name (i := 10) sc_rung_out.nd rfl (Or.inl rfl))
        (fun _ _ _ _ _ => pts_nil) (fun _ _ _ _ _ => pv 10) (fun _ _ _ _ _ => pe_cmpR (show OpR _ _ (rIn K false) from op_in_seq) (pv 10) (pv 2) (by rfl)))
      (pss_cons (ps_for PassesOwn.never rfl (pi_range1 (by rfl) E.range (pa_cons (pe_sumVals rfl (by rfl) E.sum (pv 1)) pa_nil)) (pg_name (i := 9) sc_rung_out.nd rfl (.inl rfl))
        (pss_cons (ps_set (i := 10) sc_rung_out.nd rfl (.inl rfl) (pe_call G3 hr (by rfl) g3 kp3 b3 .nil pass0 (pa_cons (pv 4) (pa_cons (pv 5) (pa_cons (pv 6) (pa_cons (pv 8) (pa_cons (pv 3) pa_nil)))))))
        (pss_cons (ps_expr (pe_bm PySem.F.plainAttrs_list PySem.F.slot_list_append PySem.F.type_list_append mt_append (pv 7) (pa_cons (pv 10) pa_nil)))
        (pss_cons (ps_daug hu (pv 6) (pv 10) pe_int in_sub (by intros; rfl))
        (pss_one (ps_expr (pe_call G4 (hr.mono (by decide)) (by rfl) g4 kp4 b4 .nil pass0 (pa_cons (pv 8) (pa_cons (pv 4) (pa_cons (pv 10) pa_nil))))))))))
      (pss_one (ps_ret (pe_callTy call_tuple_of (by rfl) E.tuple boot_tuple (pa_cons (pv 7) pa_nil)))))), ?_⟩
    refine ⟨_, rfl, a, bs, ws, rfl, wa, ok, fun H1 kw s1 nw lw => ?_⟩
    refine ⟨_, rfl, a, bs, ws, rfl, wa.mono s1, ok, fun H2 kr s2 nr lr0 => ?_⟩
    have s02 := s1.trans s2
    have lw0 := lw.mono s2
    have hd2 := s02 _ _ hd
    have hk2 := s02 _ _ hk
    obtain ⟨aw, hw, eachw⟩ := lw0.ex
    obtain ⟨ar, hkr, eachr⟩ := lr0.ex
    obtain ⟨dx, B, W, ps, ob, ha, hB, hW, hps⟩ := wa.mono s02
    refine ⟨_, rfl, d, _, rfl, Rd.of hd2, fun L hL => ?_⟩
    refine ⟨Nat.zero_le _, fun Fa hF => ?_⟩
    have LF : L ≠ Fa := ne_of_none upd_same hF
    have hF2 : H2 Fa = none := by rw [upd_ne (Ne.symm LF)] at hF; exact hF
    have s3 : Same H2 (upd (upd H2 L (dN bs fw)) Fa (.lst [])) := (same_upd hL).trans (same_upd hF)
    refine ⟨(show 4 ≤ sizeLine by decide), fun T hT => ?_⟩
    have hT2 : H2 T = none := Same.free s3 hT
    have s4 := s3.trans (same_upd (o := .tup [.ref kw, .ref kr, .ref L, .ref Fa]) hT)
    refine ⟨T, _, rfl, SqT.of upd_same, rfl, _, _, rfl, _, _, rfl, _, _, rfl, _, _, rfl, rfl, ?_⟩
    have TL : T ≠ L := (ne_of_none (o := dN bs fw) (by rw [upd_ne LF, upd_same]) hT).symm
    have TF : T ≠ Fa := (ne_of_none (o := .lst []) upd_same hT).symm
    generalize hX : upd (upd (upd H2 L (dN bs fw)) Fa (.lst [])) T (.tup [.ref kw, .ref kr, .ref L, .ref Fa]) = Hc at *
    have cL : Hc L = some (dN bs fw) := by rw [← hX, upd_ne (Ne.symm TL), upd_ne LF, upd_same]
    have cF : Hc Fa = some (.lst []) := by rw [← hX, upd_ne (Ne.symm TF), upd_same]
    refine ⟨_, rfl, a, C, dx, _, _, rfl, s4 _ _ ha, E.cl, E.nB, wflds_bells B W, B, rfl, ⟨_, sqz (s4 _ _ hB)⟩, fun N hN => ?_⟩
    have hN2 : H2 N = none := Same.free s4 hN
    have LN : L ≠ N := ne_of_none cL hN
    have FN : Fa ≠ N := ne_of_none cF hN
    refine dc_tup (K := K) (a := B) (xs := bs.map V.str) (fun i H3 => H3 = upd Hc N (.dK (dkS (bs.take i) fun c => .bl (decide (c ∈ zs))))) rfl
      (fun i H3 _ x => by rw [x]; exact Same.seqT (same_upd hN) (sqz (s4 _ _ hB))) (fun i x H3 hi e3 => ?_) (fun H3 e3 => ?_)
    · rw [List.getElem?_map] at hi
      obtain ⟨b, hb, rfl⟩ := Option.map_eq_some_iff.mp hi
      subst e3
      refine ⟨rfl, yesG ?_⟩
      refine ⟨_, rfl, _, rfl, _, rfl, kp, _, rfl, .inr (SqT.of (by rw [upd_ne (ne_of_none (s4 _ _ hk2) hN)]; exact s4 _ _ hk2)), rfl, flat_strs _, ?_⟩
      refine ⟨dkS (bs.take i) fun c => .bl (decide (c ∈ zs)), Sum.inr b, rfl, upd_same, ?_, ?_⟩
      · rw [dkS_len, List.length_take]
        exact small1000 (Nat.le_trans (Nat.min_le_right _ _) ok.few1000)
      · have e5 : inV (V.str b) (zs.map V.str) = decide (b ∈ zs) := inV_strs _ _
        show upd (upd Hc N _) N (.dK (putK (dkS (bs.take i) fun c => .bl (decide (c ∈ zs))) (Sum.inr b) (.bl (inV (V.str b) (zs.map V.str))))) = _
        rw [upd_upd, e5, take_snoc hb, putK_dkS_new (not_mem_take ok.nd hb) rfl]
    · rw [List.length_map, List.take_length] at e3
      subst e3
      have s5 : Same H2 (upd Hc N (dBl bs fun c => decide (c ∈ zs))) := s4.trans (same_upd hN)
      refine ⟨_, rfl, d, _, _, rfl, s5 _ _ hd2, sum_vals bs fw, ?_⟩
      rw [sum_cast]
      refine ⟨_, rfl, by omega, by omega, ?_⟩
      rw [Int.toNat_natCast]
      refine for_range (lo := 0) (fun i σ H5 => ∃ (y9 y10 : Option V) (lf : Str → Nat) (now : Str → Bool) (l : List V), σ = [some (.ref a), some (.ref d), some (.ref kp), some (.ref kp), some (.ref kw), some (.ref kr), some (.ref L), some (.ref Fa), some (.ref N), y9, y10] ∧
          Same H2 H5 ∧ H5 L = some (dN bs lf) ∧ H5 N = some (dBl bs now) ∧ H5 Fa = some (.lst l) ∧ l.length = i ∧ Inv bs ws (fun b => decide (b ∈ zs)) lf now ∧ (bs.map lf).sum + i = (bs.map fw).sum)
        ⟨none, none, fw, _, [], rfl, s5, by rw [upd_ne LN]; exact cL, upd_same, by rw [upd_ne FN]; exact cF, rfl, iv, rfl⟩ ?_ ?_
      · rintro i σ H5 hi ⟨y9, y10, lf, now, l, rfl, s6, eL, eN, eF, ll, inv, tot⟩
        obtain ⟨b0, hb0, p0⟩ := pos_of_sum (f := lf) (l := bs) (by omega)
        refine ⟨_, rfl, _, rfl, _, rfl, _, rfl, _, rfl, kw, kr, L, N, kp, bs, ws, lf, now, zs, rfl, lw0.mono s6, lr0.mono s6, eL, eN, s6 _ _ hk2, ok, progress ok.sub inv hb0 p0, fun b hb fr H6 s7 => ?_⟩
        have s8 := s6.trans s7
        refine ⟨_, rfl, .inl ⟨rfl, _, SqL.of (s7 _ _ eF)⟩, _, rfl, Fa, l, _, rfl, rfl, s7 _ _ eF, small1000 (by omega), ?_⟩
        have eL7 : upd H6 Fa (.lst (l ++ [.str b])) L = some (dN bs lf) := by rw [upd_ne LF]; exact s7 _ _ eL
        refine ⟨_, rfl, _, rfl, L, _, rfl, dget eL7 hb, _, _, rfl, rfl, _, dput eL7 hb ok.few1000, ?_⟩
        have lp : 0 < lf b := fr.2.1
        rw [setV_n lf b (by omega)]
        have s9 : Same H2 (upd (upd H6 Fa (.lst (l ++ [.str b]))) L (.dK (dkS bs fun c => vN (dec lf b c)))) := fun c o e => by
          rw [upd_ne (ne_of_none e hL), upd_ne (ne_of_none e hF2)]
          exact s8 _ _ e
        refine ⟨_, rfl, _, rfl, _, rfl, N, kw, b, bs, ws, now, rfl, by rw [upd_ne (Ne.symm LN), upd_ne (Ne.symm FN)]; exact s7 _ _ eN, lw0.mono s9, hb, ok, fun H7 eN7 s10 => ?_⟩
        have sd := sum_dec (f := lf) lp ok.nd
        rw [if_pos hb] at sd
        refine ⟨_, _, dec lf b, ringNow ws now b, l ++ [.str b], rfl, fun c o e => s10 _ _ (ne_of_none e hN2) (s9 _ _ e), s10 _ _ LN upd_same, eN7, s10 _ _ FN (by rw [upd_ne (Ne.symm LF), upd_same]), ?_, inv.ring ok.sub ok.ndw hb fr, by omega⟩
        rw [List.length_append, ll]
        rfl
      · rintro σ H5 ⟨y9, y10, lf, now, l, rfl, s6, eL, eN, eF, ll, inv, tot⟩
        refine ⟨_, rfl, Fa, l, rfl, .inl ⟨SqL.of eF, fun p hp => q _ p ((s02.trans s6).trans (same_upd hp))⟩⟩
end
end Wb
set_option maxHeartbeats 2000000
/-! Wakebells: lists and tuples of texts as data. -/
namespace Wb
open PySem PySem.Spec PyProof.Rows L2 WbR
def okS (z : Str) : Prop := PyData.canLay0 (.str z) = true
theorem low_letters : letters.cps.toList.all (fun c => decide (c < 0x110000)) = true := by decide +kernel
theorem NameOk.okS {z : Str} (h : NameOk z) : okS z := by
  show PyData.canLay0 (.str z) = true
  unfold PyData.canLay0
  show z.cps.all (· < 0x110000) = true
  rw [Array.all_eq_true']
  intro c hc
  exact List.all_eq_true.mp low_letters c (h.low c (by simpa using hc))
/-- texts as data, in a list, in a tuple -/
abbrev dsS (zs : List Str) : List PyData := zs.map PyData.str
abbrev dLs (zs : List Str) : PyData := .list (dsS zs)
abbrev dTs (zs : List Str) : PyData := .tuple (dsS zs)
theorem eqvAll_strs : ∀ a b : List Str, PyData.eqvAll (dsS a) (dsS b) = decide (a = b)
  | [], [] => by simp [dsS, PyData.eqvAll]
  | [], _ :: _ => by simp [dsS, PyData.eqvAll]
  | _ :: _, [] => by simp [dsS, PyData.eqvAll]
  | x :: xs, y :: ys => by
    show PyData.eqvAll (.str x :: dsS xs) (.str y :: dsS ys) = _
    rw [PyData.eqvAll, PyData.eqv, eqvAll_strs xs ys, Bool.eq_iff_iff, Bool.and_eq_true, beq_iff_eq, decide_eq_true_eq, decide_eq_true_eq]
    exact ⟨fun ⟨h1, h2⟩ => by rw [h1, h2], fun h => by cases h; exact ⟨rfl, rfl⟩⟩
theorem eqv_ls (a b : List Str) : PyData.eqv (dLs a) (dLs b) = decide (a = b) := by
  rw [PyData.eqv]
  exact eqvAll_strs a b
theorem eqv_ts (a b : List Str) : PyData.eqv (dTs a) (dTs b) = decide (a = b) := by
  rw [PyData.eqv]
  exact eqvAll_strs a b
theorem lay_strs : ∀ {zs : List Str}, (∀ z ∈ zs, okS z) → PyData.canLayAll0 (dsS zs) = true
  | [], _ => by simp [dsS, PyData.canLayAll0]
  | z :: zs, h => by
    show PyData.canLayAll0 (.str z :: dsS zs) = true
    rw [PyData.canLayAll0, Bool.and_eq_true]
    exact ⟨h z List.mem_cons_self, lay_strs fun y hy => h y (List.mem_cons_of_mem _ hy)⟩
theorem depth_strs : ∀ zs : List Str, PyData.depthAll (dsS zs) = 0
  | [] => by simp [dsS, PyData.depthAll]
  | z :: zs => by
    show PyData.depthAll (.str z :: dsS zs) = 0
    rw [PyData.depthAll, depth_strs zs, PyData.depth]
    rfl
theorem shaped_ls {zs : List Str} (h : ∀ z ∈ zs, okS z) : SeqAt.shaped (dLs zs) = true := by
  show (PyData.canLay0 (dLs zs) && decide ((dLs zs).depth ≤ 64)) = true
  rw [PyData.canLay0, PyData.depth, lay_strs h, depth_strs]
  rfl
theorem shaped_ts {zs : List Str} (h : ∀ z ∈ zs, okS z) : SeqAt.shaped (dTs zs) = true := by
  show (PyData.canLay0 (dTs zs) && decide ((dTs zs).depth ≤ 64)) = true
  rw [PyData.canLay0, PyData.depth, lay_strs h, depth_strs]
  rfl
theorem lay_lss : ∀ {ls : List (List Str)}, (∀ l ∈ ls, ∀ z ∈ l, okS z) → PyData.canLayAll0 (ls.map dLs) = true
  | [], _ => by simp [PyData.canLayAll0]
  | l :: ls, h => by
    rw [List.map_cons, PyData.canLayAll0, PyData.canLay0, lay_strs (h l List.mem_cons_self), lay_lss fun y hy => h y (List.mem_cons_of_mem _ hy)]
    rfl
theorem lay_lts : ∀ {ls : List (List Str)}, (∀ l ∈ ls, ∀ z ∈ l, okS z) → PyData.canLayAll0 (ls.map dTs) = true
  | [], _ => by simp [PyData.canLayAll0]
  | l :: ls, h => by
    rw [List.map_cons, PyData.canLayAll0, PyData.canLay0, lay_strs (h l List.mem_cons_self), lay_lts fun y hy => h y (List.mem_cons_of_mem _ hy)]
    rfl
theorem depth_lss : ∀ ls : List (List Str), PyData.depthAll (ls.map dLs) ≤ 1
  | [] => by simp [PyData.depthAll]
  | l :: ls => by
    rw [List.map_cons, PyData.depthAll, PyData.depth, depth_strs]
    exact Nat.max_le.mpr ⟨Nat.le_refl _, depth_lss ls⟩
theorem depth_lts : ∀ ls : List (List Str), PyData.depthAll (ls.map dTs) ≤ 1
  | [] => by simp [PyData.depthAll]
  | l :: ls => by
    rw [List.map_cons, PyData.depthAll, PyData.depth, depth_strs]
    exact Nat.max_le.mpr ⟨Nat.le_refl _, depth_lts ls⟩
theorem shaped_lss {ls : List (List Str)} (h : ∀ l ∈ ls, ∀ z ∈ l, okS z) : SeqAt.shaped (.list (ls.map dLs)) = true := by
  show (PyData.canLay0 (.list (ls.map dLs)) && decide ((PyData.list (ls.map dLs)).depth ≤ 64)) = true
  have := depth_lss ls
  rw [PyData.canLay0, PyData.depth, lay_lss h, decide_eq_true (by omega)]
  rfl
theorem shaped_lts {ls : List (List Str)} (h : ∀ l ∈ ls, ∀ z ∈ l, okS z) : SeqAt.shaped (.list (ls.map dTs)) = true := by
  show (PyData.canLay0 (.list (ls.map dTs)) && decide ((PyData.list (ls.map dTs)).depth ≤ 64)) = true
  have := depth_lts ls
  rw [PyData.canLay0, PyData.depth, lay_lts h, decide_eq_true (by omega)]
  rfl
theorem any_lss (ls : List (List Str)) (l : List Str) : ((ls.map dLs).any fun z => PyData.eqv z (dLs l)) = decide (l ∈ ls) := by
  rw [List.any_map, Bool.eq_iff_iff, List.any_eq_true, decide_eq_true_eq]
  constructor
  · rintro ⟨y, hy, e⟩
    replace e : PyData.eqv (dLs y) (dLs l) = true := e
    rw [eqv_ls, decide_eq_true_eq] at e
    rw [← e]; exact hy
  · intro h
    refine ⟨l, h, ?_⟩
    show PyData.eqv (dLs l) (dLs l) = true
    rw [eqv_ls, decide_eq_true_eq]
theorem any_lts (ls : List (List Str)) (l : List Str) : ((ls.map dTs).any fun z => PyData.eqv z (dTs l)) = decide (l ∈ ls) := by
  rw [List.any_map, Bool.eq_iff_iff, List.any_eq_true, decide_eq_true_eq]
  constructor
  · rintro ⟨y, hy, e⟩
    replace e : PyData.eqv (dTs y) (dTs l) = true := e
    rw [eqv_ts, decide_eq_true_eq] at e
    rw [← e]; exact hy
  · intro h
    refine ⟨l, h, ?_⟩
    show PyData.eqv (dTs l) (dTs l) = true
    rw [eqv_ts, decide_eq_true_eq]
section
variable {K : PySem.W.Frag} {H : Hp}
theorem dpAll_strs : ∀ zs : List Str, DpAll K H (zs.map V.str) (dsS zs)
  | [] => .nil
  | z :: zs => .cons (.str z) (dpAll_strs zs)
theorem dp_ls {a : Addr} {zs : List Str} (h : SqL K H a (zs.map V.str)) : Dp K H (.ref a) (dLs zs) := .lst h (dpAll_strs zs)
theorem dp_ts {a : Addr} {zs : List Str} (h : SqT K H a (zs.map V.str)) : Dp K H (.ref a) (dTs zs) := .tup h (dpAll_strs zs)
/-- lists of texts at these -/
def ListsOf (H : Hp) (ps : List Addr) (ls : List (List Str)) : Prop := Paired (fun p l => H p = some (.lst (l.map V.str))) ps ls
def TupsOf (H : Hp) (ps : List Addr) (ls : List (List Str)) : Prop := Paired (fun p l => H p = some (.tup (l.map V.str))) ps ls
theorem dpAll_lss {ps : List Addr} {ls : List (List Str)} (h : ListsOf H ps ls) : DpAll K H (ps.map V.ref) (ls.map dLs) := by
  unfold ListsOf at h
  induction h with
  | nil => exact .nil
  | cons r t ih => exact .cons (dp_ls (SqL.of r)) ih
theorem dpAll_lts {ps : List Addr} {ls : List (List Str)} (h : TupsOf H ps ls) : DpAll K H (ps.map V.ref) (ls.map dTs) := by
  unfold TupsOf at h
  induction h with
  | nil => exact .nil
  | cons r t ih => exact .cons (dp_ts (SqT.of r)) ih
end
theorem ListsOf.mono {H H' : Hp} {ps : List Addr} {ls : List (List Str)} (x : ListsOf H ps ls) (m : ∀ b xs, H b = some (.lst xs) → b ∈ ps → H' b = some (.lst xs)) : ListsOf H' ps ls := by
  unfold ListsOf at *
  induction x with
  | nil => exact .nil
  | cons r t ih => exact .cons (m _ _ r List.mem_cons_self) (ih fun b xs e h => m b xs e (List.mem_cons_of_mem _ h))
theorem TupsOf.mono {H H' : Hp} {ps : List Addr} {ls : List (List Str)} (x : TupsOf H ps ls) (m : ∀ b xs, H b = some (.tup xs) → H' b = some (.tup xs)) : TupsOf H' ps ls := Paired.mapP x fun _ _ e => m _ _ e
theorem paired_snoc {α β : Type} {R : α → β → Prop} {xs : List α} {ys : List β} {x : α} {y : β} (h : Paired R xs ys) (r : R x y) : Paired R (xs ++ [x]) (ys ++ [y]) := by
  induction h with
  | nil => exact .cons r .nil
  | cons s t ih => exact .cons s ih
theorem paired_at {α β : Type} {R : α → β → Prop} {xs : List α} {ys : List β} (h : Paired R xs ys) : ∀ {i : Nat} {y : β}, ys[i]? = some y → ∃ x, xs[i]? = some x ∧ R x y := by
  induction h with
  | nil => intro i y h; simp at h
  | cons r t ih =>
    intro i y h
    cases i with
    | zero =>
      have e := Option.some.inj (show some _ = some y from h)
      exact ⟨_, rfl, by rw [← e]; exact r⟩
    | succ i =>
      obtain ⟨p, h1, h2⟩ := ih (i := i) (y := y) (by simpa using h)
      exact ⟨p, by simpa using h1, h2⟩
theorem paired_at' {α β : Type} {R : α → β → Prop} {xs : List α} {ys : List β} (h : Paired R xs ys) : ∀ {i : Nat} {x : α}, xs[i]? = some x → ∃ y, ys[i]? = some y ∧ R x y := by
  induction h with
  | nil => intro i y h; simp at h
  | cons r t ih =>
    intro i y h
    cases i with
    | zero =>
      have e := Option.some.inj (show some _ = some y from h)
      exact ⟨_, rfl, by rw [← e]; exact r⟩
    | succ i =>
      obtain ⟨p, h1, h2⟩ := ih (i := i) (x := y) (by simpa using h)
      exact ⟨p, by simpa using h1, h2⟩
end Wb
set_option maxHeartbeats 2000000
namespace Wb
open PySem PySem.Spec PyProof.Rows L2 WbR
theorem hu64 {k : Nat} {A : Around} (hr : Room k A) : A.units + 64 < cLine := by
  have := hr.un
  omega
theorem hu65 {k : Nat} {A : Around} (hr : Room k A) : A.units + 65 < cLine := by
  have := hr.un
  omega
/-- a dict comprehension over any walk -/
theorem dc_it {J : It} {n : Nat} {G : Hp → Prop} {Y : Nat → Hp → V → Hp → Prop} (w : Walk J n G Y) {g : TG} {tt : TT} {tk tv : TE} {vs : List Nat} {σ : L2.St} {H1 : Hp} {D : Addr} {Qd : Hp → Prop} (Pv : Nat → Hp → Prop) (h0 : Pv 0 (upd H1 D (.dK []))) (hG : ∀ i H, i ≤ n → Pv i H → G H)
    (hs : ∀ i x H H', i < n → Pv i H → Y i H x H' → g x (wipe σ vs) H' fun σ2 H2 => wipe σ2 vs = wipe σ vs ∧ tt σ2 H2 fun b H3 =>
      if b = true then tk σ2 H3 fun y H4 => tv σ2 H4 fun z H5 => ∃ kvs k, y = kV k ∧ H5 D = some (.dK kvs) ∧ kvs.length < sizeLine ∧ Pv (i + 1) (upd H5 D (.dK (putK kvs k z))) else Pv (i + 1) H3) (hd : ∀ H, Pv n H → Qd H) :
    ∃ W : Nat → Nat → Hp → Prop, (∃ m, W 0 m (upd H1 D (.dK []))) ∧ ∀ i m H, W i m H →
      (J.stop i H ∧ Qd H) ∨ (J.go i H ∧ ∃ Nx : Hp → Prop, (∀ H', Nx H' → ∃ m', m' < m ∧ W (i + 1) m' H') ∧ ∀ x H', J.yld i H x H' → g x (wipe σ vs) H' fun σ2 H2 => wipe σ2 vs = wipe σ vs ∧ tt σ2 H2 fun b H3 =>
        if b = true then tk σ2 H3 fun y H4 => tv σ2 H4 fun z H5 => ∃ kvs k, y = kV k ∧ H5 D = some (.dK kvs) ∧ kvs.length < sizeLine ∧ Nx (upd H5 D (.dK (putK kvs k z))) else Nx H3) := by
  refine ⟨fun i m H => m = n - i ∧ i ≤ n ∧ Pv i H, ⟨n, by simp, Nat.zero_le _, h0⟩, ?_⟩
  rintro i m H ⟨rfl, hi, p⟩
  by_cases hlt : i < n
  · exact .inr ⟨w.goes i H hlt (hG i H hi p), Pv (i + 1), fun H' p' => ⟨n - (i + 1), by omega, rfl, hlt, p'⟩, fun x H' y => hs i x H H' hlt p (w.yields i H x H' hlt (hG i H hi p) y)⟩
  · have e : i = n := by omega
    subst e
    exact .inl ⟨w.stops H (hG _ H hi p), hd H p⟩
theorem srcs_len {α : Type} [DecidableEq α] (re : α → List α) (sm : List α) : ∀ (l : List α) (acc : List (List α)), (l.foldl (srcStep re sm) acc).length ≤ acc.length + l.length
  | [], acc => Nat.le_refl _
  | x :: l, acc => by
    rw [List.foldl_cons, List.length_cons]
    refine Nat.le_trans (srcs_len re sm l _) ?_
    have : (srcStep re sm acc x).length ≤ acc.length + 1 := by
      unfold srcStep
      split
      · rw [List.length_append]; exact Nat.le_refl _
      · omega
    omega
theorem srcs_nil {α : Type} [DecidableEq α] (re : α → List α) (sm : List α) : srcs re sm [] = [] := rfl
theorem mem_scc_bs {α : Type} [DecidableEq α] {re : α → List α} {sm : List α} {n z : α} (h : z ∈ scc re sm n) : z ∈ sm := (List.mem_filter.mp h).1
theorem mem_srcs_sub {α : Type} [DecidableEq α] {re : α → List α} {sm l : List α} {lot : List α} (h : lot ∈ srcs re sm l) {z : α} (hz : z ∈ lot) : z ∈ sm := by
  obtain ⟨n, _, _, e⟩ := mem_srcs.mp h
  rw [← e] at hz
  exact mem_scc_bs hz
section
variable {P : Program} {w : World} {K : PySem.W.Frag} {mg : Str → Option Value} {base : Heap} {C : Addr}

/-! ### check_round -/
def spCheckRound (C : Addr) : Sp := fun vs H Q _ => ∃ (a c : Addr) (bs : List Str) (ws : List (Str × Str)) (ns : List Nat), vs = [.ref a, .ref c] ∧ WebAt C H a bs ws ∧ H c = some (.tup (ns.map vN)) ∧ ns.length = bs.length ∧ (∀ n ∈ ns, n ≤ 1000) ∧ ns.sum ≠ 0 ∧
  ∀ H', Same H H' → Q .non H'
theorem sc_check_round : FnScope ["web", "counts"] ["web", "counts"] (defScope s_check_round) := ⟨rfl, rfl, rfl, by decide +kernel, rfl, by decide +kernel, by decide +kernel⟩
theorem has_check_round (E : Env K mg C) (F : Def K mg "check_round" s_check_round) (h1 : Has P w K mg base "check_web" 1 ["thing"] (spCheckWeb C)) (h2 : Has P w K mg base "check_counts" 3 ["web", "counts"] (spCheckCounts C)) : Has P w K mg base "check_round" 4 ["web", "counts"] (spCheckRound C) := by
  obtain ⟨f1, fd1, G1, g1, kp1, b1⟩ := h1.ex
  obtain ⟨f2, fd2, G2, g2, kp2, b2⟩ := h2.ex
  refine has_mk F sc_check_round (fun _ _ _ _ _ _ us hl => match us, hl with | [_, _], _ => rfl) (fun vs H Q E h => ?_) (fun f cdv A outer s H vs Q E' hr h => ?_)
  · obtain ⟨_, _, _, _, _, rfl, _⟩ := h
    rfl
  · obtain ⟨a, c, bs, ws, ns, rfl, wa, hc, hl, hn, hz, q⟩ := h
    refine ⟨_, pss_cons (ps_expr (pe_call G1 (hr.mono (by decide)) (by rfl) g1 kp1 b1 .nil pass0 (pa_cons (pv 0) pa_nil)))
      (pss_cons (ps_expr (pe_call G2 hr (by rfl) g2 kp2 b2 .nil pass0 (pa_cons (pv 0) (pa_cons (pv 1) pa_nil))))
      (pss_one (ps_if (pt_cmpR op_eq (pe_callB (cr_sumT rfl) (by rfl) E.sum boot_sum (pa_cons (pv 1) pa_nil)) pe_int (nomark _)) (pss_one ps_never) pss_nil))), ?_⟩
    obtain ⟨dx, B, W, ps, ob, ha, hB, hW, hps⟩ := wa
    refine ⟨_, rfl, a, dx, _, rfl, ha, ?_⟩
    refine ⟨_, rfl, _, rfl, a, c, bs, ws, ns, rfl, ⟨dx, B, W, ps, ob, ha, hB, hW, hps⟩, hc, hl, hn, fun H1 s1 => ?_⟩
    refine ⟨_, rfl, c, ns.map fun n : Nat => (n : Int), rfl, SqT.of (by rw [List.map_map]; exact s1 _ _ hc), rfl, _, rfl, ?_⟩
    rw [sum_cast]
    have e : decide (V.int ((ns.sum : Nat) : Int) = V.int 0) = false := by
      rw [decide_eq_false_iff_not]
      intro e
      have := V.int.inj e
      omega
    show if decide (V.int ((ns.sum : Nat) : Int) = V.int 0) = true then _ else _
    rw [e]
    exact iteF (q H1 s1)

/-! ### greater_one -/
def spGreaterOne (C : Addr) : Sp := fun vs H Q _ => ∃ (a d : Addr) (bs : List Str) (ws : List (Str × Str)) (f : Str → Nat), vs = [.ref a, .ref d] ∧ WebAt C H a bs ws ∧ WebOk bs ws ∧ H d = some (dN bs f) ∧
  (∀ (H' : Hp) (b : Str), Same H H' → b ∈ bs → need ws f b < f b → Q (.str b) H') ∧ ∀ H' : Hp, Same H H' → (∀ b ∈ bs, f b ≤ need ws f b) → Q .non H'
theorem sc_greater_one : FnScope ["web", "wished", "wakers", "name", "waker"] ["web", "wished"] (defScope s_greater_one) := ⟨rfl, rfl, rfl, by decide +kernel, rfl, by decide +kernel, by decide +kernel⟩
theorem has_greater_one (E : Env K mg C) (F : Def K mg "greater_one" s_greater_one) (h1 : Has P w K mg base "wakers_of" 1 ["web"] (spWakersOf C)) : Has P w K mg base "greater_one" 2 ["web", "wished"] (spGreaterOne C) := by
  obtain ⟨f1, fd1, G1, g1, kp1, b1⟩ := h1.ex
  refine has_mk F sc_greater_one (fun _ _ _ _ _ _ us hl => match us, hl with | [_, _], _ => rfl) (fun vs H Q E h => ?_) (fun f cdv A outer s H vs Q E' hr h => ?_)
  · obtain ⟨_, _, _, _, _, rfl, _⟩ := h
    rfl
  · obtain ⟨a, d, bs, ws, fw, rfl, wa, ok, hd, q1, q2⟩ := h
    have hu := hu_of hr
    refine ⟨_, pss_cons (ps_set (i := 2) sc_greater_one.nd rfl (.inl rfl) (pe_call G1 hr (by rfl) g1 kp1 b1 .nil pass0 (pa_cons (pv 0) pa_nil)))
      (pss_cons (ps_for PassesOwn.never rfl (pi_tup (pe_fld (pv 0) rfl)) (pg_name (i := 3) sc_greater_one.nd rfl (.inl rfl))
        (pss_one (ps_if (pt_cmpR op_gt (pe_dget hu (pv 1) (pv 3) (fun _ _ => rfl)) (pe_callB (cr_sum rfl) (by rfl) E.sum boot_sum (pa_cons (pe_lc (own := [("waker", 4)]) (g := gName 4) (tt := tYes) (by rfl) sc_greater_one.nd
            (pi_list (pe_dget hu (pv 2) (pv 3) (fun _ _ => rfl))) (blkOk_by (own := [("waker", 4)]) (N := ["web", "wished", "wakers", "name", "waker"]) (sc := defScope s_greater_one) (by decide +kernel)) (fun _ _ _ _ _ => pg_name (i := 4) sc_greater_one.nd rfl (Or.inl rfl))
            (fun _ _ _ _ _ => pts_nil) (fun _ _ _ _ _ => pe_dget hu (pv 1) (pv 4) (fun _ _ => rfl))) pa_nil)) (nomark _))
          (pss_one (ps_ret (pv 3))) pss_nil)))
      (pss_one (ps_ret pe_non))), ?_⟩
    refine ⟨_, rfl, a, bs, ws, rfl, wa, ok, fun H1 k s1 nk la => ?_⟩
    obtain ⟨ad, hk, each⟩ := la.ex
    obtain ⟨dx, B, W, ps, ob, ha, hB, hW, hps⟩ := wa.mono s1
    have hd1 := s1 _ _ hd
    refine ⟨_, rfl, a, C, dx, _, _, rfl, ha, E.cl, E.nB, wflds_bells B W, B, rfl, ⟨_, sqz hB⟩, for_tup (K := K) (a := B) (xs := bs.map V.str) (fun i σ H2 => ∃ y3 y4, σ = [some (.ref a), some (.ref d), some (.ref k), y3, y4] ∧ Same H1 H2 ∧ ∀ b ∈ bs.take i, fw b ≤ need ws fw b)
      ⟨none, none, rfl, Same.refl H1, fun b hb => absurd hb (by rw [List.take_zero]; exact List.not_mem_nil)⟩ (fun i σ H2 _ ⟨_, _, _, s2, _⟩ => sqz (s2 _ _ hB)) ?_ ?_⟩
    · rintro i x σ H2 hi ⟨y3, y4, rfl, s2, le⟩
      rw [List.getElem?_map] at hi
      obtain ⟨b, hb, rfl⟩ := Option.map_eq_some_iff.mp hi
      have hbb : b ∈ bs := List.mem_of_getElem? hb
      refine ⟨_, rfl, _, rfl, d, _, rfl, dget (s2 _ _ hd1) hbb, ?_⟩
      refine ⟨_, rfl, _, rfl, k, _, rfl, dget (s2 _ _ hk) hbb, ad b, rfl, ⟨_, SqL.of (s2 _ _ (each b hbb))⟩, fun D hD => ?_⟩
      refine lc_pureL (K := K) (a := ad b) (xs := (wakersOf ws b).map V.str) (onS fun c => vN (fw c)) (SqL.of (s2 _ _ (each b hbb))) hD (by rw [List.length_map]; exact Nat.le_trans (wakersOf_len ws b) (Nat.le_trans ok.fewW (by decide))) (fun j x acc R1 R0 hx h0 h1 => ?_) ?_
      · rw [List.getElem?_map] at hx
        obtain ⟨c, hc, rfl⟩ := Option.map_eq_some_iff.mp hx
        have hcb : c ∈ bs := (ok.sub _ (mem_wakers.mp (List.mem_of_getElem? hc))).1
        refine ⟨rfl, yesT ?_⟩
        exact ⟨_, rfl, _, rfl, d, _, rfl, dget (by rw [upd_ne (ne_of_none (s2 _ _ hd1) hD)]; exact s2 _ _ hd1) hcb, h1 _ rfl⟩
      · refine ⟨D, ((wakersOf ws b).map fw).map fun n : Nat => (n : Int), rfl, SqL.of ?_, _, _, rfl, rfl, _, rfl, ?_⟩
        · rw [upd_same, filterMap_onS, List.map_map, List.map_map]
          rfl
        · have e5 : decide ((((wakersOf ws b).map fw).map fun n : Nat => (n : Int)).sum < ((fw b : Nat) : Int)) = decide (need ws fw b < fw b) := by
            rw [sum_cast, Bool.eq_iff_iff, decide_eq_true_eq, decide_eq_true_eq]
            unfold need
            omega
          show if decide ((((wakersOf ws b).map fw).map fun n : Nat => (n : Int)).sum < ((fw b : Nat) : Int)) = true then _ else _
          rw [e5]
          have s3 := s2.trans (same_upd (o := .lst ((List.map V.str (wakersOf ws b)).filterMap (onS fun c => vN (fw c)))) hD)
          refine ite2 (fun e => ?_) (fun e => ?_)
          · exact ⟨_, rfl, q1 _ b (s1.trans s3) hbb (of_decide_eq_true e)⟩
          · refine ⟨_, _, rfl, s3, fun c hc => ?_⟩
            rw [take_snoc hb] at hc
            rcases List.mem_append.mp hc with hc | hc
            · exact le c hc
            · rw [List.mem_singleton.mp hc]
              have : ¬ need ws fw b < fw b := fun z => e (decide_eq_true z)
              omega
    · rintro σ H2 ⟨y3, y4, rfl, s2, le⟩
      rw [List.length_map, List.take_length] at le
      exact q2 H2 (s1.trans s2) le
end
end Wb
set_option maxHeartbeats 2000000
namespace Wb
open PySem PySem.Spec PyProof.Rows L2 WbR
theorem dec_pos (n : Nat) : decide ((0 : Int) < ((n : Nat) : Int)) = decide (0 < n) := by
  rw [Bool.eq_iff_iff, decide_eq_true_eq, decide_eq_true_eq]
  omega
theorem isEmpty_dec (l : List Str) : PyData.eqv (dLs l) (.list []) = decide (l = []) := by
  have := eqv_ls l []
  exact this
theorem bool_false {b : Bool} (h : ¬ b = true) : b = false := by
  cases b
  · rfl
  · exact absurd rfl h
section
variable {P : Program} {w : World} {K : PySem.W.Frag} {mg : Str → Option Value} {base : Heap} {C : Addr}

/-! ### sources -/
def spSources (C : Addr) : Sp := fun vs H Q _ => ∃ (a d : Addr) (bs : List Str) (ws : List (Str × Str)) (f : Str → Nat), vs = [.ref a, .ref d] ∧ WebAt C H a bs ws ∧ WebOk bs ws ∧ (∀ b ∈ bs, okS b) ∧ H d = some (dN bs f) ∧
  ∀ (H' : Hp) (p : Addr) (ps : List Addr) (L : Str → List Str), Same H H' → H' p = some (.lst (ps.map V.ref)) → ListsOf H' ps (srcs L (posOf bs f) (posOf bs f)) → Tells bs ws f L → Q (.ref p) H'
theorem sc_sources : FnScope ["web", "wished", "some", "reached", "found", "name", "lot", "outer", "other"] ["web", "wished"] (defScope s_sources) := ⟨rfl, rfl, rfl, by decide +kernel, rfl, by decide +kernel, by decide +kernel⟩
theorem has_sources (E : Env K mg C) (F : Def K mg "sources" s_sources) (h1 : Has P w K mg base "come_by" 2 ["web", "live", "wished"] (spComeBy C)) : Has P w K mg base "sources" 3 ["web", "wished"] (spSources C) := by
  obtain ⟨f1, fd1, G1, g1, kp1, b1⟩ := h1.ex
  refine has_mk F sc_sources (fun _ _ _ _ _ _ us hl => match us, hl with | [_, _], _ => rfl) (fun vs H Q E h => ?_) (fun f cdv A oute s H vs Q E' hr h => ?_)
  · obtain ⟨_, _, _, _, _, rfl, _⟩ := h
    rfl
  · obtain ⟨a, d, bs, ws, fw, rfl, wa, ok, oks, hd, q⟩ := h
    have hu := hu_of hr
    refine ⟨_, pss_cons (ps_setLc (i := 2) (own := [("name", 5)]) (g := gName 5) rfl sc_sources.nd rfl rfl (sw_true rfl rfl rfl (by decide +kernel)) (pi_tup (pe_fld (pv 0) rfl))
        (blkOk_by (own := [("name", 5)]) (N := ["web", "wished", "some", "reached", "found", "name", "lot", "outer", "other"]) (sc := defScope s_sources) (by decide +kernel)) (fun _ _ _ _ _ => pg_name (i := 5) sc_sources.nd rfl (Or.inl rfl))
        (fun _ _ _ _ _ => pts_one (pt_cmpR op_gt (pe_dget hu (pv 1) (pv 5) (fun _ _ => rfl)) pe_int (by rfl))) (fun _ _ _ _ _ => pv 5))
      (pss_cons (ps_set (i := 3) sc_sources.nd rfl (.inr rfl) (pe_dc (own := [("name", 5)]) (g := gName 5) (tt := tYes) (by rfl) sc_sources.nd (pi_list (pv 2))
        (blkOk_by (own := [("name", 5)]) (N := ["web", "wished", "some", "reached", "found", "name", "lot", "outer", "other"]) (sc := defScope s_sources) (by decide +kernel)) (fun _ _ _ _ _ => pg_name (i := 5) sc_sources.nd rfl (Or.inl rfl))
        (fun _ _ _ _ _ => pts_nil) (fun _ _ _ _ _ => pv 5) (fun _ _ _ _ _ => pe_call G1 hr (by rfl) g1 kp1 b1 .nil pass0 (pa_cons (pv 0) (pa_cons (pe_lst (pa_cons (pv 5) pa_nil)) (pa_cons (pv 1) pa_nil))))))
      (pss_cons (ps_set (i := 4) sc_sources.nd rfl (.inl rfl) (pe_lst pa_nil))
      (pss_cons (ps_for PassesOwn.never rfl (pi_list (pv 2)) (pg_name (i := 5) sc_sources.nd rfl (.inr rfl))
        (pss_cons (ps_set (i := 6) sc_sources.nd rfl (.inr rfl) (pe_lc (own := [("other", 8)]) (g := gName 8) (by rfl) sc_sources.nd (pi_list (pv 2))
          (blkOk_by (own := [("other", 8)]) (N := ["web", "wished", "some", "reached", "found", "name", "lot", "outer", "other"]) (sc := defScope s_sources) (by decide +kernel)) (fun _ _ _ _ _ => pg_name (i := 8) sc_sources.nd rfl (Or.inl rfl))
          (fun _ _ _ _ _ => pts_one (PW.pt (pw_and (pt_cmpR (show OpR _ _ (rIn K false) from op_in_seq) (pv 8) (pe_dget hu (pv 3) (pv 5) (fun _ _ => rfl)) (by rfl)) (pw_and1 (pt_cmpR (show OpR _ _ (rIn K false) from op_in_seq) (pv 5) (pe_dget hu (pv 3) (pv 8) (fun _ _ => rfl)) (by rfl))))))
          (fun _ _ _ _ _ => pv 8)))
        (pss_cons (ps_setLc (i := 7) (own := [("other", 8)]) (g := gName 8) rfl sc_sources.nd rfl rfl (sw_true rfl rfl rfl (by decide +kernel)) (pi_list (pv 2))
          (blkOk_by (own := [("other", 8)]) (N := ["web", "wished", "some", "reached", "found", "name", "lot", "outer", "other"]) (sc := defScope s_sources) (by decide +kernel)) (fun _ _ _ _ _ => pg_name (i := 8) sc_sources.nd rfl (Or.inl rfl))
          (fun _ _ _ _ _ => pts_one (PW.pt (pw_and (pt_cmpR (show OpR _ _ (rIn K true) from op_notIn_seq) (pv 8) (pv 6) (by rfl)) (pw_and1 (pt_cmpR (show OpR _ _ (rIn K false) from op_in_seq) (pv 5) (pe_dget hu (pv 3) (pv 8) (fun _ _ => rfl)) (by rfl))))))
          (fun _ _ _ _ _ => pv 8))
        (pss_one (ps_if (PW.pt (pw_and (pt_cmpR (op_eqD (hu64 hr)) (pv 7) (pe_lst pa_nil) (by rfl)) (pw_and1 (pt_cmpR (op_notInD (hu65 hr)) (pv 6) (pv 4) (by rfl)))))
          (pss_one (ps_expr (pe_bm PySem.F.plainAttrs_list PySem.F.slot_list_append PySem.F.type_list_append mt_append (pv 4) (pa_cons (pv 6) pa_nil)))) pss_nil)))))
      (pss_one (ps_ret (pv 4)))))), ?_⟩
    obtain ⟨dx, B, W, ps, ob, ha, hB, hW, hps⟩ := id wa
    refine ⟨_, rfl, a, C, dx, _, _, rfl, ha, E.cl, E.nB, wflds_bells B W, B, rfl, ⟨_, sqz hB⟩, fun S hS => ?_⟩
    refine lc_pureT (K := K) (a := B) (xs := bs.map V.str) (keepS fun b => decide (0 < fw b)) (sqz hB) hS (by rw [List.length_map]; exact ok.few1000) (fun i x acc R1 R0 hx h0 h1 => ?_) ?_
    · rw [List.getElem?_map] at hx
      obtain ⟨b, hb, rfl⟩ := Option.map_eq_some_iff.mp hx
      have hbb : b ∈ bs := List.mem_of_getElem? hb
      refine ⟨rfl, _, rfl, _, rfl, d, _, rfl, dget (by rw [upd_ne (ne_of_none hd hS)]; exact hd) hbb, _, _, rfl, rfl, _, rfl, ?_⟩
      show if decide ((0 : Int) < ((fw b : Nat) : Int)) = true then _ else _
      rw [dec_pos]
      rw [keepS_str] at h0 h1
      refine ite2 (fun e => ?_) (fun e => ?_)
      · rw [if_pos e] at h1
        exact ⟨_, rfl, h1 _ rfl⟩
      · rw [if_neg e] at h0
        exact h0 rfl
    · rw [filterMap_strs]
      have hsm : (bs.filter fun b => decide (0 < fw b)) = posOf bs fw := rfl
      rw [hsm]
      have smb : ∀ z ∈ posOf bs fw, z ∈ bs := fun z hz => (mem_posOf.mp hz).1
      have smp : ∀ z ∈ posOf bs fw, 0 < fw z := fun z hz => (mem_posOf.mp hz).2
      have smc : ∀ z ∈ bs, 0 < fw z → z ∈ posOf bs fw := fun z h1 h2 => mem_posOf.mpr ⟨h1, h2⟩
      have smn : (posOf bs fw).Nodup := ok.nd.filter _
      have sml : (posOf bs fw).length ≤ 12 := Nat.le_trans (List.length_filter_le _ _) ok.few
      generalize posOf bs fw = sm at smb smp smn sml smc q
      have s1 : Same H (upd H S (.lst (sm.map V.str))) := same_upd hS
      have hS1 : upd H S (.lst (sm.map V.str)) S = some (.lst (sm.map V.str)) := upd_same
      generalize upd H S (.lst (sm.map V.str)) = H1 at s1 hS1
      have wa1 := wa.mono s1
      have hd1 := s1 _ _ hd
      refine ⟨_, rfl, S, rfl, ⟨_, SqL.of hS1⟩, fun D hD => ?_⟩
      refine dc_it walk_list (fun i H3 => ∃ (ar : Str → Addr) (L : Str → List Str), Same H1 H3 ∧ H3 D = some (.dK (dkS (sm.take i) fun b => .ref (ar b))) ∧ ∀ b ∈ sm.take i, H3 (ar b) = some (.lst ((L b).map V.str)) ∧ ∀ x, x ∈ L b ↔ Conn ws fw b x)
        ⟨fun _ => 0, fun _ => [], same_upd hD, by rw [List.take_zero]; exact upd_same, fun b hb => absurd hb (by rw [List.take_zero]; exact List.not_mem_nil)⟩ (fun i H3 _ ⟨_, _, s3, _⟩ => SqL.of (s3 _ _ hS1)) ?_ ?_
      · rintro i x H3x H3 hi ⟨ar, L, s3, eD, each⟩ ⟨rfl, hx⟩
        rw [List.getElem?_map] at hx
        obtain ⟨b, hb, rfl⟩ := Option.map_eq_some_iff.mp hx
        have hbb : b ∈ sm := List.mem_of_getElem? hb
        have nb := not_mem_take smn hb
        have tk := take_snoc hb
        refine ⟨rfl, yesG ?_⟩
        refine ⟨_, rfl, _, rfl, _, rfl, (show 1 ≤ sizeLine by decide), fun lv hlv => ?_⟩
        have s4 := same_upd (o := .lst [.str b]) hlv
        refine ⟨_, rfl, a, lv, d, b, bs, ws, fw, rfl, (wa1.mono s3).mono s4, ok, upd_same, s4 _ _ (s3 _ _ hd1), smb b hbb, smp b hbb, fun H5 p l s5 np ep ml ll => ?_⟩
        have s35 := s4.trans s5
        have eD5 := s35 _ _ eD
        have pD : p ≠ D := (ne_of_none (s4 _ _ eD) np).symm
        refine ⟨dkS (sm.take i) fun c => .ref (ar c), Sum.inr b, rfl, eD5, ?_, ?_⟩
        · rw [dkS_len, List.length_take]
          exact small1000 (Nat.le_trans (Nat.min_le_right _ _) (Nat.le_trans sml (by decide)))
        · have e7 : (dkS (sm.take i) fun c => V.ref (ar c)) = dkS (sm.take i) fun c => V.ref (if c = b then p else ar c) := dkS_congr fun c hc => by
            have : c ≠ b := fun e => nb (e ▸ hc)
            rw [if_neg this]
          refine ⟨fun c => if c = b then p else ar c, fun c => if c = b then l else L c, fun c o e => ?_, ?_, fun c hc => ?_⟩
          · rw [upd_ne (ne_of_none e hD)]
            exact s35 _ _ (s3 _ _ e)
          · rw [upd_same, e7, tk, putK_dkS_new nb]
            show V.ref (if b = b then p else ar b) = V.ref p
            rw [if_pos rfl]
          · rw [tk] at hc
            show upd H5 D _ (if c = b then p else ar c) = some (.lst ((if c = b then l else L c).map V.str)) ∧ ∀ x, x ∈ (if c = b then l else L c) ↔ _
            by_cases ec : c = b
            · rw [if_pos ec, if_pos ec, upd_ne pD, ec]
              exact ⟨ep, ml⟩
            · rw [if_neg ec, if_neg ec]
              obtain ⟨e1, e2⟩ := each c ((List.mem_append.mp hc).resolve_right fun q => ec (List.mem_singleton.mp q))
              refine ⟨?_, e2⟩
              rw [upd_ne (ne_of e1 eD (fun z => nomatch z))]
              exact s35 _ _ e1
      · rintro H3 ⟨ar, L, s3, eD, each⟩
        rw [List.length_map, List.take_length] at eD each
        have hT : Tells bs ws fw L := fun n h1 h2 x => (each n (smc n h1 h2)).2 x
        refine ⟨Nat.zero_le _, fun Fa hF => ?_⟩
        have sF := same_upd (o := .lst []) hF
        refine ⟨_, rfl, S, rfl, ⟨_, SqL.of (sF _ _ (s3 _ _ hS1))⟩, for_list (K := K) (a := S) (xs := sm.map V.str) (fun i σ H5 => ∃ (y5 y6 y7 : Option V) (ps : List Addr), σ = [some (.ref a), some (.ref d), some (.ref S), some (.ref D), some (.ref Fa), y5, y6, y7, none] ∧
            Same H3 H5 ∧ H5 Fa = some (.lst (ps.map V.ref)) ∧ ListsOf H5 ps (srcs L sm (sm.take i)) ∧ ∀ p ∈ ps, p ≠ Fa)
          ⟨none, none, none, [], rfl, sF, upd_same, .nil, fun p hp => nomatch hp⟩ (fun i σ H5 _ ⟨_, _, _, _, _, s5, _⟩ => SqL.of (s5 _ _ (s3 _ _ hS1))) ?_ ?_⟩
        · rintro i x σ H5 hi ⟨y5, y6, y7, qs, rfl, s5, eF, lo, nF⟩
          rw [List.getElem?_map] at hi
          obtain ⟨b, hb, rfl⟩ := Option.map_eq_some_iff.mp hi
          have hbb : b ∈ sm := List.mem_of_getElem? hb
          have eS := s5 _ _ (s3 _ _ hS1)
          have eD5 := s5 _ _ eD
          have eL : ∀ o ∈ sm, H5 (ar o) = some (.lst ((L o).map V.str)) := fun o ho => s5 _ _ (each o ho).1
          refine ⟨_, rfl, S, rfl, ⟨_, SqL.of eS⟩, fun Pl hPl => ?_⟩
          refine lc_pureL (K := K) (a := S) (xs := sm.map V.str) (keepS fun o => decide (o ∈ L b) && decide (b ∈ L o)) (SqL.of eS) hPl (by rw [List.length_map]; omega) (fun j x acc R1 R0 hx h0 h1 => ?_) ?_
          · rw [List.getElem?_map] at hx
            obtain ⟨o, ho, rfl⟩ := Option.map_eq_some_iff.mp hx
            have hob : o ∈ sm := List.mem_of_getElem? ho
            have sx := same_upd (o := .lst acc) hPl
            refine ⟨rfl, _, rfl, _, rfl, _, rfl, D, _, rfl, dget (sx _ _ eD5) hbb, ar b, _, rfl, .inl (SqL.of (sx _ _ (eL b hbb))), rfl, flat_strs _, _, rfl, ?_⟩
            show if inV (V.str o) ((L b).map V.str) = true then _ else _
            rw [inV_strs]
            rw [keepS_str] at h0 h1
            refine ite2 (fun e => ?_) (fun e => ?_)
            · refine ⟨_, rfl, _, rfl, _, rfl, D, _, rfl, dget (sx _ _ eD5) hob, ar o, _, rfl, .inl (SqL.of (sx _ _ (eL o hob))), rfl, flat_strs _, _, rfl, ?_⟩
              show if inV (V.str b) ((L o).map V.str) = true then _ else _
              rw [inV_strs]
              rw [e] at h0 h1
              refine ite2 (fun e' => ?_) (fun e' => ?_)
              · rw [e'] at h1
                exact ⟨_, rfl, h1 _ rfl⟩
              · rw [bool_false e'] at h0
                exact h0 rfl
            · rw [bool_false e] at h0
              exact h0 rfl
          · rw [filterMap_strs]
            have hsc : (sm.filter fun o => decide (o ∈ L b) && decide (b ∈ L o)) = scc L sm b := rfl
            rw [hsc]
            have s6 := same_upd (o := .lst ((scc L sm b).map V.str)) hPl
            have eP6 : upd H5 Pl (.lst ((scc L sm b).map V.str)) Pl = some (.lst ((scc L sm b).map V.str)) := upd_same
            have PF : Pl ≠ Fa := (ne_of_none eF hPl).symm
            have scb : ∀ z ∈ scc L sm b, okS z := fun z hz => oks z (smb z (mem_scc_bs hz))
            generalize upd H5 Pl (.lst ((scc L sm b).map V.str)) = H6 at s6 eP6
            refine ⟨_, rfl, S, rfl, ⟨_, SqL.of (s6 _ _ eS)⟩, fun Po hPo => ?_⟩
            refine lc_pureL (K := K) (a := S) (xs := sm.map V.str) (keepS fun o => !decide (o ∈ scc L sm b) && decide (b ∈ L o)) (SqL.of (s6 _ _ eS)) hPo (by rw [List.length_map]; omega) (fun j x acc R1 R0 hx h0 h1 => ?_) ?_
            · rw [List.getElem?_map] at hx
              obtain ⟨o, ho, rfl⟩ := Option.map_eq_some_iff.mp hx
              have hob : o ∈ sm := List.mem_of_getElem? ho
              have sx := s6.trans (same_upd (o := .lst acc) hPo)
              refine ⟨rfl, _, rfl, _, rfl, Pl, _, rfl, .inl (SqL.of (same_upd hPo _ _ eP6)), rfl, flat_strs _, _, rfl, ?_⟩
              show if (!inV (V.str o) ((scc L sm b).map V.str)) = true then _ else _
              rw [inV_strs]
              rw [keepS_str] at h0 h1
              refine ite2 (fun e => ?_) (fun e => ?_)
              · refine ⟨_, rfl, _, rfl, _, rfl, D, _, rfl, dget (sx _ _ eD5) hob, ar o, _, rfl, .inl (SqL.of (sx _ _ (eL o hob))), rfl, flat_strs _, _, rfl, ?_⟩
                show if inV (V.str b) ((L o).map V.str) = true then _ else _
                rw [inV_strs]
                rw [e] at h0 h1
                refine ite2 (fun e' => ?_) (fun e' => ?_)
                · rw [e'] at h1
                  exact ⟨_, rfl, h1 _ rfl⟩
                · rw [bool_false e'] at h0
                  exact h0 rfl
              · rw [bool_false e] at h0
                exact h0 rfl
            · rw [filterMap_strs]
              have hou : (sm.filter fun o => !decide (o ∈ scc L sm b) && decide (b ∈ L o)) = outer L sm b := rfl
              rw [hou]
              have s7 := same_upd (o := .lst ((outer L sm b).map V.str)) hPo
              have eO7 : upd H6 Po (.lst ((outer L sm b).map V.str)) Po = some (.lst ((outer L sm b).map V.str)) := upd_same
              have oub : ∀ z ∈ outer L sm b, okS z := fun z hz => oks z (smb z (List.mem_filter.mp hz).1)
              generalize upd H6 Po (.lst ((outer L sm b).map V.str)) = H7 at s7 eO7
              have s57 := s6.trans s7
              have nx : srcs L sm (sm.take (i + 1)) = srcStep L sm (srcs L sm (sm.take i)) b := by rw [take_snoc hb, srcs_snoc]
              have lob : ∀ l ∈ srcs L sm (sm.take i), ∀ z ∈ l, okS z := fun l hl z hz => oks z (smb z (mem_srcs_sub hl hz))
              refine ⟨_, rfl, Nat.zero_le _, fun Z hZ => ?_⟩
              have s8 := same_upd (o := .lst []) hZ
              refine ⟨dLs (outer L sm b), .list [], dp_ls (SqL.of (s8 _ _ eO7)), dp_ls (zs := []) (SqL.of upd_same), shaped_ls oub, shaped_ls (zs := []) (fun z hz => nomatch hz), _, rfl, ?_⟩
              rw [isEmpty_dec]
              have s58 := s57.trans s8
              refine ite2 (fun e => ?_) (fun e => ?_)
              · have lo8 : ListsOf (upd H7 Z (.lst [])) qs (srcs L sm (sm.take i)) := lo.mono fun c xs e _ => s58 _ _ e
                refine ⟨_, rfl, _, rfl, dLs (scc L sm b), (srcs L sm (sm.take i)).map dLs, dp_ls (SqL.of (s8 _ _ (s7 _ _ eP6))), .lst (SqL.of (s58 _ _ eF)) (dpAll_lss lo8), shaped_ls scb, shaped_lss lob, _, rfl, ?_⟩
                rw [any_lss]
                refine ite2 (fun e' => ?_) (fun e' => ?_)
                · have nin : scc L sm b ∉ srcs L sm (sm.take i) := fun z => by
                    rw [decide_eq_true z] at e'
                    exact absurd e' (by decide)
                  have len := Paired.length lo
                  have sl := srcs_len L sm (sm.take i) []
                  have tl : (sm.take i).length ≤ sm.length := by rw [List.length_take]; exact Nat.min_le_right _ _
                  have sl2 : (srcs L sm (sm.take i)).length ≤ (sm.take i).length := by unfold srcs; simpa using sl
                  refine ⟨_, rfl, .inl ⟨rfl, _, SqL.of (s58 _ _ eF)⟩, _, rfl, Fa, _, _, rfl, rfl, s58 _ _ eF, by rw [List.length_map]; exact small1000 (by omega), _, _, _, qs ++ [Pl], rfl, fun c o e => ?_, ?_, ?_, fun p hp => ?_⟩
                  · rw [upd_ne (ne_of_none e hF)]
                    exact s58 _ _ (s5 _ _ e)
                  · rw [upd_same, List.map_append]
                    rfl
                  · rw [nx]
                    unfold srcStep
                    rw [if_pos ⟨of_decide_eq_true e, nin⟩]
                    refine paired_snoc (lo8.mono fun c xs e h => by rw [upd_ne (nF c h)]; exact e) ?_
                    rw [upd_ne PF]
                    exact s8 _ _ (s7 _ _ eP6)
                  · rcases List.mem_append.mp hp with hp | hp
                    · exact nF p hp
                    · rw [List.mem_singleton.mp hp]
                      exact PF
                · have isin : scc L sm b ∈ srcs L sm (sm.take i) := by
                    apply Classical.byContradiction
                    intro z
                    rw [decide_eq_false z] at e'
                    exact e' rfl
                  refine ⟨_, _, _, qs, rfl, s5.trans s58, s58 _ _ eF, ?_, nF⟩
                  rw [nx]
                  unfold srcStep
                  rw [if_neg fun z => z.2 isin]
                  exact lo8
              · refine ⟨_, _, _, qs, rfl, s5.trans s58, s58 _ _ eF, ?_, nF⟩
                rw [nx]
                unfold srcStep
                rw [if_neg fun z => e (decide_eq_true z.1)]
                exact lo.mono fun c xs e _ => s58 _ _ e
        · rintro σ H5 ⟨y5, y6, y7, qs, rfl, s5, eF, lo, nF⟩
          rw [List.length_map, List.take_length] at lo
          exact ⟨_, rfl, q H5 Fa qs L ((s1.trans s3).trans s5) eF lo hT⟩
end
end Wb
set_option maxHeartbeats 2000000
namespace Wb
open PySem PySem.Spec PyProof.Rows L2 WbR
/-- the first of a lot -/
def hd0 (l : List Str) : Str := l.headD ""
theorem hd0_of {l : List Str} {h : Str} (e : l.head? = some h) : hd0 l = h ∧ l[0]? = some h := by
  cases l with
  | nil => cases e
  | cons a t => cases e; exact ⟨rfl, rfl⟩
theorem at0 {l : List Str} {h : Str} (e : l[0]? = some h) : atI (l.map V.str) 0 = some (.str h) := atI_nat (j := 0) (by rw [List.getElem?_map, e]; rfl)
theorem first_iff {bs : List Str} {ws : List (Str × Str)} {f : Str → Nat} {L : Str → List Str} (T : Tells bs ws f L) (b : Str) :
    decide (b ∈ bs.filter fun b => decide (b ∈ (srcs L (posOf bs f) (posOf bs f)).map hd0)) = true ↔ IsFirst L (posOf bs f) b := by
  rw [decide_eq_true_eq, List.mem_filter, decide_eq_true_eq, List.mem_map]
  constructor
  · rintro ⟨_, lot, hl, e⟩
    obtain ⟨h, n, h1, _⟩ := first_of T hl
    exact ⟨lot, hl, by rw [h1, ← e, (hd0_of h1).1]⟩
  · rintro ⟨lot, hl, e⟩
    obtain ⟨h, n, h1, _, h3, _⟩ := first_of T hl
    rw [e] at h1
    cases h1
    exact ⟨h3, lot, hl, (hd0_of e).1⟩
section
variable {P : Program} {w : World} {K : PySem.W.Frag} {mg : Str → Option Value} {base : Heap} {C : Addr}

/-! ### round_of -/
def spRoundOf (C : Addr) : Sp := fun vs H Q _ => ∃ (a c : Addr) (bs : List Str) (ws : List (Str × Str)) (f : Str → Nat), vs = [.ref a, .ref c] ∧ WebAt C H a bs ws ∧ WebOk bs ws ∧ (∀ b ∈ bs, okS b) ∧ H c = some (.tup ((bs.map f).map vN)) ∧ (∀ n ∈ bs.map f, n ≤ 1000) ∧ (bs.map f).sum ≠ 0 ∧ (bs.map f).sum ≤ 200 ∧
  (∀ (H' : Hp) (p : Addr) (b : Str), Same H H' → b ∈ bs → need ws f b < f b → H' p = some (.tup [.str "bell", .str b]) → Q (.ref p) H') ∧
  ∀ (H' : Hp) (p x y : Addr), Same H H' → IsRound bs ws f → H' p = some (.tup [.str "round", .ref x, .ref y]) → Q (.ref p) H'
theorem sc_round_of : FnScope ["web", "counts", "wished", "name", "first", "lot"] ["web", "counts"] (defScope s_round_of) := ⟨rfl, rfl, rfl, by decide +kernel, rfl, by decide +kernel, by decide +kernel⟩
theorem has_round_of (E : Env K mg C) (F : Def K mg "round_of" s_round_of) (h1 : Has P w K mg base "check_round" 4 ["web", "counts"] (spCheckRound C)) (h2 : Has P w K mg base "greater_one" 2 ["web", "wished"] (spGreaterOne C))
    (h3 : Has P w K mg base "sources" 3 ["web", "wished"] (spSources C)) (h4 : Has P w K mg base "in_order" 1 ["web", "names"] (spInOrder K C)) (h5 : Has P w K mg base "rung_out" 3 ["web", "wished", "live", "kept"] (spRungOut C)) : Has P w K mg base "round_of" 5 ["web", "counts"] (spRoundOf C) := by
  obtain ⟨f1, fd1, G1, g1, kp1, b1⟩ := h1.ex
  obtain ⟨f2, fd2, G2, g2, kp2, b2⟩ := h2.ex
  obtain ⟨f3, fd3, G3, g3, kp3, b3⟩ := h3.ex
  obtain ⟨f4, fd4, G4, g4, kp4, b4⟩ := h4.ex
  obtain ⟨f5, fd5, G5, g5, kp5, b5⟩ := h5.ex
  obtain ⟨tm, mm⟩ := E.mostRound
  refine has_mk F sc_round_of (fun _ _ _ _ _ _ us hl => match us, hl with | [_, _], _ => rfl) (fun vs H Q E h => ?_) (fun f cdv A oute s H vs Q E' hr h => ?_)
  · obtain ⟨_, _, _, _, _, rfl, _⟩ := h
    rfl
  · obtain ⟨a, c, bs, ws, fw, rfl, wa, ok, oks, hc, each, nz, small, q1, q2⟩ := h
    have hu := hu_of hr
    refine ⟨_, pss_cons (ps_expr (pe_call G1 hr (by rfl) g1 kp1 b1 .nil pass0 (pa_cons (pv 0) (pa_cons (pv 1) pa_nil))))
      (pss_cons (ps_set (i := 2) sc_round_of.nd rfl (.inl rfl) (pe_dictZip rfl (by rfl) E.dict (by rfl) E.zip (pe_fld (pv 0) rfl) (pv 1)))
      (pss_cons (ps_set (i := 3) sc_round_of.nd rfl (.inl rfl) (pe_call G2 (hr.mono (by decide)) (by rfl) g2 kp2 b2 .nil pass0 (pa_cons (pv 0) (pa_cons (pv 2) pa_nil))))
      (pss_cons (ps_if (pt_cmpR op_notN (pv 3) pe_non (nomark _)) (pss_one (ps_ret (pe_tup (pa_cons pe_str (pa_cons (pv 3) pa_nil))))) pss_nil)
      (pss_cons (ps_if (pt_cmpR op_gt (pe_callB (cr_sumT rfl) (by rfl) E.sum boot_sum (pa_cons (pv 1) pa_nil)) (pe_glob (v := .int 200) (by rfl) mm ⟨tm, rfl⟩) (nomark _)) (pss_one ps_never) pss_nil)
      (pss_cons (ps_set (i := 4) sc_round_of.nd rfl (.inl rfl) (pe_call G4 (hr.mono (by decide)) (by rfl) g4 kp4 b4 .nil pass0 (pa_cons (pv 0) (pa_cons (pe_lc (own := [("lot", 5)]) (g := gName 5) (tt := tYes) (by rfl) sc_round_of.nd
          (pi_list (pe_call G3 (hr.mono (by decide)) (by rfl) g3 kp3 b3 .nil pass0 (pa_cons (pv 0) (pa_cons (pv 2) pa_nil))))
          (blkOk_by (own := [("lot", 5)]) (N := ["web", "counts", "wished", "name", "first", "lot"]) (sc := defScope s_round_of) (by decide +kernel)) (fun _ _ _ _ _ => pg_name (i := 5) sc_round_of.nd rfl (Or.inl rfl))
          (fun _ _ _ _ _ => pts_nil) (fun _ _ _ _ _ => pe_ix (show IxR _ (rIxL K) from ix_list) (pv 5) pe_int (fun _ _ => rfl))) pa_nil))))
      (pss_one (ps_ret (pe_tup (pa_cons pe_str (pa_cons (pv 4) (pa_cons (pe_call G5 (hr.mono (by decide)) (by rfl) g5 kp5 b5 .nil pass0 (pa_cons (pv 0) (pa_cons (pv 2) (pa_cons (pv 4) (pa_cons (pv 4) pa_nil))))) pa_nil))))))))))), ?_⟩
    refine ⟨_, rfl, _, rfl, a, c, bs, ws, bs.map fw, rfl, wa, hc, List.length_map _, each, nz, fun H1 s1 => ?_⟩
    have wa1 := wa.mono s1
    obtain ⟨dx, B, W, ps, ob, ha, hB, hW, hps⟩ := id wa1
    have hc1 := s1 _ _ hc
    refine ⟨_, rfl, a, C, dx, _, _, rfl, ha, E.cl, E.nB, wflds_bells B W, _, rfl, B, c, bs, (bs.map fw).map vN, rfl, rfl, sqz hB, SqT.of hc1, by rw [List.length_map, List.length_map], fun D hD => ?_⟩
    have ed : mergeK [] ((bs.map (Sum.inr : Str → Key)).zip ((bs.map fw).map vN)) = dkS bs fun c => vN (fw c) := mergeK_names ok.nd (by rw [List.map_map]; rfl)
    rw [ed]
    have s2 := s1.trans (same_upd (o := .dK (dkS bs fun c => vN (fw c))) hD)
    have hD2 : upd H1 D (.dK (dkS bs fun c => vN (fw c))) D = some (dN bs fw) := upd_same
    have hc2 : upd H1 D (.dK (dkS bs fun c => vN (fw c))) c = some (.tup ((bs.map fw).map vN)) := same_upd hD _ _ hc1
    generalize upd H1 D (.dK (dkS bs fun c => vN (fw c))) = H2 at s2 hD2 hc2
    have wa2 := wa.mono s2
    refine ⟨_, rfl, _, rfl, a, D, bs, ws, fw, rfl, wa2, ok, hD2, fun H3 b s3 hb lt => ?_, fun H3 s3 hge => ?_⟩
    · refine ⟨_, rfl, rfl, _, rfl, ?_⟩
      refine iteT ⟨_, rfl, (show 2 ≤ sizeLine by decide), fun p hp => ?_⟩
      exact q1 _ p b ((s2.trans s3).trans (same_upd hp)) hb lt upd_same
    · refine ⟨_, rfl, rfl, _, rfl, iteF ?_⟩
      refine ⟨_, rfl, c, (bs.map fw).map fun n : Nat => (n : Int), rfl, SqT.of (by rw [List.map_map]; exact s3 _ _ hc2), _, _, rfl, rfl, _, rfl, ?_⟩
      have e5 : decide ((200 : Int) < ((bs.map fw).map fun n : Nat => (n : Int)).sum) = false := by
        rw [sum_cast, decide_eq_false_iff_not]
        omega
      show if decide ((200 : Int) < ((bs.map fw).map fun n : Nat => (n : Int)).sum) = true then _ else _
      rw [e5]
      refine iteF ?_
      have wa3 := wa2.mono s3
      refine ⟨_, rfl, _, rfl, _, rfl, a, D, bs, ws, fw, rfl, wa3, ok, oks, s3 _ _ hD2, fun H4 p qs L s4 ep lo T => ?_⟩
      refine ⟨p, rfl, ⟨_, SqL.of ep⟩, fun S hS => ?_⟩
      have sS := same_upd (o := .lst []) hS
      refine lc_list (K := K) (a := p) (xs := qs.map V.ref) (fun i H5 => H5 = upd H4 S (.lst ((((srcs L (posOf bs fw) (posOf bs fw)).map hd0).take i).map V.str))) rfl (fun i H5 _ e => by rw [e]; exact SqL.of (same_upd hS _ _ ep)) (fun i x H5 hi e => ?_) (fun H5 e => ?_)
      · subst e
        rw [List.getElem?_map] at hi
        obtain ⟨r, hr1, rfl⟩ := Option.map_eq_some_iff.mp hi
        obtain ⟨lot, hl, er⟩ := paired_at' lo hr1
        obtain ⟨h, n, h1, _⟩ := first_of T (List.mem_of_getElem? hl)
        have il : i < (srcs L (posOf bs fw) (posOf bs fw)).length := (List.getElem?_eq_some_iff.mp hl).1
        have sl := srcs_len L (posOf bs fw) (posOf bs fw) []
        have sl2 : (srcs L (posOf bs fw) (posOf bs fw)).length ≤ (posOf bs fw).length := by unfold srcs; simpa using sl
        have sl3 : (posOf bs fw).length ≤ bs.length := List.length_filter_le _ _
        have fe := ok.few
        refine ⟨rfl, yesT ?_⟩
        refine ⟨_, rfl, r, lot.map V.str, 0, .str h, rfl, rfl, SqL.of (same_upd hS _ _ er), at0 (hd0_of h1).2, ?_⟩
        refine ⟨_, upd_same, ?_, ?_⟩
        · rw [List.length_map, List.length_take, List.length_map]
          exact small1000 (Nat.le_trans (Nat.min_le_left _ _) (by omega))
        · have eh : ((srcs L (posOf bs fw) (posOf bs fw)).map hd0)[i]? = some h := by rw [List.getElem?_map, hl]; exact congrArg some (hd0_of h1).1
          rw [upd_upd, take_snoc eh, List.map_append]
          rfl
      · subst e
        rw [List.length_map, Paired.length lo, ← List.length_map (f := hd0), List.take_length]
        have s5 := s4.trans (same_upd (o := .lst (((srcs L (posOf bs fw) (posOf bs fw)).map hd0).map V.str)) hS)
        refine ⟨a, S, bs, ws, (srcs L (posOf bs fw) (posOf bs fw)).map hd0, rfl, wa3.mono s5, SqL.of upd_same, ok.few1000, fun H6 x s6 nx ex => ?_⟩
        have I := inv_start (k := fun b => decide (b ∈ bs.filter fun b => decide (b ∈ (srcs L (posOf bs fw) (posOf bs fw)).map hd0))) T hge (first_iff T)
        have rd := is_round ok.nd ok.sub ok.ndw I
        have s36 := (s3.trans s5).trans s6
        refine ⟨_, rfl, _, rfl, _, rfl, _, rfl, _, rfl, a, D, x, bs, ws, fw, _, rfl, wa2.mono s36, ok, s36 _ _ hD2, ex, I, small, fun H7 y s7 => ?_⟩
        refine ⟨(show 3 ≤ sizeLine by decide), fun z hz => ?_⟩
        exact q2 _ z x y (((s2.trans s36).trans s7).trans (same_upd hz)) rd upd_same
end
end Wb
set_option maxHeartbeats 2000000
namespace Wb
open PySem PySem.Spec PyProof.Rows L2 WbR
theorem big0 : (0 : Int) < 1000000123 := by decide
theorem mod_nat (i : Int) {m : Nat} (h : 0 < m) : ∃ r : Nat, r < m ∧ i % (m : Int) = r := by
  have h1 := Int.emod_nonneg i (show ((m : Nat) : Int) ≠ 0 by omega)
  have h2 := Int.emod_lt_of_pos i (show (0 : Int) < (m : Nat) by omega)
  exact ⟨(i % (m : Int)).toNat, by omega, by omega⟩
/-- a purse: digits, a state, a count -/
def PurseAt (H : Hp) (p : Addr) : Prop := ∃ d s c : Int, H p = some (.lst [.int d, .int s, .int c]) ∧ 0 ≤ d
theorem PurseAt.mono {H H' : Hp} {p : Addr} (x : PurseAt H p) (s : Same H H') : PurseAt H' p :=
  let ⟨d, t, c, h, z⟩ := x
  ⟨d, t, c, s _ _ h, z⟩
theorem PurseAt.ne {H : Hp} {p : Addr} (x : PurseAt H p) {b : Addr} {o : HO} (h : H b = some o) (n : ∀ d t c : Int, o ≠ .lst [.int d, .int t, .int c]) : b ≠ p := by
  obtain ⟨d, t, c, e, _⟩ := x
  exact ne_of h e (n d t c)
section
variable {P : Program} {w : World} {K : PySem.W.Frag} {mg : Str → Option Value} {base : Heap} {C : Addr}

/-! ### _law_cell -/
def spLawCell (K : PySem.W.Frag) : Sp := fun vs H Q _ => ∃ (a : Addr) (k : Nat) (ns : List Int), vs = [.ref a, .int k] ∧ SqL K H a (ns.map V.int) ∧ k ≤ 1000 ∧ ns.length ≤ 1000 ∧ ∀ (H' : Hp) (n : Int), Same H H' → Q (.int n) H'
theorem sc_law_cell : FnScope ["_law_script", "_law_k", "_law_state", "_law_cell_here"] ["_law_script", "_law_k"] (defScope s_law_cell) := ⟨rfl, rfl, rfl, by decide +kernel, rfl, by decide +kernel, by decide +kernel⟩
theorem has_law_cell (E : Env K mg C) (F : Def K mg "_law_cell" s_law_cell) : Has P w K mg base "_law_cell" 1 ["_law_script", "_law_k"] (spLawCell K) := by
  refine has_mk F sc_law_cell (fun _ _ _ _ _ _ us hl => match us, hl with | [_, _], _ => rfl) (fun vs H Q E h => ?_) (fun f cdv A oute s H vs Q E' hr h => ?_)
  · obtain ⟨_, _, _, rfl, _⟩ := h
    rfl
  · obtain ⟨a, k, ns, rfl, ha, k1, hz, q⟩ := h
    refine ⟨_, pss_cons (ps_if (pt_cmpR op_lt (pv 1) (pe_callB call_len_seq (by rfl) E.len PySem.boot_len (pa_cons (pv 0) pa_nil)) (nomark _)) (pss_one (ps_ret (pe_ix ix_list (pv 0) (pv 1) (fun _ _ => rfl)))) pss_nil)
      (pss_cons (ps_set (i := 2) sc_law_cell.nd rfl (.inl rfl) (pe_op op_mod (pe_op op_mul pe_int (pe_op op_add (pe_op op_add (pe_op op_mul (pv 1) (pv 1)) (pe_op op_mul pe_int (pv 1))) pe_int)) pe_int))
      (pss_cons (ps_for PassesOwn.never rfl (pi_list (pe_slice sl_list (pv 0) po_none (po_some pe_int))) (pg_name (i := 3) sc_law_cell.nd rfl (.inl rfl))
        (pss_one (ps_set (i := 2) sc_law_cell.nd rfl (.inl rfl) (pe_op op_mod (pe_op op_add (pe_op op_mul (pv 2) pe_int) (pv 3)) pe_int))))
      (pss_one (ps_ret (pv 2))))), ?_⟩
    refine ⟨_, rfl, _, rfl, a, _, rfl, .inl ha, _, _, rfl, rfl, _, rfl, ?_⟩
    have e : decide (((k : Nat) : Int) < ((ns.map V.int).length : Int)) = decide (k < ns.length) := by
      rw [List.length_map, Bool.eq_iff_iff, decide_eq_true_eq, decide_eq_true_eq]
      omega
    show if decide (((k : Nat) : Int) < ((ns.map V.int).length : Int)) = true then _ else _
    rw [e]
    refine ite2 (fun e => ?_) (fun e => ?_)
    · have lt := of_decide_eq_true e
      refine ⟨_, rfl, _, rfl, a, _, _, .int ns[k], rfl, rfl, ha, atI_nat (by rw [List.getElem?_map, List.getElem?_eq_getElem lt]; rfl), q H _ (Same.refl H)⟩
    · have ck : CMul ((k : Nat) : Int) ((k : Nat) : Int) := .inl ⟨by omega, by omega⟩
      have c7 : CMul 7 ((k : Nat) : Int) := .inl ⟨by omega, by omega⟩
      have c8 : ∀ j, CMul 80021 j := fun j => .inl ⟨by omega, by omega⟩
      refine ⟨_, rfl, _, rfl, _, _, rfl, rfl, ck, _, rfl, _, _, rfl, rfl, c7, _, _, rfl, rfl, _, _, rfl, rfl, _, _, rfl, rfl, c8 _, _, _, rfl, rfl, big0, ?_⟩
      refine ⟨_, rfl, _, rfl, a, _, rfl, ha, fun p hp => ?_⟩
      refine ⟨p, rfl, ⟨_, SqL.of upd_same⟩, for_list (K := K) (a := p) (xs := cutV (ns.map V.int) none (some 3)) (fun i σ H2 => ∃ (n : Int) (y : Option V), σ = [some (.ref a), some (.int k), some (.int n), y] ∧ H2 = upd H p (.lst (cutV (ns.map V.int) none (some 3)))) ⟨_, none, rfl, rfl⟩ (fun i σ H2 _ ⟨_, _, _, e2⟩ => by rw [e2]; exact SqL.of upd_same) ?_ ?_⟩
      · rintro i x σ H2 hi ⟨n, y, rfl, rfl⟩
        have hm : x ∈ ns.map V.int := List.drop_subset _ _ (List.take_subset _ _ (List.mem_of_getElem? hi))
        obtain ⟨m, _, rfl⟩ := List.mem_map.mp hm
        exact ⟨_, rfl, _, _, rfl, rfl, .inr ⟨by omega, by omega⟩, _, rfl, _, _, rfl, rfl, _, _, rfl, rfl, big0, _, _, rfl, rfl⟩
      · rintro σ H2 ⟨n, y, rfl, rfl⟩
        exact ⟨_, rfl, q _ n (same_upd hp)⟩

/-! ### _law_purse -/
def spLawPurse : Sp := fun vs H Q _ => ∃ n : Int, vs = [.int n] ∧ ∀ (H' : Hp) (p : Addr), Same H H' → PurseAt H' p → H p = none → Q (.ref p) H'
theorem sc_law_purse : FnScope ["_law_cell_here", "_law_digits"] ["_law_cell_here"] (defScope s_law_purse) := ⟨rfl, rfl, rfl, by decide +kernel, rfl, by decide +kernel, by decide +kernel⟩
theorem has_law_purse (E : Env K mg C) (F : Def K mg "_law_purse" s_law_purse) : Has P w K mg base "_law_purse" 1 ["_law_cell_here"] spLawPurse := by
  refine has_mk F sc_law_purse (fun _ _ _ _ _ _ us hl => match us, hl with | [_], _ => rfl) (fun vs H Q E h => ?_) (fun f cdv A oute s H vs Q E' hr h => ?_)
  · obtain ⟨_, rfl, _⟩ := h
    rfl
  · obtain ⟨n, rfl, q⟩ := h
    refine ⟨_, pss_cons (ps_set (i := 1) sc_law_purse.nd rfl (.inl rfl) (pe_ifExp (PW.pt (pw_or (pt_cmpR op_lt (pv 0) pe_int (nomark _)) (pw_or1 (pt_cmpR op_ge (pv 0) (pe_op op_pow pe_int pe_int) (nomark _)))))
        (pe_callB call_abs (by rfl) E.abs boot_abs (pa_cons (pv 0) pa_nil)) pe_int))
      (pss_one (ps_ret (pe_lst (pa_cons (pv 1) (pa_cons (pe_op op_add (pe_op op_mul (pe_op op_mod (pv 0) pe_int) pe_int) pe_int) (pa_cons pe_int pa_nil)))))), ?_⟩
    have fin : ∀ d : Int, 0 ≤ d → ∀ p, H p = none → Q (.ref p) (upd H p (.lst [.int d, .int (n % 1000000123 * 7001 + 3007), .int 0])) := fun d hd p hp => q _ p (same_upd hp) ⟨d, _, _, upd_same, hd⟩ hp
    have tail : ∀ d : Int, 0 ≤ d → ∃ x, ([some (V.int n), some (V.int d)] : L2.St)[1]? = some (some x) ∧ True := fun d _ => ⟨_, rfl, trivial⟩
    have c10 : CPow 10 18 := ⟨by decide, by decide, by decide⟩
    have cm : CMul (n % 1000000123) 7001 := .inr ⟨by decide, by decide⟩
    refine ⟨_, rfl, _, _, rfl, rfl, _, rfl, ?_⟩
    refine ite2 (fun e => ?_) (fun e => ?_)
    · refine ⟨_, rfl, n, rfl, ?_⟩
      refine ⟨_, rfl, _, rfl, _, _, rfl, rfl, big0, _, _, rfl, rfl, cm, _, _, rfl, rfl, (show 3 ≤ sizeLine by decide), fun p hp => fin _ ?_ p hp⟩
      show (0 : Int) ≤ if n < 0 then -n else n
      split <;> omega
    · refine ⟨_, rfl, _, _, rfl, rfl, c10, _, _, rfl, rfl, _, rfl, ?_⟩
      refine ite2 (fun e => ?_) (fun e => ?_)
      · refine ⟨_, rfl, n, rfl, ?_⟩
        refine ⟨_, rfl, _, rfl, _, _, rfl, rfl, big0, _, _, rfl, rfl, cm, _, _, rfl, rfl, (show 3 ≤ sizeLine by decide), fun p hp => fin _ ?_ p hp⟩
        show (0 : Int) ≤ if n < 0 then -n else n
        split <;> omega
      · refine ⟨_, rfl, _, rfl, _, _, rfl, rfl, big0, _, _, rfl, rfl, cm, _, _, rfl, rfl, (show 3 ≤ sizeLine by decide), fun p hp => fin _ (Int.le_refl _) p hp⟩

/-! ### _law_draw -/
def spLawDraw : Sp := fun vs H Q _ => ∃ (p : Addr) (m : Nat), vs = [.ref p, .int m] ∧ PurseAt H p ∧ 0 < m ∧ m ≤ 1000 ∧ ∀ (H' : Hp) (r : Nat), SameBut p H H' → PurseAt H' p → r < m → Q (.int r) H'
theorem sc_law_draw : FnScope ["_law_purse_here", "_law_many", "_law_digit", "_law_state"] ["_law_purse_here", "_law_many"] (defScope s_law_draw) := ⟨rfl, rfl, rfl, by decide +kernel, rfl, by decide +kernel, by decide +kernel⟩
theorem has_law_draw (E : Env K mg C) (F : Def K mg "_law_draw" s_law_draw) : Has P w K mg base "_law_draw" 1 ["_law_purse_here", "_law_many"] spLawDraw := by
  refine has_mk F sc_law_draw (fun _ _ _ _ _ _ us hl => match us, hl with | [_, _], _ => rfl) (fun vs H Q E h => ?_) (fun f cdv A oute s H vs Q E' hr h => ?_)
  · obtain ⟨_, _, rfl, _⟩ := h
    rfl
  · obtain ⟨p, m, rfl, ⟨d, t, c, hp, hd⟩, m1, m2, q⟩ := h
    refine ⟨_, pss_cons (ps_asg (pe_op op_add (pe_ix ix_list (pv 0) pe_int (fun _ _ => rfl)) pe_int) (pg_sub (pv 0) pe_int set_list))
      (pss_cons (ps_if (pt_cmpR op_gt (pe_ix ix_list (pv 0) pe_int (fun _ _ => rfl)) pe_int (nomark _))
        (pss_cons (ps_asg (pe_callB call_divmodW (by rfl) E.divmod boot_divmod (pa_cons (pe_ix ix_list (pv 0) pe_int (fun _ _ => rfl)) (pa_cons (pv 1) pa_nil))) (pg_tup rfl (pgs_cons (pg_sub (pv 0) pe_int set_list) (pgs_cons (pg_name (i := 2) sc_law_draw.nd rfl (.inl rfl)) pgs_nil))))
          (pss_one (ps_ret (pv 2)))) pss_nil)
      (pss_cons (ps_set (i := 3) sc_law_draw.nd rfl (.inl rfl) (pe_op op_mod (pe_ix ix_list (pv 0) pe_int (fun _ _ => rfl)) pe_int))
      (pss_cons (ps_asg (pe_op op_add (pe_op op_mul (pv 3) (pe_op op_add (pe_op op_mod (pv 3) pe_int) pe_int)) (pe_op op_mul pe_int (pe_ix ix_list (pv 0) pe_int (fun _ _ => rfl)))) (pg_sub (pv 0) pe_int set_list))
      (pss_one (ps_ret (pe_op op_mod (pe_op op_fdiv (pe_op op_mod (pe_ix ix_list (pv 0) pe_int (fun _ _ => rfl)) pe_int) pe_int) (pv 1))))))), ?_⟩
    have hu := hu_of hr
    refine ⟨_, rfl, p, _, 2, .int c, rfl, rfl, SqL.of hp, rfl, _, _, rfl, rfl, _, rfl, p, _, 2, 2, rfl, rfl, hp, rfl, ?_⟩
    have hp1 : upd H p (.lst ([V.int d, .int t, .int c].set 2 (.int (c + 1)))) p = some (.lst [.int d, .int t, .int (c + 1)]) := upd_same
    have s1 : SameBut p H (upd H p (.lst ([V.int d, .int t, .int c].set 2 (.int (c + 1))))) := fun b o n e => by rw [upd_ne n]; exact e
    generalize upd H p (.lst ([V.int d, .int t, .int c].set 2 (.int (c + 1)))) = H1 at hp1 s1
    refine ⟨_, rfl, p, _, 0, .int d, rfl, rfl, SqL.of hp1, rfl, _, _, rfl, rfl, _, rfl, ?_⟩
    refine ite2 (fun e => ?_) (fun e => ?_)
    · have cd : CDivP d ((m : Nat) : Int) := ⟨by omega, PyProof.noPylong_small (by omega)⟩
      obtain ⟨r, r1, r2⟩ := mod_nat d m1
      refine ⟨_, rfl, p, _, 0, .int d, rfl, rfl, SqL.of hp1, rfl, _, rfl, d, m, rfl, cd, fun T hT => ?_⟩
      have pT : p ≠ T := ne_of_none hp1 hT
      have hp2 : upd H1 T (.tup [.int (d / (m : Int)), .int (d % (m : Int))]) p = some (.lst [.int d, .int t, .int (c + 1)]) := by rw [upd_ne pT]; exact hp1
      refine ⟨T, _, rfl, SqT.of upd_same, rfl, _, _, rfl, _, rfl, p, _, 0, 0, rfl, rfl, hp2, rfl, _, _, rfl, rfl, _, rfl, ?_⟩
      rw [r2]
      refine q _ r (fun b o n e => ?_) ⟨d / (m : Int), t, c + 1, upd_same, Int.ediv_nonneg hd (by omega)⟩ r1
      rw [upd_ne n, upd_ne (ne_of_none (s1 _ _ n e) hT)]
      exact s1 _ _ n e
    · have ct : CMul (t % 1000000123) (t % 1000000123 % 48017 + 20011) := .inl ⟨by omega, by omega⟩
      have c9 : CMul 90001 (c + 1) := .inl ⟨by decide, by decide⟩
      obtain ⟨r, r1, r2⟩ := mod_nat ((t % 1000000123 * (t % 1000000123 % 48017 + 20011) + 90001 * (c + 1)) % 1000000123 / 16) m1
      refine ⟨_, rfl, p, _, 1, .int t, rfl, rfl, SqL.of hp1, rfl, _, _, rfl, rfl, big0, ?_⟩
      refine ⟨_, rfl, _, rfl, _, _, rfl, rfl, (show (0 : Int) < 48017 by decide), _, _, rfl, rfl, _, _, rfl, rfl, ct, _, rfl, p, _, 2, .int (c + 1), rfl, rfl, SqL.of hp1, rfl, _, _, rfl, rfl, c9, _, _, rfl, rfl, _, rfl, p, _, 1, 1, rfl, rfl, hp1, rfl, ?_⟩
      have hp2 : upd H1 p (.lst ([V.int d, .int t, .int (c + 1)].set 1 (.int (t % 1000000123 * (t % 1000000123 % 48017 + 20011) + 90001 * (c + 1))))) p = some (.lst [.int d, .int (t % 1000000123 * (t % 1000000123 % 48017 + 20011) + 90001 * (c + 1)), .int (c + 1)]) := upd_same
      have c16 : CDiv ((t % 1000000123 * (t % 1000000123 % 48017 + 20011) + 90001 * (c + 1)) % 1000000123) 16 := ⟨by decide, by decide⟩
      refine ⟨_, rfl, p, _, 1, _, rfl, rfl, SqL.of hp2, rfl, _, _, rfl, rfl, big0, _, _, rfl, rfl, c16, _, rfl, _, _, rfl, rfl, (show (0 : Int) < (m : Nat) by omega), ?_⟩
      show Q (.int (_ % (m : Int))) _
      rw [r2]
      exact q _ r (fun b o n e => by rw [upd_ne n]; exact s1 _ _ n e) ⟨d, _, _, upd_same, hd⟩ r1
end
end Wb
set_option maxHeartbeats 2000000
/-! Wakebells: the law's names: words or texts of one stem, in order. -/
namespace Wb
open PySem PySem.Spec PyProof.Rows L2 WbR
def words11 : List Str := ["pull", "put", "strike", "wake", "unwake", "back", "web", "heard", "live", "rung", "can"]
def words2 : List Str := ["most", "end"]
def words : List Str := words11 ++ words2
def steps : List Nat := [1, 5, 7, 11]
def lets : List Nat := letters.cps.toList
theorem lets_len : lets.length = 26 := by decide +kernel
theorem words_ok : ∀ z ∈ words, (decide (1 ≤ z.cps.size) && decide (z.cps.size ≤ 8) && z.cps.toList.all fun c => decide (c ∈ lets)) = true := by decide +kernel
theorem word_ok {z : Str} (h : z ∈ words) : NameOk z := by
  have := words_ok z h
  rw [Bool.and_eq_true, Bool.and_eq_true, decide_eq_true_eq, decide_eq_true_eq, List.all_eq_true] at this
  exact ⟨this.1.1, this.1.2, fun c hc => of_decide_eq_true (this.2 c hc)⟩
def pickW (t s m : Nat) : List Str := (List.range m).map fun k => words.getD ((t + s * k) % 13) ""
def pickL (t s m : Nat) : List Nat := (List.range m).map fun k => lets.getD ((2 * t + s * k) % 26) 0
theorem pickW_nd : ∀ m, m < 4 → ∀ t, t < 13 → ∀ s ∈ steps, (pickW t s m).Nodup := by decide +kernel
theorem pickL_nd : ∀ m, m < 4 → ∀ t, t < 13 → ∀ s ∈ steps, (pickL t s m).Nodup := by decide +kernel
theorem pickW_mem {t s m : Nat} {z : Str} (h : z ∈ pickW t s m) : z ∈ words := by
  obtain ⟨k, _, rfl⟩ := List.mem_map.mp h
  have : (t + s * k) % 13 < words.length := Nat.mod_lt _ (by decide)
  rw [List.getD_eq_getElem?_getD, List.getElem?_eq_getElem this]
  exact List.getElem_mem _
theorem pickL_mem {t s m c : Nat} (h : c ∈ pickL t s m) : c ∈ lets := by
  obtain ⟨k, _, rfl⟩ := List.mem_map.mp h
  have : (2 * t + s * k) % 26 < lets.length := by rw [lets_len]; exact Nat.mod_lt _ (by decide)
  rw [List.getD_eq_getElem?_getD, List.getElem?_eq_getElem this]
  exact List.getElem_mem _
/-- a letter put into the stem -/
def stemS (l : List Nat) (at' : Nat) (c : Nat) : Str := ⟨(l.take at' ++ [c] ++ l.drop at').toArray⟩
theorem stemS_inj {l : List Nat} {a c d : Nat} (h : stemS l a c = stemS l a d) : c = d := by
  have e : (l.take a ++ [c] ++ l.drop a).toArray = (l.take a ++ [d] ++ l.drop a).toArray := congrArg Str.cps h
  have e2 : l.take a ++ [c] ++ l.drop a = l.take a ++ [d] ++ l.drop a := by simpa using e
  rw [List.append_assoc, List.append_assoc] at e2
  have e3 := List.append_cancel_left e2
  exact (List.cons.inj e3).1
theorem stemS_ok {l : List Nat} {a c : Nat} (hl : ∀ x ∈ l, x ∈ lets) (hc : c ∈ lets) (h7 : l.length ≤ 7) : NameOk (stemS l a c) := by
  have hs : (stemS l a c).cps.size = l.length + 1 := by
    show (l.take a ++ [c] ++ l.drop a).toArray.size = _
    rw [List.size_toArray, List.length_append, List.length_append, List.length_take, List.length_drop]
    show min a l.length + 1 + (l.length - a) = _
    omega
  refine ⟨by omega, by omega, fun x hx => ?_⟩
  have hx' : x ∈ l.take a ++ [c] ++ l.drop a := by simpa [stemS] using hx
  rcases List.mem_append.mp hx' with h | h
  · rcases List.mem_append.mp h with h | h
    · exact hl x (List.take_subset _ _ h)
    · rw [List.mem_singleton.mp h]; exact hc
  · exact hl x (List.drop_subset _ _ h)
theorem nodup_map_inj {α β : Type} {f : α → β} (hf : ∀ a b, f a = f b → a = b) : ∀ {l : List α}, l.Nodup → (l.map f).Nodup
  | [], _ => by simp
  | x :: l, h => by
    obtain ⟨h1, h2⟩ := List.nodup_cons.mp h
    rw [List.map_cons, List.nodup_cons]
    refine ⟨fun z => ?_, nodup_map_inj hf h2⟩
    obtain ⟨y, hy, e⟩ := List.mem_map.mp z
    rw [hf y x e] at hy
    exact h1 hy
theorem str_of_list {a b : Str} (h : a.cps.toList = b.cps.toList) : a = b := by
  cases a; cases b
  exact congrArg Str.mk (Array.toList_inj.mp h)
theorem lt_of_not {a b : Str} (ne : a ≠ b) (h : ¬ b.cps.toList < a.cps.toList) : a.cps.toList < b.cps.toList := by
  apply Classical.byContradiction
  intro h2
  exact ne (str_of_list (List.le_antisymm (List.not_lt.mp h) (List.not_lt.mp h2)))
theorem rises_of : ∀ {ys : List Str}, sortedS ys = true → ys.Nodup → Rises ys
  | [], _, _ => fun i a b h => by simp at h
  | x :: r, h, nd => by
    have key : ∀ (r : List Str) (x : Str), risingS x r = true → (x :: r).Nodup → Rises (x :: r) := by
      intro r
      induction r with
      | nil =>
        intro x _ _ i a b h1 h2
        simp at h2
      | cons y r ih =>
        intro x h nd i a b h1 h2
        have h' : (!ltCps y.cps.toList x.cps.toList && risingS y r) = true := h
        rw [Bool.and_eq_true, Bool.not_eq_true'] at h'
        obtain ⟨n1, n2⟩ := List.nodup_cons.mp nd
        cases i with
        | zero =>
          have e1 : x = a := by simpa using h1
          have e2 : y = b := by simpa using h2
          subst e1; subst e2
          have := h'.1
          rw [ltCps_eq] at this
          exact lt_of_not (fun e => n1 (by rw [e]; exact List.mem_cons_self)) (of_decide_eq_false this)
        | succ i => exact ih y h'.2 n2 i a b (by simpa using h1) (by simpa using h2)
    exact key r x h nd
/-- what is so of the names told -/
structure NamesOk (bs : List Str) (m : Nat) : Prop where
  len : bs.length = m
  ok : ∀ b ∈ bs, NameOk b
  nd : bs.Nodup
  ri : Rises bs
theorem names_of {xs ys : List Str} {m : Nat} (p : ys.Perm xs) (s : sortedS ys = true) (l : xs.length = m) (ok : ∀ b ∈ xs, NameOk b) (nd : xs.Nodup) : NamesOk ys m :=
  have nd' : ys.Nodup := p.nodup_iff.mpr nd
  ⟨by rw [p.length_eq, l], fun b hb => ok b (p.mem_iff.mp hb), nd', rises_of s nd'⟩
theorem join_letters (l : List Nat) : Txt.join "" (l.map fun c => (⟨#[c]⟩ : Str)) = ⟨l.toArray⟩ := by
  have h := SX.join_S [] (l.map fun c => [c])
  have e : (l.map fun c => [c]).map SX.S = l.map fun c => (⟨#[c]⟩ : Str) := by
    rw [List.map_map]
    rfl
  rw [e] at h
  have j : ∀ l : List Nat, TL.joinL [] (l.map fun c => [c]) = l := by
    intro l
    induction l with
    | nil => rfl
    | cons a l ih =>
      cases l with
      | nil => rfl
      | cons b l =>
        show [a] ++ ([] ++ TL.joinL [] ((b :: l).map fun c => [c])) = _
        rw [ih]
        rfl
  rw [j] at h
  exact h
theorem cut_lo (l : List Nat) (a : Nat) (h : a ≤ l.length) : cutS ⟨l.toArray⟩ none (some (a : Int)) = ⟨(l.take a).toArray⟩ := by
  unfold cutS
  rw [HT.sIx_none, HT.sIx_nat]
  have e : (⟨l.toArray⟩ : Str).length = l.length := by simp [Str.length]
  rw [e, Nat.min_eq_left h]
  rfl
theorem cut_hi (l : List Nat) (a : Nat) (h : a ≤ l.length) : cutS ⟨l.toArray⟩ (some (a : Int)) none = ⟨(l.drop a).toArray⟩ := by
  unfold cutS
  rw [HT.sIx_none, HT.sIx_nat]
  have e : (⟨l.toArray⟩ : Str).length = l.length := by simp [Str.length]
  rw [e, Nat.min_eq_left h, List.take_of_length_le (by rw [List.length_drop]; exact Nat.le_refl _)]
end Wb
set_option maxHeartbeats 2000000
namespace Wb
open PySem PySem.Spec PyProof.Rows L2 WbR
section
variable {g : TG} {tt : TT} {te : TE} {vs : List Nat} {σ : L2.St} {H1 : Hp} {D : Addr} {Qd : Hp → Prop}
/-- the parts leave the heap, over a range -/
theorem lc_pureR {n : Nat} (f : V → Option V) (hD : H1 D = none) (hz : n ≤ 1000) (hs : TurnP f ((List.range n).map vN) g tt te vs σ H1 D) (hd : Qd (upd H1 D (.lst (((List.range n).map vN).filterMap f)))) :
    ∃ W : Nat → Nat → Hp → Prop, (∃ m, W 0 m (upd H1 D (.lst []))) ∧ ∀ i m H, W i m H →
      ((Itr 0 n).stop i H ∧ Qd H) ∨ ((Itr 0 n).go i H ∧ ∃ Nx : Hp → Prop, (∀ H', Nx H' → ∃ m', m' < m ∧ W (i + 1) m' H') ∧ ∀ x H', (Itr 0 n).yld i H x H' → g x (wipe σ vs) H' fun σ2 H2 => wipe σ2 vs = wipe σ vs ∧ tt σ2 H2 fun b H3 =>
        if b = true then te σ2 H3 fun y H4 => ∃ acc, H4 D = some (.lst acc) ∧ acc.length < sizeLine ∧ Nx (upd H4 D (.lst (acc ++ [y]))) else Nx H3) := by
  have ln : ((List.range n).map vN).length = n := by rw [List.length_map, List.length_range]
  refine lc_it (walk_range (lo := 0) (n := n)) (fun i H => H = upd H1 D (.lst ((((List.range n).map vN).take i).filterMap f))) (by rw [List.take_zero]; rfl) (fun _ _ _ _ => trivial) (fun i x H H' hi e y => ?_) (fun H e => ?_)
  · obtain ⟨rfl, rfl⟩ := y
    have hx : ((List.range n).map vN)[i]? = some (V.int (0 + (i : Int))) := by
      rw [List.getElem?_map, List.getElem?_range hi, Int.zero_add]
      rfl
    exact lc_turn (by rw [ln]; exact hz) hs i _ _ hx e
  · have : ((List.range n).map vN).take n = (List.range n).map vN := List.take_of_length_le (by rw [ln]; exact Nat.le_refl _)
    rw [this] at e
    rw [e]
    exact hd
end
/-- a value for each number -/
def onN (g : Nat → V) : V → Option V
  | .int i => some (g i.toNat)
  | _ => none
theorem onN_n (g : Nat → V) (n : Nat) : onN g (vN n) = some (g n) := by
  show some (g (n : Int).toNat) = _
  rw [Int.toNat_natCast]
theorem filterMap_onN (g : Nat → V) (l : List Nat) : (l.map vN).filterMap (onN g) = l.map g := by
  induction l with
  | nil => rfl
  | cons a l ih =>
    rw [List.map_cons, List.filterMap_cons, onN_n, List.map_cons, ih]
theorem range_get {n i : Nat} {x : V} (h : ((List.range n).map vN)[i]? = some x) : x = vN i ∧ i < n := by
  rw [List.getElem?_map] at h
  obtain ⟨j, hj, e⟩ := Option.map_eq_some_iff.mp h
  obtain ⟨h1, h2⟩ := List.getElem?_eq_some_iff.mp hj
  rw [List.length_range] at h1
  rw [List.getElem_range] at h2
  exact ⟨by rw [← e, h2], h1⟩
section
variable {P : Program} {w : World} {K : PySem.W.Frag} {mg : Str → Option Value} {base : Heap} {C : Addr}

/-! ### _law_names -/
def spLawNames : Sp := fun vs H Q _ => ∃ (p : Addr) (m : Nat), vs = [.ref p, .int m] ∧ PurseAt H p ∧ 1 ≤ m ∧ m ≤ 3 ∧ ∀ (H' : Hp) (q : Addr) (bs : List Str) (ob : Obj), SameBut p H H' → PurseAt H' p → NamesOk bs m → H' q = some (.frz ob (.tup (bs.map V.str))) → PlainT ob → Q (.ref q) H'
theorem sc_law_names : FnScope ["_law_purse_here", "_law_many", "_law_words", "_law_turn", "_law_step", "_law_letters", "_law_stem", "_law_at", "_law_found", "_law_k", "_law_letter"] ["_law_purse_here", "_law_many"] (defScope s_law_names) := ⟨rfl, rfl, rfl, by decide +kernel, rfl, by decide +kernel, by decide +kernel⟩
theorem has_law_names (E : Env K mg C) (F : Def K mg "_law_names" s_law_names) (h1 : Has P w K mg base "_law_draw" 1 ["_law_purse_here", "_law_many"] spLawDraw) : Has P w K mg base "_law_names" 2 ["_law_purse_here", "_law_many"] spLawNames := by
  obtain ⟨f1, fd1, G1, g1, kp1, b1⟩ := h1.ex
  refine has_mk F sc_law_names (fun _ _ _ _ _ _ us hl => match us, hl with | [_, _], _ => rfl) (fun vs H Q E h => ?_) (fun f cdv A oute s H vs Q E' hr h => ?_)
  · obtain ⟨_, _, rfl, _⟩ := h
    rfl
  · obtain ⟨p, m, rfl, hp, m1, m3, q⟩ := h
    have nd := sc_law_names.nd
    refine ⟨_, pss_cons (ps_set (i := 2) nd rfl (.inr rfl) (pe_lst (pa_cons pe_str (pa_cons pe_str (pa_cons pe_str (pa_cons pe_str (pa_cons pe_str (pa_cons pe_str (pa_cons pe_str (pa_cons pe_str (pa_cons pe_str (pa_cons pe_str (pa_cons pe_str pa_nil)))))))))))))
      (pss_cons (ps_set (i := 2) nd rfl (.inr rfl) (pe_op op_cat (pv 2) (pe_lst (pa_cons pe_str (pa_cons pe_str pa_nil)))))
      (pss_cons (ps_asg (pe_tup (pa_cons (pe_call G1 hr (by rfl) g1 kp1 b1 .nil pass0 (pa_cons (pv 0) (pa_cons pe_int pa_nil))) (pa_cons (pe_ix ix_list (pe_lst (pa_cons pe_int (pa_cons pe_int (pa_cons pe_int (pa_cons pe_int pa_nil)))))
          (pe_call G1 hr (by rfl) g1 kp1 b1 .nil pass0 (pa_cons (pv 0) (pa_cons pe_int pa_nil))) (fun _ _ => rfl)) pa_nil))) (pg_tup rfl (pgs_cons (pg_name (i := 3) nd rfl (.inr rfl)) (pgs_cons (pg_name (i := 4) nd rfl (.inr rfl)) pgs_nil))))
      (pss_cons (ps_if (pt_cmpR op_eq (pe_call G1 hr (by rfl) g1 kp1 b1 .nil pass0 (pa_cons (pv 0) (pa_cons pe_int pa_nil))) pe_int (nomark _))
        (pss_one (ps_ret (pe_callTy call_tupleZ (by rfl) E.tuple boot_tuple (pa_cons (pe_callB cr_sortedS (by rfl) E.sorted boot_sorted (pa_cons (pe_lc (own := [("_law_k", 9)]) (g := gName 9) (tt := tYes) (by rfl) nd (pi_range1 (by rfl) E.range (pa_cons (pv 1) pa_nil))
          (blkOk_by (own := [("_law_k", 9)]) (N := ["_law_purse_here", "_law_many", "_law_words", "_law_turn", "_law_step", "_law_letters", "_law_stem", "_law_at", "_law_found", "_law_k", "_law_letter"]) (sc := defScope s_law_names) (by decide +kernel)) (fun _ _ _ _ _ => pg_name (i := 9) nd rfl (Or.inl rfl))
          (fun _ _ _ _ _ => pts_nil) (fun _ _ _ _ _ => pe_ix (show IxR _ (rIxL K) from ix_list) (pv 2) (pe_op op_mod (pe_op op_add (pv 3) (pe_op op_mul (pv 4) (pv 9))) pe_int) (fun _ _ => rfl))) pa_nil)) pa_nil)))) pss_nil)
      (pss_cons (ps_set (i := 5) nd rfl (.inr rfl) pe_str)
      (pss_cons (ps_set (i := 6) nd rfl (.inl rfl) (pe_join pe_str (pe_lc (own := [("_law_k", 9)]) (g := gName 9) (tt := tYes) (by rfl) nd (pi_range1 (by rfl) E.range (pa_cons (pe_call G1 hr (by rfl) g1 kp1 b1 .nil pass0 (pa_cons (pv 0) (pa_cons pe_int pa_nil))) pa_nil))
          (blkOk_by (own := [("_law_k", 9)]) (N := ["_law_purse_here", "_law_many", "_law_words", "_law_turn", "_law_step", "_law_letters", "_law_stem", "_law_at", "_law_found", "_law_k", "_law_letter"]) (sc := defScope s_law_names) (by decide +kernel)) (fun _ _ _ _ _ => pg_name (i := 9) nd rfl (Or.inl rfl))
          (fun _ _ _ _ _ => pts_nil) (fun _ _ _ _ _ => pe_ix ix_str (pv 5) (pe_call G1 hr (by rfl) g1 kp1 b1 .nil pass0 (pa_cons (pv 0) (pa_cons pe_int pa_nil))) (fun _ _ => rfl)))))
      (pss_cons (ps_par (i := 7) (j := 8) rfl nd rfl rfl (by decide) rfl rfl (pa_cons (pe_call G1 hr (by rfl) g1 kp1 b1 .nil pass0 (pa_cons (pv 0) (pa_cons (pe_op op_add (pe_callB call_len_str (by rfl) E.len PySem.boot_len (pa_cons (pv 6) pa_nil)) pe_int) pa_nil))) (pa_cons (pe_lst pa_nil) pa_nil)) rfl)
      (pss_cons (ps_for PassesOwn.never rfl (pi_range1 (by rfl) E.range (pa_cons (pv 1) pa_nil)) (pg_name (i := 9) nd rfl (.inl rfl))
        (pss_cons (ps_set (i := 10) nd rfl (.inl rfl) (pe_ix ix_str (pv 5) (pe_op op_mod (pe_op op_add (pe_op op_mul pe_int (pv 3)) (pe_op op_mul (pv 4) (pv 9))) pe_int) (fun _ _ => rfl)))
        (pss_one (ps_expr (pe_bm PySem.F.plainAttrs_list PySem.F.slot_list_append PySem.F.type_list_append mt_append (pv 8) (pa_cons (pe_op op_add_str (pe_op op_add_str (pe_slice sl_str (pv 6) po_none (po_some (pv 7))) (pv 10)) (pe_slice sl_str (pv 6) (po_some (pv 7)) po_none)) pa_nil))))))
      (pss_one (ps_ret (pe_callTy call_tupleZ (by rfl) E.tuple boot_tuple (pa_cons (pe_callB cr_sortedS (by rfl) E.sorted boot_sorted (pa_cons (pv 8) pa_nil)) pa_nil))))))))))), ?_⟩
    refine ⟨(show 11 ≤ sizeLine by decide), fun A1 hA => ?_⟩
    have e1 : upd H A1 (.lst (words11.map V.str)) A1 = some (.lst (words11.map V.str)) := upd_same
    have s1 := same_upd (o := .lst (words11.map V.str)) hA
    refine ⟨_, rfl, (show 2 ≤ sizeLine by decide), fun B1 hB => ?_⟩
    have s2 := s1.trans (same_upd (o := .lst (words2.map V.str)) hB)
    refine ⟨A1, B1, words11.map V.str, words2.map V.str, rfl, rfl, same_upd hB _ _ e1, upd_same, (show 13 ≤ sizeLine by decide), fun Wd hWd => ?_⟩
    have s3 := s2.trans (same_upd (o := .lst (words11.map V.str ++ words2.map V.str)) hWd)
    have hW : upd (upd (upd H A1 (.lst (words11.map V.str))) B1 (.lst (words2.map V.str))) Wd (.lst (words11.map V.str ++ words2.map V.str)) Wd = some (.lst (words.map V.str)) := by
      rw [upd_same]
      unfold words
      rw [List.map_append]
    have Wp : Wd ≠ p := by
      obtain ⟨d, x, y, e, _⟩ := hp
      exact (ne_of_none (s2 _ _ e) hWd).symm
    have hp3 := hp.mono s3
    refine ⟨_, rfl, p, 13, rfl, hp3, by decide, by decide, fun H4 t s4 hp4 t1 => ?_⟩
    refine ⟨(show 4 ≤ sizeLine by decide), fun Z hZ => ?_⟩
    have s5 := same_upd (o := .lst [.int 1, .int 5, .int 7, .int 11]) hZ
    have pZ : Z ≠ p := by
      obtain ⟨d, x, y, e, _⟩ := hp4
      exact (ne_of_none e hZ).symm
    refine ⟨_, rfl, p, 4, rfl, hp4.mono s5, by decide, by decide, fun H6 r s6 hp6 r1 => ?_⟩
    have eZ : H6 Z = some (.lst [.int 1, .int 5, .int 7, .int 11]) := s6 _ _ pZ upd_same
    obtain ⟨st, hst, er⟩ : ∃ st ∈ steps, ([V.int 1, .int 5, .int 7, .int 11] : List V)[r]? = some (vN st) := by
      match r, r1 with
      | 0, _ => exact ⟨1, by decide, rfl⟩
      | 1, _ => exact ⟨5, by decide, rfl⟩
      | 2, _ => exact ⟨7, by decide, rfl⟩
      | 3, _ => exact ⟨11, by decide, rfl⟩
    refine ⟨Z, _, _, vN st, rfl, rfl, SqL.of eZ, atI_nat er, ?_⟩
    refine ⟨(show 2 ≤ sizeLine by decide), fun T hT => ?_⟩
    refine ⟨T, _, rfl, SqT.of upd_same, rfl, _, _, rfl, _, _, rfl, rfl, ?_⟩
    have st11 : st ≤ 11 := by
      have : ∀ s ∈ steps, s ≤ 11 := by decide
      exact this st hst
    have s36 := (s4.trans ((Same.but s5).trans s6)).trans (Same.but (same_upd (o := .tup [vN t, vN st]) hT))
    have hp7 := hp6.mono (same_upd (o := .tup [vN t, vN st]) hT)
    have s07 : SameBut p H (upd H6 T (.tup [vN t, vN st])) := SameBut.trans (Same.but s3) s36
    have hW7 := s36 _ _ Wp hW
    refine ⟨_, rfl, p, 4, rfl, hp7, by decide, by decide, fun H8 r2 s8 hp8 r3 => ⟨rfl, _, rfl, ?_⟩⟩
    have s08 := s07.trans s8
    have hW8 := s8 _ _ Wp hW7
    refine ite2 (fun e => ?_) (fun e => ?_)
    · refine ⟨_, rfl, (m : Nat), rfl, by omega, by omega, fun D hD => ?_⟩
      rw [Int.toNat_natCast]
      have sD := fun o => same_upd (o := o) hD
      refine lc_pureR (n := m) (onN fun k => .str (words.getD ((t + st * k) % 13) "")) hD (by omega) (fun i x acc R1 R0 hx h0 h1 => ?_) ?_
      · obtain ⟨rfl, hi⟩ := range_get hx
        have cs : CMul ((st : Nat) : Int) ((i : Nat) : Int) := .inl ⟨by omega, by omega⟩
        have ei : (((t : Nat) : Int) + ((st : Nat) : Int) * ((i : Nat) : Int)) % 13 = (((t + st * i) % 13 : Nat) : Int) := by
          rw [← Int.natCast_mul, ← Int.natCast_add]
          omega
        have lt : (t + st * i) % 13 < words.length := Nat.mod_lt _ (by decide)
        refine ⟨rfl, yesT ?_⟩
        refine ⟨_, rfl, _, rfl, _, rfl, _, rfl, _, _, rfl, rfl, cs, _, _, rfl, rfl, _, _, rfl, rfl, (show (0 : Int) < 13 by decide), Wd, words.map V.str, _, .str (words.getD ((t + st * i) % 13) ""), rfl, rfl, SqL.of (sD _ _ _ hW8), ?_, ?_⟩
        · rw [ei]
          refine atI_nat ?_
          rw [List.getElem?_map, List.getElem?_eq_getElem lt, List.getD_eq_getElem?_getD, List.getElem?_eq_getElem lt]
          rfl
        · exact h1 _ (onN_n _ _)
      · rw [filterMap_onN]
        have exs : ((List.range m).map fun k => V.str (words.getD ((t + st * k) % 13) "")) = (pickW t st m).map V.str := by
          unfold pickW
          rw [List.map_map]
          rfl
        rw [exs]
        have lenW : (pickW t st m).length = m := by unfold pickW; rw [List.length_map, List.length_range]
        refine ⟨D, pickW t st m, rfl, SqL.of upd_same, by omega, fun ys pS perm srt hS => ?_⟩
        refine ⟨pS, ys.map V.str, rfl, SqL.of upd_same, fun qa ob hq pt => ?_⟩
        have sE := ((sD (.lst ((pickW t st m).map V.str))).trans (same_upd hS)).trans (same_upd (o := .frz ob (.tup (ys.map V.str))) hq)
        exact q _ qa ys ob (s08.trans (Same.but sE)) (hp8.mono sE) (names_of perm srt lenW (fun b hb => word_ok (pickW_mem hb)) (pickW_nd m (by omega) t t1 st hst)) upd_same pt
    · refine ⟨⟨_, rfl⟩, ?_⟩
      refine ⟨_, rfl, p, 8, rfl, hp8, by decide, by decide, fun H9 n s9 hp9 n1 => ⟨n, rfl, by omega, by omega, fun D hD => ?_⟩⟩
      rw [Int.toNat_natCast]
      have Dp : D ≠ p := by
        obtain ⟨d, x, y, e, _⟩ := hp9
        exact (ne_of_none e hD).symm
      refine lc_it (walk_range (lo := 0) (n := n)) (fun i H10 => ∃ l : List Nat, l.length = i ∧ (∀ c ∈ l, c ∈ lets) ∧ SameBut p H9 H10 ∧ PurseAt H10 p ∧ H10 D = some (.lst (l.map fun c => .str ⟨#[c]⟩)))
        ⟨[], rfl, fun c hc => (nomatch hc), Same.but (same_upd hD), hp9.mono (same_upd hD), upd_same⟩ (fun _ _ _ _ => trivial) (fun i x H10x H10 hi h y => ?_) (fun H10 h => ?_)
      · obtain ⟨rfl, rfl⟩ := y
        obtain ⟨l, ll, lok, s10, hp10, eD⟩ := h
        refine ⟨rfl, yesT ?_⟩
        refine ⟨_, rfl, _, rfl, p, 26, rfl, hp10, by decide, by decide, fun H11 r4 s11 hp11 r5 => ?_⟩
        have lt : r4 < lets.length := by rw [lets_len]; exact r5
        refine ⟨letters, _, lets[r4], rfl, rfl, (show 26 ≤ sizeLine by decide), atI_nat (List.getElem?_eq_getElem lt), ?_⟩
        have eD11 := s11 _ _ Dp eD
        refine ⟨_, eD11, by rw [List.length_map]; exact small1000 (by omega), l ++ [lets[r4]], by rw [List.length_append, ll]; rfl, fun c hc => ?_, fun b o nb e => ?_, ?_, ?_⟩
        · rcases List.mem_append.mp hc with hc | hc
          · exact lok c hc
          · rw [List.mem_singleton.mp hc]; exact List.getElem_mem _
        · rw [upd_ne (ne_of_none e hD)]
          exact s11 _ _ nb (s10 _ _ nb e)
        · obtain ⟨d, x, y, e, z⟩ := hp11
          exact ⟨d, x, y, by rw [upd_ne Dp.symm]; exact e, z⟩
        · rw [upd_same, List.map_append]
          rfl
      · obtain ⟨l, ll, lok, s10, hp10, eD⟩ := h
        refine ⟨"", D, l.map fun c => (⟨#[c]⟩ : Str), rfl, rfl, .inl (SqL.of (by rw [List.map_map]; exact eD)), ?_, ?_⟩
        · have : ((l.map fun c => (⟨#[c]⟩ : Str)).map (·.length)).sum = l.length := by
            rw [List.map_map]
            have : ∀ l : List Nat, (l.map ((fun z : Str => z.length) ∘ fun c => (⟨#[c]⟩ : Str))).sum = l.length := by
              intro l
              induction l with
              | nil => rfl
              | cons a l ih =>
                rw [List.map_cons, List.sum_cons, ih, List.length_cons]
                show 1 + l.length = _
                omega
            exact this l
          rw [this, List.length_map]
          show l.length + l.length * 0 ≤ 16777216
          omega
        · rw [join_letters]
          have zl : (⟨l.toArray⟩ : Str).length = l.length := by simp [Str.length]
          have hW10 := s10 _ _ Wp (s9 _ _ Wp hW8)
          have s010 := (s08.trans s9).trans s10
          refine ⟨_, rfl, _, rfl, ⟨l.toArray⟩, rfl, by rw [zl]; exact Nat.le_of_lt (small1000 (by omega)), _, _, rfl, rfl, p, l.length + 1, rfl, hp10, by omega, by omega, fun H12 at' s12 hp12 at1 => ?_⟩
          refine ⟨Nat.zero_le _, fun Fa hF => ⟨_, _, rfl, ?_⟩⟩
          refine ⟨_, rfl, (m : Nat), rfl, by omega, by omega, ?_⟩
          rw [Int.toNat_natCast]
          have lenL : (pickL t st m).length = m := by unfold pickL; rw [List.length_map, List.length_range]
          refine for_range (lo := 0) (n := m) (fun i σ H13 => ∃ (y9 y10 : Option V), σ = [some (.ref p), some (.int m), some (.ref Wd), some (.int t), some (.int st), some (.str letters), some (.str ⟨l.toArray⟩), some (.int at'), some (.ref Fa), y9, y10] ∧ Same H12 H13 ∧
              H13 Fa = some (.lst (((pickL t st m).take i).map fun c => .str (stemS l at' c))))
            ⟨none, none, rfl, same_upd hF, by rw [List.take_zero]; exact upd_same⟩ ?_ ?_
          · rintro i σ H13 hi ⟨y9, y10, rfl, s13, eF⟩
            have c2 : CMul 2 ((t : Nat) : Int) := .inl ⟨by decide, by decide⟩
            have cs : CMul ((st : Nat) : Int) (0 + ((i : Nat) : Int)) := .inl ⟨by omega, by omega⟩
            have ei : (2 * ((t : Nat) : Int) + ((st : Nat) : Int) * (0 + ((i : Nat) : Int))) % 26 = (((2 * t + st * i) % 26 : Nat) : Int) := by
              rw [Int.zero_add, ← Int.natCast_mul]
              omega
            have lt : (2 * t + st * i) % 26 < lets.length := by rw [lets_len]; exact Nat.mod_lt _ (by decide)
            have hx : lets[(2 * t + st * i) % 26]? = some (lets.getD ((2 * t + st * i) % 26) 0) := by
              rw [List.getD_eq_getElem?_getD, List.getElem?_eq_getElem lt]
              rfl
            have hk : (pickL t st m)[i]? = some (lets.getD ((2 * t + st * i) % 26) 0) := by
              unfold pickL
              rw [List.getElem?_map, List.getElem?_range hi]
              rfl
            refine ⟨_, rfl, _, rfl, _, _, rfl, rfl, c2, _, rfl, _, rfl, _, _, rfl, rfl, cs, _, _, rfl, rfl, _, _, rfl, rfl, (show (0 : Int) < 26 by decide), letters, _, lets.getD ((2 * t + st * i) % 26) 0, rfl, rfl, (show 26 ≤ sizeLine by decide), by rw [ei]; exact atI_nat hx, ?_⟩
            have zz : l.length ≤ 7 := by omega
            have at7 : at' ≤ l.length := by omega
            refine ⟨_, rfl, .inl ⟨rfl, _, SqL.of eF⟩, _, rfl, _, rfl, _, rfl, ⟨l.toArray⟩, rfl, by rw [zl]; exact Nat.le_of_lt (small1000 (by omega)), ?_⟩
            rw [cut_lo l at' at7]
            refine ⟨_, rfl, _, _, rfl, rfl, ?_, _, rfl, _, rfl, _, rfl, ⟨l.toArray⟩, rfl, by rw [zl]; exact Nat.le_of_lt (small1000 (by omega)), ?_⟩
            · have q1 : (⟨(l.take at').toArray⟩ : Str).length = (l.take at').length := by simp [Str.length]
              rw [q1, List.length_take]
              show min at' l.length + 1 ≤ sizeLine
              exact Nat.le_of_lt (small1000 (by omega))
            rw [cut_hi l at' at7]
            have cat : (⟨(l.take at').toArray⟩ : Str) ++ (⟨#[lets.getD ((2 * t + st * i) % 26) 0]⟩ : Str) ++ (⟨(l.drop at').toArray⟩ : Str) = stemS l at' (lets.getD ((2 * t + st * i) % 26) 0) := by
              show SX.S (l.take at') ++ SX.S [lets.getD ((2 * t + st * i) % 26) 0] ++ SX.S (l.drop at') = _
              rw [SX.S_cat, SX.S_cat]
              rfl
            refine ⟨_, _, rfl, rfl, ?_, Fa, _, _, rfl, rfl, eF, ?_, ?_⟩
            · have q1 : ((⟨(l.take at').toArray⟩ : Str) ++ (⟨#[lets.getD ((2 * t + st * i) % 26) 0]⟩ : Str)).length = (l.take at').length + 1 := by
                show (SX.S (l.take at') ++ SX.S [lets.getD ((2 * t + st * i) % 26) 0]).length = _
                rw [SX.S_cat, SX.S_len, List.length_append]
                rfl
              have q2 : (⟨(l.drop at').toArray⟩ : Str).length = (l.drop at').length := by simp [Str.length]
              rw [q1, q2, List.length_take, List.length_drop]
              exact Nat.le_of_lt (small1000 (by omega))
            · rw [List.length_map, List.length_take]
              exact small1000 (by omega)
            · refine ⟨_, _, rfl, fun b o e => ?_, ?_⟩
              · rw [upd_ne (ne_of_none e hF)]
                exact s13 _ _ e
              · rw [upd_same, List.take_add_one, hk, List.map_append, cat]
                rfl
          · rintro σ H13 ⟨y9, y10, rfl, s13, eF⟩
            have full : (pickL t st m).take m = pickL t st m := List.take_of_length_le (by rw [lenL]; exact Nat.le_refl _)
            rw [full] at eF
            refine ⟨_, rfl, Fa, (pickL t st m).map (stemS l at'), rfl, SqL.of (by rw [List.map_map]; exact eF), by rw [List.length_map]; omega, fun ys pS perm srt hS => ?_⟩
            refine ⟨pS, ys.map V.str, rfl, SqL.of upd_same, fun qa ob hq pt => ?_⟩
            have sE := (s13.trans (same_upd hS)).trans (same_upd (o := .frz ob (.tup (ys.map V.str))) hq)
            refine q _ qa ys ob ((s010.trans s12).trans (Same.but sE)) (hp12.mono sE) (names_of perm srt (by rw [List.length_map]; exact lenL) (fun b hb => ?_) (nodup_map_inj (fun a b e => stemS_inj e) (pickL_nd m (by omega) t t1 st hst))) upd_same pt
            obtain ⟨c, hc, rfl⟩ := List.mem_map.mp hb
            exact stemS_ok lok (pickL_mem hc) (by omega)
end
end Wb
set_option maxHeartbeats 2000000
namespace Wb
open PySem PySem.Spec PyProof.Rows L2 WbR
/-! ### links, by codes -/
def codeP (bs : List Str) (c : Nat) : Str × Str := (bs.getD (c / bs.length) "", bs.getD (c % bs.length) "")
theorem getD_mem {bs : List Str} {i : Nat} (h : i < bs.length) : bs.getD i "" ∈ bs := by
  rw [List.getD_eq_getElem?_getD, List.getElem?_eq_getElem h]
  exact List.getElem_mem _
theorem getD_get {bs : List Str} {i : Nat} (h : i < bs.length) : bs[i]? = some (bs.getD i "") := by
  rw [List.getD_eq_getElem?_getD, List.getElem?_eq_getElem h]
  rfl
theorem getD_inj {bs : List Str} (nd : bs.Nodup) {i j : Nat} (hi : i < bs.length) (hj : j < bs.length) (e : bs.getD i "" = bs.getD j "") : i = j := by
  have h1 := getD_get hi
  have h2 := getD_get hj
  rw [e, ← h2] at h1
  exact (List.getElem?_inj hi nd).mp h1
theorem rises_lt {bs : List Str} (ri : Rises bs) {i : Nat} : ∀ {d : Nat}, i + d + 1 < bs.length → (bs.getD i "").cps.toList < (bs.getD (i + d + 1) "").cps.toList
  | 0, h => ri i _ _ (getD_get (by omega)) (getD_get h)
  | d + 1, h => List.lt_trans (rises_lt ri (d := d) (by omega)) (ri (i + d + 1) _ _ (getD_get (by omega)) (getD_get h))
theorem rises_at {bs : List Str} (ri : Rises bs) {i j : Nat} (h : i < j) (hj : j < bs.length) : (bs.getD i "").cps.toList < (bs.getD j "").cps.toList := by
  obtain ⟨d, rfl⟩ : ∃ d, j = i + d + 1 := ⟨j - i - 1, by omega⟩
  exact rises_lt ri hj
theorem code_lt {m c : Nat} (h : c < m * m) : c / m < m ∧ c % m < m := by
  have hm : 0 < m := by
    rcases Nat.eq_zero_or_pos m with e | e
    · subst e; omega
    · exact e
  exact ⟨Nat.div_lt_of_lt_mul h, Nat.mod_lt _ hm⟩
/-- codes in order, below here -/
structure Codes (m n : Nat) (cs : List Nat) : Prop where
  pw : cs.Pairwise (· < ·)
  lt : ∀ c ∈ cs, c < n
theorem Codes.skip {m n : Nat} {cs : List Nat} (h : Codes m n cs) : Codes m (n + 1) cs := ⟨h.pw, fun c hc => Nat.lt_succ_of_lt (h.lt c hc)⟩
theorem Codes.put {m n : Nat} {cs : List Nat} (h : Codes m n cs) : Codes m (n + 1) (cs ++ [n]) := by
  refine ⟨List.pairwise_append.mpr ⟨h.pw, by simp, fun a ha b hb => ?_⟩, fun c hc => ?_⟩
  · rw [List.mem_singleton.mp hb]
    exact h.lt a ha
  · rcases List.mem_append.mp hc with hc | hc
    · exact Nat.lt_succ_of_lt (h.lt c hc)
    · rw [List.mem_singleton.mp hc]; exact Nat.lt_succ_self _
theorem Codes.nd {m n : Nat} {cs : List Nat} (h : Codes m n cs) : cs.Nodup := h.pw.imp fun a => Nat.ne_of_lt a
theorem Codes.len {m n : Nat} {cs : List Nat} (h : Codes m n cs) : cs.length ≤ n := by
  have := length_le_of_sub h.nd (m := List.range n) fun x hx => List.mem_range.mpr (h.lt x hx)
  rw [List.length_range] at this
  exact this
structure LinksOk (bs : List Str) (ws : List (Str × Str)) : Prop where
  sub : ∀ q ∈ ws, q.1 ∈ bs ∧ q.2 ∈ bs
  nd : ws.Nodup
  ri : RisesP ws
  len : ws.length ≤ 9
theorem links_of {bs : List Str} {cs : List Nat} {n : Nat} (nd : bs.Nodup) (ri : Rises bs) (l3 : bs.length ≤ 3) (h : Codes bs.length n cs) (hn : n ≤ bs.length * bs.length) : LinksOk bs (cs.map (codeP bs)) := by
  have lt : ∀ c ∈ cs, c / bs.length < bs.length ∧ c % bs.length < bs.length := fun c hc => code_lt (Nat.lt_of_lt_of_le (h.lt c hc) hn)
  have inj : ∀ a ∈ cs, ∀ b ∈ cs, codeP bs a = codeP bs b → a = b := by
    intro a ha b hb e
    have e1 := getD_inj nd (lt a ha).1 (lt b hb).1 (congrArg Prod.fst e)
    have e2 := getD_inj nd (lt a ha).2 (lt b hb).2 (congrArg Prod.snd e)
    rw [← Nat.div_add_mod a bs.length, ← Nat.div_add_mod b bs.length, e1, e2]
  refine ⟨fun q hq => ?_, ?_, fun i p q hp hq => ?_, ?_⟩
  · obtain ⟨c, hc, rfl⟩ := List.mem_map.mp hq
    exact ⟨getD_mem (lt c hc).1, getD_mem (lt c hc).2⟩
  · have key : ∀ l : List Nat, (∀ a ∈ l, a ∈ cs) → l.Nodup → (l.map (codeP bs)).Nodup := by
      intro l
      induction l with
      | nil => intro _ _; simp
      | cons a l ih =>
        intro hl hnd
        obtain ⟨n1, n2⟩ := List.nodup_cons.mp hnd
        rw [List.map_cons, List.nodup_cons]
        refine ⟨fun z => ?_, ih (fun x hx => hl x (List.mem_cons_of_mem _ hx)) n2⟩
        obtain ⟨y, hy, e⟩ := List.mem_map.mp z
        have := inj y (hl y (List.mem_cons_of_mem _ hy)) a (hl a List.mem_cons_self) e
        exact n1 (this ▸ hy)
    exact key cs (fun _ h => h) h.nd
  · rw [List.getElem?_map] at hp hq
    obtain ⟨c, hc, rfl⟩ := Option.map_eq_some_iff.mp hp
    obtain ⟨d, hd, rfl⟩ := Option.map_eq_some_iff.mp hq
    have cd : c < d := by
      obtain ⟨l1, e1⟩ := List.getElem?_eq_some_iff.mp hc
      obtain ⟨l2, e2⟩ := List.getElem?_eq_some_iff.mp hd
      have := List.pairwise_iff_getElem.mp h.pw i (i + 1) l1 l2 (by omega)
      rw [e1, e2] at this
      exact this
    have hcl := lt c (List.mem_of_getElem? hc)
    have hdl := lt d (List.mem_of_getElem? hd)
    have mp : 0 < bs.length := by omega
    have q1 := Nat.div_add_mod c bs.length
    have q2 := Nat.div_add_mod d bs.length
    have le : c / bs.length ≤ d / bs.length := Nat.div_le_div_right (Nat.le_of_lt cd)
    show pairLe (codeP bs d).1 (codeP bs d).2 (codeP bs c).1 (codeP bs c).2 = false
    unfold pairLe codeP
    by_cases e : c / bs.length = d / bs.length
    · have lm : c % bs.length < d % bs.length := by
        rw [e] at q1
        omega
      rw [e, if_pos (beq_self_eq_true _), if_neg, decide_eq_true (rises_at ri lm hdl.2)]
      · rfl
      · intro z
        have := getD_inj nd hdl.2 hcl.2 (eq_of_beq z)
        omega
    · rw [if_neg, decide_eq_true (rises_at ri (by omega) hdl.1)]
      · rfl
      · intro z
        have := getD_inj nd hdl.1 hcl.1 (eq_of_beq z)
        omega
  · rw [List.length_map]
    have := h.len
    have : bs.length * bs.length ≤ 3 * 3 := Nat.mul_le_mul l3 l3
    omega
theorem SameBut.tups {p : Addr} {H H' : Hp} (x : SameBut p H H') (hp : PurseAt H p) : ∀ b xs, H b = some (.tup xs) → H' b = some (.tup xs) := fun b xs e => x b _ (hp.ne e (fun _ _ _ z => nomatch z)) e
theorem SameBut.frz {p : Addr} {H H' : Hp} (x : SameBut p H H') (hp : PurseAt H p) : ∀ b o xs, H b = some (.frz o (.tup xs)) → H' b = some (.frz o (.tup xs)) := fun b o xs e => x b _ (hp.ne e (fun _ _ _ z => nomatch z)) e
theorem code_div {m k j : Nat} (h : j < m) : (k * m + j) / m = k ∧ (k * m + j) % m = j := by
  have hm : 0 < m := by omega
  rw [Nat.mul_comm k m]
  exact ⟨by rw [Nat.mul_add_div hm, Nat.div_eq_of_lt h, Nat.add_zero], by rw [Nat.mul_add_mod, Nat.mod_eq_of_lt h]⟩
theorem PT.weak {X : Cx} {e : Expr} {t u : TT} (h : PT X e t) (hw : ∀ σ H Q, u σ H Q → t σ H Q) : PT X e u := ⟨fun pins s σ H Q I q => h.run pins s σ H Q I (hw σ H Q q)⟩
theorem nth9 (b0 b1 b2 b3 b4 b5 b6 b7 b8 : Bool) {n : Nat} (h : n < 9) : ∃ b : Bool, ([V.bl b0, .bl b1, .bl b2, .bl b3, .bl b4, .bl b5, .bl b6, .bl b7, .bl b8] : List V)[n]? = some (.bl b) := by
  match n, h with
  | 0, _ => exact ⟨_, rfl⟩
  | 1, _ => exact ⟨_, rfl⟩
  | 2, _ => exact ⟨_, rfl⟩
  | 3, _ => exact ⟨_, rfl⟩
  | 4, _ => exact ⟨_, rfl⟩
  | 5, _ => exact ⟨_, rfl⟩
  | 6, _ => exact ⟨_, rfl⟩
  | 7, _ => exact ⟨_, rfl⟩
  | 8, _ => exact ⟨_, rfl⟩
/-- truths in the slots, any answer -/
def tAnyB : TT := fun σ H Q => (∃ i, σ[2]? = some (some (.int i))) ∧ (∃ b, σ[7]? = some (some (.bl b))) ∧ (∃ b, σ[8]? = some (some (.bl b))) ∧ (∃ b, σ[9]? = some (some (.bl b))) ∧ (∃ b, σ[10]? = some (some (.bl b))) ∧ ∀ b, Q b H
section
variable {P : Program} {w : World} {K : PySem.W.Frag} {mg : Str → Option Value} {base : Heap} {C : Addr}

/-! ### _law_links -/
def spLawLinks : Sp := fun vs H Q _ => ∃ (p q : Addr) (bs : List Str) (m : Nat) (ob : Obj), vs = [.ref p, .ref q] ∧ PurseAt H p ∧ H q = some (.frz ob (.tup (bs.map V.str))) ∧ NamesOk bs m ∧ 1 ≤ m ∧ m ≤ 3 ∧
  ∀ (H' : Hp) (r : Addr) (ps : List Addr) (ws : List (Str × Str)), SameBut p H H' → PurseAt H' p → H' r = some (.tup (ps.map V.ref)) → PairsAt H' ps ws → LinksOk bs ws → Q (.ref r) H'
theorem sc_law_links : FnScope ["_law_purse_here", "_law_names_here", "_law_way", "_law_found", "_law_odds", "_law_k", "_law_j", "_law_lot", "_law_same", "_law_near", "_law_fits"] ["_law_purse_here", "_law_names_here"] (defScope s_law_links) := ⟨rfl, rfl, rfl, by decide +kernel, rfl, by decide +kernel, by decide +kernel⟩
theorem has_law_links (E : Env K mg C) (F : Def K mg "_law_links" s_law_links) (h1 : Has P w K mg base "_law_draw" 1 ["_law_purse_here", "_law_many"] spLawDraw) : Has P w K mg base "_law_links" 2 ["_law_purse_here", "_law_names_here"] spLawLinks := by
  obtain ⟨f1, fd1, G1, g1, kp1, b1⟩ := h1.ex
  refine has_mk F sc_law_links (fun _ _ _ _ _ _ us hl => match us, hl with | [_, _], _ => rfl) (fun vs H Q E h => ?_) (fun f cdv A oute s H vs Q E' hr h => ?_)
  · obtain ⟨_, _, _, _, _, rfl, _⟩ := h
    rfl
  · obtain ⟨p, q, bs, m, ob, rfl, hp, hq, ok, m1, m3, k⟩ := h
    have nd := sc_law_links.nd
    have lm := ok.len
    refine ⟨_, pss_cons (ps_par (i := 2) (j := 3) rfl nd rfl rfl (by decide) rfl rfl (pa_cons (pe_call G1 hr (by rfl) g1 kp1 b1 .nil pass0 (pa_cons (pv 0) (pa_cons pe_int pa_nil))) (pa_cons (pe_lst pa_nil) pa_nil)) rfl)
      (pss_cons (ps_set (i := 4) nd rfl (.inl rfl) (pe_ix ix_list (pe_lst (pa_cons pe_int (pa_cons pe_int (pa_cons pe_int (pa_cons pe_int (pa_cons pe_int (pa_cons pe_int (pa_cons pe_int (pa_cons pe_int (pa_cons pe_int pa_nil)))))))))) (pv 2) (fun _ _ => rfl)))
      (pss_cons (ps_for PassesOwn.never rfl (pi_range1 (by rfl) E.range (pa_cons (pe_callB call_len_seq (by rfl) E.len PySem.boot_len (pa_cons (pv 1) pa_nil)) pa_nil)) (pg_name (i := 5) nd rfl (.inl rfl))
        (pss_one (ps_for PassesOwn.never rfl (pi_range1 (by rfl) E.range (pa_cons (pe_callB call_len_seq (by rfl) E.len PySem.boot_len (pa_cons (pv 1) pa_nil)) pa_nil)) (pg_name (i := 6) nd rfl (.inl rfl))
          (pss_cons (ps_set (i := 7) nd rfl (.inl rfl) (pe_cmpR op_eq (pe_call G1 hr (by rfl) g1 kp1 b1 .nil pass0 (pa_cons (pv 0) (pa_cons (pv 4) pa_nil))) pe_int (by rfl)))
          (pss_cons (ps_par (i := 8) (j := 9) rfl nd rfl rfl (by decide) rfl rfl (pa_cons (pe_cmpR op_eq (pv 5) (pv 6) (by rfl)) (pa_cons (pe_and (pe_cmpR (show OpR _ _ (rIn K false) from op_in_seq) (pv 2) (pe_lst (pa_cons pe_int (pa_cons pe_int (pa_cons pe_int pa_nil)))) (by rfl))
              (pe_one (pe_cmpR op_eq (pe_op op_mod (pe_op op_add (pv 5) pe_int) (pe_callB call_len_seq (by rfl) E.len PySem.boot_len (pa_cons (pv 1) pa_nil))) (pv 6) (by rfl)))) pa_nil)) rfl)
          (pss_cons (ps_set (i := 10) nd rfl (.inl rfl) (pe_ix ix_list (pe_lst (pa_cons pe_bl (pa_cons pe_bl (pa_cons pe_bl (pa_cons pe_bl (pa_cons (pe_cmpR op_lt (pv 5) (pv 6) (by rfl)) (pa_cons pe_bl (pa_cons (pe_not (pv 8)) (pa_cons (pv 8) (pa_cons pe_bl pa_nil)))))))))) (pv 2) (fun _ _ => rfl)))
          (pss_one (ps_if (PT.weak (u := tAnyB) (PW.pt (pw_or (pt_val (pv 9)) (pw_or (PW.pt (pw_and (pt_cmpR op_eq (pv 2) pe_int (nomark _)) (pw_and1 (pt_val (pv 8))))) (pw_or1 (PW.pt (pw_and (pt_val (pv 7)) (pw_and1 (pt_val (pv 10))))))))) fun _ _ _ ⟨⟨_, h2⟩, ⟨_, h7⟩, ⟨_, h8⟩, ⟨_, h9⟩, ⟨_, h10⟩, all⟩ =>
              ⟨_, h9, _, rfl, ite2 (fun _ => all true) fun _ => ⟨_, h2, rfl, _, rfl, ite2 (fun _ => ⟨_, h8, _, rfl, ite2 (fun _ => all true) fun _ => ⟨_, h7, _, rfl, ite2 (fun _ => ⟨_, h10, _, rfl, all _⟩) fun _ => all false⟩⟩) fun _ => iteF ⟨_, h7, _, rfl, ite2 (fun _ => ⟨_, h10, _, rfl, all _⟩) fun _ => all false⟩⟩⟩)
            (pss_one (ps_expr (pe_bm PySem.F.plainAttrs_list PySem.F.slot_list_append PySem.F.type_list_append mt_append (pv 3) (pa_cons (pe_tup (pa_cons (pe_ix ix_tup (pv 1) (pv 5) (fun _ _ => rfl)) (pa_cons (pe_ix ix_tup (pv 1) (pv 6) (fun _ _ => rfl)) pa_nil))) pa_nil)))) pss_nil))))))))
      (pss_one (ps_ret (pe_callTy call_tuple_of (by rfl) E.tuple boot_tuple (pa_cons (pv 3) pa_nil)))))), ?_⟩
    refine ⟨_, rfl, p, 9, rfl, hp, by decide, by decide, fun H1 way s1 hp1 w9 => ?_⟩
    refine ⟨Nat.zero_le _, fun Fa hF => ⟨_, _, rfl, ?_⟩⟩
    refine ⟨(show 9 ≤ sizeLine by decide), fun O hO => ?_⟩
    have sO := fun o => same_upd (o := o) hO
    obtain ⟨od, od1, od2, eo⟩ : ∃ od, 0 < od ∧ od ≤ 1000 ∧ ([V.int 3, .int 2, .int 6, .int 4, .int 2, .int 5, .int 1, .int 3, .int 4] : List V)[way]? = some (vN od) := by
      match way, w9 with
      | 0, _ => exact ⟨3, by decide, by decide, rfl⟩
      | 1, _ => exact ⟨2, by decide, by decide, rfl⟩
      | 2, _ => exact ⟨6, by decide, by decide, rfl⟩
      | 3, _ => exact ⟨4, by decide, by decide, rfl⟩
      | 4, _ => exact ⟨2, by decide, by decide, rfl⟩
      | 5, _ => exact ⟨5, by decide, by decide, rfl⟩
      | 6, _ => exact ⟨1, by decide, by decide, rfl⟩
      | 7, _ => exact ⟨3, by decide, by decide, rfl⟩
      | 8, _ => exact ⟨4, by decide, by decide, rfl⟩
    refine ⟨_, rfl, O, _, _, vN od, rfl, rfl, SqL.of upd_same, atI_nat eo, ?_⟩
    have hq1 := s1.frz hp _ _ _ hq
    have sF := same_upd (o := .lst []) hF
    have Fp : Fa ≠ p := by
      obtain ⟨d, x, y, e, _⟩ := hp1
      exact (ne_of_none e hF).symm
    have FO : Fa ≠ O := ne_of_none upd_same hO
    have lb : ((bs.map V.str).length : Int) = (m : Int) := by rw [List.length_map, lm]
    have s2 := sF.trans (sO (.lst [.int 3, .int 2, .int 6, .int 4, .int 2, .int 5, .int 1, .int 3, .int 4]))
    refine ⟨_, rfl, q, _, rfl, .inr (sqz (s2 _ _ hq1)), (m : Int), by rw [lb], by omega, by omega, ?_⟩
    rw [Int.toNat_natCast]
    refine for_range (lo := 0) (n := m) (fun i σ H5 => ∃ (y5 y6 y7 y8 y9 y10 : Option V) (cs : List Nat) (ps : List Addr), σ = [some (.ref p), some (.ref q), some (.int way), some (.ref Fa), some (vN od), y5, y6, y7, y8, y9, y10] ∧
        SameBut p H1 H5 ∧ PurseAt H5 p ∧ H5 Fa = some (.lst (ps.map V.ref)) ∧ PairsAt H5 ps (cs.map (codeP bs)) ∧ Codes m (i * m) cs)
      ⟨none, none, none, none, none, none, [], [], rfl, Same.but s2, hp1.mono s2, by rw [upd_ne FO]; exact upd_same, .nil, ⟨.nil, fun c hc => nomatch hc⟩⟩ ?_ ?_
    · rintro i σ H5 hi ⟨y5, y6, y7, y8, y9, y10, cs, ps, rfl, s5, hp5, eF, pa, cd⟩
      refine ⟨_, rfl, q, _, rfl, .inr (sqz (s5.frz hp1 _ _ _ hq1)), (m : Int), by rw [lb], by omega, by omega, ?_⟩
      rw [Int.toNat_natCast]
      refine for_range (lo := 0) (n := m) (fun j σ H6 => ∃ (y6 y7 y8 y9 y10 : Option V) (cs : List Nat) (ps : List Addr), σ = [some (.ref p), some (.ref q), some (.int way), some (.ref Fa), some (vN od), some (.int (0 + i)), y6, y7, y8, y9, y10] ∧
          SameBut p H1 H6 ∧ PurseAt H6 p ∧ H6 Fa = some (.lst (ps.map V.ref)) ∧ PairsAt H6 ps (cs.map (codeP bs)) ∧ Codes m (i * m + j) cs)
        ⟨y6, y7, y8, y9, y10, cs, ps, rfl, s5, hp5, eF, pa, cd⟩ ?_ ?_
      · clear s5 hp5 eF pa cd
        rintro j σ H6 hj ⟨y6, y7, y8, y9, y10, cs, ps, rfl, s6, hp6, eF, pa, cd⟩
        refine ⟨_, rfl, _, rfl, p, od, rfl, hp6, od1, od2, fun H7 r s7 hp7 r1 => ⟨rfl, ?_⟩⟩
        have eF7 := s7 _ _ Fp eF
        have pa7 := pa.mono (s7.tups hp6)
        have s17 := s6.trans s7
        have hq7 := s17.frz hp1 _ _ _ hq1
        refine ⟨_, rfl, _, rfl, rfl, _, rfl, (show 3 ≤ sizeLine by decide), fun Z hZ => ⟨Z, _, rfl, .inl (SqL.of upd_same), rfl, rfl, _, rfl, ?_⟩⟩
        have sZ := same_upd (o := .lst [.int 2, .int 3, .int 7]) hZ
        refine ite2 (fun e => ⟨_, rfl, _, _, rfl, rfl, _, rfl, q, _, rfl, .inr (sqz (sZ _ _ hq7)), _, _, rfl, rfl, (by rw [lb]; omega), _, rfl, rfl, _, _, rfl, ?_⟩) (fun e => ⟨_, _, rfl, ?_⟩)
        all_goals
          refine ⟨_, rfl, _, rfl, _, _, rfl, rfl, _, rfl, _, rfl, _, rfl, (show 9 ≤ sizeLine by decide), fun Y hY => ?_⟩
          obtain ⟨fb, efb⟩ := nth9 true true true false (decide ((0 : Int) + (i : Nat) < 0 + (j : Nat))) true (!decide (V.int (0 + (i : Nat)) = V.int (0 + (j : Nat)))) (decide (V.int (0 + (i : Nat)) = V.int (0 + (j : Nat)))) false w9
          have sY := sZ.trans (same_upd (o := .lst [.bl true, .bl true, .bl true, .bl false, .bl (decide ((0 : Int) + (i : Nat) < 0 + (j : Nat))), .bl true, .bl (!decide (V.int (0 + (i : Nat)) = V.int (0 + (j : Nat)))), .bl (decide (V.int (0 + (i : Nat)) = V.int (0 + (j : Nat)))), .bl false]) hY)
          refine ⟨_, rfl, Y, _, way, .bl fb, rfl, rfl, SqL.of upd_same, atI_nat efb, ?_⟩
          refine ⟨⟨_, rfl⟩, ⟨_, rfl⟩, ⟨_, rfl⟩, ⟨_, rfl⟩, ⟨_, rfl⟩, fun bb => ?_⟩
          have s18 := s17.trans (Same.but sY)
          have hp8 := hp7.mono sY
          have eF8 := sY _ _ eF7
          have pa8 := pa7.mono fun b xs e => sY _ _ e
          have hq8 := sY _ _ hq7
          refine ite2 (fun e => ?_) (fun e => ?_)
          · have ei : (bs.map V.str)[i]? = some (.str (bs.getD i "")) := by rw [List.getElem?_map, getD_get (by omega)]; rfl
            have ej : (bs.map V.str)[j]? = some (.str (bs.getD j "")) := by rw [List.getElem?_map, getD_get (by omega)]; rfl
            have ccn : codeP bs (i * m + j) = (bs.getD i "", bs.getD j "") := by
              unfold codeP
              rw [lm, (code_div hj).1, (code_div hj).2]
            have l1 := pa8.len
            rw [List.length_map] at l1
            have l2 := cd.len
            have l3 : i * m ≤ 2 * 3 := Nat.mul_le_mul (by omega) m3
            refine ⟨_, rfl, .inl ⟨rfl, _, SqL.of eF8⟩, _, rfl, _, rfl, q, _, _, _, rfl, rfl, sqz hq8, by rw [Int.zero_add]; exact atI_nat ei, _, rfl, _, rfl, q, _, _, _, rfl, rfl, sqz hq8, by rw [Int.zero_add]; exact atI_nat ej, (show 2 ≤ sizeLine by decide), fun T hT => ?_⟩
            have sT := same_upd (o := .tup [.str (bs.getD i ""), .str (bs.getD j "")]) hT
            have eF9 := sT _ _ eF8
            refine ⟨Fa, _, _, rfl, rfl, eF9, by rw [List.length_map]; exact small1000 (by omega), ?_⟩
            refine ⟨_, _, _, _, _, cs ++ [i * m + j], ps ++ [T], rfl, fun b o nb e => ?_, ?_, ?_, ?_, ?_⟩
            · rw [upd_ne (ne_of_none e hF)]
              exact sT _ _ (s18 _ _ nb e)
            · obtain ⟨d, x, y, e, z⟩ := hp8
              exact ⟨d, x, y, by rw [upd_ne Fp.symm]; exact sT _ _ e, z⟩
            · rw [upd_same, List.map_append]
              rfl
            · rw [List.map_append]
              refine paired_snoc (pa8.mono fun b xs e => ?_) ?_
              · rw [upd_ne (ne_of (sT _ _ e) eF9 (fun z => nomatch z))]
                exact sT _ _ e
              · rw [ccn, upd_ne (ne_of_none eF8 hT).symm]
                exact upd_same
            · exact cd.put
          · exact ⟨_, _, _, _, _, cs, ps, rfl, s18, hp8, eF8, pa8, cd.skip⟩
      · rintro σ H6 ⟨y6, y7, y8, y9, y10, cs, ps, rfl, s6, hp6, eF, pa, cd⟩
        exact ⟨_, y6, y7, y8, y9, y10, cs, ps, rfl, s6, hp6, eF, pa, by rw [Nat.succ_mul]; exact cd⟩
    · rintro σ H5 ⟨y5, y6, y7, y8, y9, y10, cs, ps, rfl, s5, hp5, eF, pa, cd⟩
      refine ⟨_, rfl, Fa, _, rfl, .inl ⟨SqL.of eF, fun r hr => ?_⟩⟩
      have sr := same_upd (o := .tup (ps.map V.ref)) hr
      exact k _ r ps _ ((s1.trans s5).trans (Same.but sr)) (hp5.mono sr) upd_same (pa.mono fun b xs e => sr _ _ e) (links_of ok.nd ok.ri (by omega) (by rw [lm]; exact cd) (by rw [lm]; exact Nat.le_refl _))
end
end Wb
set_option maxHeartbeats 2000000
namespace Wb
open PySem PySem.Spec PyProof.Rows L2 WbR
/-! ### all lots, all numbers -/
def standStep (acc : List (List Str)) (n : Str) : List (List Str) := acc ++ acc.map fun s => s ++ [n]
def stands (l : List Str) : List (List Str) := l.foldl standStep [[]]
theorem stands_snoc (l : List Str) (b : Str) : stands (l ++ [b]) = stands l ++ (stands l).map fun s => s ++ [b] := by
  unfold stands
  rw [List.foldl_append]
  rfl
theorem mem_stands {l s : List Str} : s ∈ stands l ↔ s.Sublist l := by
  have key : ∀ (l pre : List Str) (acc : List (List Str)), (∀ s, s ∈ acc ↔ s.Sublist pre) → ∀ s, s ∈ l.foldl standStep acc ↔ s.Sublist (pre ++ l) := by
    intro l
    induction l with
    | nil => intro pre acc h s; rw [List.append_nil]; exact h s
    | cons b l ih =>
      intro pre acc h s
      rw [List.foldl_cons, ih (pre ++ [b]) (standStep acc b) (fun s => ?_) s, List.append_assoc]
      · rfl
      · unfold standStep
        rw [List.mem_append, List.mem_map, List.sublist_append_iff]
        constructor
        · rintro (h1 | ⟨t, h1, rfl⟩)
          · exact ⟨s, [], by rw [List.append_nil], (h s).mp h1, List.nil_sublist _⟩
          · exact ⟨t, [b], rfl, (h t).mp h1, List.Sublist.refl _⟩
        · rintro ⟨t, u, rfl, h1, h2⟩
          cases h2 with
          | cons _ h2 =>
            rw [List.sublist_nil.mp h2, List.append_nil]
            exact .inl ((h t).mpr h1)
          | cons_cons _ h2 =>
            rw [List.sublist_nil.mp h2]
            exact .inr ⟨t, (h t).mpr h1, rfl⟩
  unfold stands
  rw [key l [] [[]] (fun s => by rw [List.mem_singleton, List.sublist_nil]) s]
  rfl
theorem stands_len : ∀ (l : List Str) (acc : List (List Str)), (l.foldl standStep acc).length = 2 ^ l.length * acc.length
  | [], acc => by simp
  | b :: l, acc => by
    rw [List.foldl_cons, stands_len l, List.length_cons, Nat.pow_succ]
    unfold standStep
    rw [List.length_append, List.length_map, Nat.mul_assoc]
    congr 1
    omega
theorem stands_few {l : List Str} (h : l.length ≤ 3) : (stands l).length ≤ 8 := by
  unfold stands
  rw [stands_len]
  have : 2 ^ l.length ≤ 2 ^ 3 := Nat.pow_le_pow_right (by decide) h
  show 2 ^ l.length * 1 ≤ 8
  omega
def extN (ls : List (List Nat)) : List (List Nat) := ls.flatMap fun l => (List.range 4).map fun k => l ++ [k]
def allN : Nat → List (List Nat)
  | 0 => [[]]
  | m + 1 => extN (allN m)
theorem extN_snoc (ls : List (List Nat)) (l : List Nat) : extN (ls ++ [l]) = extN ls ++ (List.range 4).map fun k => l ++ [k] := by
  unfold extN
  rw [List.flatMap_append]
  show _ ++ (List.flatMap _ [l]) = _
  rw [List.flatMap_cons, List.flatMap_nil, List.append_nil]
theorem extN_len : ∀ ls : List (List Nat), (extN ls).length = 4 * ls.length
  | [] => rfl
  | l :: ls => by
    have := extN_len ls
    unfold extN at *
    rw [List.flatMap_cons, List.length_append, this, List.length_map, List.length_range, List.length_cons]
    omega
theorem allN_few : ∀ m, m ≤ 3 → (allN m).length ≤ 64 ∧ (m ≤ 2 → (allN m).length ≤ 16) := by decide +kernel
theorem allN_lens : ∀ m, m < 4 → ∀ l ∈ allN m, l.length ≤ 3 := by decide +kernel
theorem allN_tail : ∀ m, m < 4 → ∀ l ∈ (allN m).drop 1, l.length = m ∧ (∀ x ∈ l, x ≤ 3) ∧ l.sum ≠ 0 := by decide +kernel
def NumsOf (H : Hp) (ps : List Addr) (ls : List (List Nat)) : Prop := Paired (fun p l => H p = some (.tup (l.map vN))) ps ls
theorem NumsOf.mono {H H' : Hp} {ps : List Addr} {ls : List (List Nat)} (x : NumsOf H ps ls) (m : ∀ b xs, H b = some (.tup xs) → H' b = some (.tup xs)) : NumsOf H' ps ls := Paired.mapP x fun _ _ e => m _ _ e
theorem paired_app {α β : Type} {R : α → β → Prop} {xs xs' : List α} {ys ys' : List β} (h : Paired R xs ys) (h' : Paired R xs' ys') : Paired R (xs ++ xs') (ys ++ ys') := by
  induction h with
  | nil => exact h'
  | cons s t ih => exact .cons s ih
theorem catA_one {K : PySem.W.Frag} {H : Hp} {a b : Addr} {xs : List V} {y : V} {Q : VK} (ha : H a = some (.tup xs)) (hb : H b = some (.tup [y])) (hz : xs.length ≤ 1000) (k : ∀ (H' : Hp) (q : Addr), Same H H' → H' q = some (.tup (xs ++ [y])) → Q (.ref q) H') : rCatA K (.ref a) (.ref b) H Q :=
  ⟨a, b, xs, [y], rfl, rfl, SqT.of ha, SqT.of hb, small1000 (n := xs.length) hz, fun e => k H b (Same.refl H) (by rw [e]; exact hb), fun _ e => absurd e (List.cons_ne_nil _ _), fun _ _ p hp => k _ p (same_upd hp) upd_same⟩
section
variable {P : Program} {w : World} {K : PySem.W.Frag} {mg : Str → Option Value} {base : Heap} {C : Addr}

/-! ### _law_stands -/
def spLawStands : Sp := fun vs H Q _ => ∃ (q : Addr) (bs : List Str) (ob : Obj), vs = [.ref q] ∧ H q = some (.frz ob (.tup (bs.map V.str))) ∧ bs.length ≤ 3 ∧ ∀ (H' : Hp) (F : Addr) (ps : List Addr), Same H H' → H' F = some (.lst (ps.map V.ref)) → TupsOf H' ps (stands bs) → Q (.ref F) H'
theorem sc_law_stands : FnScope ["_law_names_here", "_law_found", "_law_name", "_law_stand"] ["_law_names_here"] (defScope s_law_stands) := ⟨rfl, rfl, rfl, by decide +kernel, rfl, by decide +kernel, by decide +kernel⟩
theorem has_law_stands (E : Env K mg C) (F : Def K mg "_law_stands" s_law_stands) : Has P w K mg base "_law_stands" 1 ["_law_names_here"] spLawStands := by
  refine has_mk F sc_law_stands (fun _ _ _ _ _ _ us hl => match us, hl with | [_], _ => rfl) (fun vs H Q E h => ?_) (fun f cdv A oute s H vs Q E' hr h => ?_)
  · obtain ⟨_, _, _, rfl, _⟩ := h
    rfl
  · obtain ⟨q, bs, ob, rfl, hq, l3, k⟩ := h
    have nd := sc_law_stands.nd
    refine ⟨_, pss_cons (ps_set (i := 1) nd rfl (.inl rfl) (pe_lst (pa_cons (pe_tup pa_nil) pa_nil)))
      (pss_cons (ps_for PassesOwn.never rfl (pi_tup (pv 0)) (pg_name (i := 2) nd rfl (.inr rfl))
        (pss_one (ps_set (i := 1) nd rfl (.inl rfl) (pe_op op_cat (pv 1) (pe_lc (own := [("_law_stand", 3)]) (g := gName 3) (tt := tYes) (by rfl) nd (pi_list (pv 1))
          (blkOk_by (own := [("_law_stand", 3)]) (N := ["_law_names_here", "_law_found", "_law_name", "_law_stand"]) (sc := defScope s_law_stands) (by decide +kernel)) (fun _ _ _ _ _ => pg_name (i := 3) nd rfl (Or.inl rfl))
          (fun _ _ _ _ _ => pts_nil) (fun _ _ _ _ _ => pe_op (show OpR _ _ (rCatA K) from op_catA) (pv 3) (pe_tup (pa_cons (pv 2) pa_nil))))))))
      (pss_one (ps_ret (pv 1)))), ?_⟩
    refine ⟨Nat.zero_le _, fun T hT => ⟨(show 1 ≤ sizeLine by decide), fun F0 hF => ?_⟩⟩
    have s1 := (same_upd (o := .tup []) hT).trans (same_upd (o := .lst [.ref T]) hF)
    have eT : upd (upd H T (.tup [])) F0 (.lst [.ref T]) T = some (.tup []) := by
      rw [upd_ne (ne_of_none upd_same hF)]
      exact upd_same
    refine ⟨_, rfl, q, rfl, ⟨_, sqz (s1 _ _ hq)⟩, for_tup (K := K) (a := q) (xs := bs.map V.str) (fun i σ H2 => ∃ (F : Addr) (ps : List Addr) (y2 : Option V), σ = [some (.ref q), some (.ref F), y2, none] ∧ Same H H2 ∧ H2 F = some (.lst (ps.map V.ref)) ∧ TupsOf H2 ps (stands (bs.take i)))
      ⟨F0, [T], none, rfl, s1, upd_same, .cons eT .nil⟩ (fun i σ H2 _ ⟨_, _, _, _, s2, _⟩ => sqz (s2 _ _ hq)) ?_ ?_⟩
    · rintro i x σ H2 hi ⟨F, ps, y2, rfl, s2, eF, tp⟩
      rw [List.getElem?_map] at hi
      obtain ⟨b, hb, rfl⟩ := Option.map_eq_some_iff.mp hi
      have few : (stands (bs.take i)).length ≤ 8 := stands_few (by rw [List.length_take]; omega)
      have lps := Paired.length tp
      refine ⟨_, rfl, _, rfl, F, rfl, ⟨_, SqL.of eF⟩, fun D hD => ?_⟩
      refine lc_list (K := K) (a := F) (xs := ps.map V.ref) (fun j H3 => ∃ qs : List Addr, Same H2 H3 ∧ H3 D = some (.lst (qs.map V.ref)) ∧ TupsOf H3 qs (((stands (bs.take i)).take j).map fun s => s ++ [b]))
        ⟨[], same_upd hD, upd_same, .nil⟩ (fun j H3 _ ⟨_, s3, _⟩ => SqL.of (s3 _ _ eF)) (fun j x H3 hj h => ?_) (fun H3 h => ?_)
      · obtain ⟨qs, s3, eD, tq⟩ := h
        rw [List.getElem?_map] at hj
        obtain ⟨r, hr1, rfl⟩ := Option.map_eq_some_iff.mp hj
        obtain ⟨st, hst, er⟩ := paired_at' tp hr1
        have lq := Paired.length tq
        rw [List.length_map, List.length_take] at lq
        refine ⟨rfl, yesT ?_⟩
        refine ⟨_, rfl, _, rfl, (show 1 ≤ sizeLine by decide), fun T2 hT2 => ?_⟩
        have sT := same_upd (o := .tup [.str b]) hT2
        have sub : st.Sublist (bs.take i) := mem_stands.mp (List.mem_of_getElem? hst)
        have sl := sub.length_le
        rw [List.length_take] at sl
        refine catA_one (sT _ _ (s3 _ _ er)) upd_same (by rw [List.length_map]; omega) fun H5 r5 s5 e5 => ?_
        have s35 := sT.trans s5
        have eD5 := s35 _ _ eD
        refine ⟨_, eD5, by rw [List.length_map]; exact small1000 (by omega), qs ++ [r5], fun c o e => ?_, ?_, ?_⟩
        · rw [upd_ne (ne_of_none e hD)]
          exact s35 _ _ (s3 _ _ e)
        · rw [upd_same, List.map_append]
          rfl
        · rw [List.take_add_one, hst, List.map_append]
          refine paired_snoc (tq.mono fun c xs e => ?_) ?_
          · rw [upd_ne (ne_of (s35 _ _ e) eD5 (fun z => nomatch z))]
            exact s35 _ _ e
          · rw [upd_ne (ne_of e5 eD5 (fun z => nomatch z)), e5, List.map_append]
            rfl
      · obtain ⟨qs, s3, eD, tq⟩ := h
        have lq := Paired.length tq
        rw [List.length_map, lps, List.take_length] at tq
        have lq := Paired.length tq
        rw [List.length_map] at lq
        refine ⟨F, D, _, _, rfl, rfl, s3 _ _ eF, eD, by rw [List.length_map, List.length_map]; exact Nat.le_of_lt (small1000 (by omega)), fun G hG => ?_⟩
        have sG := s3.trans (same_upd (o := .lst (ps.map V.ref ++ qs.map V.ref)) hG)
        refine ⟨G, ps ++ qs, _, rfl, s2.trans sG, by rw [upd_same, List.map_append], ?_⟩
        rw [take_snoc hb, stands_snoc]
        exact paired_app (tp.mono fun c xs e => sG _ _ e) (tq.mono fun c xs e => same_upd hG _ _ e)
    · rintro σ H2 ⟨F, ps, y2, rfl, s2, eF, tp⟩
      rw [List.length_map, List.take_length] at tp
      exact ⟨_, rfl, k H2 F ps s2 eF tp⟩

/-! ### _law_all -/
def spLawAll : Sp := fun vs H Q _ => ∃ (q : Addr) (bs : List Str) (ob : Obj), vs = [.ref q, .int 3] ∧ H q = some (.frz ob (.tup (bs.map V.str))) ∧ bs.length ≤ 3 ∧ ∀ (H' : Hp) (F : Addr) (ps : List Addr), Same H H' → H' F = some (.lst (ps.map V.ref)) → NumsOf H' ps (allN bs.length) → Q (.ref F) H'
theorem sc_law_all : FnScope ["_law_names_here", "_law_greatest_ones", "_law_found", "_law_name", "_law_longer", "_law_some", "_law_many"] ["_law_names_here", "_law_greatest_ones"] (defScope s_law_all) := ⟨rfl, rfl, rfl, by decide +kernel, rfl, by decide +kernel, by decide +kernel⟩
theorem has_law_all (E : Env K mg C) (F : Def K mg "_law_all" s_law_all) : Has P w K mg base "_law_all" 1 ["_law_names_here", "_law_greatest_ones"] spLawAll := by
  refine has_mk F sc_law_all (fun _ _ _ _ _ _ us hl => match us, hl with | [_, _], _ => rfl) (fun vs H Q E h => ?_) (fun f cdv A oute s H vs Q E' hr h => ?_)
  · obtain ⟨_, _, _, rfl, _⟩ := h
    rfl
  · obtain ⟨q, bs, ob, rfl, hq, l3, k⟩ := h
    have nd := sc_law_all.nd
    refine ⟨_, pss_cons (ps_set (i := 2) nd rfl (.inl rfl) (pe_lst (pa_cons (pe_tup pa_nil) pa_nil)))
      (pss_cons (ps_for PassesOwn.never rfl (pi_tup (pv 0)) (pg_name (i := 3) nd rfl (.inl rfl))
        (pss_cons (ps_set (i := 4) nd rfl (.inl rfl) (pe_lst pa_nil))
        (pss_cons (ps_for PassesOwn.never rfl (pi_list (pv 2)) (pg_name (i := 5) nd rfl (.inr rfl))
          (pss_one (ps_set (i := 4) nd rfl (.inl rfl) (pe_op op_cat (pv 4) (pe_lc (own := [("_law_many", 6)]) (g := gName 6) (tt := tYes) (by rfl) nd (pi_range1 (by rfl) E.range (pa_cons (pe_op op_add (pv 1) pe_int) pa_nil))
            (blkOk_by (own := [("_law_many", 6)]) (N := ["_law_names_here", "_law_greatest_ones", "_law_found", "_law_name", "_law_longer", "_law_some", "_law_many"]) (sc := defScope s_law_all) (by decide +kernel)) (fun _ _ _ _ _ => pg_name (i := 6) nd rfl (Or.inl rfl))
            (fun _ _ _ _ _ => pts_nil) (fun _ _ _ _ _ => pe_op (show OpR _ _ (rCatA K) from op_catA) (pv 5) (pe_tup (pa_cons (pv 6) pa_nil))))))))
        (pss_one (ps_set (i := 2) nd rfl (.inl rfl) (pv 4))))))
      (pss_one (ps_ret (pv 2)))), ?_⟩
    refine ⟨Nat.zero_le _, fun T hT => ⟨(show 1 ≤ sizeLine by decide), fun F0 hF => ?_⟩⟩
    have s1 := (same_upd (o := .tup []) hT).trans (same_upd (o := .lst [.ref T]) hF)
    have eT : upd (upd H T (.tup [])) F0 (.lst [.ref T]) T = some (.tup []) := by
      rw [upd_ne (ne_of_none upd_same hF)]
      exact upd_same
    refine ⟨_, rfl, q, rfl, ⟨_, sqz (s1 _ _ hq)⟩, for_tup (K := K) (a := q) (xs := bs.map V.str) (fun i σ H2 => ∃ (F : Addr) (ps : List Addr) (y3 y4 y5 : Option V), σ = [some (.ref q), some (.int 3), some (.ref F), y3, y4, y5, none] ∧ Same H H2 ∧ H2 F = some (.lst (ps.map V.ref)) ∧ NumsOf H2 ps (allN i))
      ⟨F0, [T], none, none, none, rfl, s1, upd_same, .cons eT .nil⟩ (fun i σ H2 _ ⟨_, _, _, _, _, _, s2, _⟩ => sqz (s2 _ _ hq)) ?_ ?_⟩
    · rintro i x σ H2 hi ⟨F, ps, y3, y4, y5, rfl, s2, eF, tp⟩
      have il : i < bs.length := by
        have := (List.getElem?_eq_some_iff.mp hi).1
        rw [List.length_map] at this
        exact this
      have few := (allN_few i (by omega)).2 (by omega)
      have lps := Paired.length tp
      refine ⟨Nat.zero_le _, fun G0 hG => ?_⟩
      have s3 := same_upd (o := .lst []) hG
      refine ⟨_, rfl, F, rfl, ⟨_, SqL.of (s3 _ _ eF)⟩, for_list (K := K) (a := F) (xs := ps.map V.ref) (fun j σ H4 => ∃ (G : Addr) (qs : List Addr) (y5 : Option V), σ = [some (.ref q), some (.int 3), some (.ref F), some x, some (.ref G), y5, none] ∧ Same H2 H4 ∧ H4 G = some (.lst (qs.map V.ref)) ∧ NumsOf H4 qs (extN ((allN i).take j)))
        ⟨G0, [], y5, rfl, s3, upd_same, .nil⟩ (fun j σ H4 _ ⟨_, _, _, _, s4, _⟩ => SqL.of (s4 _ _ eF)) ?_ ?_⟩
      · rintro j z σ H4 hj ⟨G, qs, y5, rfl, s4, eG, tq⟩
        rw [List.getElem?_map] at hj
        obtain ⟨r, hr1, rfl⟩ := Option.map_eq_some_iff.mp hj
        obtain ⟨l, hl, er⟩ := paired_at' tp hr1
        have lq := Paired.length tq
        rw [extN_len, List.length_take] at lq
        refine ⟨_, rfl, _, rfl, _, _, rfl, rfl, _, rfl, by decide, by decide, fun D hD => ?_⟩
        show ∃ W, _
        refine lc_it (walk_range (lo := 0) (n := 4)) (fun n H5 => ∃ rs : List Addr, Same H4 H5 ∧ H5 D = some (.lst (rs.map V.ref)) ∧ NumsOf H5 rs ((List.range n).map fun k => l ++ [k])) ⟨[], same_upd hD, upd_same, .nil⟩ (fun _ _ _ _ => trivial) (fun n x H5x H5 hn h y => ?_) (fun H5 h => ?_)
        · obtain ⟨rfl, rfl⟩ := y
          obtain ⟨rs, s5, eD, tr⟩ := h
          have lr := Paired.length tr
          rw [List.length_map, List.length_range] at lr
          refine ⟨rfl, yesT ?_⟩
          refine ⟨_, rfl, _, rfl, (show 1 ≤ sizeLine by decide), fun T2 hT2 => ?_⟩
          have sT := same_upd (o := .tup [.int (0 + (n : Nat))]) hT2
          have ll : l.length ≤ 1000 := Nat.le_trans (allN_lens i (by omega) l (List.mem_of_getElem? hl)) (by decide)
          refine catA_one (sT _ _ (s5 _ _ (s4 _ _ er))) upd_same (by rw [List.length_map]; exact ll) fun H6 r6 s6 e6 => ?_
          have s56 := sT.trans s6
          have eD6 := s56 _ _ eD
          refine ⟨_, eD6, by rw [List.length_map]; exact small1000 (by omega), rs ++ [r6], fun c o e => ?_, ?_, ?_⟩
          · rw [upd_ne (ne_of_none e hD)]
            exact s56 _ _ (s5 _ _ e)
          · rw [upd_same, List.map_append]
            rfl
          · rw [List.range_succ, List.map_append]
            refine paired_snoc (tr.mono fun c xs e => ?_) ?_
            · rw [upd_ne (ne_of (s56 _ _ e) eD6 (fun z => nomatch z))]
              exact s56 _ _ e
            · rw [upd_ne (ne_of e6 eD6 (fun z => nomatch z)), e6, List.map_append]
              show some (HO.tup (_ ++ [V.int (0 + (n : Int))])) = _
              rw [Int.zero_add]
              rfl
        · obtain ⟨rs, s5, eD, tr⟩ := h
          have lr := Paired.length tr
          rw [List.length_map, List.length_range] at lr
          refine ⟨G, D, _, _, rfl, rfl, s5 _ _ eG, eD, by rw [List.length_map, List.length_map]; exact Nat.le_of_lt (small1000 (by omega)), fun G2 hG2 => ?_⟩
          have sG := s5.trans (same_upd (o := .lst (qs.map V.ref ++ rs.map V.ref)) hG2)
          refine ⟨G2, qs ++ rs, _, rfl, s4.trans sG, by rw [upd_same, List.map_append], ?_⟩
          rw [List.take_add_one, hl]
          show NumsOf _ _ (extN (_ ++ [l]))
          rw [extN_snoc]
          exact paired_app (tq.mono fun c xs e => sG _ _ e) (tr.mono fun c xs e => same_upd hG2 _ _ e)
      · rintro σ H4 ⟨G, qs, y5, rfl, s4, eG, tq⟩
        rw [List.length_map, lps, List.take_length] at tq
        exact ⟨_, rfl, G, qs, _, _, _, rfl, s2.trans s4, eG, tq⟩
    · rintro σ H2 ⟨F, ps, y3, y4, y5, rfl, s2, eF, tp⟩
      rw [List.length_map] at tp
      exact ⟨_, rfl, k H2 F ps s2 eF tp⟩
end
end Wb
set_option maxHeartbeats 2000000
namespace Wb
open PySem PySem.Spec PyProof.Rows L2 WbR
/-! ### what the law's search keeps -/
theorem mem_allN : ∀ (m : Nat) (l : List Nat), l.length = m → (∀ x ∈ l, x ≤ 3) → l ∈ allN m
  | 0, l, h, _ => by
    have : l = [] := List.length_eq_zero_iff.mp h
    rw [this]
    exact List.mem_singleton.mpr rfl
  | m + 1, l, h, hx => by
    have ne : l ≠ [] := fun e => by rw [e] at h; cases h
    have e := List.dropLast_concat_getLast ne
    show l ∈ extN (allN m)
    unfold extN
    rw [List.mem_flatMap]
    refine ⟨l.dropLast, mem_allN m _ (by rw [List.length_dropLast, h]; rfl) (fun x z => hx x (List.dropLast_subset l z)), ?_⟩
    rw [List.mem_map]
    refine ⟨l.getLast ne, List.mem_range.mpr ?_, e⟩
    have := hx _ (List.getLast_mem ne)
    omega
def allKeys (bs : List Str) : List KKey := (allN bs.length).flatMap fun l => (stands bs).map fun s => (l, s)
theorem prod_len {α β γ : Type} (f : α → β → γ) (ys : List β) : ∀ xs : List α, (xs.flatMap fun l => ys.map fun s => f l s).length = xs.length * ys.length
  | [] => by simp
  | x :: xs => by
    rw [List.flatMap_cons, List.length_append, prod_len f ys xs, List.length_map, List.length_cons, Nat.succ_mul, Nat.add_comm]
theorem allKeys_few {bs : List Str} (h : bs.length ≤ 3) : (allKeys bs).length ≤ 512 := by
  unfold allKeys
  rw [prod_len]
  exact Nat.mul_le_mul (allN_few _ h).1 (stands_few h)
theorem mem_allKeys {bs : List Str} {l : List Nat} {s : List Str} (h1 : l.length = bs.length) (h2 : ∀ x ∈ l, x ≤ 3) (h3 : s.Sublist bs) : (l, s) ∈ allKeys bs :=
  List.mem_flatMap.mpr ⟨l, mem_allN _ l h1 h2, List.mem_map.mpr ⟨s, mem_stands.mpr h3, rfl⟩⟩
theorem ends_sub {bs : List Str} {ws : List (Str × Str)} {left : List Nat} {s x : List Str} (e : Ends bs ws left s x) : s.Sublist bs → x.Sublist bs := by
  induction e with
  | done _ => exact id
  | ring k a n _ _ _ _ ih => exact fun _ => ih (by unfold afterRing; exact List.filter_sublist)
theorem after_sub (bs : List Str) (ws : List (Str × Str)) (s : List Str) (a : Str) : (afterRing bs ws s a).Sublist bs := by
  unfold afterRing
  exact List.filter_sublist
/-- the ends are told by this list -/
structure Told (bs : List Str) (ws : List (Str × Str)) (k : KKey) (ls : List (List Str)) : Prop where
  nd : ls.Nodup
  iff : ∀ x, x ∈ ls ↔ Ends bs ws k.1 k.2 x
theorem told_few {bs : List Str} {ls : List (List Str)} (h3 : bs.length ≤ 3) (nd : ls.Nodup) (h : ∀ x ∈ ls, x.Sublist bs) : ls.length ≤ 8 :=
  Nat.le_trans (length_le_of_sub nd fun x hx => mem_stands.mpr (h x hx)) (stands_few h3)
/-- the list of tuples at p tells the ends -/
def TellsAt (bs : List Str) (ws : List (Str × Str)) (H : Hp) (k : KKey) (p : Addr) : Prop := ∃ (qs : List Addr) (ls : List (List Str)), H p = some (.lst (qs.map V.ref)) ∧ TupsOf H qs ls ∧ Told bs ws k ls
theorem TellsAt.mono {bs : List Str} {ws : List (Str × Str)} {H H' : Hp} {k : KKey} {p : Addr} (x : TellsAt bs ws H k p) (m1 : ∀ b xs, H b = some (.tup xs) → H' b = some (.tup xs)) (m2 : ∀ b xs, H b = some (.lst xs) → H' b = some (.lst xs)) : TellsAt bs ws H' k p :=
  let ⟨qs, ls, h1, h2, h3⟩ := x
  ⟨qs, ls, m2 _ _ h1, h2.mono m1, h3⟩
structure MemoIs (P : Program) (w : World) (bs : List Str) (ws : List (Str × Str)) (H : Hp) (d : Addr) (xs : List KEnt) : Prop where
  at' : H d = some (NdO P w d xs)
  keyed : Keyed H xs
  tells : ∀ e ∈ xs, TellsAt bs ws H e.1 e.2.2
  nd : (xs.map (·.1)).Nodup
  sub : ∀ e ∈ xs, e.1 ∈ allKeys bs
def Memo (P : Program) (w : World) (bs : List Str) (ws : List (Str × Str)) (H : Hp) (d : Addr) : Prop := ∃ xs, MemoIs P w bs ws H d xs
section
variable {P : Program} {w : World} {bs : List Str} {ws : List (Str × Str)} {H H' : Hp} {d : Addr} {xs : List KEnt}
theorem MemoIs.mono (x : MemoIs P w bs ws H d xs) (s : Same H H') : MemoIs P w bs ws H' d xs :=
  ⟨s _ _ x.at', fun e he => (x.keyed e he).mono fun b xs e => s _ _ e, fun e he => (x.tells e he).mono (fun b xs e => s _ _ e) (fun b xs e => s _ _ e), x.nd, x.sub⟩
theorem Memo.mono (x : Memo P w bs ws H d) (s : Same H H') : Memo P w bs ws H' d := let ⟨xs, h⟩ := x; ⟨xs, h.mono s⟩
theorem Memo.notTup (x : Memo P w bs ws H d) {b : Addr} {ys : List V} (e : H b = some (.tup ys)) : b ≠ d := by
  obtain ⟨xs, h⟩ := x
  exact ne_of e h.at' (fun z => by unfold NdO at z; cases z)
theorem Memo.notFrz (x : Memo P w bs ws H d) {b : Addr} {o : Obj} {u : HO} (e : H b = some (.frz o u)) : b ≠ d := by
  obtain ⟨xs, h⟩ := x
  exact ne_of e h.at' (fun z => by unfold NdO at z; cases z)
theorem Memo.notLst (x : Memo P w bs ws H d) {b : Addr} {ys : List V} (e : H b = some (.lst ys)) : b ≠ d := by
  obtain ⟨xs, h⟩ := x
  exact ne_of e h.at' (fun z => by unfold NdO at z; cases z)
theorem MemoIs.few (x : MemoIs P w bs ws H d xs) (h3 : bs.length ≤ 3) : xs.length ≤ 512 := by
  have := length_le_of_sub x.nd (m := allKeys bs) fun k hk => by
    obtain ⟨e, he, rfl⟩ := List.mem_map.mp hk
    exact x.sub e he
  rw [List.length_map] at this
  exact Nat.le_trans this (allKeys_few h3)
theorem kdGet_none {k : KKey} (h : kdGet xs k = none) : ∀ e ∈ xs, e.1 ≠ k := by
  unfold kdGet at h
  rw [Option.map_eq_none_iff, List.find?_eq_none] at h
  intro e he z
  exact h e he (decide_eq_true z)
theorem kdGet_some {k : KKey} {p : Addr} (h : kdGet xs k = some p) : ∃ e ∈ xs, e.1 = k ∧ e.2.2 = p := by
  unfold kdGet at h
  obtain ⟨e, he, hp⟩ := Option.map_eq_some_iff.mp h
  have h1 := List.find?_some he
  exact ⟨e, List.mem_of_find?_eq_some he, of_decide_eq_true h1, hp⟩
theorem MemoIs.put (x : MemoIs P w bs ws H d xs) {k : KKey} {T p : Addr} (kT : KAt H k T) (tp : TellsAt bs ws H k p) (hk : k ∈ allKeys bs) :
    MemoIs P w bs ws (upd H d (NdO P w d (kdPut xs k T p))) d (kdPut xs k T p) := by
  have m1 : ∀ b ys, H b = some (.tup ys) → upd H d (NdO P w d (kdPut xs k T p)) b = some (.tup ys) := fun b ys z => by
    rw [upd_ne (Memo.notTup ⟨xs, x⟩ z)]; exact z
  have m2 : ∀ b ys, H b = some (.lst ys) → upd H d (NdO P w d (kdPut xs k T p)) b = some (.lst ys) := fun b ys z => by
    rw [upd_ne (Memo.notLst ⟨xs, x⟩ z)]; exact z
  refine ⟨upd_same, fun e he => ?_, fun e he => ?_, ?_, fun e he => ?_⟩
  · rcases mem_kdPut he with he | ⟨h1, h2, ⟨e', he', h3, h4⟩ | h3⟩
    · exact (x.keyed e he).mono m1
    · have q := (x.keyed e' he').mono m1
      rw [h3, h4] at q
      rw [h1]
      exact q
    · rw [h1, h3]
      exact kT.mono m1
  · rcases mem_kdPut he with he | ⟨h1, h2, _⟩
    · exact (x.tells e he).mono m1 m2
    · rw [h1, h2]
      exact tp.mono m1 m2
  · unfold kdPut
    split
    · have : (xs.map fun e => if e.1 = k then (e.1, e.2.1, p) else e).map (·.1) = xs.map (·.1) := by
        rw [List.map_map]
        refine List.map_congr_left fun e _ => ?_
        show (if e.1 = k then (e.1, e.2.1, p) else e).1 = e.1
        split <;> rfl
      rw [this]
      exact x.nd
    · rename_i hn
      have hn' : kdGet xs k = none := by
        cases q : kdGet xs k with
        | none => rfl
        | some v => rw [q] at hn; exact absurd rfl hn
      rw [List.map_append, List.nodup_append]
      refine ⟨x.nd, by simp, fun a ha b hb z => ?_⟩
      obtain ⟨y, hy, rfl⟩ := List.mem_map.mp ha
      have hb' : b = k := by simpa using hb
      exact kdGet_none hn' y hy (z.trans hb')
  · rcases mem_kdPut he with he | ⟨h1, _⟩
    · exact x.sub e he
    · rw [h1]
      exact hk
end
/-! ### the turns of the search -/
def EndTo (bs : List Str) (ws : List (Str × Str)) (left : List Nat) (s : List Str) (i : Nat) (x : List Str) : Prop := ∃ k, k < i ∧ ∃ a n, bs[k]? = some a ∧ left[k]? = some (n + 1) ∧ a ∈ s ∧ Ends bs ws (left.set k n) (afterRing bs ws s a) x
theorem endTo_succ {bs : List Str} {ws : List (Str × Str)} {left : List Nat} {s : List Str} {i : Nat} {x : List Str} : EndTo bs ws left s (i + 1) x ↔ EndTo bs ws left s i x ∨ ∃ a n, bs[i]? = some a ∧ left[i]? = some (n + 1) ∧ a ∈ s ∧ Ends bs ws (left.set i n) (afterRing bs ws s a) x := by
  constructor
  · rintro ⟨k, hk, a, n, h⟩
    by_cases e : k = i
    · subst e
      exact .inr ⟨a, n, h⟩
    · exact .inl ⟨k, by omega, a, n, h⟩
  · rintro (⟨k, hk, h⟩ | ⟨a, n, h⟩)
    · exact ⟨k, by omega, h⟩
    · exact ⟨i, by omega, a, n, h⟩
theorem endTo_all {bs : List Str} {ws : List (Str × Str)} {left : List Nat} {s : List Str} {x : List Str} (h : left.sum ≠ 0) : EndTo bs ws left s bs.length x ↔ Ends bs ws left s x := by
  rw [ends_step h]
  constructor
  · rintro ⟨k, _, a, n, z⟩
    exact ⟨k, a, n, z⟩
  · rintro ⟨k, a, n, z⟩
    exact ⟨k, (List.getElem?_eq_some_iff.mp z.1).1, a, n, z⟩
theorem endTo_sub {bs : List Str} {ws : List (Str × Str)} {left : List Nat} {s : List Str} {i : Nat} {x : List Str} (h : EndTo bs ws left s i x) : x.Sublist bs := by
  obtain ⟨k, _, a, n, _, _, _, e⟩ := h
  exact ends_sub e (after_sub ..)
/-! ### parts of tuples -/
section
variable {K : PySem.W.Frag} {H : Hp} {Q : VK}
theorem catA_gen {a b : Addr} {xs ys : List V} (ha : H a = some (.tup xs)) (hb : H b = some (.tup ys)) (hz : xs.length + ys.length ≤ 1000) (k : ∀ (H' : Hp) (q : Addr), Same H H' → H' q = some (.tup (xs ++ ys)) → Q (.ref q) H') : rCatA K (.ref a) (.ref b) H Q :=
  ⟨a, b, xs, ys, rfl, rfl, SqT.of ha, SqT.of hb, Nat.le_of_lt (small1000 hz), fun e => k H b (Same.refl H) (by rw [e]; exact hb), fun _ e => k H a (Same.refl H) (by rw [e, List.append_nil]; exact ha), fun _ _ p hp => k _ p (same_upd hp) upd_same⟩
theorem slA_gen {a : Addr} {xs : List V} {lo hi : Option Int} (ha : H a = some (.tup xs)) (k : ∀ (H' : Hp) (q : Addr), Same H H' → H' q = some (.tup (cutV xs lo hi)) → Q (.ref q) H') : rSlA K (.ref a) lo hi H Q := by
  refine ⟨a, xs, rfl, SqT.of ha, fun e => k H a (Same.refl H) ?_, fun _ p hp => k _ p (same_upd hp) upd_same⟩
  have : cutV xs lo hi = xs := by
    unfold cutV
    rw [e.1, e.2]
    show List.take xs.length (List.drop 0 xs) = xs
    rw [List.drop_zero, List.take_length]
  rw [this]
  exact ha
end
theorem cutV_lo (l : List Nat) (k : Nat) (h : k ≤ l.length) : cutV (l.map vN) none (some (k : Int)) = (l.take k).map vN := by
  unfold cutV
  rw [HT.sIx_none, HT.sIx_nat, List.length_map, Nat.min_eq_left h]
  show List.take k (List.drop 0 (l.map vN)) = _
  rw [List.drop_zero, List.map_take]
theorem cutV_hi (l : List Nat) (k : Nat) (h : k ≤ l.length) : cutV (l.map vN) (some (k : Int)) none = (l.drop k).map vN := by
  unfold cutV
  rw [HT.sIx_none, HT.sIx_nat, List.length_map, Nat.min_eq_left h, List.take_of_length_le (by rw [List.length_drop, List.length_map]; exact Nat.le_refl _), List.map_drop]
theorem set_parts {l : List Nat} {k n : Nat} (h : k < l.length) : l.take k ++ [n] ++ l.drop (k + 1) = l.set k n := by
  rw [List.set_eq_take_append_cons_drop, if_pos h, List.append_assoc]
  rfl
end Wb
set_option maxHeartbeats 4000000
namespace Wb
open PySem PySem.Spec PyProof.Rows L2 WbR
theorem hu9 {k : Nat} {A : Around} (hr : Room k A) : A.units + 9 < cLine := by
  have := hr.un
  omega
theorem dec_str (a b : Str) : decide (V.str a = V.str b) = decide (a = b) := by
  rw [Bool.eq_iff_iff, decide_eq_true_eq, decide_eq_true_eq]
  exact ⟨fun e => V.str.inj e, fun e => by rw [e]⟩
theorem not_dec (p : Prop) [Decidable p] : (!decide p) = decide ¬ p := by
  by_cases h : p
  · rw [decide_eq_true h, decide_eq_false (not_not_intro h)]; rfl
  · rw [decide_eq_false h, decide_eq_true h]; rfl
section
variable {P : Program} {w : World} {K : PySem.W.Frag} {mg : Str → Option Value} {base : Heap} {C : Addr}

/-! ### _law_ends -/
def spLawEnds (P : Program) (w : World) (n : Nat) : Sp := fun vs H Q _ => ∃ (q r L S d : Addr) (bs : List Str) (ws : List (Str × Str)) (ps : List Addr) (left : List Nat) (s : List Str) (ob : Obj), vs = [.ref q, .ref r, .ref L, .ref S, .ref d] ∧
  H q = some (.frz ob (.tup (bs.map V.str))) ∧ H r = some (.tup (ps.map V.ref)) ∧ PairsAt H ps ws ∧ (∀ b ∈ bs, okS b) ∧ bs.Nodup ∧ bs.length ≤ 3 ∧ ws.length ≤ 9 ∧ (∀ z ∈ ws, z.1 ∈ bs ∧ z.2 ∈ bs) ∧
  H L = some (.tup (left.map vN)) ∧ H S = some (.tup (s.map V.str)) ∧ left.length = bs.length ∧ (∀ x ∈ left, x ≤ 3) ∧ s.Sublist bs ∧ Memo P w bs ws H d ∧ left.sum < n ∧
  ∀ (H' : Hp) (F : Addr), SameBut d H H' → Memo P w bs ws H' d → TellsAt bs ws H' (left, s) F → Q (.ref F) H'
theorem sc_law_ends : FnScope ["_law_names_here", "_law_links_here", "_law_left", "_law_stand", "_law_known", "_law_found", "_law_k", "_law_now", "_law_after", "_law_fewer", "_law_name", "_law_pair", "_law_one"] ["_law_names_here", "_law_links_here", "_law_left", "_law_stand", "_law_known"] (defScope s_law_ends) := ⟨rfl, rfl, rfl, by decide +kernel, rfl, by decide +kernel, by decide +kernel⟩
theorem has_law_ends (E : Env K mg C) (F : Def K mg "_law_ends" s_law_ends) : ∀ n : Nat, Has P w K mg base "_law_ends" (n + 1) ["_law_names_here", "_law_links_here", "_law_left", "_law_stand", "_law_known"] (spLawEnds P w n)
  | 0 => by
    refine has_mk F sc_law_ends (fun _ _ _ _ _ _ us hl => match us, hl with | [_, _, _, _, _], _ => rfl) (fun vs H Q E h => ?_) (fun f cdv A oute s H vs Q E' hr h => ?_)
    · obtain ⟨_, _, _, _, _, _, _, _, _, _, _, rfl, _⟩ := h
      rfl
    · obtain ⟨_, _, _, _, _, _, _, _, _, _, _, rfl, _, _, _, _, _, _, _, _, _, _, _, _, _, _, h, _⟩ := h
      exact absurd h (Nat.not_lt_zero _)
  | n + 1 => by
    obtain ⟨f1, fd1, G1, g1, kp1, b1⟩ := (has_law_ends E F n).ex
    refine has_mk F sc_law_ends (fun _ _ _ _ _ _ us hl => match us, hl with | [_, _, _, _, _], _ => rfl) (fun vs H Q E h => ?_) (fun f cdv A oute s0 H vs Q E' hr h => ?_)
    · obtain ⟨_, _, _, _, _, _, _, _, _, _, _, rfl, _⟩ := h
      rfl
    · obtain ⟨q, r, L, S, d, bs, ws, ps, left, s, ob, rfl, hq, hrr, pa, oks, ndb, l3, lw, sub, hL, hS, ll, le3, ss, memo, small, k⟩ := h
      have nd := sc_law_ends.nd
      have u9 := hu9 hr
      have u65 := hu65 hr
      refine ⟨_, pss_cons (ps_if (pt_cmpR op_eq (pe_callB (cr_sumT rfl) (by rfl) E.sum boot_sum (pa_cons (pv 2) pa_nil)) pe_int (nomark _)) (pss_one (ps_ret (pe_lst (pa_cons (pv 3) pa_nil)))) pss_nil)
        (pss_cons (ps_if (pt_cmp (pc_ndNot u9 (pe_tup (pa_cons (pv 2) (pa_cons (pv 3) pa_nil))) (pv 4)) (by rfl))
          (pss_cons (ps_set (i := 5) nd rfl (.inr rfl) (pe_lst pa_nil))
          (pss_cons (ps_for PassesOwn.never rfl (pi_range1 (by rfl) E.range (pa_cons (pe_callB call_len_seq (by rfl) E.len PySem.boot_len (pa_cons (pv 0) pa_nil)) pa_nil)) (pg_name (i := 6) nd rfl (.inr rfl))
            (pss_one (ps_if (PW.pt (pw_and (pt_cmpR op_gt (pe_ix ix_tup (pv 2) (pv 6) (fun _ _ => rfl)) pe_int (nomark _)) (pw_and1 (pt_cmpR (show OpR _ _ (rIn K false) from op_in_seq) (pe_ix ix_tup (pv 0) (pv 6) (fun _ _ => rfl)) (pv 3) (by rfl)))))
              (pss_cons (ps_set (i := 7) nd rfl (.inr rfl) (pe_lc (own := [("_law_name", 10)]) (g := gName 10) (by rfl) nd (pi_tup (pv 3))
                (blkOk_by (own := [("_law_name", 10)]) (N := ["_law_names_here", "_law_links_here", "_law_left", "_law_stand", "_law_known", "_law_found", "_law_k", "_law_now", "_law_after", "_law_fewer", "_law_name", "_law_pair", "_law_one"]) (sc := defScope s_law_ends) (by decide +kernel)) (fun _ _ _ _ _ => pg_name (i := 10) nd rfl (Or.inl rfl))
                (fun _ _ _ _ _ => pts_one (pt_cmpR op_ne (pv 10) (pe_ix (show IxR _ (rIxT K) from ix_tup) (pv 0) (pv 6) (fun _ _ => rfl)) (by rfl))) (fun _ _ _ _ _ => pv 10)))
              (pss_cons (ps_set (i := 7) nd rfl (.inr rfl) (pe_op op_cat (pv 7) (pe_lc (own := [("_law_pair", 11)]) (g := gName 11) (by rfl) nd (pi_tup (pv 1))
                (blkOk_by (own := [("_law_pair", 11)]) (N := ["_law_names_here", "_law_links_here", "_law_left", "_law_stand", "_law_known", "_law_found", "_law_k", "_law_now", "_law_after", "_law_fewer", "_law_name", "_law_pair", "_law_one"]) (sc := defScope s_law_ends) (by decide +kernel)) (fun _ _ _ _ _ => pg_name (i := 11) nd rfl (Or.inl rfl))
                (fun _ _ _ _ _ => pts_one (pt_cmpR op_eq (pe_ix (show IxR _ (rIxT K) from ix_tup) (pv 11) pe_int (fun _ _ => rfl)) (pe_ix (show IxR _ (rIxT K) from ix_tup) (pv 0) (pv 6) (fun _ _ => rfl)) (by rfl))) (fun _ _ _ _ _ => pe_ix (show IxR _ (rIxT K) from ix_tup) (pv 11) pe_int (fun _ _ => rfl)))))
              (pss_cons (ps_set (i := 8) nd rfl (.inl rfl) (pe_callTy call_tuple_of (by rfl) E.tuple boot_tuple (pa_cons (pe_lc (own := [("_law_name", 10)]) (g := gName 10) (by rfl) nd (pi_tup (pv 0))
                (blkOk_by (own := [("_law_name", 10)]) (N := ["_law_names_here", "_law_links_here", "_law_left", "_law_stand", "_law_known", "_law_found", "_law_k", "_law_now", "_law_after", "_law_fewer", "_law_name", "_law_pair", "_law_one"]) (sc := defScope s_law_ends) (by decide +kernel)) (fun _ _ _ _ _ => pg_name (i := 10) nd rfl (Or.inl rfl))
                (fun _ _ _ _ _ => pts_one (pt_cmpR (show OpR _ _ (rIn K false) from op_in_seq) (pv 10) (pv 7) (by rfl))) (fun _ _ _ _ _ => pv 10)) pa_nil)))
              (pss_cons (ps_set (i := 9) nd rfl (.inl rfl) (pe_op op_catA (pe_op op_catA (pe_slice sl_tupA (pv 2) po_none (po_some (pv 6))) (pe_tup (pa_cons (pe_op op_sub (pe_ix ix_tup (pv 2) (pv 6) (fun _ _ => rfl)) pe_int) pa_nil))) (pe_slice sl_tupA (pv 2) (po_some (pe_op op_add (pv 6) pe_int)) po_none)))
              (pss_one (ps_set (i := 5) nd rfl (.inr rfl) (pe_op op_cat (pv 5) (pe_lc (own := [("_law_one", 12)]) (g := gName 12) (by rfl) nd (pi_list (pe_call G1 hr (by rfl) g1 kp1 b1 .nil pass0 (pa_cons (pv 0) (pa_cons (pv 1) (pa_cons (pv 9) (pa_cons (pv 8) (pa_cons (pv 4) pa_nil)))))))
                (blkOk_by (own := [("_law_one", 12)]) (N := ["_law_names_here", "_law_links_here", "_law_left", "_law_stand", "_law_known", "_law_found", "_law_k", "_law_now", "_law_after", "_law_fewer", "_law_name", "_law_pair", "_law_one"]) (sc := defScope s_law_ends) (by decide +kernel)) (fun _ _ _ _ _ => pg_name (i := 12) nd rfl (Or.inl rfl))
                (fun _ _ _ _ _ => pts_one (pt_cmpR (show OpR _ _ (rNotInD K) from op_notInD u65) (pv 12) (pv 5) (by rfl))) (fun _ _ _ _ _ => pv 12)))))))))
              pss_nil)))
          (pss_one (ps_ndPut u9 (pv 4) (pe_tup (pa_cons (pv 2) (pa_cons (pv 3) pa_nil))) (pv 5) (by rfl))))) pss_nil)
        (pss_one (ps_ret (pe_ndGet u9 (pv 4) (pe_tup (pa_cons (pv 2) (pa_cons (pv 3) pa_nil))) (fun _ _ => rfl))))), ?_⟩
      refine ⟨_, rfl, L, left.map fun n : Nat => (n : Int), rfl, SqT.of (by rw [List.map_map]; exact hL), rfl, _, rfl, ?_⟩
      have e0 : decide (V.int ((left.map fun n : Nat => (n : Int)).sum) = V.int 0) = decide (left.sum = 0) := by
        rw [sum_cast, Bool.eq_iff_iff, decide_eq_true_eq, decide_eq_true_eq]
        exact ⟨fun e => by have := V.int.inj e; omega, fun e => by rw [e]; rfl⟩
      show if decide (V.int ((left.map fun n : Nat => (n : Int)).sum) = V.int 0) = true then _ else _
      rw [e0]
      refine ite2 (fun e => ?_) (fun e => ?_)
      · have z : left.sum = 0 := of_decide_eq_true e
        refine ⟨_, rfl, (show 1 ≤ sizeLine by decide), fun F0 hF0 => ?_⟩
        have sF := same_upd (o := .lst [.ref S]) hF0
        exact k _ F0 (Same.but sF) (memo.mono sF) ⟨[S], [s], upd_same, .cons (sF _ _ hS) .nil, by simp, fun x => by rw [List.mem_singleton]; exact (ends_zero z).symm⟩
      · have z : left.sum ≠ 0 := fun y => e (decide_eq_true y)
        refine ⟨_, rfl, _, rfl, (show 2 ≤ sizeLine by decide), fun T hT => ?_⟩
        have sT := same_upd (o := .tup [.ref L, .ref S]) hT
        obtain ⟨xs, ms⟩ := id memo
        have ms1 := ms.mono sT
        have kT : KAt (upd H T (.tup [.ref L, .ref S])) (left, s) T := ⟨L, S, upd_same, sT _ _ hL, sT _ _ hS⟩
        refine ⟨_, rfl, d, T, xs, (left, s), rfl, rfl, ms1.at', ms1.keyed, kT, _, rfl, ?_⟩
        have memo1 := memo.mono sT
        have hq1 := sT _ _ hq
        have hr1 := sT _ _ hrr
        have pa1 := pa.mono fun b xs e => sT _ _ e
        have hL1 := sT _ _ hL
        have hS1 := sT _ _ hS
        generalize upd H T (.tup [.ref L, .ref S]) = H1 at *
        -- reading what is kept
        have fin : ∀ (H2 : Hp) (xs2 : List KEnt) (p : Addr), SameBut d H1 H2 → MemoIs P w bs ws H2 d xs2 → kdGet xs2 (left, s) = some p → ∀ (T2 : Addr), H2 T2 = none → Q (.ref p) (upd H2 T2 (.tup [.ref L, .ref S])) := by
          intro H2 xs2 p s2 m2 g2 T2 hT2
          have sT2 := same_upd (o := .tup [.ref L, .ref S]) hT2
          obtain ⟨e, he, h3, h4⟩ := kdGet_some g2
          have t := (m2.mono sT2).tells e he
          rw [h3, h4] at t
          exact k _ p ((Same.but sT).trans (s2.trans (Same.but sT2))) ⟨xs2, m2.mono sT2⟩ t
        cases hg : kdGet xs (left, s) with
        | some p =>
          refine iteF ?_
          refine ⟨_, rfl, _, rfl, _, rfl, (show 2 ≤ sizeLine by decide), fun T2 hT2 => ?_⟩
          have sT2 := same_upd (o := .tup [.ref L, .ref S]) hT2
          have m2 := ms1.mono sT2
          exact ⟨d, T2, xs, (left, s), p, rfl, rfl, m2.at', m2.keyed, ⟨L, S, upd_same, sT2 _ _ hL1, sT2 _ _ hS1⟩, hg, fin H1 xs p (fun b o _ e => e) ms1 hg T2 hT2⟩
        | none =>
          refine iteT ?_
          refine ⟨Nat.zero_le _, fun F0 hF0 => ?_⟩
          have sF := same_upd (o := .lst []) hF0
          refine ⟨_, rfl, q, _, rfl, .inr (sqz (sF _ _ hq1)), (bs.length : Int), by rw [List.length_map], by omega, by omega, ?_⟩
          rw [Int.toNat_natCast]
          refine for_range (lo := 0) (n := bs.length) (fun i σ H3 => ∃ (F : Addr) (y6 y7 y8 y9 : Option V) (qs : List Addr) (ls : List (List Str)), σ = [some (.ref q), some (.ref r), some (.ref L), some (.ref S), some (.ref d), some (.ref F), y6, y7, y8, y9, none, none, none] ∧
              SameBut d H1 H3 ∧ Memo P w bs ws H3 d ∧ H3 F = some (.lst (qs.map V.ref)) ∧ TupsOf H3 qs ls ∧ ls.Nodup ∧ ∀ x, x ∈ ls ↔ EndTo bs ws left s i x)
            ⟨F0, none, none, none, none, [], [], rfl, Same.but sF, memo1.mono sF, upd_same, .nil, by simp, fun x => ⟨fun h => (nomatch h), fun ⟨j, hj, _⟩ => absurd hj (Nat.not_lt_zero _)⟩⟩ ?_ ?_
          · rintro i σ H3 hi ⟨Fd, y6, y7, y8, y9, qs, ls, rfl, s3, m3, eF, tq, ndl, mem⟩
            have zi : (0 : Int) + (i : Nat) = (i : Nat) := Int.zero_add _
            rw [zi]
            have tp : ∀ {H4 : Hp}, Same H3 H4 → ∀ b ys, H1 b = some (.tup ys) → H4 b = some (.tup ys) := fun s4 b ys e => s4 _ _ (s3 _ _ (memo1.notTup e) e)
            have tz : ∀ {H4 : Hp}, Same H3 H4 → H4 q = some (.frz ob (.tup (bs.map V.str))) := fun s4 => s4 _ _ (s3 _ _ (memo1.notFrz hq1) hq1)
            have refl3 := Same.refl H3
            have hi' : i < left.length := by omega
            have eb : bs[i]? = some (bs.getD i "") := getD_get hi
            have hbb : bs.getD i "" ∈ bs := getD_mem hi
            have ebV : (bs.map V.str)[i]? = some (.str (bs.getD i "")) := by rw [List.getElem?_map, eb]; rfl
            have el := List.getElem?_eq_getElem hi'
            have elV : (left.map vN)[i]? = some (vN left[i]) := by rw [List.getElem?_map, el]; rfl
            have lsub : ∀ x ∈ ls, x.Sublist bs := fun x hx => endTo_sub ((mem x).mp hx)
            have lfew : ls.length ≤ 8 := told_few l3 ndl lsub
            have lq := Paired.length tq
            have lsok : ∀ x ∈ ls, ∀ z ∈ x, okS z := fun x hx z hz => oks z ((lsub x hx).subset hz)
            generalize bs.getD i "" = b at eb hbb ebV
            refine ⟨_, rfl, _, rfl, L, _, _, vN left[i], rfl, rfl, SqT.of (tp refl3 _ _ hL1), atI_nat elV, _, _, rfl, rfl, _, rfl, ?_⟩
            show if decide ((0 : Int) < ((left[i] : Nat) : Int)) = true then _ else _
            rw [dec_pos]
            have skip : (¬ ∃ n, left[i]? = some (n + 1) ∧ b ∈ s) → ∀ x, x ∈ ls ↔ EndTo bs ws left s (i + 1) x := by
              intro no x
              rw [mem, endTo_succ]
              refine ⟨.inl, fun h => h.elim id fun ⟨a, n, h1, h2, h3, _⟩ => ?_⟩
              rw [eb] at h1
              cases h1
              exact absurd ⟨n, h2, h3⟩ no
            refine ite2 (fun e => ?_) (fun e => ?_)
            · have pos : 0 < left[i] := of_decide_eq_true e
              obtain ⟨m, em⟩ : ∃ m, left[i] = m + 1 := ⟨left[i] - 1, by omega⟩
              refine ⟨_, rfl, _, rfl, q, _, _, .str b, rfl, rfl, sqz (tz refl3), atI_nat ebV, _, rfl, S, _, rfl, .inr (SqT.of (tp refl3 _ _ hS1)), rfl, flat_strs _, _, rfl, ?_⟩
              show if inV (V.str b) (s.map V.str) = true then _ else _
              rw [inV_strs]
              refine ite2 (fun e2 => ?_) (fun e2 => ?_)
              · have hbs : b ∈ s := of_decide_eq_true e2
                -- now, of who is live
                refine ⟨_, rfl, S, rfl, ⟨_, SqT.of (tp refl3 _ _ hS1)⟩, fun D1 hD1 => ?_⟩
                refine lc_pureT (K := K) (a := S) (xs := s.map V.str) (keepS fun c => decide (c ≠ b)) (SqT.of (tp refl3 _ _ hS1)) hD1 (by rw [List.length_map]; exact Nat.le_trans ss.length_le (by omega)) (fun j x acc R1 R0 hx h0 h1 => ?_) ?_
                · rw [List.getElem?_map] at hx
                  obtain ⟨c, hc, rfl⟩ := Option.map_eq_some_iff.mp hx
                  refine ⟨rfl, _, rfl, _, rfl, _, rfl, q, _, _, .str b, rfl, rfl, sqz (tz (same_upd hD1)), atI_nat ebV, rfl, _, rfl, ?_⟩
                  show if (!decide (V.str c = V.str b)) = true then _ else _
                  rw [dec_str, not_dec]
                  rw [keepS_str] at h0 h1
                  refine ite2 (fun e => ?_) (fun e => ?_)
                  · rw [if_pos e] at h1
                    exact ⟨_, rfl, h1 _ rfl⟩
                  · rw [if_neg e] at h0
                    exact h0 rfl
                rw [filterMap_strs]
                have s4 := same_upd (o := .lst ((s.filter fun c => decide (c ≠ b)).map V.str)) hD1
                have eD1 : upd H3 D1 (.lst ((s.filter fun c => decide (c ≠ b)).map V.str)) D1 = some (.lst ((s.filter fun c => decide (c ≠ b)).map V.str)) := upd_same
                generalize upd H3 D1 (.lst ((s.filter fun c => decide (c ≠ b)).map V.str)) = H4 at s4 eD1
                -- and of who is woken
                refine ⟨_, rfl, _, rfl, r, rfl, ⟨_, SqT.of (tp s4 _ _ hr1)⟩, fun D2 hD2 => ?_⟩
                refine lc_tup (K := K) (a := r) (xs := ps.map V.ref) (fun j H5 => H5 = upd H4 D2 (.lst ((wokenOf (ws.take j) b).map V.str))) rfl (fun j H5 _ e => by rw [e]; exact SqT.of (tp (s4.trans (same_upd hD2)) _ _ hr1)) (fun j x H5 hj e => ?_) (fun H5 e => ?_)
                · subst e
                  rw [List.getElem?_map] at hj
                  obtain ⟨p, hp1, rfl⟩ := Option.map_eq_some_iff.mp hj
                  have jl : j < ws.length := by
                    rw [← pa1.len]
                    exact (List.getElem?_eq_some_iff.mp hp1).1
                  have hw := List.getElem?_eq_getElem jl
                  obtain ⟨p', e1, e3⟩ := pa1.at hw
                  rw [hp1] at e1
                  cases e1
                  have sx := s4.trans (same_upd (o := .lst ((wokenOf (ws.take j) b).map V.str)) hD2)
                  have lz : (wokenOf (ws.take j) b).length ≤ 1000 := Nat.le_trans (wokenOf_len _ _) (by rw [List.length_take]; omega)
                  refine ⟨rfl, _, rfl, p, _, 0, .str (ws[j]).1, rfl, rfl, SqT.of (tp sx _ _ e3), rfl, _, rfl, _, rfl, q, _, _, .str b, rfl, rfl, sqz (tz sx), atI_nat ebV, rfl, _, rfl, ?_⟩
                  show if decide (V.str (ws[j]).1 = V.str b) = true then _ else _
                  rw [dec_str, wokenOf_snoc hw]
                  refine ite2 (fun e => ?_) (fun e => ?_)
                  · rw [if_pos (of_decide_eq_true e)]
                    refine ⟨_, rfl, p, _, 1, .str (ws[j]).2, rfl, rfl, SqT.of (tp sx _ _ e3), rfl, _, upd_same, by rw [List.length_map]; exact small1000 lz, ?_⟩
                    rw [upd_upd, List.map_append]
                    rfl
                  · rw [if_neg (fun y => e (decide_eq_true y)), List.append_nil]
                rw [List.length_map, pa1.len, List.take_length] at e
                subst e
                have s5 := s4.trans (same_upd (o := .lst ((wokenOf ws b).map V.str)) hD2)
                have sl : (s.filter fun c => decide (c ≠ b)).length ≤ 3 := Nat.le_trans (List.length_filter_le _ _) (Nat.le_trans ss.length_le l3)
                have wl := wokenOf_len ws b
                refine ⟨D1, D2, _, _, rfl, rfl, same_upd hD2 _ _ eD1, upd_same, by rw [List.length_map, List.length_map]; exact Nat.le_of_lt (small1000 (by omega)), fun Nw hNw => ?_⟩
                rw [← List.map_append]
                have s6 := s5.trans (same_upd (o := .lst (((s.filter fun c => decide (c ≠ b)) ++ wokenOf ws b).map V.str)) hNw)
                have eN : upd (upd H4 D2 (.lst ((wokenOf ws b).map V.str))) Nw (.lst (((s.filter fun c => decide (c ≠ b)) ++ wokenOf ws b).map V.str)) Nw = some (.lst (((s.filter fun c => decide (c ≠ b)) ++ wokenOf ws b).map V.str)) := upd_same
                generalize upd (upd H4 D2 (.lst ((wokenOf ws b).map V.str))) Nw (.lst (((s.filter fun c => decide (c ≠ b)) ++ wokenOf ws b).map V.str)) = H6 at s6 eN
                -- after, in order
                refine ⟨_, rfl, q, rfl, ⟨_, sqz (tz s6)⟩, fun D3 hD3 => ?_⟩
                refine lc_pureT (K := K) (a := q) (xs := bs.map V.str) (keepS fun c => decide (c ∈ (s.filter fun c => decide (c ≠ b)) ++ wokenOf ws b)) (sqz (tz s6)) hD3 (by rw [List.length_map]; omega) (fun j x acc R1 R0 hx h0 h1 => ?_) ?_
                · rw [List.getElem?_map] at hx
                  obtain ⟨c, hc, rfl⟩ := Option.map_eq_some_iff.mp hx
                  refine ⟨rfl, _, rfl, _, rfl, Nw, _, rfl, .inl (SqL.of (same_upd hD3 _ _ eN)), rfl, flat_strs _, _, rfl, ?_⟩
                  show if inV (V.str c) (((s.filter fun c => decide (c ≠ b)) ++ wokenOf ws b).map V.str) = true then _ else _
                  rw [inV_strs]
                  rw [keepS_str] at h0 h1
                  refine ite2 (fun e => ?_) (fun e => ?_)
                  · rw [if_pos e] at h1
                    exact ⟨_, rfl, h1 _ rfl⟩
                  · rw [if_neg e] at h0
                    exact h0 rfl
                rw [filterMap_strs]
                have haf : (bs.filter fun c => decide (c ∈ (s.filter fun c => decide (c ≠ b)) ++ wokenOf ws b)) = afterRing bs ws s b := rfl
                rw [haf]
                refine ⟨D3, _, rfl, .inl ⟨SqL.of upd_same, fun A3 hA3 => ?_⟩⟩
                have s7 := s6.trans ((same_upd hD3).trans (same_upd (o := .tup ((afterRing bs ws s b).map V.str)) hA3))
                have eA : upd (upd H6 D3 (.lst ((afterRing bs ws s b).map V.str))) A3 (.tup ((afterRing bs ws s b).map V.str)) A3 = some (.tup ((afterRing bs ws s b).map V.str)) := upd_same
                generalize upd (upd H6 D3 (.lst ((afterRing bs ws s b).map V.str))) A3 (.tup ((afterRing bs ws s b).map V.str)) = H7 at s7 eA
                -- fewer
                refine ⟨_, rfl, _, rfl, _, rfl, slA_gen (tp s7 _ _ hL1) fun H8 q1 s8 eq1 => ?_⟩
                rw [cutV_lo left i (by omega)] at eq1
                have s78 := s7.trans s8
                refine ⟨_, rfl, _, rfl, L, _, _, vN left[i], rfl, rfl, SqT.of (tp s78 _ _ hL1), atI_nat elV, _, _, rfl, rfl, (show 1 ≤ sizeLine by decide), fun T1 hT1 => ?_⟩
                have s9 := same_upd (o := .tup [.int (((left[i] : Nat) : Int) - 1)]) hT1
                refine catA_gen (s9 _ _ eq1) upd_same (by rw [List.length_map, List.length_take]; show min i left.length + 1 ≤ 1000; omega) fun H10 q2 s10 eq2 => ?_
                have s710 := (s78.trans s9).trans s10
                have ei1 : ((i : Nat) : Int) + 1 = ((i + 1 : Nat) : Int) := rfl
                refine ⟨_, rfl, _, rfl, _, _, rfl, rfl, _, rfl, ?_⟩
                unfold tNoPart
                refine slA_gen (tp s710 _ _ hL1) fun H11 q3 s11 eq3 => ?_
                rw [ei1, cutV_hi left (i + 1) (by omega)] at eq3
                have evn : ((left.take i).map vN ++ [V.int (((left[i] : Nat) : Int) - 1)]) = (left.take i ++ [m]).map vN := by
                  rw [List.map_append]
                  show _ ++ [V.int (((left[i] : Nat) : Int) - 1)] = _ ++ [vN m]
                  have : ((left[i] : Nat) : Int) - 1 = ((m : Nat) : Int) := by rw [em]; omega
                  rw [this]
                  rfl
                rw [evn] at eq2
                refine catA_gen (s11 _ _ eq2) eq3 (by rw [List.length_map, List.length_map, List.length_append, List.length_take, List.length_drop]; show min i left.length + 1 + _ ≤ 1000; omega) fun H12 Fw s12 eFw => ?_
                rw [← List.map_append, set_parts hi'] at eFw
                have s712 := (s710.trans s11).trans s12
                have eA12 : H12 A3 = some (.tup ((afterRing bs ws s b).map V.str)) := s12 _ _ (s11 _ _ (s10 _ _ (s9 _ _ (s8 _ _ eA))))
                have es : left[i]? = some (m + 1) := by rw [el, em]
                have ssum := sum_set es
                -- the search behind this ring
                refine ⟨_, rfl, _, rfl, _, rfl, _, rfl, _, rfl, _, rfl, q, r, Fw, A3, d, bs, ws, ps, left.set i m, afterRing bs ws s b, ob, rfl, tz s712, tp s712 _ _ hr1, pa1.mono (tp s712), oks, ndb, l3, lw, sub, eFw, eA12, by rw [List.length_set]; exact ll, ?_, after_sub .., m3.mono s712, by omega, fun H13 F2 s13 m13 t13 => ?_⟩
                · intro x hx
                  rcases List.mem_or_eq_of_mem_set hx with h | h
                  · exact le3 x h
                  · have := le3 _ (List.getElem_mem hi')
                    omega
                obtain ⟨qs2, ls2, eF2, tq2, td2⟩ := t13
                have s313 : SameBut d H3 H13 := SameBut.trans (Same.but s712) s13
                have tp3 : ∀ b ys, H3 b = some (.tup ys) → H13 b = some (.tup ys) := fun b ys e => s313 _ _ (m3.notTup e) e
                have eF13 : H13 Fd = some (.lst (qs.map V.ref)) := s313 _ _ (m3.notLst eF) eF
                have tq13 : TupsOf H13 qs ls := tq.mono tp3
                have l2sub : ∀ x ∈ ls2, x.Sublist bs := fun x hx => ends_sub ((td2.iff x).mp hx) (after_sub ..)
                have l2few : ls2.length ≤ 8 := told_few l3 td2.nd l2sub
                have lq2 := Paired.length tq2
                refine ⟨F2, rfl, ⟨_, SqL.of eF2⟩, fun D4 hD4 => ?_⟩
                refine lc_list (K := K) (a := F2) (xs := qs2.map V.ref) (fun j H14 => ∃ (rs : List Addr) (ls3 : List (List Str)), H14 = upd H13 D4 (.lst (rs.map V.ref)) ∧ TupsOf H13 rs ls3 ∧ ls3.Nodup ∧ ∀ x, x ∈ ls3 ↔ x ∈ ls2.take j ∧ x ∉ ls)
                  ⟨[], [], rfl, .nil, by simp, fun x => by rw [List.take_zero]; exact ⟨fun h => absurd h List.not_mem_nil, fun h => absurd h.1 List.not_mem_nil⟩⟩ (fun j H14 _ ⟨_, _, e, _⟩ => by rw [e]; exact SqL.of (same_upd hD4 _ _ eF2)) (fun j x H14 hj h => ?_) (fun H14 h => ?_)
                · obtain ⟨rs, ls3, rfl, tr, nd3, mem3⟩ := h
                  rw [List.getElem?_map] at hj
                  obtain ⟨p, hp1, rfl⟩ := Option.map_eq_some_iff.mp hj
                  obtain ⟨y, hy, ey⟩ := paired_at' tq2 hp1
                  have hym : y ∈ ls2 := List.mem_of_getElem? hy
                  have sx := same_upd (o := .lst (rs.map V.ref)) hD4
                  have tk : ∀ x, x ∈ ls2.take (j + 1) ↔ x ∈ ls2.take j ∨ x = y := fun x => by
                    rw [List.take_add_one, hy, List.mem_append]
                    exact or_congr Iff.rfl List.mem_singleton
                  have lr := Paired.length tr
                  have l3few : ls3.length ≤ ls2.length := length_le_of_sub nd3 fun x hx => List.take_subset _ _ ((mem3 x).mp hx).1
                  refine ⟨rfl, _, rfl, _, rfl, dTs y, ls.map dTs, dp_ts (SqT.of (sx _ _ ey)), .lst (SqL.of (sx _ _ eF13)) (dpAll_lts (tq13.mono fun b xs e => sx _ _ e)), shaped_ts (fun z hz => oks z ((l2sub y hym).subset hz)), shaped_lts lsok, _, rfl, ?_⟩
                  rw [any_lts, not_dec]
                  refine ite2 (fun e => ?_) (fun e => ?_)
                  · have nin : y ∉ ls := of_decide_eq_true e
                    refine ⟨_, rfl, _, upd_same, by rw [List.length_map]; exact small1000 (by omega), rs ++ [p], ls3 ++ [y], ?_, paired_snoc tr ey, ?_, fun x => ?_⟩
                    · rw [upd_upd, List.map_append]
                      rfl
                    · rw [List.nodup_append]
                      refine ⟨nd3, by simp, fun a ha c hc e => ?_⟩
                      rw [List.mem_singleton.mp hc] at e
                      rw [e] at ha
                      have h5 := ((mem3 y).mp ha).1
                      obtain ⟨t, ht⟩ := List.getElem?_of_mem h5
                      have tl : t < j := by
                        have := (List.getElem?_eq_some_iff.mp ht).1
                        rw [List.length_take] at this
                        omega
                      rw [List.getElem?_take, if_pos tl] at ht
                      have := (List.getElem?_inj (List.getElem?_eq_some_iff.mp ht).1 td2.nd).mp (ht.trans hy.symm)
                      omega
                    · rw [List.mem_append, List.mem_singleton, mem3, tk]
                      constructor
                      · rintro (⟨h1, h2⟩ | rfl)
                        · exact ⟨.inl h1, h2⟩
                        · exact ⟨.inr rfl, nin⟩
                      · rintro ⟨h1 | h1, h2⟩
                        · exact .inl ⟨h1, h2⟩
                        · exact .inr h1
                  · have isin : y ∈ ls := by
                      apply Classical.byContradiction
                      intro z
                      exact e (decide_eq_true z)
                    refine ⟨rs, ls3, rfl, tr, nd3, fun x => ?_⟩
                    rw [mem3, tk]
                    constructor
                    · exact fun h => ⟨.inl h.1, h.2⟩
                    · rintro ⟨h1 | h1, h2⟩
                      · exact ⟨h1, h2⟩
                      · rw [h1] at h2
                        exact absurd isin h2
                · obtain ⟨rs, ls3, rfl, tr, nd3, mem3⟩ := h
                  rw [List.length_map, lq2, List.take_length] at mem3
                  have lr := Paired.length tr
                  have l3few : ls3.length ≤ ls2.length := length_le_of_sub nd3 fun x hx => ((mem3 x).mp hx).1
                  refine ⟨Fd, D4, _, _, rfl, rfl, same_upd hD4 _ _ eF13, upd_same, by rw [List.length_map, List.length_map]; exact Nat.le_of_lt (small1000 (by omega)), fun F3 hF3 => ?_⟩
                  have s15 := (same_upd (o := .lst (rs.map V.ref)) hD4).trans (same_upd (o := .lst (qs.map V.ref ++ rs.map V.ref)) hF3)
                  refine ⟨F3, _, _, _, _, qs ++ rs, ls ++ ls3, rfl, s3.trans (s313.trans (Same.but s15)), m13.mono s15, by rw [upd_same, List.map_append], paired_app (tq13.mono fun b xs e => s15 _ _ e) (tr.mono fun b xs e => s15 _ _ e), ?_, fun x => ?_⟩
                  · rw [List.nodup_append]
                    refine ⟨ndl, nd3, fun a ha c hc e => ?_⟩
                    rw [← e] at hc
                    exact ((mem3 a).mp hc).2 ha
                  · rw [List.mem_append, mem, mem3, td2.iff, endTo_succ, ← mem x]
                    constructor
                    · rintro (h | ⟨h1, h2⟩)
                      · exact .inl h
                      · exact .inr ⟨b, m, eb, es, hbs, h1⟩
                    · rintro (h | ⟨a, n', h1, h2, h3, h4⟩)
                      · exact .inl h
                      · rw [eb] at h1
                        cases h1
                        rw [es] at h2
                        cases h2
                        by_cases hx : x ∈ ls
                        · exact .inl hx
                        · exact .inr ⟨h4, hx⟩
              · refine ⟨Fd, _, _, _, _, qs, ls, rfl, s3, m3, eF, tq, ndl, skip fun ⟨_, _, h⟩ => e2 (decide_eq_true h)⟩
            · refine ⟨Fd, _, _, _, _, qs, ls, rfl, s3, m3, eF, tq, ndl, skip fun ⟨n', h, _⟩ => ?_⟩
              rw [el] at h
              have : left[i] = n' + 1 := Option.some.inj h
              exact e (decide_eq_true (by omega))
          · rintro σ H3 ⟨Fd, y6, y7, y8, y9, qs, ls, rfl, s3, m3, eF, tq, ndl, mem⟩
            obtain ⟨xs3, ms3⟩ := m3
            refine ⟨_, rfl, _, rfl, _, rfl, _, rfl, (show 2 ≤ sizeLine by decide), fun T3 hT3 => ?_⟩
            have s4 := same_upd (o := .tup [.ref L, .ref S]) hT3
            have ms4 := ms3.mono s4
            have tp : ∀ b ys, H1 b = some (.tup ys) → H3 b = some (.tup ys) := fun b ys e => s3 _ _ (memo1.notTup e) e
            have k4 : KAt (upd H3 T3 (.tup [.ref L, .ref S])) (left, s) T3 := ⟨L, S, upd_same, s4 _ _ (tp _ _ hL1), s4 _ _ (tp _ _ hS1)⟩
            have t4 : TellsAt bs ws (upd H3 T3 (.tup [.ref L, .ref S])) (left, s) Fd := ⟨qs, ls, s4 _ _ eF, tq.mono fun b xs e => s4 _ _ e, ndl, fun x => by rw [mem]; exact endTo_all z⟩
            refine ⟨d, T3, xs3, (left, s), Fd, rfl, rfl, rfl, ms4.at', ms4.keyed, k4, small1000 (Nat.le_trans (ms4.few l3) (by decide)), ?_⟩
            have ms5 := ms4.put k4 t4 (mem_allKeys ll le3 ss)
            have s5 : SameBut d H1 (upd (upd H3 T3 (.tup [.ref L, .ref S])) d (NdO P w d (kdPut xs3 (left, s) T3 Fd))) := fun b o n e => by
              rw [upd_ne n]
              exact s4 _ _ (s3 _ _ n e)
            refine ⟨_, rfl, _, rfl, _, rfl, (show 2 ≤ sizeLine by decide), fun T2 hT2 => ?_⟩
            have sT2 := same_upd (o := .tup [.ref L, .ref S]) hT2
            have m6 := ms5.mono sT2
            have tp5 : ∀ b ys, H1 b = some (.tup ys) → upd (upd H3 T3 (.tup [.ref L, .ref S])) d (NdO P w d (kdPut xs3 (left, s) T3 Fd)) b = some (.tup ys) := fun b ys e => s5 _ _ (memo1.notTup e) e
            exact ⟨d, T2, _, (left, s), Fd, rfl, rfl, m6.at', m6.keyed, ⟨L, S, upd_same, sT2 _ _ (tp5 _ _ hL1), sT2 _ _ (tp5 _ _ hS1)⟩, kdGet_put .., fin _ _ Fd s5 ms5 (kdGet_put ..) T2 hT2⟩
end
end Wb
set_option maxHeartbeats 4000000
namespace Wb
open PySem PySem.Spec PyProof.Rows L2 WbR
theorem all_in (s x : List Str) : (s.map fun c => decide (c ∈ x)).all id = decide (∀ b ∈ s, b ∈ x) := by
  rw [List.all_map, Bool.eq_iff_iff, List.all_eq_true, decide_eq_true_eq]
  exact ⟨fun h b hb => of_decide_eq_true (h b hb), fun h b hb => decide_eq_true (h b hb)⟩
section
variable {P : Program} {w : World} {K : PySem.W.Frag} {mg : Str → Option Value} {base : Heap} {C : Addr}

/-! ### _law_is_one -/
def spLawIsOne (P : Program) (w : World) (n : Nat) : Sp := fun vs H Q _ => ∃ (q r L d : Addr) (bs : List Str) (ws : List (Str × Str)) (ps : List Addr) (f : Str → Nat) (ob : Obj), vs = [.ref q, .ref r, .ref L, .ref d] ∧
  H q = some (.frz ob (.tup (bs.map V.str))) ∧ H r = some (.tup (ps.map V.ref)) ∧ PairsAt H ps ws ∧ (∀ b ∈ bs, okS b) ∧ bs.Nodup ∧ bs.length ≤ 3 ∧ ws.length ≤ 9 ∧ (∀ z ∈ ws, z.1 ∈ bs ∧ z.2 ∈ bs) ∧
  H L = some (.tup ((bs.map f).map vN)) ∧ (∀ x ∈ bs.map f, x ≤ 3) ∧ Memo P w bs ws H d ∧ (bs.map f).sum < n ∧
  ∀ (H' : Hp) (b : Bool), SameBut d H H' → Memo P w bs ws H' d → (b = true ↔ IsRound bs ws f) → Q (.bl b) H'
theorem sc_law_is_one : FnScope ["_law_names_here", "_law_links_here", "_law_wished", "_law_known", "_law_stand", "_law_end", "_law_name"] ["_law_names_here", "_law_links_here", "_law_wished", "_law_known"] (defScope s_law_is_one) := ⟨rfl, rfl, rfl, by decide +kernel, rfl, by decide +kernel, by decide +kernel⟩
theorem has_law_is_one (E : Env K mg C) (F : Def K mg "_law_is_one" s_law_is_one) (n : Nat) (h1 : Has P w K mg base "_law_stands" 1 ["_law_names_here"] spLawStands)
    (h2 : Has P w K mg base "_law_ends" (n + 1) ["_law_names_here", "_law_links_here", "_law_left", "_law_stand", "_law_known"] (spLawEnds P w n)) : Has P w K mg base "_law_is_one" (n + 2) ["_law_names_here", "_law_links_here", "_law_wished", "_law_known"] (spLawIsOne P w n) := by
  obtain ⟨f1, fd1, G1, g1, kp1, b1⟩ := h1.ex
  obtain ⟨f2, fd2, G2, g2, kp2, b2⟩ := h2.ex
  refine has_mk F sc_law_is_one (fun _ _ _ _ _ _ us hl => match us, hl with | [_, _, _, _], _ => rfl) (fun vs H Q E h => ?_) (fun f cdv A oute s0 H vs Q E' hr h => ?_)
  · obtain ⟨_, _, _, _, _, _, _, _, _, rfl, _⟩ := h
    rfl
  · obtain ⟨q, r, L, d, bs, ws, ps, fw, ob, rfl, hq, hrr, pa, oks, ndb, l3, lw, sub, hL, le3, memo, small, k⟩ := h
    have nd := sc_law_is_one.nd
    refine ⟨_, pss_cons (ps_for PassesOwn.never rfl (pi_list (pe_call G1 (hr.mono (by omega)) (by rfl) g1 kp1 b1 .nil pass0 (pa_cons (pv 0) pa_nil))) (pg_name (i := 4) nd rfl (.inl rfl))
        (pss_one (ps_for PassesOwn.never rfl (pi_list (pe_call G2 hr (by rfl) g2 kp2 b2 .nil pass0 (pa_cons (pv 0) (pa_cons (pv 1) (pa_cons (pv 2) (pa_cons (pv 4) (pa_cons (pv 3) pa_nil))))))) (pg_name (i := 5) nd rfl (.inr rfl))
          (pss_one (ps_if (pt_val (pe_callB (cr_all rfl) (by rfl) E.all boot_all (pa_cons (pe_lc (own := [("_law_name", 6)]) (g := gName 6) (tt := tYes) (by rfl) nd (pi_tup (pv 4))
            (blkOk_by (own := [("_law_name", 6)]) (N := ["_law_names_here", "_law_links_here", "_law_wished", "_law_known", "_law_stand", "_law_end", "_law_name"]) (sc := defScope s_law_is_one) (by decide +kernel)) (fun _ _ _ _ _ => pg_name (i := 6) nd rfl (Or.inl rfl))
            (fun _ _ _ _ _ => pts_nil) (fun _ _ _ _ _ => pe_cmpR (show OpR _ _ (rIn K false) from op_in_seq) (pv 6) (pv 5) (by rfl))) pa_nil)))
            (pss_one (ps_ret pe_bl)) pss_nil)))))
      (pss_one (ps_ret pe_bl)), ?_⟩
    refine ⟨_, rfl, q, bs, ob, rfl, hq, l3, fun H1 F0 ss s1 eF ts => ?_⟩
    have memo1 := memo.mono s1
    have hq1 := s1 _ _ hq
    have hr1 := s1 _ _ hrr
    have pa1 := pa.mono fun b xs e => s1 _ _ e
    have hL1 := s1 _ _ hL
    refine ⟨F0, rfl, ⟨_, SqL.of eF⟩, for_list (K := K) (a := F0) (xs := ss.map V.ref) (fun i σ H3 => ∃ (y4 y5 : Option V), σ = [some (.ref q), some (.ref r), some (.ref L), some (.ref d), y4, y5, none] ∧ SameBut d H1 H3 ∧ Memo P w bs ws H3 d ∧ ∀ s ∈ (stands bs).take i, ∀ x, Ends bs ws (bs.map fw) s x → ¬ ∀ b ∈ s, b ∈ x)
      ⟨none, none, rfl, fun b o _ e => e, memo1, fun s hs => absurd hs (by rw [List.take_zero]; exact List.not_mem_nil)⟩ (fun i σ H3 _ ⟨_, _, _, s3, _⟩ => SqL.of (s3 _ _ (memo1.notLst eF) eF)) ?_ ?_⟩
    · rintro i x σ H3 hi ⟨y4, y5, rfl, s3, m3, no⟩
      rw [List.getElem?_map] at hi
      obtain ⟨S, hS1, rfl⟩ := Option.map_eq_some_iff.mp hi
      obtain ⟨s, hs, eS⟩ := paired_at' ts hS1
      have tp : ∀ b ys, H1 b = some (.tup ys) → H3 b = some (.tup ys) := fun b ys e => s3 _ _ (memo1.notTup e) e
      have ssub : s.Sublist bs := mem_stands.mp (List.mem_of_getElem? hs)
      refine ⟨_, rfl, _, rfl, _, rfl, _, rfl, _, rfl, q, r, L, S, d, bs, ws, ps, bs.map fw, s, ob, rfl, s3 _ _ (memo1.notFrz hq1) hq1, tp _ _ hr1, pa1.mono tp, oks, ndb, l3, lw, sub, tp _ _ hL1, tp _ _ eS, List.length_map _, le3, ssub, m3, small, fun H4 F2 s4 m4 t4 => ?_⟩
      obtain ⟨qs, ls, eF2, tq, td⟩ := t4
      have s14 := s3.trans s4
      refine ⟨F2, rfl, ⟨_, SqL.of eF2⟩, for_list (K := K) (a := F2) (xs := qs.map V.ref) (fun j σ H5 => ∃ (y5 : Option V), σ = [some (.ref q), some (.ref r), some (.ref L), some (.ref d), some (.ref S), y5, none] ∧ Same H4 H5 ∧ ∀ x ∈ ls.take j, ¬ ∀ b ∈ s, b ∈ x)
        ⟨y5, rfl, Same.refl H4, fun x hx => absurd hx (by rw [List.take_zero]; exact List.not_mem_nil)⟩ (fun j σ H5 _ ⟨_, _, s5, _⟩ => SqL.of (s5 _ _ eF2)) ?_ ?_⟩
      · rintro j z σ H5 hj ⟨y5, rfl, s5, no2⟩
        rw [List.getElem?_map] at hj
        obtain ⟨X, hX1, rfl⟩ := Option.map_eq_some_iff.mp hj
        obtain ⟨x, hx, eX⟩ := paired_at' tq hX1
        have eS5 := s5 _ _ (s14 _ _ (memo1.notTup eS) eS)
        have eX5 := s5 _ _ eX
        refine ⟨_, rfl, S, rfl, ⟨_, SqT.of eS5⟩, fun D hD => ?_⟩
        refine lc_pureT (K := K) (a := S) (xs := s.map V.str) (onS fun c => .bl (decide (c ∈ x))) (SqT.of eS5) hD (by rw [List.length_map]; exact Nat.le_trans ssub.length_le (by omega)) (fun m y acc R1 R0 hy h0 h1 => ?_) ?_
        · rw [List.getElem?_map] at hy
          obtain ⟨c, hc, rfl⟩ := Option.map_eq_some_iff.mp hy
          refine ⟨rfl, yesT ?_⟩
          refine ⟨_, rfl, _, rfl, X, _, rfl, .inr (SqT.of (same_upd hD _ _ eX5)), rfl, flat_strs _, ?_⟩
          have e6 : inV (V.str c) (x.map V.str) = decide (c ∈ x) := inV_strs _ _
          show R1 (V.bl (inV (V.str c) (x.map V.str))) _
          rw [e6]
          exact h1 _ rfl
        · have s6 := s5.trans (same_upd (o := .lst ((s.map V.str).filterMap (onS fun c => .bl (decide (c ∈ x))))) hD)
          refine ⟨D, s.map fun c => decide (c ∈ x), rfl, SqL.of ?_, _, rfl, ?_⟩
          · rw [upd_same, filterMap_onS, List.map_map]
            rfl
          · rw [all_in]
            refine ite2 (fun e => ?_) (fun e => ?_)
            · refine k _ true ((Same.but s1).trans (s14.trans (Same.but s6))) (m4.mono s6) ⟨fun _ => ⟨s, ssub, x, (td.iff x).mp (List.mem_of_getElem? hx), of_decide_eq_true e⟩, fun _ => rfl⟩
            · refine ⟨_, rfl, s6, fun y hy => ?_⟩
              rw [List.take_add_one, hx] at hy
              rcases List.mem_append.mp hy with hy | hy
              · exact no2 y hy
              · have : y = x := List.mem_singleton.mp hy
                rw [this]
                exact fun h => e (decide_eq_true h)
      · rintro σ H5 ⟨y5, rfl, s5, no2⟩
        rw [List.length_map, Paired.length tq, List.take_length] at no2
        refine ⟨_, _, rfl, s14.trans (Same.but s5), m4.mono s5, fun s' hs' => ?_⟩
        rw [List.take_add_one, hs] at hs'
        rcases List.mem_append.mp hs' with hs' | hs'
        · exact no s' hs'
        · have : s' = s := List.mem_singleton.mp hs'
          rw [this]
          exact fun x hx => no2 x ((td.iff x).mpr hx)
    · rintro σ H3 ⟨y4, y5, rfl, s3, m3, no⟩
      rw [List.length_map, Paired.length ts, List.take_length] at no
      refine k _ false ((Same.but s1).trans s3) m3 ⟨fun h => (by cases h), fun ⟨s, hs, x, hx, h⟩ => absurd h (no s (mem_stands.mpr hs) x hx)⟩
end
end Wb
set_option maxHeartbeats 4000000
namespace Wb
open PySem PySem.Spec PyProof.Rows L2 WbR
/-! ### plain facts -/
theorem exists_fun : ∀ {bs : List Str} (l : List Nat), bs.Nodup → l.length = bs.length → ∃ f : Str → Nat, bs.map f = l
  | [], [], _, _ => ⟨fun _ => 0, rfl⟩
  | [], _ :: _, _, h => by cases h
  | b :: bs, [], _, h => by cases h
  | b :: bs, x :: l, nd, h => by
    obtain ⟨n1, n2⟩ := List.nodup_cons.mp nd
    obtain ⟨f, hf⟩ := exists_fun l n2 (by simpa using h)
    refine ⟨fun c => if c = b then x else f c, ?_⟩
    rw [List.map_cons, if_pos rfl, ← hf]
    congr 1
    refine List.map_congr_left fun c hc => ?_
    rw [if_neg]
    intro e
    exact n1 (e ▸ hc)
theorem sum_le3 : ∀ {l : List Nat}, (∀ x ∈ l, x ≤ 3) → l.sum ≤ 3 * l.length
  | [], _ => Nat.le_refl _
  | x :: l, h => by
    have h1 := h x List.mem_cons_self
    have h2 := sum_le3 (l := l) fun y hy => h y (List.mem_cons_of_mem _ hy)
    rw [List.sum_cons, List.length_cons]
    omega
theorem cutV_drop1 {xs : List V} (h : 1 ≤ xs.length) : cutV xs (some 1) none = xs.drop 1 := by
  unfold cutV
  have e : HT.sIx xs.length 0 (some (1 : Int)) = 1 := by
    have := HT.sIx_nat xs.length 0 1
    rw [Nat.min_eq_left h] at this
    exact this
  rw [e, HT.sIx_none]
  exact List.take_of_length_le (by rw [List.length_drop]; exact Nat.le_refl _)
theorem paired_drop {α β : Type} {R : α → β → Prop} {xs : List α} {ys : List β} (h : Paired R xs ys) : Paired R (xs.drop 1) (ys.drop 1) := by
  cases h with
  | nil => exact .nil
  | cons _ t => exact t
theorem allN_some : ∀ m, m < 4 → 1 ≤ (allN m).length := by decide +kernel
theorem index_of {bs : List Str} (nd : bs.Nodup) {b : Str} (h : b ∈ bs) : ∃ j : Nat, bs[j]? = some b ∧ ∀ m, m < j → bs[m]? ≠ some b := by
  obtain ⟨j, hj⟩ := List.getElem?_of_mem h
  refine ⟨j, hj, fun m hm e => ?_⟩
  have := (List.getElem?_inj (List.getElem?_eq_some_iff.mp e).1 nd).mp (e.trans hj.symm)
  omega
def rTupIx (K : PySem.W.Frag) : V → List V → Hp → VK → Prop := fun x xs H Q => ∃ p, ∃ ys : List Str, ∃ z j, x = .ref p ∧ xs = [.str z] ∧ SqT K H p (ys.map V.str) ∧ ys[j]? = some z ∧ (∀ m, m < j → ys[m]? ≠ some z) ∧ Q (.int (j : Nat)) H
theorem mt_ti {X : Cx} : MtR X "tuple.index" (rTupIx X.K) := mt_tup_index
theorem bell_ne : ¬ (V.str "round" = V.str "bell") := fun e => absurd (V.str.inj e) (by decide +kernel)
section
variable {P : Program} {w : World} {K : PySem.W.Frag} {mg : Str → Option Value} {base : Heap} {C : Addr}
theorem Memo.new {bs : List Str} {ws : List (Str × Str)} {H : Hp} {d : Addr} : Memo P w bs ws (upd H d (NdO P w d [])) d :=
  ⟨[], upd_same, fun e he => absurd he List.not_mem_nil, fun e he => absurd he List.not_mem_nil, by simp, fun e he => absurd he List.not_mem_nil⟩
theorem Memo.notIns {bs : List Str} {ws : List (Str × Str)} {H : Hp} {d : Addr} (x : Memo P w bs ws H d) {b C dx : Addr} {fs : List (Str × V)} (e : H b = some (.ins C dx fs)) : b ≠ d := by
  obtain ⟨xs, h⟩ := x
  exact ne_of e h.at' (fun z => by unfold NdO at z; cases z)
/-- the class Web is made so -/
def WebMade (P : Program) (w : World) (K : PySem.W.Frag) (mg : Str → Option Value) (base : Heap) (C : Addr) : Prop := ∃ (f : Addr) (fd : FuncData) (mv : List Value), Mk K C f ∧ FnOk P w K mg base CX0 4 f fd ["self", "bells", "wakes"] (spWebInit C) ∧
  KBn K fd ["self", "bells", "wakes"] 2 ["wakes"] (fun us ws => us ++ ws) (fun vs zs => vs ++ zs)

/-! ### _law_right -/
def spLawRight : Sp := fun vs H Q _ => ∃ p : Addr, vs = [.ref p] ∧ PurseAt H p ∧ ∀ H' : Hp, SameBut p H H' → Q (.bl true) H'
theorem sc_law_right : FnScope ["_law_purse_here", "_law_names_here", "_law_links_here", "_law_known", "_law_house", "_law_wished", "_law_told", "_law_wakers", "_law_pair", "_law_name"] ["_law_purse_here"] (defScope s_law_right) := ⟨rfl, rfl, rfl, by decide +kernel, rfl, by decide +kernel, by decide +kernel⟩
theorem has_law_right (E : Env K mg C) (F : Def K mg "_law_right" s_law_right) (h1 : Has P w K mg base "_law_draw" 1 ["_law_purse_here", "_law_many"] spLawDraw) (h2 : Has P w K mg base "_law_names" 2 ["_law_purse_here", "_law_many"] spLawNames)
    (h3 : Has P w K mg base "_law_links" 2 ["_law_purse_here", "_law_names_here"] spLawLinks) (h4 : WebMade P w K mg base C) (h5 : Has P w K mg base "_law_all" 1 ["_law_names_here", "_law_greatest_ones"] spLawAll)
    (h6 : Has P w K mg base "round_of" 5 ["web", "counts"] (spRoundOf C)) (h7 : Has P w K mg base "_law_is_one" 12 ["_law_names_here", "_law_links_here", "_law_wished", "_law_known"] (spLawIsOne P w 10)) : Has P w K mg base "_law_right" 13 ["_law_purse_here"] spLawRight := by
  obtain ⟨f1, fd1, G1, g1, kp1, b1⟩ := h1.ex
  obtain ⟨f2, fd2, G2, g2, kp2, b2⟩ := h2.ex
  obtain ⟨f3, fd3, G3, g3, kp3, b3⟩ := h3.ex
  obtain ⟨f4, fd4, mv, M4, G4, b4⟩ := h4
  obtain ⟨f5, fd5, G5, g5, kp5, b5⟩ := h5.ex
  obtain ⟨f6, fd6, G6, g6, kp6, b6⟩ := h6.ex
  obtain ⟨f7, fd7, G7, g7, kp7, b7⟩ := h7.ex
  refine has_mk F sc_law_right (fun _ _ _ _ _ _ us hl => match us, hl with | [_], _ => rfl) (fun vs H Q E h => ?_) (fun f cdv A oute s0 H vs Q E' hr h => ?_)
  · obtain ⟨_, rfl, _⟩ := h
    rfl
  · obtain ⟨p, rfl, hp, k⟩ := h
    have nd := sc_law_right.nd
    refine ⟨_, pss_cons (ps_set (i := 1) nd rfl (.inr rfl) (pe_call G2 (hr.mono (by decide)) (by rfl) g2 kp2 b2 .nil pass0 (pa_cons (pv 0) (pa_cons (pe_op op_add pe_int (pe_call G1 (hr.mono (by decide)) (by rfl) g1 kp1 b1 .nil pass0 (pa_cons (pv 0) (pa_cons pe_int pa_nil)))) pa_nil))))
      (pss_cons (ps_par (i := 2) (j := 3) rfl nd rfl rfl (by decide) rfl rfl (pa_cons (pe_call G3 (hr.mono (by decide)) (by rfl) g3 kp3 b3 .nil pass0 (pa_cons (pv 0) (pa_cons (pv 1) pa_nil))) (pa_cons pe_dnewN pa_nil)) rfl)
      (pss_cons (ps_set (i := 4) nd rfl (.inl rfl) (pe_makeK (n := 1) M4 G4 (hr.mono (by decide)) (by rfl) E.web b4 pass0 (pa_cons (pv 1) pa_nil) (pk_cons (pv 2) pk_nil)))
      (pss_cons (ps_for PassesOwn.never rfl (pi_list (pe_slice sl_list (pe_call G5 (hr.mono (by decide)) (by rfl) g5 kp5 b5 .nil pass0 (pa_cons (pv 1) (pa_cons pe_int pa_nil))) (po_some pe_int) po_none)) (pg_name (i := 5) nd rfl (.inr rfl))
        (pss_cons (ps_set (i := 6) nd rfl (.inr rfl) (pe_call G6 (hr.mono (by decide)) (by rfl) g6 kp6 b6 .nil pass0 (pa_cons (pv 4) (pa_cons (pv 5) pa_nil))))
        (pss_cons (ps_if (pt_cmpR op_ne (pe_ix ix_tup (pv 6) pe_int (fun _ _ => rfl)) (pe_ix ix_list (pe_lst (pa_cons pe_str (pa_cons pe_str pa_nil))) (pe_callTy call_int1 (by rfl) E.int boot_int (pa_cons (pe_call G7 hr (by rfl) g7 kp7 b7 .nil pass0 (pa_cons (pv 1) (pa_cons (pv 2) (pa_cons (pv 5) (pa_cons (pv 3) pa_nil))))) pa_nil)) (fun _ _ => rfl)) (nomark _)) (pss_one (ps_ret pe_bl)) pss_nil)
        (pss_one (ps_if (pt_cmpR op_eq (pe_ix ix_tup (pv 6) pe_int (fun _ _ => rfl)) pe_str (nomark _))
          (pss_cons (ps_setLc (i := 7) (own := [("_law_pair", 8)]) (g := gName 8) rfl nd rfl rfl (sw_true rfl rfl rfl (by decide +kernel)) (pi_tup (pv 2))
              (blkOk_by (own := [("_law_pair", 8)]) (N := ["_law_purse_here", "_law_names_here", "_law_links_here", "_law_known", "_law_house", "_law_wished", "_law_told", "_law_wakers", "_law_pair", "_law_name"]) (sc := defScope s_law_right) (by decide +kernel)) (fun _ _ _ _ _ => pg_name (i := 8) nd rfl (Or.inl rfl))
              (fun _ _ _ _ _ => pts_one (pt_cmpR op_eq (pe_ix (show IxR _ (rIxT K) from ix_tup) (pv 8) pe_int (fun _ _ => rfl)) (pe_ix (show IxR _ (rIxT K) from ix_tup) (pv 6) pe_int (fun _ _ => rfl)) (by rfl)))
              (fun _ _ _ _ _ => pe_ix (show IxR _ (rIxT K) from ix_tup) (pv 8) pe_int (fun _ _ => rfl)))
          (pss_one (ps_if (pt_cmpR op_le (pe_ix ix_tup (pv 5) (pe_tm PySem.F.plainAttrs_tuple PySem.F.slot_tuple_index PySem.F.type_tuple_index mt_ti (pv 1) (pa_cons (pe_ix ix_tup (pv 6) pe_int (fun _ _ => rfl)) pa_nil)) (fun _ _ => rfl))
              (pe_callB (cr_sum rfl) (by rfl) E.sum boot_sum (pa_cons (pe_lc (own := [("_law_name", 9)]) (g := gName 9) (tt := tYes) (by rfl) nd (pi_list (pv 7))
                (blkOk_by (own := [("_law_name", 9)]) (N := ["_law_purse_here", "_law_names_here", "_law_links_here", "_law_known", "_law_house", "_law_wished", "_law_told", "_law_wakers", "_law_pair", "_law_name"]) (sc := defScope s_law_right) (by decide +kernel)) (fun _ _ _ _ _ => pg_name (i := 9) nd rfl (Or.inl rfl))
                (fun _ _ _ _ _ => pts_nil) (fun _ _ _ _ _ => pe_ix (show IxR _ (rIxT K) from ix_tup) (pv 5) (pe_tm PySem.F.plainAttrs_tuple PySem.F.slot_tuple_index PySem.F.type_tuple_index (show MtR _ _ (rTupIx K) from mt_ti) (pv 1) (pa_cons (pv 9) pa_nil)) (fun _ _ => rfl))) pa_nil)) (nomark _))
            (pss_one (ps_ret pe_bl)) pss_nil))) pss_nil)))))
      (pss_one (ps_ret pe_bl))))), ?_⟩
    refine ⟨_, rfl, _, rfl, p, 3, rfl, hp, by decide, by decide, fun H1 r s1 hp1 r1 => ⟨_, _, rfl, rfl, p, 1 + r, rfl, hp1, by omega, by omega, fun H2 q bs ob s2 hp2 no hq pt => ?_⟩⟩
    refine ⟨_, rfl, _, rfl, p, q, bs, 1 + r, ob, rfl, hp2, hq, no, by omega, by omega, fun H3 rr ps ws s3 hp3 hrr pa lk => ?_⟩
    refine fun d hd => ⟨_, _, rfl, ?_⟩
    have lbs := no.len
    have l3 : bs.length ≤ 3 := by omega
    have oks : ∀ b ∈ bs, okS b := fun b hb => (no.ok b hb).okS
    let H4 : Hp := upd H3 d (NdO P w d [])
    have s4 : Same H3 H4 := same_upd hd
    have hq4 : H4 q = some (.frz ob (.tup (bs.map V.str))) := s4 _ _ (s3.frz hp2 _ _ _ hq)
    have hr4 : H4 rr = some (.tup (ps.map V.ref)) := s4 _ _ hrr
    have pa4 : PairsAt H4 ps ws := pa.mono fun b xs e => s4 _ _ e
    have memo4 : Memo P w bs ws H4 d := Memo.new
    have s04 : SameBut p H H4 := ((s1.trans s2).trans s3).trans (Same.but s4)
    have d0 : ∀ b o, b ≠ p → H b = some o → b ≠ d := fun b o n e => ne_of_none (s3 _ _ n (s2 _ _ n (s1 _ _ n e))) hd
    refine ⟨_, rfl, _, rfl, rfl, rfl, fun x dx hx hdx ne => ?_⟩
    replace hx : H4 x = none := hx
    replace hdx : H4 dx = none := hdx
    have sm : ∀ b o, H4 b = some o → upd (upd H4 dx (.own x)) x (.ins C dx []) b = some o := fun b o e => by
      rw [upd_ne (ne_of_none e hx), upd_ne (ne_of_none e hdx)]
      exact e
    refine ⟨x, dx, q, rr, bs, ps, ws, ob, rfl, upd_same, sm _ _ hq4, sm _ _ hr4, pa4.mono fun b xs e => sm _ _ e, by omega, by omega, no.ok, no.ri, lk.sub, lk.ri, fun H5 e5 s5 => ⟨rfl, ?_⟩⟩
    have s45 : Same H4 H5 := fun b o e => s5 _ _ (ne_of_none e hx) (sm _ _ e)
    have ok : WebOk bs ws := ⟨no.nd, by omega, by omega, lk.sub, lk.nd, Nat.le_trans lk.len (by decide)⟩
    have hq5 := s45 _ _ hq4
    refine ⟨_, rfl, q, bs, ob, rfl, hq5, l3, fun H6 F ps6 s6 eF n6 => ?_⟩
    refine ⟨_, rfl, F, _, rfl, SqL.of eF, fun Pl hPl => ?_⟩
    have len6 := Paired.length n6
    have some6 := allN_some bs.length (by omega)
    rw [cutV_drop1 (by rw [List.length_map]; omega), ← List.map_drop]
    have s7 := s6.trans (same_upd (o := .lst ((ps6.drop 1).map V.ref)) hPl)
    have s47 := s45.trans s7
    have eP : upd H6 Pl (.lst ((ps6.drop 1).map V.ref)) Pl = some (.lst ((ps6.drop 1).map V.ref)) := upd_same
    have n7 : NumsOf (upd H6 Pl (.lst ((ps6.drop 1).map V.ref))) (ps6.drop 1) ((allN bs.length).drop 1) := paired_drop (n6.mono fun b xs e => same_upd hPl _ _ e)
    have web7 : upd H6 Pl (.lst ((ps6.drop 1).map V.ref)) x = some (.ins C dx (wflds q rr)) := s7 _ _ e5
    have tail := allN_tail bs.length (by omega)
    generalize upd H6 Pl (.lst ((ps6.drop 1).map V.ref)) = H7 at s7 s47 eP n7 web7
    have memo7 := memo4.mono s47
    have hq7 := s47 _ _ hq4
    have hr7 := s47 _ _ hr4
    have pa7 := pa4.mono fun b xs e => s47 _ _ e
    refine ⟨Pl, rfl, ⟨_, SqL.of eP⟩, for_list (K := K) (a := Pl) (xs := (ps6.drop 1).map V.ref) (fun i σ H8 => ∃ (y5 y6 y7 : Option V), σ = [some (.ref p), some (.ref q), some (.ref rr), some (.ref d), some (.ref x), y5, y6, y7, none, none] ∧ SameBut d H7 H8 ∧ Memo P w bs ws H8 d)
      ⟨none, none, none, rfl, fun b o _ e => e, memo7⟩ (fun i σ H8 _ ⟨_, _, _, _, s8, _⟩ => SqL.of (s8 _ _ (memo7.notLst eP) eP)) ?_ ?_⟩
    · rintro i z σ H8 hi ⟨y5, y6, y7, rfl, s8, m8⟩
      rw [List.getElem?_map] at hi
      obtain ⟨L, hL1, rfl⟩ := Option.map_eq_some_iff.mp hi
      obtain ⟨l, hl, eL⟩ := paired_at' n7 hL1
      obtain ⟨ll, le3, nz⟩ := tail l (List.mem_of_getElem? hl)
      obtain ⟨fw, rfl⟩ := exists_fun l no.nd ll
      have tp8 : ∀ b ys, H7 b = some (.tup ys) → H8 b = some (.tup ys) := fun b ys e => s8 _ _ (memo7.notTup e) e
      have hq8 := s8 _ _ (memo7.notFrz hq7) hq7
      have hr8 := tp8 _ _ hr7
      have pa8 := pa7.mono tp8
      have hL8 := tp8 _ _ eL
      have web8 : WebAt C H8 x bs ws := ⟨dx, q, rr, ps, ob, s8 _ _ (memo7.notIns web7) web7, hq8, hr8, pa8⟩
      have s3' := sum_le3 le3
      rw [List.length_map] at s3'
      have small : (bs.map fw).sum < 10 := by omega
      -- what is so behind is_one
      refine ⟨_, rfl, _, rfl, x, L, bs, ws, fw, rfl, web8, ok, oks, hL8, fun n hn => Nat.le_trans (le3 n hn) (by decide), nz, by omega, fun H9 tp b s9 hb lt et => ?_, fun H9 tp x1 y1 s9 rd et => ?_⟩
      · refine ⟨_, rfl, tp, _, 0, .str "bell", rfl, rfl, SqT.of et, rfl, (show 2 ≤ sizeLine by decide), fun Z hZ => ?_⟩
        have s10 := s9.trans (same_upd (o := .lst [.str "bell", .str "round"]) hZ)
        have et10 := same_upd (o := .lst [.str "bell", .str "round"]) hZ _ _ et
        have eZ : upd H9 Z (.lst [.str "bell", .str "round"]) Z = some (.lst [.str "bell", .str "round"]) := upd_same
        have m10 := m8.mono s10
        refine ⟨_, rfl, _, rfl, _, rfl, _, rfl, q, rr, L, d, bs, ws, ps, fw, ob, rfl, s10 _ _ hq8, s10 _ _ hr8, pa8.mono fun b xs e => s10 _ _ e, oks, no.nd, l3, lk.len, lk.sub, s10 _ _ hL8, le3, m10, small, fun H11 bb s11 m11 iffb => .inr ⟨bb, rfl, ?_⟩⟩
        have hbb : bb = false := by
          cases bb with
          | false => rfl
          | true => exact absurd (iffb.mp rfl) (no_round no.nd lk.nd hb lt)
        subst hbb
        refine ⟨Z, _, _, .str "bell", rfl, rfl, SqL.of (s11 _ _ (m10.notLst eZ) eZ), rfl, rfl, _, rfl, ?_⟩
        show if (!decide (V.str "bell" = V.str "bell")) = true then _ else _
        rw [decide_eq_true rfl]
        refine iteF ?_
        have et11 := s11 _ _ (m10.notTup et10) et10
        have s811 : SameBut d H8 H11 := SameBut.trans (Same.but s10) s11
        have tp11 : ∀ b ys, H8 b = some (.tup ys) → H11 b = some (.tup ys) := fun b ys e => s811 _ _ (m8.notTup e) e
        have hq11 := s811 _ _ (m8.notFrz hq8) hq8
        have hr11 := tp11 _ _ hr8
        have pa11 := pa8.mono tp11
        have hL11 := tp11 _ _ hL8
        refine ⟨_, rfl, tp, _, 0, .str "bell", rfl, rfl, SqT.of et11, rfl, rfl, _, rfl, ?_⟩
        show if decide (V.str "bell" = V.str "bell") = true then _ else _
        rw [decide_eq_true rfl]
        refine iteT ?_
        refine ⟨_, rfl, rr, rfl, ⟨_, SqT.of hr11⟩, fun D hD => ?_⟩
        refine lc_tup (K := K) (a := rr) (xs := ps.map V.ref) (fun j H12 => H12 = upd H11 D (.lst ((wakersOf (ws.take j) b).map V.str))) rfl (fun j H12 _ e => by rw [e]; exact SqT.of (same_upd hD _ _ hr11)) (fun j y H12 hj e => ?_) (fun H12 e => ?_)
        · subst e
          rw [List.getElem?_map] at hj
          obtain ⟨pp, hp1, rfl⟩ := Option.map_eq_some_iff.mp hj
          have jl : j < ws.length := by
            rw [← pa11.len]
            exact (List.getElem?_eq_some_iff.mp hp1).1
          have hw := List.getElem?_eq_getElem jl
          obtain ⟨p', e1, e3⟩ := pa11.at hw
          rw [hp1] at e1
          cases e1
          have sx := same_upd (o := .lst ((wakersOf (ws.take j) b).map V.str)) hD
          have lz : (wakersOf (ws.take j) b).length ≤ 1000 := Nat.le_trans (wakersOf_len _ _) (by rw [List.length_take]; have := lk.len; omega)
          refine ⟨rfl, _, rfl, pp, _, 1, .str (ws[j]).2, rfl, rfl, SqT.of (sx _ _ e3), rfl, _, rfl, tp, _, 1, .str b, rfl, rfl, SqT.of (sx _ _ et11), rfl, rfl, _, rfl, ?_⟩
          show if decide (V.str (ws[j]).2 = V.str b) = true then _ else _
          rw [dec_str, wakersOf_snoc hw]
          refine ite2 (fun e => ?_) (fun e => ?_)
          · rw [if_pos (of_decide_eq_true e)]
            refine ⟨_, rfl, pp, _, 0, .str (ws[j]).1, rfl, rfl, SqT.of (sx _ _ e3), rfl, _, upd_same, by rw [List.length_map]; exact small1000 lz, ?_⟩
            rw [upd_upd, List.map_append]
            rfl
          · rw [if_neg (fun y => e (decide_eq_true y)), List.append_nil]
        · rw [List.length_map, pa11.len, List.take_length] at e
          subst e
          have s12 := same_upd (o := .lst ((wakersOf ws b).map V.str)) hD
          have eD : upd H11 D (.lst ((wakersOf ws b).map V.str)) D = some (.lst ((wakersOf ws b).map V.str)) := upd_same
          have hq12 := s12 _ _ hq11
          have hL12 := s12 _ _ hL11
          have et12 := s12 _ _ et11
          have m12 := m11.mono s12
          generalize upd H11 D (.lst ((wakersOf ws b).map V.str)) = H12 at s12 eD hq12 hL12 et12 m12
          obtain ⟨j0, hj0, hn0⟩ := index_of no.nd hb
          have atf : ∀ {c : Str} {j : Nat}, bs[j]? = some c → ((bs.map fw).map vN)[j]? = some (vN (fw c)) := fun e => by
            rw [List.getElem?_map, List.getElem?_map, e]
            rfl
          refine ⟨_, rfl, _, rfl, ⟨q, ob, _, rfl, hq12, pt⟩, _, rfl, tp, _, 1, .str b, rfl, rfl, SqT.of et12, rfl, q, bs, b, j0, rfl, rfl, sqz hq12, hj0, hn0, L, _, _, vN (fw b), rfl, rfl, SqT.of hL12, atI_nat (atf hj0), ?_⟩
          refine ⟨_, rfl, D, rfl, ⟨_, SqL.of eD⟩, fun D2 hD2 => ?_⟩
          refine lc_pureL (K := K) (a := D) (xs := (wakersOf ws b).map V.str) (onS fun c => vN (fw c)) (SqL.of eD) hD2 (by rw [List.length_map]; exact Nat.le_trans (wakersOf_len ws b) (by have := lk.len; omega)) (fun j y acc R1 R0 hy h0 h1 => ?_) ?_
          · rw [List.getElem?_map] at hy
            obtain ⟨c, hc, rfl⟩ := Option.map_eq_some_iff.mp hy
            have hcb : c ∈ bs := (lk.sub _ (mem_wakers.mp (List.mem_of_getElem? hc))).1
            obtain ⟨jc, hjc, hnc⟩ := index_of no.nd hcb
            have sx := same_upd (o := .lst acc) hD2
            exact ⟨rfl, yesT ⟨_, rfl, _, rfl, ⟨q, ob, _, rfl, sx _ _ hq12, pt⟩, _, rfl, q, bs, c, jc, rfl, rfl, sqz (sx _ _ hq12), hjc, hnc, L, _, _, vN (fw c), rfl, rfl, SqT.of (sx _ _ hL12), atI_nat (atf hjc), h1 _ rfl⟩⟩
          · have s13 := same_upd (o := .lst (((wakersOf ws b).map V.str).filterMap (onS fun c => vN (fw c)))) hD2
            refine ⟨D2, ((wakersOf ws b).map fw).map fun n : Nat => (n : Int), rfl, SqL.of ?_, _, _, rfl, rfl, _, rfl, ?_⟩
            · rw [upd_same, filterMap_onS, List.map_map, List.map_map]
              rfl
            · have e5 : decide (((fw b : Nat) : Int) ≤ (((wakersOf ws b).map fw).map fun n : Nat => (n : Int)).sum) = false := by
                rw [sum_cast, decide_eq_false_iff_not]
                have : need ws fw b < fw b := lt
                unfold need at this
                omega
              show if decide (((fw b : Nat) : Int) ≤ (((wakersOf ws b).map fw).map fun n : Nat => (n : Int)).sum) = true then _ else _
              rw [e5]
              exact iteF ⟨_, _, _, rfl, s8.trans (s811.trans (Same.but (s12.trans s13))), m12.mono s13⟩
      · refine ⟨_, rfl, tp, _, 0, .str "round", rfl, rfl, SqT.of et, rfl, (show 2 ≤ sizeLine by decide), fun Z hZ => ?_⟩
        have s10 := s9.trans (same_upd (o := .lst [.str "bell", .str "round"]) hZ)
        have et10 := same_upd (o := .lst [.str "bell", .str "round"]) hZ _ _ et
        have eZ : upd H9 Z (.lst [.str "bell", .str "round"]) Z = some (.lst [.str "bell", .str "round"]) := upd_same
        have m10 := m8.mono s10
        refine ⟨_, rfl, _, rfl, _, rfl, _, rfl, q, rr, L, d, bs, ws, ps, fw, ob, rfl, s10 _ _ hq8, s10 _ _ hr8, pa8.mono fun b xs e => s10 _ _ e, oks, no.nd, l3, lk.len, lk.sub, s10 _ _ hL8, le3, m10, small, fun H11 bb s11 m11 iffb => .inr ⟨bb, rfl, ?_⟩⟩
        have hbb : bb = true := iffb.mpr rd
        subst hbb
        refine ⟨Z, _, _, .str "round", rfl, rfl, SqL.of (s11 _ _ (m10.notLst eZ) eZ), rfl, rfl, _, rfl, ?_⟩
        show if (!decide (V.str "round" = V.str "round")) = true then _ else _
        rw [decide_eq_true rfl]
        refine iteF ?_
        have et11 := s11 _ _ (m10.notTup et10) et10
        have s811 : SameBut d H8 H11 := SameBut.trans (Same.but s10) s11
        refine ⟨_, rfl, tp, _, 0, .str "round", rfl, rfl, SqT.of et11, rfl, rfl, _, rfl, ?_⟩
        show if decide (V.str "round" = V.str "bell") = true then _ else _
        rw [decide_eq_false bell_ne]
        exact iteF ⟨_, _, _, rfl, s8.trans s811, m11⟩
    · rintro σ H8 ⟨y5, y6, y7, rfl, s8, m8⟩
      exact k H8 fun b o n e => s8 _ _ (d0 b o n e) (s47 _ _ (s04 _ _ n e))
end
end Wb
set_option maxHeartbeats 4000000
namespace Wb
open PySem PySem.Spec PyProof.Rows L2 WbR
section
variable {P : Program} {w : World} {K : PySem.W.Frag} {mg : Str → Option Value} {base : Heap} {C : Addr}

/-! ### law -/
def spLaw (K : PySem.W.Frag) : Sp := fun vs H Q _ => ∃ (a : Addr) (ns : List Int), vs = [.ref a] ∧ SqL K H a (ns.map V.int) ∧ ns.length ≤ 1000 ∧ ∀ H', Q (.bl true) H'
theorem sc_law : FnScope ["_law_script", "_law_k"] ["_law_script"] (defScope s_law) := ⟨rfl, rfl, rfl, by decide +kernel, rfl, by decide +kernel, by decide +kernel⟩
theorem ok_mk {x : Str} {st : Stmt} {N ps : List Str} {k : Nat} {sp : Sp} {f : Addr} {fd : FuncData} (D : FnP K x x st f fd) (S : FnScope N ps (defScope st)) (len : ∀ vs H Q E, sp vs H Q E → vs.length = ps.length)
    (hbody : ∀ (cdv : Value) (A : Around) (outer : List PySem.Env) (s : Shared) (H : Hp) (vs : List V) (Q : VK) (E : XK), Room k (A.deeper (envOfC x (defScope st) s.heap.objs.size f cdv)) → sp vs H Q E →
      ∃ t, PSs (cxOf CX0 P w K mg base N x (defScope st) f cdv A outer s H E).nox (defBody st) t ∧ t { nx := fun _ H' => Q .non H', rt := Q } (start N vs) H) : FnOk P w K mg base CX0 (k + 1) f fd ps sp :=
  D.ok S len fun cdv A outer s H vs Q E hr h => by
    obtain ⟨t, a, b⟩ := hbody cdv A outer s H vs Q E hr h
    exact ⟨t, a.nox, b⟩
theorem law_ok {f : Addr} {fd : FuncData} (E : Env K mg C) (F : FnP K "law" "law" s_law f fd) (h1 : Has P w K mg base "_law_cell" 1 ["_law_script", "_law_k"] (spLawCell K)) (h2 : Has P w K mg base "_law_purse" 1 ["_law_cell_here"] spLawPurse)
    (h3 : Has P w K mg base "_law_right" 13 ["_law_purse_here"] spLawRight) : FnOk P w K mg base CX0 14 f fd ["_law_script"] (spLaw K) := by
  obtain ⟨f1, fd1, G1, g1, kp1, b1⟩ := h1.ex
  obtain ⟨f2, fd2, G2, g2, kp2, b2⟩ := h2.ex
  obtain ⟨f3, fd3, G3, g3, kp3, b3⟩ := h3.ex
  refine ok_mk F sc_law (fun vs H Q E h => ?_) (fun cdv A oute s0 H vs Q E' hr h => ?_)
  · obtain ⟨_, _, rfl, _⟩ := h
    rfl
  · obtain ⟨a, ns, rfl, ha, hz, k⟩ := h
    have nd := sc_law.nd
    refine ⟨_, pss_one (ps_ret (pe_callB (cr_all rfl) (by rfl) E.all boot_all (pa_cons (pe_lc (own := [("_law_k", 1)]) (g := gName 1) (tt := tYes) (by rfl) nd
      (pi_range1 (by rfl) E.range (pa_cons (pe_callB (call_max2 (by rfl)) (by rfl) E.max boot_max (pa_cons pe_int (pa_cons (pe_callB (call_min2 (by rfl)) (by rfl) E.min boot_min (pa_cons (pe_callB call_len_seq (by rfl) E.len PySem.boot_len (pa_cons (pv 0) pa_nil)) (pa_cons pe_int pa_nil))) pa_nil))) pa_nil))
      (blkOk_by (own := [("_law_k", 1)]) (N := ["_law_script", "_law_k"]) (sc := defScope s_law) (by decide +kernel)) (fun _ _ _ _ _ => pg_name (i := 1) nd rfl (Or.inl rfl))
      (fun _ _ _ _ _ => pts_nil) (fun _ _ _ _ _ => pe_call G3 hr (by rfl) g3 kp3 b3 .nil pass0 (pa_cons (pe_call G2 (hr.mono (by decide)) (by rfl) g2 kp2 b2 .nil pass0 (pa_cons (pe_call G1 (hr.mono (by decide)) (by rfl) g1 kp1 b1 .nil pass0 (pa_cons (pv 0) (pa_cons (pv 1) pa_nil))) pa_nil)) pa_nil))) pa_nil))), ?_⟩
    refine ⟨_, rfl, a, _, rfl, .inl ha, _, _, rfl, 2, _, rfl, ?_⟩
    obtain ⟨m, hm, m5⟩ : ∃ m : Nat, (if (if (5 : Int) < ((ns.map V.int).length : Int) then (5 : Int) else ((ns.map V.int).length : Int)) > 2 then (if (5 : Int) < ((ns.map V.int).length : Int) then (5 : Int) else ((ns.map V.int).length : Int)) else 2) = (m : Int) ∧ m ≤ 5 := by
      rw [List.length_map]
      by_cases h5 : (5 : Int) < (ns.length : Int)
      · rw [if_pos h5]
        exact ⟨5, by decide, by decide⟩
      · rw [if_neg h5]
        by_cases h2 : (ns.length : Int) > 2
        · rw [if_pos h2]
          exact ⟨ns.length, rfl, by omega⟩
        · rw [if_neg h2]
          exact ⟨2, rfl, by decide⟩
    refine ⟨(m : Int), by rw [← hm], by omega, by omega, fun D hD => ?_⟩
    rw [Int.toNat_natCast]
    refine lc_it (walk_range (lo := 0) (n := m)) (fun i H2 => Same H H2 ∧ H2 D = some (.lst ((List.replicate i true).map V.bl))) ⟨same_upd hD, upd_same⟩ (fun _ _ _ _ => trivial) (fun i x H2x H2 hi h y => ?_) (fun H2 h => ?_)
    · obtain ⟨rfl, rfl⟩ := y
      obtain ⟨s2, eD⟩ := h
      refine ⟨rfl, yesT ?_⟩
      refine ⟨_, rfl, _, rfl, a, i, ns, (by show [V.ref a, V.int (0 + (i : Int))] = _; rw [Int.zero_add]), Same.seq s2 ha, by omega, hz, fun H3 n s3 => ?_⟩
      refine ⟨n, rfl, fun H4 p s4 hp np => ?_⟩
      have eD4 := s4 _ _ (s3 _ _ eD)
      refine ⟨p, rfl, hp, fun H5 s5 => ?_⟩
      have pD : D ≠ p := ne_of_none (s3 _ _ eD) np
      refine ⟨_, s5 _ _ pD eD4, by rw [List.length_map, List.length_replicate]; exact small1000 (by omega), fun b o e => ?_, ?_⟩
      · rw [upd_ne (ne_of_none e hD)]
        have e3 := s3 _ _ (s2 _ _ e)
        exact s5 _ _ (ne_of_none e3 np) (s4 _ _ e3)
      · rw [upd_same, List.replicate_succ', List.map_append]
        rfl
    · obtain ⟨s2, eD⟩ := h
      refine ⟨D, List.replicate m true, rfl, SqL.of eD, ?_⟩
      have : (List.replicate m true).all id = true := by
        rw [List.all_eq_true]
        intro b hb
        rw [(List.mem_replicate.mp hb).2]
        rfl
      rw [this]
      exact k H2
end
end Wb
set_option maxHeartbeats 0
/-! Wakebells: what the top has written, by one run in the kernel. -/
namespace Wb
open PySem PySem.Spec PyProof.Rows L2
/-- a keyword-only default of the def, if it is an object -/
def kwAt (f : Str × Option Str) (x : Str) (K : PySem.W.Frag) : Addr := match K.lookup (He.fAd K f) with
  | some ⟨_, _, .func fd, _⟩ => (match fd.kwdefaults with
    | .ref D => (match PySem.W.nsIn K D x with
      | some (some (.ref a)) => a
      | _ => 0)
    | _ => 0)
  | _ => 0
def d_is_whole : He.DefD := ⟨("is_whole", none), "is_whole", "is_whole", defArgs s_is_whole, defBody s_is_whole, defScope s_is_whole, [], []⟩
def d_is_within : He.DefD := ⟨("is_within", none), "is_within", "is_within", defArgs s_is_within, defBody s_is_within, defScope s_is_within, [], []⟩
def d_check_counts : He.DefD := ⟨("check_counts", none), "check_counts", "check_counts", defArgs s_check_counts, defBody s_check_counts, defScope s_check_counts, [], []⟩
def d_in_order : He.DefD := ⟨("in_order", none), "in_order", "in_order", defArgs s_in_order, defBody s_in_order, defScope s_in_order, [], []⟩
def d_is_name : He.DefD := ⟨("is_name", none), "is_name", "is_name", defArgs s_is_name, defBody s_is_name, defScope s_is_name, [], []⟩
def d_check_bells : He.DefD := ⟨("check_bells", none), "check_bells", "check_bells", defArgs s_check_bells, defBody s_check_bells, defScope s_check_bells, [], []⟩
def d_is_wake : He.DefD := ⟨("is_wake", none), "is_wake", "is_wake", defArgs s_is_wake, defBody s_is_wake, defScope s_is_wake, [], []⟩
def d_check_wakes : He.DefD := ⟨("check_wakes", none), "check_wakes", "check_wakes", defArgs s_check_wakes, defBody s_check_wakes, defScope s_check_wakes, [], []⟩
def d_check_web : He.DefD := ⟨("check_web", none), "check_web", "check_web", defArgs s_check_web, defBody s_check_web, defScope s_check_web, [], []⟩
def d_wakes_of : He.DefD := ⟨("wakes_of", none), "wakes_of", "wakes_of", defArgs s_wakes_of, defBody s_wakes_of, defScope s_wakes_of, [], []⟩
def d_rung : He.DefD := ⟨("rung", none), "rung", "rung", defArgs s_rung, defBody s_rung, defScope s_rung, [], []⟩
def d_wakers_of : He.DefD := ⟨("wakers_of", none), "wakers_of", "wakers_of", defArgs s_wakers_of, defBody s_wakers_of, defScope s_wakers_of, [], []⟩
def d_let : He.DefD := ⟨("let", none), "let", "let", defArgs s_let, defBody s_let, defScope s_let, [], []⟩
def d_come_by : He.DefD := ⟨("come_by", none), "come_by", "come_by", defArgs s_come_by, defBody s_come_by, defScope s_come_by, [], []⟩
def d_free_one : He.DefD := ⟨("free_one", none), "free_one", "free_one", defArgs s_free_one, defBody s_free_one, defScope s_free_one, [], []⟩
def d_rung_out : He.DefD := ⟨("rung_out", none), "rung_out", "rung_out", defArgs s_rung_out, defBody s_rung_out, defScope s_rung_out, [], []⟩
def d_check_round : He.DefD := ⟨("check_round", none), "check_round", "check_round", defArgs s_check_round, defBody s_check_round, defScope s_check_round, [], []⟩
def d_greater_one : He.DefD := ⟨("greater_one", none), "greater_one", "greater_one", defArgs s_greater_one, defBody s_greater_one, defScope s_greater_one, [], []⟩
def d_sources : He.DefD := ⟨("sources", none), "sources", "sources", defArgs s_sources, defBody s_sources, defScope s_sources, [], []⟩
def d_round_of : He.DefD := ⟨("round_of", none), "round_of", "round_of", defArgs s_round_of, defBody s_round_of, defScope s_round_of, [], []⟩
def d_law_cell : He.DefD := ⟨("_law_cell", none), "_law_cell", "_law_cell", defArgs s_law_cell, defBody s_law_cell, defScope s_law_cell, [], []⟩
def d_law_purse : He.DefD := ⟨("_law_purse", none), "_law_purse", "_law_purse", defArgs s_law_purse, defBody s_law_purse, defScope s_law_purse, [], []⟩
def d_law_draw : He.DefD := ⟨("_law_draw", none), "_law_draw", "_law_draw", defArgs s_law_draw, defBody s_law_draw, defScope s_law_draw, [], []⟩
def d_law_names : He.DefD := ⟨("_law_names", none), "_law_names", "_law_names", defArgs s_law_names, defBody s_law_names, defScope s_law_names, [], []⟩
def d_law_links : He.DefD := ⟨("_law_links", none), "_law_links", "_law_links", defArgs s_law_links, defBody s_law_links, defScope s_law_links, [], []⟩
def d_law_stands : He.DefD := ⟨("_law_stands", none), "_law_stands", "_law_stands", defArgs s_law_stands, defBody s_law_stands, defScope s_law_stands, [], []⟩
def d_law_all : He.DefD := ⟨("_law_all", none), "_law_all", "_law_all", defArgs s_law_all, defBody s_law_all, defScope s_law_all, [], []⟩
def d_law_ends : He.DefD := ⟨("_law_ends", none), "_law_ends", "_law_ends", defArgs s_law_ends, defBody s_law_ends, defScope s_law_ends, [], []⟩
def d_law_is_one : He.DefD := ⟨("_law_is_one", none), "_law_is_one", "_law_is_one", defArgs s_law_is_one, defBody s_law_is_one, defScope s_law_is_one, [], []⟩
def d_law_right : He.DefD := ⟨("_law_right", none), "_law_right", "_law_right", defArgs s_law_right, defBody s_law_right, defScope s_law_right, [], []⟩
def d_law : He.DefD := ⟨("law", none), "law", "law", defArgs s_law, defBody s_law, defScope s_law, [], []⟩
def d_web_init : He.DefD := ⟨("Web", some "__init__"), "__init__", "Web.__init__", defArgs s_web_init, defBody s_web_init, defScope s_web_init, [], [("wakes", .adr (kwAt ("Web", some "__init__") "wakes"))]⟩
def fn : List He.DefD := [d_is_whole, d_is_within, d_check_counts, d_in_order, d_is_name, d_check_bells, d_is_wake, d_check_wakes, d_check_web, d_wakes_of, d_rung, d_wakers_of, d_let, d_come_by, d_free_one, d_rung_out, d_check_round, d_greater_one, d_sources, d_round_of, d_law_cell, d_law_purse, d_law_draw, d_law_names, d_law_links, d_law_stands, d_law_all, d_law_ends, d_law_is_one, d_law_right, d_law, d_web_init]
def fa1 : List He.Fa := [.glo "is_whole", .glo "is_within", .glo "check_counts", .glo "in_order", .glo "is_name", .glo "check_bells", .glo "is_wake", .glo "check_wakes", .glo "check_web", .glo "wakes_of", .glo "rung", .glo "wakers_of", .glo "let", .glo "come_by", .glo "free_one", .glo "rung_out", .glo "check_round", .glo "greater_one", .glo "sources", .glo "round_of", .glo "_law_cell", .glo "_law_purse", .glo "_law_draw", .glo "_law_names", .glo "_law_links", .glo "_law_stands", .glo "_law_all", .glo "_law_ends", .glo "_law_is_one", .glo "_law_right"]
def fa2 : List He.Fa := [.glo "law", .glo "Web", .free "isinstance", .free "int", .free "bool", .free "tuple", .free "len", .free "enumerate", .free "all", .free "str", .free "sum", .free "range", .free "dict", .free "zip", .free "any", .free "max", .free "min", .free "abs", .free "divmod", .free "sorted", .free "list", .int "BIG" 1000000000000000000000000000000, .int "MOST_BELLS" 12, .int "MOST_LETTERS" 8, .int "MOST_ROUND" 200, .str "LETTERS" "abcdefghijklmnopqrstuvwxyz", .cls "Web", .noat "Web" "bells", .noat "Web" "wakes", .mkr "Web"]
def fa : List He.Fa := fa1 ++ fa2
def loose1 : List PySem.Str := ["_wall", "__name__", "BIG", "MOST_BELLS", "is_whole", "is_within", "BellError", "LostError", "RoomError", "NoBells", "NoWakes", "NoCounts", "NoWeb", "NoBell", "TooMany", "check_counts", "in_order", "LETTERS", "MOST_LETTERS", "is_name", "check_bells", "is_wake", "check_wakes", "Web", "check_web"]
def loose2 : List PySem.Str := ["check_bell", "wakes_of", "rung", "wakers_of", "let", "come_by", "free_one", "rung_out", "MOST_ROUND", "check_round", "greater_one", "sources", "round_of", "_law_cell", "_law_purse", "_law_draw", "_law_names", "_law_links", "_law_stands", "_law_all", "_law_ends", "_law_is_one", "_law_right"]
def loose : List PySem.Str := loose1 ++ loose2
abbrev R : PySem.W.OpenRow := PySem.W.OpenLaw.row PySem.Challenge.rw_wakebells_k48_whole_rounds_just_where
/-- what isinstance asks of the class, and where it comes from -/
def insB (K : PySem.W.Frag) : Bool := He.eqO (PySem.W.findIn K (.ref (He.ga K "Web")) "__class__") (some (some (.builtin "object.__class__"))) && (He.eqO (PySem.W.specialIn K (.builtin "object.__class__") "__get__") (some (some (.builtin "getset_descriptor.__get__"))) &&
  (decide (PySem.W.takesIn K (.builtin "object.__class__") = some true) && (decide (PySem.W.mroIn K (He.ga K "Web") (.type "object") = some true) && decide (PySem.W.kitOne K (.ref (He.ga K "Web")) (.ref (He.ga K "Web")) = some true))))
theorem insB_ok {K : PySem.W.Frag} (h : insB K = true) (c : Cls K (He.ga K "Web")) : C8.InsC K (He.ga K "Web") := by
  obtain ⟨h1, h⟩ := He.ba h
  obtain ⟨h2, h⟩ := He.ba h
  obtain ⟨h3, h⟩ := He.ba h
  obtain ⟨h4, h5⟩ := He.ba h
  exact ⟨c, He.eqO_ok h1, He.eqO_ok h2, of_decide_eq_true h3, of_decide_eq_true h4, of_decide_eq_true h5⟩
abbrev AlI : Type := He.AlD × Bool
def obsI (g : Addr → Option Obj) : AlI := (He.obsDG 6 fa fn g, insB (He.frG g (He.asD g 6)))
def hk : PySem.W.Hook where
  α := AlI
  obs := fun s => obsI s.heap.get?
  val := fun _ => (He.valD fn, true)
  says := fun _ h => ∃ K : PySem.W.Frag, K.In h ∧ He.SaysD fa fn K ∧ insB K = true
  of := fun _ _ e => ⟨_, He.frG_in, congrArg (fun z : AlI => z.1) e, congrArg (fun z : AlI => z.2) e⟩
  keeps := fun _ _ _ ⟨K, hK, c⟩ k => ⟨K, PySem.W.Frag.In.keeps hK k, c⟩
theorem obsI_eq {g : Addr → Option Obj} {s : Shared} (h : ∀ a, g a = s.heap.get? a) : obsI g = hk.obs s := by
  have e : g = s.heap.get? := funext h
  rw [e] <;> rfl
def ob (s : PySem.W.SharedT) : AlI := obsI (HandSHeadRun.getT s)
theorem ob_eq (s : PySem.W.SharedT) : ob s = hk.obs s.abs := obsI_eq (HandSHeadRun.getT_eq s)
theorem run (w : World) : HandSHeadRun.RunEq R (PySem.W.view R.prog [55]) hk ob 6000 loose w := by
  intro os
  kernel_rfl
end Wb
set_option maxHeartbeats 0
namespace Wb
open PySem PySem.Spec PyProof.Rows L2 WbR
section
variable {K : PySem.W.Frag} {h : Heap} {mg : Str → Option Value}
theorem env_of (X : K.In h) (G : h.Ns mainGlobals mg) (c : He.SaysD fa fn K) (hi : insB K = true) : Env K mg (He.ga K "Web") where
  isinstance := He.free_ok X G (c.fact 32 (f := .free "isinstance") rfl)
  int := He.free_ok X G (c.fact 33 (f := .free "int") rfl)
  bool := He.free_ok X G (c.fact 34 (f := .free "bool") rfl)
  tuple := He.free_ok X G (c.fact 35 (f := .free "tuple") rfl)
  len := He.free_ok X G (c.fact 36 (f := .free "len") rfl)
  enumerate := He.free_ok X G (c.fact 37 (f := .free "enumerate") rfl)
  all := He.free_ok X G (c.fact 38 (f := .free "all") rfl)
  str := He.free_ok X G (c.fact 39 (f := .free "str") rfl)
  sum := He.free_ok X G (c.fact 40 (f := .free "sum") rfl)
  range := He.free_ok X G (c.fact 41 (f := .free "range") rfl)
  dict := He.free_ok X G (c.fact 42 (f := .free "dict") rfl)
  zip := He.free_ok X G (c.fact 43 (f := .free "zip") rfl)
  any := He.free_ok X G (c.fact 44 (f := .free "any") rfl)
  max := He.free_ok X G (c.fact 45 (f := .free "max") rfl)
  min := He.free_ok X G (c.fact 46 (f := .free "min") rfl)
  abs := He.free_ok X G (c.fact 47 (f := .free "abs") rfl)
  divmod := He.free_ok X G (c.fact 48 (f := .free "divmod") rfl)
  sorted := He.free_ok X G (c.fact 49 (f := .free "sorted") rfl)
  big := He.int_ok X G (c.fact 51 (f := .int "BIG" 1000000000000000000000000000000) rfl)
  mostBells := He.int_ok X G (c.fact 52 (f := .int "MOST_BELLS" 12) rfl)
  mostLetters := He.int_ok X G (c.fact 53 (f := .int "MOST_LETTERS" 8) rfl)
  mostRound := He.int_ok X G (c.fact 54 (f := .int "MOST_ROUND" 200) rfl)
  letters := He.str_ok X G (c.fact 55 (f := .str "LETTERS" "abcdefghijklmnopqrstuvwxyz") rfl)
  cl := He.cls_ok (c.fact 56 (f := .cls "Web") rfl)
  nB := He.noat_ok (c.fact 57 (f := .noat "Web" "bells") rfl)
  nW := He.noat_ok (c.fact 58 (f := .noat "Web" "wakes") rfl)
  web := He.glo_ok X G (c.fact 31 (f := .glo "Web") rfl)
  ins := insB_ok hi (He.cls_ok (c.fact 56 (f := .cls "Web") rfl))
theorem F_is_whole (X : K.In h) (G : h.Ns mainGlobals mg) (c : He.SaysD fa fn K) : Def K mg "is_whole" s_is_whole := let ⟨fd, F⟩ := c.def_ 0 (d := d_is_whole) rfl; ⟨_, fd, F, He.glo_ok X G (c.fact 0 (f := .glo "is_whole") rfl)⟩
theorem F_is_within (X : K.In h) (G : h.Ns mainGlobals mg) (c : He.SaysD fa fn K) : Def K mg "is_within" s_is_within := let ⟨fd, F⟩ := c.def_ 1 (d := d_is_within) rfl; ⟨_, fd, F, He.glo_ok X G (c.fact 1 (f := .glo "is_within") rfl)⟩
theorem F_check_counts (X : K.In h) (G : h.Ns mainGlobals mg) (c : He.SaysD fa fn K) : Def K mg "check_counts" s_check_counts := let ⟨fd, F⟩ := c.def_ 2 (d := d_check_counts) rfl; ⟨_, fd, F, He.glo_ok X G (c.fact 2 (f := .glo "check_counts") rfl)⟩
theorem F_in_order (X : K.In h) (G : h.Ns mainGlobals mg) (c : He.SaysD fa fn K) : Def K mg "in_order" s_in_order := let ⟨fd, F⟩ := c.def_ 3 (d := d_in_order) rfl; ⟨_, fd, F, He.glo_ok X G (c.fact 3 (f := .glo "in_order") rfl)⟩
theorem F_is_name (X : K.In h) (G : h.Ns mainGlobals mg) (c : He.SaysD fa fn K) : Def K mg "is_name" s_is_name := let ⟨fd, F⟩ := c.def_ 4 (d := d_is_name) rfl; ⟨_, fd, F, He.glo_ok X G (c.fact 4 (f := .glo "is_name") rfl)⟩
theorem F_check_bells (X : K.In h) (G : h.Ns mainGlobals mg) (c : He.SaysD fa fn K) : Def K mg "check_bells" s_check_bells := let ⟨fd, F⟩ := c.def_ 5 (d := d_check_bells) rfl; ⟨_, fd, F, He.glo_ok X G (c.fact 5 (f := .glo "check_bells") rfl)⟩
theorem F_is_wake (X : K.In h) (G : h.Ns mainGlobals mg) (c : He.SaysD fa fn K) : Def K mg "is_wake" s_is_wake := let ⟨fd, F⟩ := c.def_ 6 (d := d_is_wake) rfl; ⟨_, fd, F, He.glo_ok X G (c.fact 6 (f := .glo "is_wake") rfl)⟩
theorem F_check_wakes (X : K.In h) (G : h.Ns mainGlobals mg) (c : He.SaysD fa fn K) : Def K mg "check_wakes" s_check_wakes := let ⟨fd, F⟩ := c.def_ 7 (d := d_check_wakes) rfl; ⟨_, fd, F, He.glo_ok X G (c.fact 7 (f := .glo "check_wakes") rfl)⟩
theorem F_check_web (X : K.In h) (G : h.Ns mainGlobals mg) (c : He.SaysD fa fn K) : Def K mg "check_web" s_check_web := let ⟨fd, F⟩ := c.def_ 8 (d := d_check_web) rfl; ⟨_, fd, F, He.glo_ok X G (c.fact 8 (f := .glo "check_web") rfl)⟩
theorem F_wakes_of (X : K.In h) (G : h.Ns mainGlobals mg) (c : He.SaysD fa fn K) : Def K mg "wakes_of" s_wakes_of := let ⟨fd, F⟩ := c.def_ 9 (d := d_wakes_of) rfl; ⟨_, fd, F, He.glo_ok X G (c.fact 9 (f := .glo "wakes_of") rfl)⟩
theorem F_rung (X : K.In h) (G : h.Ns mainGlobals mg) (c : He.SaysD fa fn K) : Def K mg "rung" s_rung := let ⟨fd, F⟩ := c.def_ 10 (d := d_rung) rfl; ⟨_, fd, F, He.glo_ok X G (c.fact 10 (f := .glo "rung") rfl)⟩
theorem F_wakers_of (X : K.In h) (G : h.Ns mainGlobals mg) (c : He.SaysD fa fn K) : Def K mg "wakers_of" s_wakers_of := let ⟨fd, F⟩ := c.def_ 11 (d := d_wakers_of) rfl; ⟨_, fd, F, He.glo_ok X G (c.fact 11 (f := .glo "wakers_of") rfl)⟩
theorem F_let (X : K.In h) (G : h.Ns mainGlobals mg) (c : He.SaysD fa fn K) : Def K mg "let" s_let := let ⟨fd, F⟩ := c.def_ 12 (d := d_let) rfl; ⟨_, fd, F, He.glo_ok X G (c.fact 12 (f := .glo "let") rfl)⟩
theorem F_come_by (X : K.In h) (G : h.Ns mainGlobals mg) (c : He.SaysD fa fn K) : Def K mg "come_by" s_come_by := let ⟨fd, F⟩ := c.def_ 13 (d := d_come_by) rfl; ⟨_, fd, F, He.glo_ok X G (c.fact 13 (f := .glo "come_by") rfl)⟩
theorem F_free_one (X : K.In h) (G : h.Ns mainGlobals mg) (c : He.SaysD fa fn K) : Def K mg "free_one" s_free_one := let ⟨fd, F⟩ := c.def_ 14 (d := d_free_one) rfl; ⟨_, fd, F, He.glo_ok X G (c.fact 14 (f := .glo "free_one") rfl)⟩
theorem F_rung_out (X : K.In h) (G : h.Ns mainGlobals mg) (c : He.SaysD fa fn K) : Def K mg "rung_out" s_rung_out := let ⟨fd, F⟩ := c.def_ 15 (d := d_rung_out) rfl; ⟨_, fd, F, He.glo_ok X G (c.fact 15 (f := .glo "rung_out") rfl)⟩
theorem F_check_round (X : K.In h) (G : h.Ns mainGlobals mg) (c : He.SaysD fa fn K) : Def K mg "check_round" s_check_round := let ⟨fd, F⟩ := c.def_ 16 (d := d_check_round) rfl; ⟨_, fd, F, He.glo_ok X G (c.fact 16 (f := .glo "check_round") rfl)⟩
theorem F_greater_one (X : K.In h) (G : h.Ns mainGlobals mg) (c : He.SaysD fa fn K) : Def K mg "greater_one" s_greater_one := let ⟨fd, F⟩ := c.def_ 17 (d := d_greater_one) rfl; ⟨_, fd, F, He.glo_ok X G (c.fact 17 (f := .glo "greater_one") rfl)⟩
theorem F_sources (X : K.In h) (G : h.Ns mainGlobals mg) (c : He.SaysD fa fn K) : Def K mg "sources" s_sources := let ⟨fd, F⟩ := c.def_ 18 (d := d_sources) rfl; ⟨_, fd, F, He.glo_ok X G (c.fact 18 (f := .glo "sources") rfl)⟩
theorem F_round_of (X : K.In h) (G : h.Ns mainGlobals mg) (c : He.SaysD fa fn K) : Def K mg "round_of" s_round_of := let ⟨fd, F⟩ := c.def_ 19 (d := d_round_of) rfl; ⟨_, fd, F, He.glo_ok X G (c.fact 19 (f := .glo "round_of") rfl)⟩
theorem F_law_cell (X : K.In h) (G : h.Ns mainGlobals mg) (c : He.SaysD fa fn K) : Def K mg "_law_cell" s_law_cell := let ⟨fd, F⟩ := c.def_ 20 (d := d_law_cell) rfl; ⟨_, fd, F, He.glo_ok X G (c.fact 20 (f := .glo "_law_cell") rfl)⟩
theorem F_law_purse (X : K.In h) (G : h.Ns mainGlobals mg) (c : He.SaysD fa fn K) : Def K mg "_law_purse" s_law_purse := let ⟨fd, F⟩ := c.def_ 21 (d := d_law_purse) rfl; ⟨_, fd, F, He.glo_ok X G (c.fact 21 (f := .glo "_law_purse") rfl)⟩
theorem F_law_draw (X : K.In h) (G : h.Ns mainGlobals mg) (c : He.SaysD fa fn K) : Def K mg "_law_draw" s_law_draw := let ⟨fd, F⟩ := c.def_ 22 (d := d_law_draw) rfl; ⟨_, fd, F, He.glo_ok X G (c.fact 22 (f := .glo "_law_draw") rfl)⟩
theorem F_law_names (X : K.In h) (G : h.Ns mainGlobals mg) (c : He.SaysD fa fn K) : Def K mg "_law_names" s_law_names := let ⟨fd, F⟩ := c.def_ 23 (d := d_law_names) rfl; ⟨_, fd, F, He.glo_ok X G (c.fact 23 (f := .glo "_law_names") rfl)⟩
theorem F_law_links (X : K.In h) (G : h.Ns mainGlobals mg) (c : He.SaysD fa fn K) : Def K mg "_law_links" s_law_links := let ⟨fd, F⟩ := c.def_ 24 (d := d_law_links) rfl; ⟨_, fd, F, He.glo_ok X G (c.fact 24 (f := .glo "_law_links") rfl)⟩
theorem F_law_stands (X : K.In h) (G : h.Ns mainGlobals mg) (c : He.SaysD fa fn K) : Def K mg "_law_stands" s_law_stands := let ⟨fd, F⟩ := c.def_ 25 (d := d_law_stands) rfl; ⟨_, fd, F, He.glo_ok X G (c.fact 25 (f := .glo "_law_stands") rfl)⟩
theorem F_law_all (X : K.In h) (G : h.Ns mainGlobals mg) (c : He.SaysD fa fn K) : Def K mg "_law_all" s_law_all := let ⟨fd, F⟩ := c.def_ 26 (d := d_law_all) rfl; ⟨_, fd, F, He.glo_ok X G (c.fact 26 (f := .glo "_law_all") rfl)⟩
theorem F_law_ends (X : K.In h) (G : h.Ns mainGlobals mg) (c : He.SaysD fa fn K) : Def K mg "_law_ends" s_law_ends := let ⟨fd, F⟩ := c.def_ 27 (d := d_law_ends) rfl; ⟨_, fd, F, He.glo_ok X G (c.fact 27 (f := .glo "_law_ends") rfl)⟩
theorem F_law_is_one (X : K.In h) (G : h.Ns mainGlobals mg) (c : He.SaysD fa fn K) : Def K mg "_law_is_one" s_law_is_one := let ⟨fd, F⟩ := c.def_ 28 (d := d_law_is_one) rfl; ⟨_, fd, F, He.glo_ok X G (c.fact 28 (f := .glo "_law_is_one") rfl)⟩
theorem F_law_right (X : K.In h) (G : h.Ns mainGlobals mg) (c : He.SaysD fa fn K) : Def K mg "_law_right" s_law_right := let ⟨fd, F⟩ := c.def_ 29 (d := d_law_right) rfl; ⟨_, fd, F, He.glo_ok X G (c.fact 29 (f := .glo "_law_right") rfl)⟩
end
/-- the law's function, over every base -/
theorem facts {P : Program} {w : World} {K : PySem.W.Frag} {h : Heap} {mg : Str → Option Value} {f : Addr} (X : K.In h) (G : h.Ns mainGlobals mg) (hfa : mg ("law" : Str) = some (.ref f)) (c : He.SaysD fa fn K) (hi : insB K = true) :
    ∃ fd : FuncData, (∀ (s : Shared) (v : Value), BindsTo s fd ⟨[v], []⟩ [("_law_script", v)]) ∧ ∀ base : Heap, K.In base → base.Ns mainGlobals mg → FnOk P w K mg base CX0 14 f fd ["_law_script"] (spLaw K) := by
  have E := env_of X G c hi
  obtain ⟨fd, F⟩ := c.def_ 30 (d := d_law) rfl
  have e := hfa.symm.trans (He.glo_ok X G (c.fact 30 (f := .glo "law") rfl))
  cases e
  have b := FunD.bindsA (ps := ["_law_script"]) F fun _ _ _ _ _ _ us hl => match us, hl with | [_], _ => rfl
  refine ⟨fd, fun s v => b s [v] rfl, fun base _ _ => ?_⟩
  have h_is_whole := has_is_whole (P := P) (w := w) (base := base) E (F_is_whole X G c)
  have h_is_within := has_is_within (F_is_within X G c) h_is_whole
  have h_check_counts := has_check_counts E (F_check_counts X G c) h_is_within
  have h_in_order := has_in_order (P := P) (w := w) (base := base) E (F_in_order X G c)
  have h_is_name := has_is_name (P := P) (w := w) (base := base) E (F_is_name X G c)
  have h_check_bells := has_check_bells E (F_check_bells X G c) h_is_name
  have h_is_wake := has_is_wake E (F_is_wake X G c) h_is_name
  have h_check_wakes := has_check_wakes E (F_check_wakes X G c) h_is_wake
  have h_check_web := has_check_web (P := P) (w := w) (base := base) E (F_check_web X G c)
  have h_web : WebMade P w K mg base (He.ga K "Web") := by
    obtain ⟨fdw, Fw⟩ := c.def_ 31 (d := d_web_init) rfl
    obtain ⟨mv, kb⟩ := web_kb Fw (List.cons_ne_nil _ _)
    exact ⟨_, fdw, mv, He.mkr_ok (c.fact 59 (f := .mkr "Web") rfl), web_init_ok E Fw h_check_bells h_check_wakes, kb⟩
  have h_wakes_of := has_wakes_of (P := P) (w := w) (base := base) E (F_wakes_of X G c)
  have h_rung := has_rung (P := P) (w := w) (base := base) (F_rung X G c)
  have h_wakers_of := has_wakers_of (P := P) (w := w) (base := base) E (F_wakers_of X G c)
  have h_let := has_let (P := P) (w := w) (base := base) E (F_let X G c)
  have h_come_by := has_come_by E (F_come_by X G c) h_wakes_of
  have h_free_one := has_free_one E (F_free_one X G c) h_let
  have h_rung_out := has_rung_out E (F_rung_out X G c) h_wakes_of h_wakers_of h_free_one h_rung
  have h_check_round := has_check_round E (F_check_round X G c) h_check_web h_check_counts
  have h_greater_one := has_greater_one E (F_greater_one X G c) h_wakers_of
  have h_sources := has_sources E (F_sources X G c) h_come_by
  have h_round_of := has_round_of E (F_round_of X G c) h_check_round h_greater_one h_sources h_in_order h_rung_out
  have h_cell := has_law_cell (P := P) (w := w) (base := base) E (F_law_cell X G c)
  have h_purse := has_law_purse (P := P) (w := w) (base := base) E (F_law_purse X G c)
  have h_draw := has_law_draw (P := P) (w := w) (base := base) E (F_law_draw X G c)
  have h_names := has_law_names E (F_law_names X G c) h_draw
  have h_links := has_law_links E (F_law_links X G c) h_draw
  have h_stands := has_law_stands (P := P) (w := w) (base := base) E (F_law_stands X G c)
  have h_all := has_law_all (P := P) (w := w) (base := base) E (F_law_all X G c)
  have h_ends := has_law_ends (P := P) (w := w) (base := base) E (F_law_ends X G c) 10
  have h_one := has_law_is_one E (F_law_is_one X G c) 10 h_stands h_ends
  have h_right := has_law_right E (F_law_right X G c) h_draw h_names h_links h_web h_all h_round_of h_one
  exact law_ok E F h_cell h_purse h_right
end Wb
open PySem PySem.W PySem.Calls PyProof.Rows
theorem PySem.Challenge.cw_wakebells_k48_whole_rounds_just_where_holds : PySem.Challenge.rw_wakebells_k48_whole_rounds_just_where.Holds := by
  w_on; o_law
  refine HandSHeadRun.head_any (r := OpenLaw.row PySem.Challenge.rw_wakebells_k48_whole_rounds_just_where) (q := view (OpenLaw.row PySem.Challenge.rw_wakebells_k48_whole_rounds_just_where).prog [55]) (H := Wb.hk) (ob := Wb.ob) (M := 6000) (loose := Wb.loose) (d := HandSHeadRun.topDef (OpenLaw.row PySem.Challenge.rw_wakebells_k48_whole_rounds_just_where).prog 55) (kwd := []) Wb.ob_eq
    (by kernel_rfl) (fun s => by kernel_rfl) Wb.run (by kernel_rfl) (by kernel_rfl) (by kernel_rfl) (by rfl) (by first | assumption | decide +kernel) (by decide +kernel) ⟨rfl, rfl, rfl, rfl, rfl, by decide +kernel⟩ ?hw ?hc
  case hw => w_witness2
  case hc =>
    refine L2.walk_ofE (l := PySem.Challenge.rw_wakebells_k48_whole_rounds_just_where) (n := 63) (k := 14) (x := "_law_script") (CX := L2.CX0) rfl (by decide) (by kernel_rfl) ⟨rfl, by decide, by decide⟩ ?F (fun _ _ _ _ z => z)
    intro w mg fa h Y G hmg0
    obtain ⟨K, KX, c, hi⟩ := Y
    have hmg : mg ("law" : PySem.Str) = some (.ref fa) := by
      have e : (HandSHeadRun.topDef (OpenLaw.row PySem.Challenge.rw_wakebells_k48_whole_rounds_just_where).prog 55).name = ("law" : PySem.Str) := by kernel_rfl
      rw [← e]
      exact hmg0
    obtain ⟨fd, hb, hF⟩ := Wb.facts (P := (PySem.Challenge.rw_wakebells_k48_whole_rounds_just_where).prog) (w := w) KX G hmg c hi
    exact ⟨K, fd, Wb.spLaw K, KX, hb, fun H a ns hl _ hS => ⟨a, ns, rfl, hS, Nat.le_trans hl (by decide), fun _ => rfl⟩, hF⟩
