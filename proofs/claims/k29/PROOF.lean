import PyProof.Rows.All
import Wide.All
import OpenK.AllK
import Wide.FinOn
import HandS.ForMost
import HandS.Defaults
import KE.KStateDown
import Lean
import HandS.Base
import HandS.Call
import HandS.Ends
import HandS.More
import HandS.Words
import HandS.WordsExc
import HandS.Head0
import HandS.Head1
import HandS.Head2
import HandS.HeadEnd
import HandS.HeadHook1
import HandS.HeadHook2
import HandS.HeadHook3
import HandS.HeadHook4
import HandS.Deep
import HandS.Strs
import HandS.SetFor
import HandS.TupLe
import HandS.TupMul
import HandS.Sort
import PyProof.P3In
import PyProof.SumWalkG
import PyProof.WalksMore
import PyProof.Rows.SumGenD
import HandS.Zip
import PyProof.ListMulRoad
import PyProof.FactsAll.tuple_2
import KE.KDictZip
import HandS.Zip0
import PyProof.EnumMake
import PyProof.EnumIter
import HandS.IsInst
import HandS.DictComp
import HandS.Walk
import HandS.Codes
import HandS.TupAny
import HandS.MakeKwOnly
import PySem.Challenge.RW_wakebells_k29_whole_numbers_of_rows
set_option Elab.async false
set_option linter.all false
set_option maxRecDepth 100000
set_option maxHeartbeats 4000000
/-! The mathematics of webs of bells: what a row that rings wholly asks of its numbers, and that a free bell can always be rung. No program in sight. -/
namespace Wk
section
variable {α : Type} [DecidableEq α]

/-- whom b wakes; who wakes b -/
def ws (E : List (α × α)) (b : α) : List α := (E.filter fun p => decide (p.1 = b)).map (·.2)
def wk (E : List (α × α)) (b : α) : List α := (E.filter fun p => decide (p.2 = b)).map (·.1)
theorem mem_ws {E : List (α × α)} {a b : α} : b ∈ ws E a ↔ (a, b) ∈ E := by
  unfold ws
  rw [List.mem_map]
  constructor
  · rintro ⟨p, hp, rfl⟩
    obtain ⟨h1, h2⟩ := List.mem_filter.mp hp
    have e : p.1 = a := of_decide_eq_true h2
    rw [← e]
    exact h1
  · intro h
    exact ⟨(a, b), List.mem_filter.mpr ⟨h, decide_eq_true rfl⟩, rfl⟩
theorem mem_wk {E : List (α × α)} {a b : α} : a ∈ wk E b ↔ (a, b) ∈ E := by
  unfold wk
  rw [List.mem_map]
  constructor
  · rintro ⟨p, hp, rfl⟩
    obtain ⟨h1, h2⟩ := List.mem_filter.mp hp
    have e : p.2 = b := of_decide_eq_true h2
    rw [← e]
    exact h1
  · intro h
    exact ⟨(a, b), List.mem_filter.mpr ⟨h, decide_eq_true rfl⟩, rfl⟩
theorem wk_nodup {E : List (α × α)} (h : E.Nodup) (b : α) : (wk E b).Nodup := by
  unfold wk
  rw [List.nodup_iff_pairwise_ne, List.pairwise_map, List.pairwise_filter]
  refine List.Pairwise.imp ?_ (List.nodup_iff_pairwise_ne.mp h)
  rintro ⟨x, y⟩ ⟨x', y'⟩ hne h1 h2 e
  have e1 : y = b := of_decide_eq_true h1
  have e2 : y' = b := of_decide_eq_true h2
  exact hne (by rw [show x = x' from e, e1, e2])

/-- the stand behind a ring of b -/
def ring (E : List (α × α)) (L : α → Bool) (b : α) : α → Bool := fun x => decide (x ∈ ws E b) || (!decide (x = b) && L x)
def Rings (E : List (α × α)) : (α → Bool) → List α → Prop
  | _, [] => True
  | L, b :: r => L b = true ∧ Rings E (ring E L b) r
def after (E : List (α × α)) : (α → Bool) → List α → α → Bool
  | L, [] => L
  | L, b :: r => after E (ring E L b) r
theorem after_snoc (E : List (α × α)) (b : α) : ∀ (r : List α) (L : α → Bool), after E L (r ++ [b]) = ring E (after E L r) b
  | [], _ => rfl
  | _ :: r, L => after_snoc E b r _
theorem rings_snoc (E : List (α × α)) (b : α) : ∀ (r : List α) (L : α → Bool), Rings E L r → after E L r b = true → Rings E L (r ++ [b])
  | [], _, _, h => ⟨h, trivial⟩
  | _ :: r, _, h1, h2 => ⟨h1.1, rings_snoc E b r _ h1.2 h2⟩
theorem rings_take {E : List (α × α)} : ∀ {r : List α} {L : α → Bool} (i : Nat) (b : α), Rings E L r → r[i]? = some b → after E L (r.take i) b = true
  | [], _, _, _, _, e => by simp at e
  | a :: r, L, 0, b, h, e => by
    have e1 : a = b := by simpa using e
    rw [← e1]
    exact h.1
  | a :: r, L, i + 1, b, h, e => rings_take (r := r) (L := ring E L a) i b h.2 (by simpa using e)

/-- one if it is so -/
def one (b : Bool) : Int := if b = true then 1 else 0
theorem one_t : one true = 1 := rfl
theorem one_f : one false = 0 := rfl
theorem one_le (b : Bool) : 0 ≤ one b ∧ one b ≤ 1 := by cases b <;> decide
/-- all together -/
def tot (w : α → Int) (l : List α) : Int := (l.map w).sum
theorem tot_nil (w : α → Int) : tot w [] = 0 := rfl
theorem tot_cons (w : α → Int) (a : α) (l : List α) : tot w (a :: l) = w a + tot w l := by simp [tot]
theorem tot_mono {w v : α → Int} : ∀ {l : List α}, (∀ a ∈ l, w a ≤ v a) → tot w l ≤ tot v l
  | [], _ => Int.le_refl _
  | a :: l, h => by
    rw [tot_cons, tot_cons]
    have h1 := h a List.mem_cons_self
    have h2 := tot_mono (l := l) fun x hx => h x (List.mem_cons_of_mem _ hx)
    omega
theorem tot_congr {w v : α → Int} {l : List α} (h : ∀ a ∈ l, w a = v a) : tot w l = tot v l := by
  unfold tot
  rw [List.map_congr_left h]
theorem tot_nn {w : α → Int} {l : List α} (h : ∀ a ∈ l, 0 ≤ w a) : 0 ≤ tot w l := by
  have := tot_mono (w := fun _ => 0) (v := w) (l := l) h
  have z : tot (fun _ : α => (0 : Int)) l = 0 := by
    induction l with
    | nil => rfl
    | cons a l ih =>
      rw [tot_cons, ih (fun x hx => h x (List.mem_cons_of_mem _ hx)) (tot_mono fun x hx => h x (List.mem_cons_of_mem _ hx))] <;> rfl
  omega
theorem tot_ge {w : α → Int} : ∀ {l : List α} {b : α}, (∀ a ∈ l, 0 ≤ w a) → b ∈ l → w b ≤ tot w l
  | a :: l, b, h, hb => by
    rw [tot_cons]
    rcases List.mem_cons.mp hb with e | hb
    · rw [← e]
      have := tot_nn (w := w) (l := l) fun x hx => h x (List.mem_cons_of_mem _ hx)
      omega
    · have := tot_ge (w := w) (l := l) (fun x hx => h x (List.mem_cons_of_mem _ hx)) hb
      have := h a List.mem_cons_self
      omega
theorem tot_pos {w : α → Int} : ∀ {l : List α}, 0 < tot w l → ∃ b ∈ l, 0 < w b
  | [], h => absurd (show (0 : Int) < 0 from h) (by decide)
  | a :: l, h => by
    rw [tot_cons] at h
    by_cases z : 0 < w a
    · exact ⟨a, List.mem_cons_self, z⟩
    · obtain ⟨b, hb, hw⟩ := tot_pos (l := l) (w := w) (by omega)
      exact ⟨b, List.mem_cons_of_mem _ hb, hw⟩
/-- one less of b -/
def less (w : α → Int) (b : α) : α → Int := fun x => if x = b then w x - 1 else w x
theorem tot_less_out {w : α → Int} {b : α} {l : List α} (h : b ∉ l) : tot (less w b) l = tot w l :=
  tot_congr fun a ha => by
    unfold less
    rw [if_neg fun e => h (by rw [← e]; exact ha)]
theorem tot_less_in {w : α → Int} {b : α} : ∀ {l : List α}, l.Nodup → b ∈ l → tot (less w b) l = tot w l - 1
  | a :: l, hn, hb => by
    obtain ⟨h1, h2⟩ := List.nodup_cons.mp hn
    rw [tot_cons, tot_cons]
    by_cases e : a = b
    · subst e
      rw [tot_less_out h1]
      have : less w a a = w a - 1 := by unfold less; rw [if_pos rfl]
      omega
    · have hb' : b ∈ l := (List.mem_cons.mp hb).resolve_left (Ne.symm e)
      rw [tot_less_in h2 hb']
      have : less w b a = w a := by unfold less; rw [if_neg e]
      omega

/-- how often a bell may ring at the most -/
def bound (E : List (α × α)) (w : α → Int) (L : α → Bool) (b : α) : Int := one (L b) + tot w (wk E b)
/-- how often each bell rings in a row -/
def cnt (row : List α) : α → Int := fun b => (row.count b : Int)
theorem cnt_nn (row : List α) (b : α) : 0 ≤ cnt row b := Int.natCast_nonneg _
theorem cnt_cons (c : α) (r : List α) (b : α) : cnt (c :: r) b = cnt r b + (if b = c then 1 else 0) := by
  unfold cnt
  rw [List.count_cons]
  by_cases e : b = c
  · subst e
    simp
  · have : (c == b) = false := beq_eq_false_iff_ne.mpr (Ne.symm e)
    simp [this, e]
theorem cnt_snoc (c : α) (r : List α) (b : α) : cnt (r ++ [c]) b = cnt r b + (if b = c then 1 else 0) := by
  unfold cnt
  rw [List.count_append, List.count_cons]
  by_cases e : b = c
  · subst e
    simp
  · have : (c == b) = false := beq_eq_false_iff_ne.mpr (Ne.symm e)
    simp [this, e]
theorem cnt_pos {r : List α} {b : α} : 0 < cnt r b ↔ b ∈ r := by
  unfold cnt
  rw [← List.count_pos_iff]
  omega
theorem tot_cnt_cons (c : α) (r : List α) : ∀ (l : List α), tot (cnt (c :: r)) l = tot (cnt r) l + (l.count c : Int)
  | [] => rfl
  | a :: l => by
    rw [tot_cons, tot_cons, tot_cnt_cons c r l, cnt_cons, List.count_cons]
    by_cases e : a = c
    · subst e
      simp
      omega
    · have : (a == c) = false := beq_eq_false_iff_ne.mpr e
      simp [this, e]
      omega
/-- numbers of a row that rings wholly: none above its bound -/
theorem rings_le {E : List (α × α)} : ∀ {row : List α} {L : α → Bool}, Rings E L row → ∀ b, cnt row b ≤ bound E (cnt row) L b
  | [], L, _, b => by
    have h1 := one_le (L b)
    have h2 := tot_nn (w := cnt ([] : List α)) (l := wk E b) fun a _ => cnt_nn _ a
    have h3 : cnt ([] : List α) b = 0 := by simp [cnt]
    unfold bound
    omega
  | c :: r, L, h, b => by
    have ih := rings_le h.2 b
    unfold bound at ih ⊢
    rw [tot_cnt_cons, cnt_cons]
    have hin : b ∈ ws E c → 1 ≤ (wk E b).count c := fun hb => List.count_pos_iff.mpr (mem_wk.mpr (mem_ws.mp hb))
    by_cases hw : b ∈ ws E c
    · have h1 := hin hw
      have e1 : ring E L c b = true := by unfold ring; simp [hw]
      rw [e1, one_t] at ih
      by_cases e : b = c
      · subst e
        rw [if_pos rfl, h.1, one_t]
        omega
      · rw [if_neg e]
        have := one_le (L b)
        omega
    · by_cases e : b = c
      · subst e
        have e1 : ring E L b b = false := by unfold ring; simp [hw]
        rw [e1, one_f] at ih
        rw [if_pos rfl, h.1, one_t]
        omega
      · have e1 : ring E L c b = L b := by unfold ring; simp [hw, e]
        rw [e1] at ih
        rw [if_neg e]
        omega

/-- come to from live ones over such that have more than 0 -/
inductive Reach (E : List (α × α)) (B : List α) (w : α → Int) (L : α → Bool) : α → Prop where
  | live {b : α} (hb : b ∈ B) (hl : L b = true) (hw : 0 < w b) : Reach E B w L b
  | step {a b : α} (ha : Reach E B w L a) (he : (a, b) ∈ E) (hw : 0 < w b) : Reach E B w L b
theorem Reach.pos {E : List (α × α)} {B : List α} {w : α → Int} {L : α → Bool} {b : α} (r : Reach E B w L b) : 0 < w b := by
  cases r with
  | live _ _ h => exact h
  | step _ _ h => exact h
theorem Reach.mono {E : List (α × α)} {B : List α} {w v : α → Int} {L M : α → Bool} {b : α} (r : Reach E B w L b) (hw : ∀ a, 0 < w a → 0 < v a) (hl : ∀ a ∈ B, L a = true → M a = true) : Reach E B v M b := by
  induction r with
  | live hb h1 h2 => exact .live hb (hl _ hb h1) (hw _ h2)
  | step _ he h2 ih => exact .step ih he (hw _ h2)
/-- with webs whose wakes are of its bells -/
def Of (E : List (α × α)) (B : List α) : Prop := ∀ p ∈ E, p.1 ∈ B ∧ p.2 ∈ B
theorem Reach.mem {E : List (α × α)} {B : List α} {w : α → Int} {L : α → Bool} {b : α} (o : Of E B) (r : Reach E B w L b) : b ∈ B := by
  cases r with
  | live h _ _ => exact h
  | step _ he _ => exact (o _ he).2
/-- some live one that has more than 0 is there -/
theorem Reach.start {E : List (α × α)} {B : List α} {w : α → Int} {L : α → Bool} {b : α} (r : Reach E B w L b) : ∃ a ∈ B, L a = true ∧ 0 < w a := by
  induction r with
  | live hb h1 h2 => exact ⟨_, hb, h1, h2⟩
  | step _ _ _ ih => exact ih
structure Feas (E : List (α × α)) (B : List α) (w : α → Int) (L : α → Bool) : Prop where
  nn : ∀ b, 0 ≤ w b
  le : ∀ b ∈ B, w b ≤ bound E w L b
  rc : ∀ b ∈ B, 0 < w b → Reach E B w L b
theorem rings_reach {E : List (α × α)} {B : List α} : ∀ {row : List α} {L : α → Bool}, Rings E L row → (∀ b ∈ row, b ∈ B) → ∀ b, b ∈ row → Reach E B (cnt row) L b
  | [], _, _, _, b, hb => by simp at hb
  | c :: r, L, h, hB, b, hb => by
    have rc : Reach E B (cnt (c :: r)) L c := .live (hB c List.mem_cons_self) h.1 (cnt_pos.mpr List.mem_cons_self)
    have up : ∀ a, 0 < cnt r a → 0 < cnt (c :: r) a := fun a ha => cnt_pos.mpr (List.mem_cons_of_mem _ (cnt_pos.mp ha))
    have conv : ∀ x, Reach E B (cnt r) (ring E L c) x → Reach E B (cnt (c :: r)) L x := by
      intro x rx
      induction rx with
      | @live x hx h1 h2 =>
        unfold ring at h1
        by_cases hw : x ∈ ws E c
        · exact .step rc (mem_ws.mp hw) (up _ h2)
        · have h3 : L x = true := by
            simp [hw] at h1
            exact h1.2
          exact .live hx h3 (up _ h2)
      | step _ he h2 ih => exact .step ih he (up _ h2)
    by_cases hr : b ∈ r
    · exact conv b (rings_reach h.2 (fun x hx => hB x (List.mem_cons_of_mem _ hx)) b hr)
    · have e : b = c := (List.mem_cons.mp hb).resolve_right hr
      rw [e]
      exact rc
/-- the numbers of a row that rings wholly can be rung -/
theorem feas_row {E : List (α × α)} {B row : List α} {L : α → Bool} (h : Rings E L row) (hB : ∀ b ∈ row, b ∈ B) : Feas E B (cnt row) L :=
  ⟨cnt_nn row, fun b _ => rings_le h b, fun b _ hb => rings_reach h hB b (cnt_pos.mp hb)⟩
theorem feas_zero (E : List (α × α)) (B : List α) (L : α → Bool) : Feas E B (fun _ => 0) L :=
  ⟨fun _ => Int.le_refl _, fun b _ => by
    have h1 := one_le (L b)
    have h2 := tot_nn (w := fun _ : α => (0 : Int)) (l := wk E b) fun a _ => Int.le_refl _
    unfold bound
    omega, fun b _ h => absurd h (by decide)⟩
/-- .. from a stand with more live -/
theorem Feas.more {E : List (α × α)} {B : List α} {w : α → Int} {L M : α → Bool} (f : Feas E B w L) (h : ∀ b ∈ B, L b = true → M b = true) : Feas E B w M :=
  ⟨f.nn, fun b hb => by
    have h1 := f.le b hb
    have h2 : one (L b) ≤ one (M b) := by
      cases hl : L b with
      | false => exact (one_le _).1
      | true =>
        rw [h b hb hl]
        exact Int.le_refl _
    unfold bound at h1 ⊢
    omega, fun b hb hw => (f.rc b hb hw).mono (fun _ z => z) h⟩
/-- the greater of two, bell by bell -/
def top (w v : α → Int) : α → Int := fun b => if v b > w b then v b else w b
theorem top_l (w v : α → Int) (b : α) : w b ≤ top w v b := by unfold top; split <;> omega
theorem top_r (w v : α → Int) (b : α) : v b ≤ top w v b := by unfold top; split <;> omega
theorem Feas.top {E : List (α × α)} {B : List α} {w v : α → Int} {L : α → Bool} (f : Feas E B w L) (g : Feas E B v L) : Feas E B (Wk.top w v) L := by
  refine ⟨fun b => Int.le_trans (f.nn b) (top_l w v b), fun b hb => ?_, fun b hb hw => ?_⟩
  · have h1 := f.le b hb
    have h2 := g.le b hb
    have h3 := tot_mono (l := wk E b) fun a _ => top_l w v a
    have h4 := tot_mono (l := wk E b) fun a _ => top_r w v a
    unfold bound at h1 h2 ⊢
    have h5 : Wk.top w v b = v b ∨ Wk.top w v b = w b := by unfold Wk.top; split <;> simp
    rcases h5 with e | e <;> omega
  · have h5 : Wk.top w v b = v b ∨ Wk.top w v b = w b := by unfold Wk.top; split <;> simp
    rcases h5 with e | e
    · rw [e] at hw
      exact (g.rc b hb hw).mono (fun a ha => Int.lt_of_lt_of_le ha (top_r w v a)) fun _ _ z => z
    · rw [e] at hw
      exact (f.rc b hb hw).mono (fun a ha => Int.lt_of_lt_of_le ha (top_l w v a)) fun _ _ z => z

/-! ### a free bell -/
def Full (E : List (α × α)) (w : α → Int) (L : α → Bool) (x : α) : Prop := L x = true ∧ w x = 1 + tot w (wk E x)
def Free (E : List (α × α)) (w : α → Int) (L : α → Bool) (b : α) : Prop := L b = true ∧ 0 < w b ∧ ∀ x ∈ ws E b, x ≠ b → ¬ Full E w L x
theorem most_of {β : Type} (f : β → Int) : ∀ (l : List β), l ≠ [] → ∃ m ∈ l, ∀ y ∈ l, f y ≤ f m
  | [], h => absurd rfl h
  | a :: l, _ => by
    by_cases e : l = []
    · subst e
      exact ⟨a, List.mem_cons_self, fun y hy => by rw [List.mem_singleton.mp hy]; exact Int.le_refl _⟩
    · obtain ⟨m, hm, h⟩ := most_of f l e
      by_cases z : f m ≤ f a
      · exact ⟨a, List.mem_cons_self, fun y hy => by
          rcases List.mem_cons.mp hy with q | q
          · rw [q]; exact Int.le_refl _
          · exact Int.le_trans (h y q) z⟩
      · exact ⟨m, List.mem_cons_of_mem _ hm, fun y hy => by
          rcases List.mem_cons.mp hy with q | q
          · rw [q]; omega
          · exact h y q⟩
theorem Feas.free {E : List (α × α)} {B : List α} {w : α → Int} {L : α → Bool} (o : Of E B) (f : Feas E B w L) (hp : 0 < tot w B) : ∃ b ∈ B, Free E w L b := by
  obtain ⟨b0, hb0, hw0⟩ := tot_pos hp
  obtain ⟨a, ha, hal, haw⟩ := (f.rc b0 hb0 hw0).start
  have hne : (B.filter fun b => L b && decide (0 < w b)) ≠ [] := fun e => by
    have : a ∈ B.filter fun b => L b && decide (0 < w b) := List.mem_filter.mpr ⟨ha, by rw [hal, decide_eq_true haw]; rfl⟩
    rw [e] at this
    simp at this
  obtain ⟨m, hm, hmax⟩ := most_of w _ hne
  obtain ⟨hmB, hm2⟩ := List.mem_filter.mp hm
  obtain ⟨hml, hmw⟩ := Bool.and_eq_true_iff.mp hm2
  refine ⟨m, hmB, hml, of_decide_eq_true hmw, fun x hx hne' hfull => ?_⟩
  have hmx : m ∈ wk E x := mem_wk.mpr (mem_ws.mp hx)
  have h1 := tot_ge (w := w) (l := wk E x) (fun y _ => f.nn y) hmx
  have hmw' : 0 < w m := of_decide_eq_true hmw
  have hxw : w x = 1 + tot w (wk E x) := hfull.2
  have hx2 : x ∈ B.filter fun b => L b && decide (0 < w b) := List.mem_filter.mpr ⟨(o _ (mem_ws.mp hx)).2, by rw [hfull.1, decide_eq_true (by omega : 0 < w x)]; rfl⟩
  have := hmax x hx2
  omega
theorem Feas.ring {E : List (α × α)} {B : List α} {w : α → Int} {L : α → Bool} {b : α} (hn : E.Nodup) (o : Of E B) (f : Feas E B w L) (hb : b ∈ B) (fr : Free E w L b) : Feas E B (less w b) (Wk.ring E L b) := by
  obtain ⟨hL, hw, hf⟩ := fr
  have le' : ∀ x ∈ B, less w b x ≤ bound E (less w b) (Wk.ring E L b) x := by
    intro x hx
    have h1 := f.le x hx
    unfold bound at h1 ⊢
    by_cases hx2 : x ∈ ws E b
    · have hin : b ∈ wk E x := mem_wk.mpr (mem_ws.mp hx2)
      rw [tot_less_in (wk_nodup hn x) hin]
      have e1 : Wk.ring E L b x = true := by unfold Wk.ring; simp [hx2]
      rw [e1, one_t]
      by_cases e : x = b
      · subst e
        rw [hL, one_t] at h1
        unfold less
        rw [if_pos rfl]
        omega
      · have e2 : less w b x = w x := by unfold less; rw [if_neg e]
        rw [e2]
        cases hl : L x with
        | false =>
          rw [hl, one_f] at h1
          omega
        | true =>
          rw [hl, one_t] at h1
          have h2 : ¬ w x = 1 + tot w (wk E x) := fun z => hf x hx2 e ⟨hl, z⟩
          omega
    · have hout : b ∉ wk E x := fun z => hx2 (mem_ws.mpr (mem_wk.mp z))
      rw [tot_less_out hout]
      by_cases e : x = b
      · subst e
        have e1 : Wk.ring E L x x = false := by unfold Wk.ring; simp [hx2]
        rw [e1, one_f]
        rw [hL, one_t] at h1
        unfold less
        rw [if_pos rfl]
        omega
      · have e1 : Wk.ring E L b x = L x := by unfold Wk.ring; simp [hx2, e]
        have e2 : less w b x = w x := by unfold less; rw [if_neg e]
        rw [e1, e2]
        exact h1
  have nn' : ∀ x, 0 ≤ less w b x := by
    intro x
    unfold less
    by_cases e : x = b
    · subst e
      rw [if_pos rfl]
      omega
    · rw [if_neg e]
      exact f.nn x
  -- those but b that were come to are come to
  have oth : ∀ x, Reach E B w L x → x ≠ b → Reach E B (less w b) (Wk.ring E L b) x := by
    intro x rx
    induction rx with
    | @live x hx h1 h2 =>
      intro hne
      refine .live hx ?_ ?_
      · unfold Wk.ring
        simp [hne, h1]
      · unfold less
        rw [if_neg hne]
        exact h2
    | @step a x ha he h2 ih =>
      intro hne
      have hw' : 0 < less w b x := by
        unfold less
        rw [if_neg hne]
        exact h2
      by_cases e : a = b
      · subst e
        refine .live (o _ he).2 ?_ hw'
        unfold Wk.ring
        simp [mem_ws.mpr he]
      · exact .step (ih e) he hw'
  refine ⟨nn', le', fun x hx hw' => ?_⟩
  by_cases e : x = b
  · subst e
    have h1 := le' x hx
    unfold bound at h1
    cases hl : Wk.ring E L x x with
    | true => exact .live hx hl hw'
    | false =>
      rw [hl, one_f] at h1
      obtain ⟨a, ha, hwa⟩ := tot_pos (l := wk E x) (w := less w x) (by omega)
      have hax : (a, x) ∈ E := mem_wk.mp ha
      have hne : a ≠ x := by
        rintro rfl
        have e1 : Wk.ring E L a a = true := by unfold Wk.ring; simp [mem_ws.mpr hax]
        rw [e1] at hl
        cases hl
      have hwa' : 0 < w a := by
        unfold less at hwa
        rw [if_neg hne] at hwa
        exact hwa
      exact .step (oth a (f.rc a (o _ hax).1 hwa') hne) hax hw'
  · have hwx : 0 < w x := by
      unfold less at hw'
      rw [if_neg e] at hw'
      exact hw'
    exact oth x (f.rc x hx hwx) e

/-- a lot that holds the live ones with more than 0 and whom they wake of such holds all that are come to -/
theorem Reach.within {E : List (α × α)} {B S : List α} {w : α → Int} {L : α → Bool} (h1 : ∀ b ∈ B, L b = true → 0 < w b → b ∈ S) (h2 : ∀ a ∈ S, ∀ b ∈ ws E a, 0 < w b → b ∈ S) : ∀ {b : α}, Reach E B w L b → b ∈ S := by
  intro b r
  induction r with
  | live hb hl hw => exact h1 _ hb hl hw
  | step _ he hw ih => exact h2 _ ih _ (mem_ws.mpr he) hw
end
end Wk
set_option Elab.async false
set_option linter.all false
set_option maxRecDepth 100000
/-! The text by places, and what the walk asks of the top. Printed by gen_head.py. -/
namespace Wk
open PySem PySem.Spec PyProof.Rows L2
def topS (i : Nat) : Stmt := PySem.Challenge.pw_wakebells_k29_whole_numbers_of_rows.main.body.getD i (.Pass ⟨0, 0, 0, 0⟩)
abbrev st_is_whole : Stmt := topS 5
abbrev st_is_within : Stmt := topS 6
abbrev st_is_lot : Stmt := topS 20
abbrev st_stand_of : Stmt := topS 21
abbrev st_check_counts : Stmt := topS 22
abbrev st_in_order : Stmt := topS 23
abbrev st_is_name : Stmt := topS 27
abbrev st_check_bells : Stmt := topS 28
abbrev st_is_wake : Stmt := topS 29
abbrev st_check_wakes : Stmt := topS 30
abbrev st_check_web : Stmt := topS 32
abbrev st_wakes_of : Stmt := topS 35
abbrev st_rung : Stmt := topS 36
abbrev st_wakers_of : Stmt := topS 38
abbrev st_let_ : Stmt := topS 39
abbrev st_come_by : Stmt := topS 40
abbrev st_why_not : Stmt := topS 41
abbrev st_bars : Stmt := topS 42
abbrev st_free_one : Stmt := topS 43
abbrev st_rung_out : Stmt := topS 44
abbrev st_ringing : Stmt := topS 45
abbrev st_law_cell : Stmt := topS 47
abbrev st_law_purse : Stmt := topS 48
abbrev st_law_draw : Stmt := topS 49
abbrev st_law_names : Stmt := topS 50
abbrev st_law_links : Stmt := topS 51
abbrev st_law_walk : Stmt := topS 52
abbrev st_law_stand : Stmt := topS 53
abbrev st_law_let : Stmt := topS 54
abbrev st_law_rung : Stmt := topS 55
abbrev st_law_rings : Stmt := topS 56
abbrev st_law_full_right : Stmt := topS 57
abbrev st_law_right : Stmt := topS 58
abbrev st_law : Stmt := topS 59
abbrev st_init : Stmt := inClass (topS 31) 0
abbrev FnP (K : PySem.W.Frag) (x : Str) (st : Stmt) (f : Addr) (fd : FuncData) : Prop := FunD K x x (defArgs st) (defBody st) (defScope st) [] [] f fd
abbrev FnPk (K : PySem.W.Frag) (x : Str) (st : Stmt) (f : Addr) (fd : FuncData) : Prop := FunD K x x (defArgs st) (defBody st) (defScope st) [] [("live", V.non)] f fd
/-- a def of the top: where it stands -/
def TD (K : PySem.W.Frag) (mg : Str → Option Value) (x : Str) (st : Stmt) : Prop := ∃ f fd, mg x = some (.ref f) ∧ FnP K x st f fd
def TDk (K : PySem.W.Frag) (mg : Str → Option Value) (x : Str) (st : Stmt) : Prop := ∃ f fd, mg x = some (.ref f) ∧ FnPk K x st f fd
structure Txt (K : PySem.W.Frag) (mg : Str → Option Value) : Prop where
  d_is_whole : TD K mg "is_whole" st_is_whole
  d_is_within : TD K mg "is_within" st_is_within
  d_is_lot : TD K mg "is_lot" st_is_lot
  d_stand_of : TD K mg "stand_of" st_stand_of
  d_check_counts : TD K mg "check_counts" st_check_counts
  d_in_order : TD K mg "in_order" st_in_order
  d_is_name : TD K mg "is_name" st_is_name
  d_check_bells : TD K mg "check_bells" st_check_bells
  d_is_wake : TD K mg "is_wake" st_is_wake
  d_check_wakes : TD K mg "check_wakes" st_check_wakes
  d_check_web : TD K mg "check_web" st_check_web
  d_wakes_of : TD K mg "wakes_of" st_wakes_of
  d_rung : TD K mg "rung" st_rung
  d_wakers_of : TD K mg "wakers_of" st_wakers_of
  d_let_ : TD K mg "let" st_let_
  d_come_by : TD K mg "come_by" st_come_by
  d_why_not : TD K mg "why_not" st_why_not
  d_bars : TDk K mg "bars" st_bars
  d_free_one : TD K mg "free_one" st_free_one
  d_rung_out : TD K mg "rung_out" st_rung_out
  d_ringing : TDk K mg "ringing" st_ringing
  d_law_cell : TD K mg "_law_cell" st_law_cell
  d_law_purse : TD K mg "_law_purse" st_law_purse
  d_law_draw : TD K mg "_law_draw" st_law_draw
  d_law_names : TD K mg "_law_names" st_law_names
  d_law_links : TD K mg "_law_links" st_law_links
  d_law_walk : TD K mg "_law_walk" st_law_walk
  d_law_stand : TD K mg "_law_stand" st_law_stand
  d_law_let : TD K mg "_law_let" st_law_let
  d_law_rung : TD K mg "_law_rung" st_law_rung
  d_law_rings : TD K mg "_law_rings" st_law_rings
  d_law_full_right : TD K mg "_law_full_right" st_law_full_right
  d_law_right : TD K mg "_law_right" st_law_right
  b_isinstance : mg "isinstance" = none
  b_int_ : mg "int" = none
  b_bool : mg "bool" = none
  b_tuple : mg "tuple" = none
  b_str : mg "str" = none
  b_len : mg "len" = none
  b_all : mg "all" = none
  b_any : mg "any" = none
  b_range : mg "range" = none
  b_enumerate : mg "enumerate" = none
  b_sum : mg "sum" = none
  b_dict : mg "dict" = none
  b_zip : mg "zip" = none
  b_abs : mg "abs" = none
  b_divmod : mg "divmod" = none
  b_sorted : mg "sorted" = none
  b_list : mg "list" = none
  b_max : mg "max" = none
  b_min : mg "min" = none
  c_BIG : ∃ t, mg "BIG" = some (.int 1000000000000000000000000000000 t)
  c_MOST_PULLS : ∃ t, mg "MOST_PULLS" = some (.int 400 t)
  c_MOST_BELLS : ∃ t, mg "MOST_BELLS" = some (.int 12 t)
  c_MOST_LETTERS : ∃ t, mg "MOST_LETTERS" = some (.int 8 t)
  c_LETTERS : ∃ t, mg "LETTERS" = some (.str "abcdefghijklmnopqrstuvwxyz" t)
/-- the class Web -/
structure WebT (K : PySem.W.Frag) (mg : Str → Option Value) (C : Addr) : Prop where
  mgC : mg "Web" = some (.ref C)
  init : ∃ fI fd, Mk K C fI ∧ FunD K "__init__" "Web.__init__" (defArgs st_init) (defBody st_init) (defScope st_init) [] [] fI fd
  cl : Cls K C
  nB : NoAttr K C "bells"
  nW : NoAttr K C "wakes"
  ha : PySem.W.findIn K (.ref C) "__class__" = some (some (.builtin "object.__class__"))
  hn : PySem.W.specialIn K (.builtin "object.__class__") "__get__" = some (some (.builtin "getset_descriptor.__get__"))
  htk : PySem.W.takesIn K (.builtin "object.__class__") = some true
  hm : PySem.W.mroIn K C (.type "object") = some true
  me : PySem.W.kitOne K (.ref C) (.ref C) = some true
/-- a def's promise, kept wherever the top stands so: to be called by its name -/
structure DefOk (P : Program) (w : World) (K : PySem.W.Frag) (mg : Str → Option Value) (base : Heap) (k : Nat) (x : Str) (ps : List Str) (sp : Sp) : Prop where
  ex : ∃ f fd, mg x = some (.ref f) ∧ PySem.W.keepIn K (.ref f) = true ∧ Binds K fd ps [] ∧ FnOk P w K mg base CX0 k f fd ps sp
theorem DefOk.mk' {P : Program} {w : World} {K : PySem.W.Frag} {mg : Str → Option Value} {base : Heap} {k : Nat} {x : Str} {st : Stmt} {ps N : List Str} {sp : Sp} (t : TD K mg x st) (S : FnScope N ps (defScope st))
    (hb : ∀ (kV doc pm : Value) (an : Option Addr) (cdv ct : Value) (us : List Value), us.length = ps.length → bindArgs (PySem.W.fnOf x x (defArgs st) (defBody st) (defScope st) .none kV doc pm an cdv ct) ⟨us, []⟩ = pure (ps.zip us))
    (len : ∀ vs H Q E, sp vs H Q E → vs.length = ps.length)
    (hbody : ∀ (f : Addr) (cdv : Value) (A : Around) (outer : List Env) (s : Shared) (H : Hp) (vs : List V) (Q : VK) (E : XK), Room k (A.deeper (envOfC x (defScope st) s.heap.objs.size f cdv)) → sp vs H Q E →
      ∃ t, PSs (cxOf CX0 P w K mg base N x (defScope st) f cdv A outer s H E).nox (defBody st) t ∧ t { nx := fun _ H' => Q .non H', rt := Q } (start N vs) H) : DefOk P w K mg base (k + 1) x ps sp := by
  obtain ⟨f, fd, m, F⟩ := t
  exact ⟨f, fd, m, F.kp, F.bindsN hb, F.ok S len fun cdv A outer s H vs Q E hr h => let ⟨t, p, q⟩ := hbody f cdv A outer s H vs Q E hr h; ⟨t, p.nox, q⟩⟩
end Wk
set_option Elab.async false
set_option linter.all false
set_option maxRecDepth 100000
set_option maxHeartbeats 0
/-! The head with facts. Printed by gen_head.py. -/
namespace Wk
open PySem PySem.Spec PyProof.Rows L2
def dd_is_whole : He.DefD := ⟨("is_whole", none), "is_whole", "is_whole", defArgs st_is_whole, defBody st_is_whole, defScope st_is_whole, [], []⟩
def dd_is_within : He.DefD := ⟨("is_within", none), "is_within", "is_within", defArgs st_is_within, defBody st_is_within, defScope st_is_within, [], []⟩
def dd_is_lot : He.DefD := ⟨("is_lot", none), "is_lot", "is_lot", defArgs st_is_lot, defBody st_is_lot, defScope st_is_lot, [], []⟩
def dd_stand_of : He.DefD := ⟨("stand_of", none), "stand_of", "stand_of", defArgs st_stand_of, defBody st_stand_of, defScope st_stand_of, [], []⟩
def dd_check_counts : He.DefD := ⟨("check_counts", none), "check_counts", "check_counts", defArgs st_check_counts, defBody st_check_counts, defScope st_check_counts, [], []⟩
def dd_in_order : He.DefD := ⟨("in_order", none), "in_order", "in_order", defArgs st_in_order, defBody st_in_order, defScope st_in_order, [], []⟩
def dd_is_name : He.DefD := ⟨("is_name", none), "is_name", "is_name", defArgs st_is_name, defBody st_is_name, defScope st_is_name, [], []⟩
def dd_check_bells : He.DefD := ⟨("check_bells", none), "check_bells", "check_bells", defArgs st_check_bells, defBody st_check_bells, defScope st_check_bells, [], []⟩
def dd_is_wake : He.DefD := ⟨("is_wake", none), "is_wake", "is_wake", defArgs st_is_wake, defBody st_is_wake, defScope st_is_wake, [], []⟩
def dd_check_wakes : He.DefD := ⟨("check_wakes", none), "check_wakes", "check_wakes", defArgs st_check_wakes, defBody st_check_wakes, defScope st_check_wakes, [], []⟩
def dd_check_web : He.DefD := ⟨("check_web", none), "check_web", "check_web", defArgs st_check_web, defBody st_check_web, defScope st_check_web, [], []⟩
def dd_wakes_of : He.DefD := ⟨("wakes_of", none), "wakes_of", "wakes_of", defArgs st_wakes_of, defBody st_wakes_of, defScope st_wakes_of, [], []⟩
def dd_rung : He.DefD := ⟨("rung", none), "rung", "rung", defArgs st_rung, defBody st_rung, defScope st_rung, [], []⟩
def dd_wakers_of : He.DefD := ⟨("wakers_of", none), "wakers_of", "wakers_of", defArgs st_wakers_of, defBody st_wakers_of, defScope st_wakers_of, [], []⟩
def dd_let_ : He.DefD := ⟨("let", none), "let", "let", defArgs st_let_, defBody st_let_, defScope st_let_, [], []⟩
def dd_come_by : He.DefD := ⟨("come_by", none), "come_by", "come_by", defArgs st_come_by, defBody st_come_by, defScope st_come_by, [], []⟩
def dd_why_not : He.DefD := ⟨("why_not", none), "why_not", "why_not", defArgs st_why_not, defBody st_why_not, defScope st_why_not, [], []⟩
def dd_bars : He.DefD := ⟨("bars", none), "bars", "bars", defArgs st_bars, defBody st_bars, defScope st_bars, [], [("live", .non)]⟩
def dd_free_one : He.DefD := ⟨("free_one", none), "free_one", "free_one", defArgs st_free_one, defBody st_free_one, defScope st_free_one, [], []⟩
def dd_rung_out : He.DefD := ⟨("rung_out", none), "rung_out", "rung_out", defArgs st_rung_out, defBody st_rung_out, defScope st_rung_out, [], []⟩
def dd_ringing : He.DefD := ⟨("ringing", none), "ringing", "ringing", defArgs st_ringing, defBody st_ringing, defScope st_ringing, [], [("live", .non)]⟩
def dd_law_cell : He.DefD := ⟨("_law_cell", none), "_law_cell", "_law_cell", defArgs st_law_cell, defBody st_law_cell, defScope st_law_cell, [], []⟩
def dd_law_purse : He.DefD := ⟨("_law_purse", none), "_law_purse", "_law_purse", defArgs st_law_purse, defBody st_law_purse, defScope st_law_purse, [], []⟩
def dd_law_draw : He.DefD := ⟨("_law_draw", none), "_law_draw", "_law_draw", defArgs st_law_draw, defBody st_law_draw, defScope st_law_draw, [], []⟩
def dd_law_names : He.DefD := ⟨("_law_names", none), "_law_names", "_law_names", defArgs st_law_names, defBody st_law_names, defScope st_law_names, [], []⟩
def dd_law_links : He.DefD := ⟨("_law_links", none), "_law_links", "_law_links", defArgs st_law_links, defBody st_law_links, defScope st_law_links, [], []⟩
def dd_law_walk : He.DefD := ⟨("_law_walk", none), "_law_walk", "_law_walk", defArgs st_law_walk, defBody st_law_walk, defScope st_law_walk, [], []⟩
def dd_law_stand : He.DefD := ⟨("_law_stand", none), "_law_stand", "_law_stand", defArgs st_law_stand, defBody st_law_stand, defScope st_law_stand, [], []⟩
def dd_law_let : He.DefD := ⟨("_law_let", none), "_law_let", "_law_let", defArgs st_law_let, defBody st_law_let, defScope st_law_let, [], []⟩
def dd_law_rung : He.DefD := ⟨("_law_rung", none), "_law_rung", "_law_rung", defArgs st_law_rung, defBody st_law_rung, defScope st_law_rung, [], []⟩
def dd_law_rings : He.DefD := ⟨("_law_rings", none), "_law_rings", "_law_rings", defArgs st_law_rings, defBody st_law_rings, defScope st_law_rings, [], []⟩
def dd_law_full_right : He.DefD := ⟨("_law_full_right", none), "_law_full_right", "_law_full_right", defArgs st_law_full_right, defBody st_law_full_right, defScope st_law_full_right, [], []⟩
def dd_law_right : He.DefD := ⟨("_law_right", none), "_law_right", "_law_right", defArgs st_law_right, defBody st_law_right, defScope st_law_right, [], []⟩
def dd_law : He.DefD := ⟨("law", none), "law", "law", defArgs st_law, defBody st_law, defScope st_law, [], []⟩
def dd_init : He.DefD := ⟨("Web", some "__init__"), "__init__", "Web.__init__", defArgs st_init, defBody st_init, defScope st_init, [], []⟩
def fnA : List He.DefD := [dd_is_whole, dd_is_within, dd_is_lot, dd_stand_of, dd_check_counts, dd_in_order, dd_is_name, dd_check_bells, dd_is_wake, dd_check_wakes, dd_check_web, dd_wakes_of, dd_rung, dd_wakers_of, dd_let_, dd_come_by, dd_why_not, dd_bars, dd_free_one, dd_rung_out]
def fnB : List He.DefD := [dd_ringing, dd_law_cell, dd_law_purse, dd_law_draw, dd_law_names, dd_law_links, dd_law_walk, dd_law_stand, dd_law_let, dd_law_rung, dd_law_rings, dd_law_full_right, dd_law_right, dd_law, dd_init]
def fn : List He.DefD := fnA ++ fnB
def faA : List He.Fa := [.glo "is_whole", .glo "is_within", .glo "is_lot", .glo "stand_of", .glo "check_counts", .glo "in_order", .glo "is_name", .glo "check_bells", .glo "is_wake", .glo "check_wakes", .glo "check_web", .glo "wakes_of", .glo "rung", .glo "wakers_of", .glo "let", .glo "come_by", .glo "why_not", .glo "bars", .glo "free_one", .glo "rung_out", .glo "ringing", .glo "_law_cell", .glo "_law_purse", .glo "_law_draw", .glo "_law_names", .glo "_law_links", .glo "_law_walk", .glo "_law_stand", .glo "_law_let", .glo "_law_rung", .glo "_law_rings", .glo "_law_full_right", .glo "_law_right", .glo "law", .glo "Web"]
def faB : List He.Fa := [.free "isinstance", .free "int", .free "bool", .free "tuple", .free "str", .free "len", .free "all", .free "any", .free "range", .free "enumerate", .free "sum", .free "dict", .free "zip", .free "abs", .free "divmod", .free "sorted", .free "list", .free "max", .free "min", .int "BIG" 1000000000000000000000000000000, .int "MOST_PULLS" 400, .int "MOST_BELLS" 12, .int "MOST_LETTERS" 8, .str "LETTERS" "abcdefghijklmnopqrstuvwxyz", .cls "Web", .noat "Web" "bells", .noat "Web" "wakes", .mkr "Web"]
def fa : List He.Fa := faA ++ faB
def looseA : List Str := ["_wall", "BIG", "MOST_PULLS", "MOST_BELLS", "is_whole", "is_within", "BellError", "LostError", "RoomError", "NoBells", "NoWakes", "NoStand", "NoCounts", "NoWeb", "NoBell", "Barred", "TooMany", "is_lot", "stand_of", "check_counts", "in_order", "LETTERS", "MOST_LETTERS", "is_name", "check_bells", "is_wake", "check_wakes", "Web", "check_web", "check_bell"]
def looseB : List Str := ["wakes_of", "rung", "wakers_of", "let", "come_by", "why_not", "bars", "free_one", "rung_out", "ringing", "_law_cell", "_law_purse", "_law_draw", "_law_names", "_law_links", "_law_walk", "_law_stand", "_law_let", "_law_rung", "_law_rings", "_law_full_right", "_law_right"]
def loose : List Str := looseA ++ looseB
def exW (K : PySem.W.Frag) : Bool := He.eqO (PySem.W.findIn K (.ref (He.ga K "Web")) "__class__") (some (some (.builtin "object.__class__"))) && (He.eqO (PySem.W.specialIn K (.builtin "object.__class__") "__get__") (some (some (.builtin "getset_descriptor.__get__"))) &&
  (decide (PySem.W.takesIn K (.builtin "object.__class__") = some true) && (decide (PySem.W.mroIn K (He.ga K "Web") (.type "object") = some true) && decide (PySem.W.kitOne K (.ref (He.ga K "Web")) (.ref (He.ga K "Web")) = some true))))
abbrev R : PySem.W.OpenRow := PySem.W.OpenLaw.row PySem.Challenge.rw_wakebells_k29_whole_numbers_of_rows
abbrev hk : PySem.W.Hook := He.hookX 6 fa fn [] [] exW
def ob (s : PySem.W.SharedT) : He.AlX := He.obsX 6 fa fn [] [] exW (HandSHeadRun.getT s)
theorem ob_eq (s : PySem.W.SharedT) : ob s = hk.obs s.abs := He.obsX_eq (HandSHeadRun.getT_eq s)
theorem run (w : World) : HandSHeadRun.RunEq R (PySem.W.view R.prog [59]) hk ob 12000 loose w := by
  intro os
  kernel_rfl
end Wk
set_option Elab.async false
set_option linter.all false
set_option maxRecDepth 100000
set_option maxHeartbeats 4000000
/-! Rules that the layer lacks: not in of a tuple of tuples, <= of tuples of texts, sum of a tuple and of a dict's values, count and remove of texts, a tuple once. -/
namespace Wk
open PySem PySem.Spec PyProof.Rows L2
section
variable {X : Cx}

/-! ### x not in t, t a tuple of data -/
def rOutT (K : PySem.W.Frag) : R2 := fun x y H Q => ∃ d ds, Dp K H x d ∧ Dp K H y (.tuple ds) ∧ SeqAt.shaped d = true ∧ SeqAt.shaped (.tuple ds) = true ∧ Q (.bl (!ds.any fun z => PyData.eqv z d)) H
theorem op_outT (hu : X.A.units + 65 < cLine) : OpR X (compareOp .NotIn) (rOutT X.K) := by
  intro pins s σ H x y v u Q I rx ry ⟨d, ds, hx, hy, sx, sy, k⟩
  obtain ⟨as, ra⟩ := Dp.reads I d x v hx rx
  obtain ⟨bs, rb⟩ := Dp.reads I (.tuple ds) y u hy ry
  exact SeqAt.notIn_tuple_reads rb ra (SeqAt.canLay_of_shaped sy) (SeqAt.canLay_of_shaped sx) (room_in_shaped sx hu) ⟨.bl _, H, I, rfl, k⟩

/-! ### t <= u, tuples of texts -/
/-- the first place where they differ decides -/
def leS (xs ys : List Str) : Bool := Ob.lexAt (fun j => decide (xs.getD j "" = ys.getD j "")) (fun j => !decide ((ys.getD j "").cps.toList < (xs.getD j "").cps.toList)) (decide (xs.length ≤ ys.length)) 0 (min xs.length ys.length)
def rLeS (K : PySem.W.Frag) : R2 := fun x y H Q => ∃ (a b : Addr) (xs ys : List Str), x = .ref a ∧ y = .ref b ∧ SqT K H a (xs.map V.str) ∧ SqT K H b (ys.map V.str) ∧ Q (.bl (leS xs ys)) H
theorem strs_at {xs : List Str} {its : List Value} (r : Vals (xs.map V.str) its) (j : Nat) (h : j < its.toArray.size) : ∃ t, its.toArray[j] = .str (xs.getD j "") t := by
  have hl := r.length
  rw [List.length_map] at hl
  have hj : j < xs.length := by rw [List.size_toArray] at h; omega
  obtain ⟨w, hw, t, ew⟩ := r.get (i := j) (x := .str xs[j]) (by simp [hj])
  refine ⟨t, ?_⟩
  have e := (List.getElem?_eq_some_iff.mp hw).2
  have e2 : xs.getD j "" = xs[j] := by simp [List.getD_eq_getElem?_getD, hj]
  rw [e2, ← ew, ← e]
  simp
theorem op_leS (hu : X.A.units < cLine) : OpR X (compareOp .LtE) (rLeS X.K) := by
  intro pins s σ H x y v u Q I rx ry ⟨a, b, xs, ys, ex, ey, ha, hb, k⟩
  subst ex ey
  cases rx
  cases ry
  obtain ⟨its, r1, p1, _⟩ := I.tuple ha
  obtain ⟨jts, r2, p2, _⟩ := I.tuple hb
  have n1 : its.toArray.size = xs.length := by rw [List.size_toArray, ← r1.length, List.length_map]
  have n2 : jts.toArray.size = ys.length := by rw [List.size_toArray, ← r2.length, List.length_map]
  have key := Ob.RcOp.tuples_le (A := X.A) (s := s) (e := fun j => decide (xs.getD j "" = ys.getD j "")) (r := fun j => !decide ((ys.getD j "").cps.toList < (xs.getD j "").cps.toList)) p1 p2 hu
    (fun j h1 h2 => by
      obtain ⟨t, e1⟩ := strs_at r1 j h1
      obtain ⟨t2, e2⟩ := strs_at r2 j h2
      rw [e1, e2]
      exact fun prog w E Q h => wpAny_eqBool_str h)
    (fun j h1 h2 _ => by
      obtain ⟨t, e1⟩ := strs_at r1 j h1
      obtain ⟨t2, e2⟩ := strs_at r2 j h2
      rw [e1, e2]
      exact fun prog w E Q h => PySem.P.le_str h)
  rw [n1, n2] at key
  exact key X.prog X.w X.xe (EP X pins σ Q) ⟨.bl _, H, I, rfl, k⟩

/-! ### sum(t), t a tuple of ints -/
def rSumT (K : PySem.W.Frag) : List V → Hp → VK → Prop := fun vs H Q => ∃ (a : Addr) (ns : List Int), vs = [V.ref a] ∧ SqT K H a (ns.map V.int) ∧ Q (.int ns.sum) H
theorem cr_sumT (hc : X.calm = true) : CallR X (.builtin "sum") (rSumT X.K) := by
  intro pins s σ H vs us Q I r ⟨a, ns, e, hs, k⟩
  subst e
  obtain ⟨its, rv, pt, _⟩ := I.tuple hs
  rw [Vals.ref1 r]
  have hi : IntsAre its ns := rv.ints
  have hlen : its.toArray.size = ns.length := by rw [List.size_toArray]; exact hi.length
  have hlt : a < s.heap.objs.size := let ⟨_, e, _⟩ := pt; Heap.lt_size e
  refine call_sum_walkG (wpAny_pyIter_tuple pt ?_)
  refine ⟨s.heap.objs.size, _, _, _, _, _, fun i => ns.getD i 0, rfl, Walks.tuple (A := X.A.in1) (I.ok.hd hc) s.heap.objs.size a (Nat.ne_of_lt hlt) its.toArray, ⟨⟨_, Heap.get?_push_size _ rfl, rfl, rfl⟩, Heap.IsTuple.at pt fun o e => Heap.get?_push_of_some _ e⟩, fun b hb => ?_, fun i v hv => ?_, fun h' tk t' hk => ?_⟩
  · rw [Heap.size_push]
    rcases List.mem_cons.mp hb with e | hb
    · rw [e]
      exact Nat.lt_succ_self _
    · rw [List.mem_singleton.mp hb]
      exact Nat.lt_succ_of_lt hlt
  · obtain ⟨hj, e⟩ := Array.getElem?_eq_some_iff.mp hv
    exact IntsAre.int_at hi i v (by simpa using hv)
  · rw [preSum_getD, hlen, List.take_of_length_le (Nat.le_refl _)]
    exact ⟨.int _, H, I.kept (t' := tk) fun b o e => hk b o (fun z => absurd (Heap.lt_size e) (by rw [List.mem_singleton.mp z]; exact Nat.lt_irrefl _)) (Heap.get?_push_of_some _ e), ⟨_, rfl⟩, k⟩

/-! ### t.count(x), t a tuple of texts -/
theorem count_strs {z : Str} : ∀ {us : List Value} {ys : List Str}, Vals (ys.map V.str) us → us.countP (eqU (.str z)) = ys.count z
  | _, [], .nil => rfl
  | _, y :: ys, .cons r t => by
    obtain ⟨k, rfl⟩ := r
    rw [List.countP_cons, List.count_cons, count_strs (ys := ys) t] <;> rfl
theorem mt_countT : MtR X "tuple.count" (fun x xs H Q => ∃ p, ∃ ys : List Str, ∃ z, x = .ref p ∧ xs = [.str z] ∧ SqT X.K H p (ys.map V.str) ∧ Q (.int (ys.count z : Nat)) H) := by
  intro pins s σ H x xs v us Q I rx rs ⟨p, ys, z, e1, e2, hq, k⟩
  subst e1 e2
  cases rx
  obtain ⟨u, rfl, t, rfl⟩ := vals1 rs
  obtain ⟨its, r, ⟨⟨cls, dd, dt, sl⟩, ho, hc, n, hd⟩, _⟩ := I.tuple hq
  simp only at hc hd
  subst hc hd
  refine call_meets PySem.F.slot_tuple_count ⟨_, ho, rfl⟩ PySem.F.entry_tuple_count (PySem.F.args_tuple_count_2 _ _) (SeqAt.tuple_countAt p its.toArray n dd sl (.str z t) (eqU (.str z)))
    ⟨ho, fun w hw => mem_eqAt (x := .str z) ⟨t, rfl⟩ rfl r (flat_strs ys) w (by simpa using hw), ?_⟩
  refine ⟨.int (ys.count z : Nat), H, I.tok _, ⟨s.toks, ?_⟩, k⟩
  have ec : its.toArray.toList.countP (eqU (.str z)) = ys.count z := count_strs r
  rw [ec]

/-! ### xs.remove(x), a list of texts, the first place -/
theorem erase_mapS : ∀ (l : List Str) (j : Nat), (l.map V.str).eraseIdx j = (l.eraseIdx j).map V.str
  | [], _ => by simp
  | _ :: _, 0 => by simp
  | _ :: r, j + 1 => by simp [erase_mapS r j]
theorem eqU_gives {z : Str} {t : Tok} : ∀ {us : List Value} {ys : List Str}, Vals (ys.map V.str) us → ∀ y ∈ us, MeetsSeq.EqGives y (.str z t) (eqU (.str z) y)
  | _, [], .nil, y, hy => by cases hy
  | _, x :: ys, .cons r q, y, hy => by
    rcases List.mem_cons.mp hy with e | e
    · obtain ⟨k, ek⟩ := r
      rw [e, ek]
      intro prog w A E s Q h
      refine wpAny_eqBool_str ?_
      have e2 : eqU (.str z) (.str x k) = decide (x = z) := by
        show (x == z) = decide (x = z)
        by_cases q : x = z
        · rw [decide_eq_true q]; exact beq_iff_eq.mpr q
        · rw [decide_eq_false q]; exact beq_eq_false_iff_ne.mpr q
      rw [← e2]
      exact h
    · exact eqU_gives (ys := ys) q y e
def rRemS : V → List V → Hp → VK → Prop := fun x xs H Q => ∃ (l : Addr) (ys : List Str) (z : Str) (j : Nat), x = .ref l ∧ xs = [.str z] ∧ H l = some (.lst (ys.map V.str)) ∧ ys[j]? = some z ∧ (∀ m : Nat, m < j → ys[m]? ≠ some z) ∧ Q .non (upd H l (.lst ((ys.eraseIdx j).map V.str)))
theorem mt_removeS : MtM X "list.remove" rRemS := by
  intro pins s σ H x xs v us Q I rx rxs ⟨l, ys, z, j, e1, e2, hH, hj, hno, k⟩
  subst e1 e2
  cases rx
  obtain ⟨u, rfl, t, rfl⟩ := vals1 rxs
  obtain ⟨hz, its, n, r, hl, e⟩ := I.lstM hH
  rw [List.length_map] at hl hz
  have hjn : j < ys.length := (List.getElem?_eq_some_iff.mp hj).1
  have at' : ∀ m (hm : m < its.toArray.size), ∃ y t', ys[m]? = some y ∧ its.toArray[m] = .str y t' := fun m hm => by
    obtain ⟨t', et⟩ := strs_at r m hm
    have hm' : m < ys.length := by rw [List.size_toArray] at hm; omega
    refine ⟨ys[m], t', List.getElem?_eq_getElem hm', ?_⟩
    rw [et]
    simp [List.getD_eq_getElem?_getD, hm']
  have hjl : j < its.toArray.size := by rw [List.size_toArray]; omega
  refine call_meets PySem.F.slot_list_remove ⟨_, e, rfl⟩ PySem.F.entry_list_remove (PySem.F.args_list_remove_2 _ _)
    (MeetsSeq.list_remove l its.toArray n (.str z t) (eqU (.str z)) (fun y hy => eqU_gives r y (by simpa using hy)) j hjl ?_ ?_ (by rw [List.size_toArray]; omega)) ⟨e, ?_⟩
  · obtain ⟨y, t', h1, h2⟩ := at' j hjl
    rw [hj] at h1
    cases h1
    rw [h2]
    exact beq_self_eq_true z
  · intro m hm hmj
    obtain ⟨y, t', h1, h2⟩ := at' m hm
    rw [h2]
    exact beq_eq_false_iff_ne.mpr fun q => hno m hmj (q ▸ h1)
  · have rr := r.eraseIdx j
    rw [erase_mapS] at rr
    refine ⟨.non, _, I.lset (its' := its.eraseIdx j) (t' := s.toks) hH e ?_ rr ?_, rfl, k⟩
    · show its.toArray.eraseIdxIfInBounds j = _
      rw [List.eraseIdxIfInBounds_toArray]
    · rw [List.length_map]
      have := List.length_eraseIdx_le ys j
      omega
end
end Wk
set_option Elab.async false
set_option linter.all false
set_option maxRecDepth 100000
set_option maxHeartbeats 4000000
/-! More rules that the layer lacks: a tuple once, the sum of a dict's values. -/
namespace Wk
open PySem PySem.Spec PyProof.Rows L2
section
variable {X : Cx}

/-! ### t * 1 is t -/
theorem once_tuple (l : Addr) (items : Array Value) (n : Nat) (dd : Option Addr) (sl : Array (Option Value)) (u : Tok) :
    Meets (Builtin.«tuple.__mul__» ⟨[.ref l, .int 1 u], []⟩) (fun _ R s => s.heap.get? l = some { cls := .type "tuple", dict := dd, data := .seq items n, slots := sl } ∧ R (.ok (.ret (.ref l))) s) :=
  .of_wp fun prog w A R s h => by
    obtain ⟨hp, g, d, tk, os⟩ := s
    obtain ⟨hl, h⟩ := h
    have f1 := AutoSeq1.idx_int
    have c1 : (items.isEmpty || (1 : Int) == 1) = true := by cases items.isEmpty <;> rfl
    wp_walk using AutoSeq1.wpAny_loadPart' hl
    repeat (first
      | (refine wpAny_ite_true (decide_eq_true c1) ?_; wp_walk using AutoSeq1.wpAny_loadPart' hl)
      | (refine wpAny_ite_false (decide_eq_false (by decide)) ?_; wp_walk using AutoSeq1.wpAny_loadPart' hl))
    exact ⟨_, rfl, h⟩
def rRep1 (K : PySem.W.Frag) : R2 := fun x y H Q => ∃ l xs, x = .ref l ∧ y = .int 1 ∧ SqT K H l xs ∧ Q (.ref l) H
theorem op_rep1 : OpR X (binaryOp .Mult) (rRep1 X.K) := by
  intro pins s σ H x y v u Q I rx ry ⟨l, xs, e1, e2, hT, k⟩
  subst e1 e2
  cases rx
  obtain ⟨t, rfl⟩ := ry
  obtain ⟨its, r, ⟨⟨cls, dd, data, sl⟩, ho, hc, n, hd⟩, hs⟩ := I.tuple hT
  simp only at hc hd
  subst hc hd
  exact wpAny_binaryOp_repeat_ref (T := "tuple") (U := "int") (by decide) ⟨_, ho, rfl⟩ (fun s' => typeIs_int s' 1 t) noFill_tuple_mul F.fills_int_mul F.slot_int_rmul repeat_tuple F.slot_int_index.lookup
    (call_meets F.slot_int_rmul (typeIs_int s 1 t) F.entry_int_rmul (F.args_int_rmul_2 _ _) (int_rmul_tuple 1 t l its.toArray n dd sl)
      ⟨ho, rfl, ⟨_, ho, rfl⟩, call_meets F.slot_tuple_mul ⟨_, ho, rfl⟩ F.entry_tuple_mul (F.args_tuple_mul_2 _ _) (once_tuple l its.toArray n dd sl t) ⟨ho, ⟨.ref l, H, I, rfl, k⟩⟩⟩)

/-! ### sum(d.values()) -/
def tSumVals (td : TE) : TE := fun σ H Q => td σ H fun x H1 => ∃ (a : Addr) (kvs : List (Key × V)) (is : List Int), x = V.ref a ∧ H1 a = some (.dK kvs) ∧ kvs.map (·.2) = is.map V.int ∧ Q (.int is.sum) H1
variable {o : Expr} {p pos apos mpos : Pos} {td : TE}
theorem pe_sumVals (hc : X.calm = true) (hg : Gl X "sum") (hm : X.mg "sum" = none) (hd : PE X o td) (hbase : attributeBase o "values" X.env (eval o X.env) = eval o X.env := by rfl) (hline : (apos.endLine == mpos.line) = true := by rfl)
    (hse : starEach [Expr.Call (.Attribute o "values" apos) [] [] mpos] X.env = [(false, eval (Expr.Call (.Attribute o "values" apos) [] [] mpos) X.env)] := by rfl) :
    PE X (.Call (.Name "sum" p) [.Call (.Attribute o "values" apos) [] [] mpos] [] pos) (tSumVals td) := by
  refine ⟨fun pins s σ H Q I h => ?_⟩
  refine wpAny_Call_Name_kw (ld_blt I hg hm (u := .builtin "sum") (by decide +kernel) ?_ (by decide +kernel) (by decide +kernel))
  rw [hse]
  refine PySem.callWith_builtin1 (wpAny_Call_method0_late hbase hline (thn (hd.run pins s σ H _ I h) fun v s1 ⟨x, H1, I1, r1, a, kvs, is, ex, ha, hv, k⟩ => ?_))
  subst ex
  obtain rfl : v = Value.ref a := r1
  obtain ⟨_, hsys, vs, rel, dof⟩ := dk_of I1.hok ha
  obtain ⟨ep, dat⟩ := dof.dictAt
  obtain ⟨ob, es, ho, exd, hdat, hko, hpr, hnd⟩ := id dat
  have hlt : a < s1.heap.objs.size := Heap.lt_size ho
  refine ⟨"dict", "dict.values", F.plainAttrs_dict, F.slot_dict_values, F.type_dict_values, ⟨ob, ho, exd.1⟩, fun b e => ?_, Calls.callWith_builtin rfl (PySem.evalArgs_none ?_)⟩
  · cases e
    exact ⟨ob, ho, exd.2.1⟩
  refine call_meetsIn F.slot_dict_values ⟨ob, ho, exd.1⟩ F.entry_dict_values (F.args_dict_values_1 _) (meets_dict_values (mixKind X.prog X.w) a hsys) ⟨⟨vs, dof⟩, ?_⟩
  generalize hw : s1.heap.push { cls := .type "dict_values", data := .fields #[.ref a] } = h1
  have k1 : ∀ b u, s1.heap.get? b = some u → h1.get? b = some u := fun b u e => by rw [← hw]; exact Heap.get?_push_of_some _ e
  have view : h1.get? s1.heap.objs.size = some { cls := .type "dict_values", data := .fields #[.ref a] } := by rw [← hw]; exact Heap.get?_push_size _ rfl
  have hsz : h1.objs.size = s1.heap.objs.size + 1 := by rw [← hw]; exact Heap.size_push _ _
  have lens : vs.length = is.length := by
    have e1 := congrArg List.length hv
    rw [List.length_map, List.length_map] at e1
    rw [← e1]
    exact (KV.length rel).symm
  have hval : ∀ (i : Nat) (v : Value), (∃ k, vs[i]? = some (k, v)) → ∃ t, v = Value.int (is.getD i 0) t := fun i v ⟨k, hk⟩ => by
    obtain ⟨x, g1, g2⟩ := KV.at' rel hk
    have e1 : (is.map V.int)[i]? = some x := by rw [← hv, List.getElem?_map, g1] <;> rfl
    rw [List.getElem?_map] at e1
    obtain ⟨j, hj, e2⟩ := Option.map_eq_some_iff.mp e1
    subst e2
    obtain ⟨t, e3⟩ := g2
    exact ⟨t, by rw [e3, List.getD_eq_getElem?_getD, hj] <;> rfl⟩
  refine call_sum_walkG (wpAny_pyIter_values (v := s1.heap.objs.size) (d := a) ⟨_, view, rfl, rfl⟩ (dat.keep k1) ?_)
  refine ⟨_, _, _, _, _, _, fun i => is.getD i 0, rfl, Walks.dictValues (knd := mixKind X.prog X.w) (A := X.A.in1) (I.ok.hd hc) h1.objs.size a (by rw [hsz]; exact Nat.ne_of_lt (Nat.lt_succ_of_lt hlt)) vs ep, ⟨⟨_, Heap.get?_push_size _ rfl, rfl, rfl⟩, (dat.keep k1).keep fun b u e => Heap.get?_push_of_some _ e⟩, fun b hb => ?_, hval, fun h' tk t' hk => ?_⟩
  · rw [Heap.size_push, hsz]
    rcases List.mem_cons.mp hb with e | hb
    · rw [e, hsz]
      exact Nat.lt_succ_self _
    · rw [List.mem_singleton.mp hb]
      exact Nat.lt_succ_of_lt (Nat.lt_succ_of_lt hlt)
  · rw [preSum_getD, lens, List.take_of_length_le (Nat.le_refl _)]
    refine ⟨.int _, H1, I1.kept (t' := tk) fun b u e => hk b u (fun hmem => ?_) (Heap.get?_push_of_some _ (k1 b u e)), ⟨_, rfl⟩, k⟩
    have e1 := Heap.lt_size e
    rw [List.mem_singleton.mp hmem, hsz] at e1
    exact Nat.not_succ_lt_self e1
end
end Wk
set_option Elab.async false
set_option linter.all false
set_option maxRecDepth 100000
set_option maxHeartbeats 4000000
/-! for i, x in enumerate(t), t a tuple. -/
namespace Wk
open PySem
open PySem.Sem (wp)
/-- what the maker of an enumerate does with a tuple -/
theorem enumT_new (l : Addr) (items : Array Value) :
    Meets (Builtin.«enumerate.__new__» ⟨[.type "enumerate", .ref l], []⟩) (fun _ R s => s.heap.IsTuple l items ∧
      R (.ok (.ret (.ref (s.heap.objs.size + 1)))) { s with heap := (s.heap.push { cls := .type "tuple_iterator", data := .fields #[.ref l, .int 0 0] }).push { cls := .type "enumerate", data := .fields #[.none, .bool false, .ref s.heap.objs.size, rawInt 0, .none, .none] } }) :=
  .of_wp fun prog w A R s h => by
    obtain ⟨hp, g, d, tk, os⟩ := s
    obtain ⟨hT, h⟩ := h
    replace hT : Heap.IsTuple (Shared.heap ⟨hp, g, d, tk, os⟩) l items := hT
    rw [← Heap.size_push hp { cls := .type "tuple_iterator", data := .fields #[.ref l, .int 0 0] }] at h
    have hsub := sub_enumerate
    wp_walk
    refine wpAny_stack_any fun st => wpAny_pure ?_
    split
    · rename_i c _ _ _ _ _
      cases (c == Value.type "enumerate") <;>
        (wp_walk using wpAny_pyIter_tuple hT; exact ⟨_, rfl, h⟩)
    · wp_walk using wpAny_pyIter_tuple hT
      exact ⟨_, rfl, h⟩
section
variable {prog : Program} {w : World} {A : Around} {E : Value → Shared → Prop} {s : Shared}
theorem enumT_call {l : Addr} {items : Array Value} {Q : Value → Shared → Prop} (hL : s.heap.IsTuple l items)
    (h : ∀ g, IsEnum g (s.heap.objs.size + 1) s.heap.objs.size 0 .none → g.IsTupleIter s.heap.objs.size l 0 → (∀ b o, s.heap.get? b = some o → g.get? b = some o) → Q (.ref (s.heap.objs.size + 1)) { s with heap := g }) :
    wpAny (model prog w) A (call (.type "enumerate") [.ref l]) Q E s := by
  refine callType_new F.called_enumerate (by decide) (F.typeCall_enumerate_1 _) (F.newCall_enumerate_1 _) (fun obj => F.args_object_init_2 obj _) F.entry_enumerate_new (enumT_new l items) ⟨hL, ?_⟩
  have there : IsEnum ((s.heap.push { cls := .type "tuple_iterator", data := .fields #[.ref l, .int 0 0] }).push { cls := .type "enumerate", data := .fields #[.none, .bool false, .ref s.heap.objs.size, rawInt 0, .none, .none] }) (s.heap.objs.size + 1) s.heap.objs.size 0 .none := by
    rw [← Heap.size_push s.heap { cls := .type "tuple_iterator", data := .fields #[.ref l, .int 0 0] }]
    exact Heap.get?_push_size _ rfl
  exact ⟨⟨_, there, rfl⟩, h _ there ⟨_, Heap.get?_push_of_some _ (Heap.get?_push_size _ rfl), rfl, rfl⟩ fun b o z => Heap.get?_push_of_some _ (Heap.get?_push_of_some _ z)⟩
/-- one turn, the tuple that was told before being let go -/
theorem enumT_turn {e it l : Addr} {i : Nat} {items : Array Value} {x old : Value} {Q : Value → Shared → Prop} (he : IsEnum s.heap e it i old) (hit : s.heap.IsTupleIter it l i) (hl : s.heap.IsTuple l items) (hx : items[i]? = some x) (hne : e ≠ it)
    (k : ∀ g, IsEnumOut g e it ((i : Int) + 1) x s.heap.objs.size → g.IsTupleIter it l (i + 1) → g.get? s.heap.objs.size = some { cls := .type "tuple", data := .seq #[.int i s.toks, x] } →
      (∀ b o, b ≠ e → b ≠ it → s.heap.get? b = some o → g.get? b = some o) → Q (.ref s.heap.objs.size) { s with heap := g, toks := s.toks + 1 }) :
    wpAny (model prog w) A (Builtin.«enumerate.__next__» ⟨[.ref e], []⟩) (fun fin s' => ∃ v, fin = .done (.ret v) ∧ Q v s') E s := by
  obtain ⟨hp, gg, d, tk, os⟩ := s
  have hit' : it ≠ e := Ne.symm hne
  show wpAny _ _ (field (.ref e) 2 >>= _) _ _ _
  refine wpAny_bind (wpAny_field he rfl (x := .ref it) rfl (wpAny_bind (RZ.nextOf_tuple_item hit hl hx fun g1 it1 sb1 => ?_)))
  replace sb1 : Heap.SameBut it hp g1 := sb1
  have e1 : IsEnum g1 e it i old := (sb1.2 e hne).trans he
  show wpAny _ _ (field (.ref e) 3 >>= _) _ _ ⟨g1, gg, d, tk, os⟩
  refine wpAny_bind (wpAny_field e1 rfl (x := rawInt i) rfl ?_)
  show wpAny _ _ (field (.ref e) 4 >>= _) _ _ ⟨g1, gg, d, tk, os⟩
  refine wpAny_bind (wpAny_field e1 rfl (x := .none) rfl ?_)
  show wpAny _ _ (mkInt i >>= _) _ _ ⟨g1, gg, d, tk, os⟩
  refine wpAny_bind (wpAny_mkInt ?_)
  show wpAny _ _ (setField (.ref e) 3 (rawInt ((i : Int) + 1)) >>= _) _ _ ⟨g1, gg, d, tk + 1, os⟩
  refine wpAny_bind (wpAny_setField_rec e1 (by simp) fun g2 e2 sb2 => ?_)
  replace sb2 : Heap.SameBut e g1 g2 := sb2
  replace e2 : IsEnum g2 e it ((i : Int) + 1) old := e2
  show wpAny _ _ (setField (.ref e) 4 .none >>= _) _ _ ⟨g2, gg, d, tk + 1, os⟩
  refine wpAny_bind (wpAny_setField_rec e2 (by simp) fun g3 e3 sb3 => ?_)
  replace sb3 : Heap.SameBut e g2 g3 := sb3
  replace e3 : IsEnum g3 e it ((i : Int) + 1) old := e3
  show wpAny _ _ (newTuple [.int i tk, x] >>= _) _ _ ⟨g3, gg, d, tk + 1, os⟩
  refine wpAny_bind (wpAny_newTuple ?_)
  have n3 : g3.objs.size = hp.objs.size := by rw [sb3.1, sb2.1, sb1.1]
  have lt : e < hp.objs.size := Heap.lt_size he
  have ne : hp.objs.size ≠ e := Nat.ne_of_gt lt
  obtain ⟨g4, hg4⟩ : ∃ g4, g4 = g3.push { cls := .type "tuple", data := .seq #[.int i tk, x] } := ⟨_, rfl⟩
  rw [← hg4]
  have up : ∀ b o, g3.get? b = some o → g4.get? b = some o := fun b o z => by rw [hg4]; exact Heap.get?_push_of_some _ z
  have e4 : IsEnum g4 e it ((i : Int) + 1) old := up _ _ e3
  have t4 : g4.get? hp.objs.size = some { cls := .type "tuple", data := .seq #[.int i tk, x] } := by rw [hg4, ← n3]; exact Heap.get?_push_size _ rfl
  have k4 : ∀ b o, b ≠ e → b ≠ it → hp.get? b = some o → g4.get? b = some o := fun b o c1 c2 z => up _ _ (sb3.extBut b o c1 (sb2.extBut b o c1 (sb1.extBut b o c2 z)))
  have i4 : g4.IsTupleIter it l (i + 1) := by
    obtain ⟨o, ho, r⟩ := (it1.extBut sb2.extBut hit').extBut sb3.extBut hit'
    exact ⟨o, up _ _ ho, r⟩
  show wpAny _ _ (Builtin.SmallTypes.ownedTupleIsFree (.ref e) >>= _) _ _ ⟨g4, gg, d, tk + 1, os⟩
  rw [n3]
  clear hg4 up e3 sb3 e2 sb2 e1 sb1 it1 n3 g3 g2 g1
  refine wpAny_bind ?_
  unfold Builtin.SmallTypes.ownedTupleIsFree
  refine wpAny_bind (wpAny_field e4 rfl (x := .none) rfl (wpAny_pure ?_))
  simp only [if_true]
  refine wpAny_bind (wpAny_rule (wpAny_bind (wpAny_field e4 rfl (x := old) rfl (wpAny_bind (wpAny_setField_rec e4 (by simp) fun g5 e5 sb5 => ?_)))))
  replace sb5 : Heap.SameBut e g4 g5 := sb5
  replace e5 : IsEnum g5 e it ((i : Int) + 1) x := e5
  show wpAny _ _ (Builtin.SmallTypes.ownedTupleHandOut (.ref e) (.ref hp.objs.size) >>= _) _ _ ⟨g5, gg, d, tk + 1, os⟩
  refine wpAny_bind ?_
  unfold Builtin.SmallTypes.ownedTupleHandOut
  refine wpAny_bind (wpAny_setField_rec e5 (by simp) fun g6 e6 sb6 => ?_)
  replace sb6 : Heap.SameBut e g5 g6 := sb6
  replace e6 : IsEnumOut g6 e it ((i : Int) + 1) x hp.objs.size := e6
  refine wpAny_setField_rec e6 (by simp) fun g7 e7 sb7 => ?_
  replace sb7 : Heap.SameBut e g6 g7 := sb7
  have up7 : ∀ b o, b ≠ e → g4.get? b = some o → g7.get? b = some o := fun b o c z => sb7.extBut b o c (sb6.extBut b o c (sb5.extBut b o c z))
  exact wpAny_bind (wpAny_letGo (wpAny_pure ⟨_, rfl, k g7 e7 (i4.extBut up7 hit') (up7 _ _ ne t4) fun b o c1 c2 z => up7 b o c1 (k4 b o c1 c2 z)⟩))
theorem enumT_item {e it l : Addr} {i : Nat} {items : Array Value} {x old : Value} {Q : Option Value → Shared → Prop} (he : IsEnum s.heap e it i old) (hit : s.heap.IsTupleIter it l i) (hl : s.heap.IsTuple l items) (hx : items[i]? = some x) (hne : e ≠ it)
    (k : ∀ g, IsEnumOut g e it ((i : Int) + 1) x s.heap.objs.size → g.IsTupleIter it l (i + 1) → g.get? s.heap.objs.size = some { cls := .type "tuple", data := .seq #[.int i s.toks, x] } →
      (∀ b o, b ≠ e → b ≠ it → s.heap.get? b = some o → g.get? b = some o) → Q (some (.ref s.heap.objs.size)) { s with heap := g, toks := s.toks + 1 }) :
    wpAny (model prog w) A (pyNext (.ref e)) Q E s := by
  have ty : s.TypeIs (.ref e) "enumerate" := ⟨_, he, rfl⟩
  unfold pyNext
  refine wpAny_bind (wpAny_attempt (wpAny_callSpecial?_slot (name := Str.ofString "__next__") ty F.slot_enumerate_next (wpAny_call_entry F.slot_enumerate_next ty F.entry_enumerate_next ?_ (F.args_enumerate_next_1 _))))
  exact enumT_turn he hit hl hx hne fun g a b c z => wpAny_pure (k g a b c z)
theorem enumT_end {e it l : Addr} {i : Nat} {items : Array Value} {old : Value} {Q : Option Value → Shared → Prop} (hh : A.handled = none) (he : IsEnum s.heap e it i old) (hit : s.heap.IsTupleIter it l i) (hl : s.heap.IsTuple l items) (hx : items[i]? = none)
    (k : ∀ g, Heap.ExtBut it s.heap g → Q none { s with heap := g }) : wpAny (model prog w) A (pyNext (.ref e)) Q E s := by
  have ty : s.TypeIs (.ref e) "enumerate" := ⟨_, he, rfl⟩
  unfold pyNext
  refine wpAny_bind (wpAny_attempt (wpAny_callSpecial?_slot (name := Str.ofString "__next__") ty F.slot_enumerate_next (wpAny_call_entry F.slot_enumerate_next ty F.entry_enumerate_next ?_ (F.args_enumerate_next_1 _))))
  show wpAny _ _ (field (.ref e) 2 >>= _) _ _ _
  refine wpAny_bind (wpAny_field he rfl (x := .ref it) rfl (wpAny_bind (RZ.nextOf_tuple_end hh hit hl hx fun g x z hs => ?_)))
  obtain ⟨o, ho, hc⟩ := hs
  exact wpAny_bind (wpAny_isInstance (T := "StopIteration") (b := true) ⟨o, ho, hc⟩ isSubtype_stop (wpAny_pure (k _ z)))
end
end Wk
namespace Wk
open PySem PySem.Spec PyProof.Rows L2
/-- the tuple at a, each item in a new pair with its number -/
def ItEn (K : PySem.W.Frag) (a : Addr) : It :=
  ⟨fun i H => ∃ (xs : List V) (x : V), SqT K H a xs ∧ xs[i]? = some x, fun i H v H' => ∃ T x, v = .ref T ∧ H T = none ∧ H' = upd H T (.tup [.int (i : Nat), x]) ∧ ∀ xs, SqT K H a xs → xs[i]? = some x, fun i H => ∃ xs : List V, SqT K H a xs ∧ xs.length ≤ i⟩
theorem turn_enT {P : Program} {w : World} {K : PySem.W.Frag} {elts : List Expr} {kk : Nat} {tpos : Pos} (a e it : Addr) :
    Turn P w K (.Tuple elts kk tpos) (ItEn K a) [e, it] e (fun i h => (∃ old, IsEnum h e it ((i : Nat) : Int) old) ∧ h.IsTupleIter it a i ∧ e ≠ it) where
  mem := List.mem_cons_self
  obj := fun i h ⟨⟨old, he⟩, ⟨o, ho, hc, hd⟩, _⟩ b hb => by
    rcases List.mem_cons.mp hb with z | z
    · rw [z]
      exact ⟨_, he, fun v q => nomatch q⟩
    · rw [List.mem_singleton.mp z]
      exact ⟨o, ho, fun v q => by rw [hd] at q; cases q⟩
  keep := fun i h h' ⟨⟨old, he⟩, hi, hne⟩ k => ⟨⟨old, k e List.mem_cons_self _ he⟩, hi.at fun o q => k it (List.mem_cons_of_mem _ List.mem_cons_self) o q, hne⟩
  item := by
    intro X hP hw hK hc i pins s σ H E I hf st hg
    subst hP hw hK
    obtain ⟨⟨old, he⟩, hit, hne⟩ := st
    obtain ⟨xs, x, hq, hx⟩ := hg
    obtain ⟨its, rv, p, _⟩ := I.tuple hq
    obtain ⟨u, hu, ru⟩ := rv.get hx
    have le : e < s.heap.objs.size := Heap.lt_size he
    have li : it < s.heap.objs.size := let ⟨_, q, _⟩ := hit; Heap.lt_size q
    refine enumT_item he hit p (x := u) (by simpa using hu) hne fun g ho hit' hT hk => ⟨_, rfl, wpAny_letOwnedTupleGo_enum (s := { s with heap := g, toks := s.toks + 1 }) ho fun g2 he' sb => ?_⟩
    have new : ObjOk X.prog X.w (upd H s.heap.objs.size (.tup [.int (i : Nat), x])) g2 s.heap.objs.size (.tup [.int (i : Nat), x]) :=
      ⟨by show 2 ≤ sizeLine; decide, [.int i s.toks, u], .cons ⟨_, rfl⟩ (.cons ru .nil), ⟨_, (sb.2 _ (Nat.ne_of_gt le)).trans hT, rfl, _, rfl⟩⟩
    have J : Inv X pins σ (upd H s.heap.objs.size (.tup [.int (i : Nat), x])) { s with heap := g2, toks := s.toks + 1 } :=
      I.turnedNew (ch := [e, it]) (fun b ob hb q => (sb.2 b fun z => hb (by rw [z]; exact List.mem_cons_self)).trans (hk b ob (fun z => hb (by rw [z]; exact List.mem_cons_self)) (fun z => hb (by rw [z]; exact List.mem_cons_of_mem _ List.mem_cons_self)) q)) hf (Nat.le_refl _) new
    have ec : ((i + 1 : Nat) : Int) = (i : Int) + 1 := by omega
    refine ⟨.ref s.heap.objs.size, _, J, rfl, ⟨_, x, rfl, I.hok.fresh (Nat.le_refl _), rfl, fun ys hy => by rw [I.tuple_inj hy hq]; exact hx⟩, ⟨⟨u, by rw [ec]; exact he'⟩, hit'.at fun o q => (sb.2 it (Ne.symm hne)).trans q, hne⟩, fun b hb => ?_⟩
    have hb' : b < s.heap.objs.size := by
      rcases List.mem_cons.mp hb with z | z
      · rw [z]; exact le
      · rw [List.mem_singleton.mp z]; exact li
    rw [upd_ne (Nat.ne_of_lt hb')]
    exact (hf b hb).1
  done := by
    intro X hP hw hK hc i pins s σ H E I hf st hg
    subst hP hw hK
    obtain ⟨⟨old, he⟩, hit, hne⟩ := st
    obtain ⟨xs, hq, hx⟩ := hg
    obtain ⟨its, rv, p, _⟩ := I.tuple hq
    obtain ⟨f0, f1, f2, f3, f4, f5⟩ := hf it (List.mem_cons_of_mem _ List.mem_cons_self)
    have hl := rv.length
    exact enumT_end (I.ok.hd hc) he hit p (by simp; omega) fun g eb => ⟨rfl, I.turned (t' := s.toks) (fun b o hb q => eb b o hb q) f0 f1 f3 f4 f5⟩
  self := fun A i s Q E ⟨⟨_, he⟩, _⟩ h => wpAny_pyIter_enum he h
def iEnT (K : PySem.W.Frag) (ta : TA) : TI := fun σ H R => ta σ H fun vs H1 => ∃ a xs, vs = [.ref a] ∧ SqT K H1 a xs ∧ R (ItEn K a) H1
theorem pi_enumT {X : Cx} {e : Expr} {ta : TA} {p pos tpos : Pos} {elts : List Expr} {kk : Nat} (hg : Gl X "enumerate") (hm : X.mg "enumerate" = none) (ha : PA X [e] ta) (hs : starEach [e] X.env = [(false, eval e X.env)] := by rfl) :
    PI X (.Tuple elts kk tpos) (.Call (.Name "enumerate" p) [e] [] pos) (iEnT X.K ta) := by
  refine ⟨fun pins s σ H R I h => Call_ (ld_blt I hg hm boot_enumerate (PyProof.Rows.callWith_type1 (thn (ha.run pos pins s σ H _ I h) fun us s1 ⟨vs, H1, I1, r1, a, xs, ex, hq, q⟩ => ?_) hs rfl))⟩
  subst ex
  rw [Vals.ref1 r1]
  obtain ⟨its, rv, pt, _⟩ := I1.tuple hq
  refine enumT_call pt fun g he hit hk => wpAny_pyIter_enum he ?_
  refine ⟨s1.heap.objs.size + 1, [s1.heap.objs.size + 1, s1.heap.objs.size], _, _, H1, rfl, I1.kept (t' := s1.toks) hk, turn_enT a (s1.heap.objs.size + 1) s1.heap.objs.size, ⟨⟨.none, he⟩, hit, Nat.succ_ne_self _⟩, fun b hb => ?_, q⟩
  have hle : s1.heap.objs.size ≤ b := by
    rcases List.mem_cons.mp hb with z | z
    · rw [z]; exact Nat.le_succ _
    · rw [List.mem_singleton.mp z]; exact Nat.le_refl _
  exact I1.fpOk hle (I1.hok.fresh hle)
/-- a loop over it: Pv between the turns -/
theorem for_enumT {K : PySem.W.Frag} {a : Addr} {xs : List V} {g : TG} {tb : TS} {D : Ends} {σ : L2.St} {H : Hp} (Pv : Nat → L2.St → Hp → Prop) (h0 : Pv 0 σ H) (hq : ∀ i σ H, Pv i σ H → SqT K H a xs)
    (hs : ∀ (i : Nat) (x : V) (T : Addr) (σ : L2.St) (H : Hp), xs[i]? = some x → Pv i σ H → H T = none → g (.ref T) σ (upd H T (.tup [.int (i : Nat), x])) fun σ2 H2 => tb { D with nx := Pv (i + 1), ct := Pv (i + 1), bk := D.nx } σ2 H2) (hd : ∀ σ H, Pv xs.length σ H → D.nx σ H) :
    ∃ W : Nat → Nat → L2.St → Hp → Prop, (∃ m, W 0 m σ H) ∧ ∀ i m σ H, W i m σ H →
      ((ItEn K a).stop i H ∧ D.nx σ H) ∨ ((ItEn K a).go i H ∧ ∃ N : L2.St → Hp → Prop, (∀ σ' H', N σ' H' → ∃ m', m' < m ∧ W (i + 1) m' σ' H') ∧ ∀ v H', (ItEn K a).yld i H v H' → g v σ H' fun σ2 H2 => tb { D with nx := N, ct := N, bk := D.nx } σ2 H2) := by
  refine ⟨fun i m σ H => m = xs.length - i ∧ i ≤ xs.length ∧ Pv i σ H, ⟨xs.length, rfl, Nat.zero_le _, h0⟩, fun i m σ H ⟨em, hi, p⟩ => ?_⟩
  have qx := hq i σ H p
  rcases Nat.lt_or_ge i xs.length with lt | ge
  · have hx : xs[i]? = some xs[i] := List.getElem?_eq_getElem lt
    refine .inr ⟨⟨xs, _, qx, hx⟩, Pv (i + 1), fun σ' H' p' => ⟨xs.length - (i + 1), by omega, rfl, lt, p'⟩, fun v H' ⟨T, x, ev, hT, eH, f⟩ => ?_⟩
    subst ev eH
    exact hs i x T σ H (f xs qx) p hT
  · have e : i = xs.length := Nat.le_antisymm hi ge
    subst e
    exact .inl ⟨⟨xs, qx, Nat.le_refl _⟩, hd σ H p⟩
end Wk
set_option Elab.async false
set_option linter.all false
set_option maxRecDepth 100000
set_option maxHeartbeats 4000000
/-! What stands in the heap: tuples of texts, of pairs, webs, dicts over the bells. -/
namespace Wk
open PySem PySem.Spec PyProof.Rows L2

/-! ### dicts over some names -/
def dm (B : List Str) (f : Str → V) : List (Key × V) := B.map fun b => (Sum.inr b, f b)
theorem dm_len (B : List Str) (f : Str → V) : (dm B f).length = B.length := List.length_map ..
theorem dm_keys (B : List Str) (f : Str → V) : (dm B f).map (·.1) = B.map Sum.inr := by
  unfold dm
  rw [List.map_map]
  rfl
theorem dm_vals (B : List Str) (f : Str → V) : (dm B f).map (·.2) = B.map f := by
  unfold dm
  rw [List.map_map]
  rfl
theorem dm_at (B : List Str) (f : Str → V) (i : Nat) : (dm B f)[i]? = B[i]?.map fun b => (Sum.inr b, f b) := by
  unfold dm
  rw [List.getElem?_map]
theorem dm_congr {B : List Str} {f g : Str → V} (h : ∀ b ∈ B, f b = g b) : dm B f = dm B g := by
  unfold dm
  exact List.map_congr_left fun b hb => by rw [h b hb]
theorem valV_dm {f : Str → V} {b : Str} : ∀ {B : List Str}, b ∈ B → valV (dm B f) (Sum.inr b) = some (f b)
  | c :: B, hb => by
    by_cases e : c = b
    · subst e
      exact valV_pos (p := (Sum.inr c, f c)) rfl
    · have h1 : valV (dm (c :: B) f) (Sum.inr b) = valV (dm B f) (Sum.inr b) := valV_neg (p := (Sum.inr c, f c)) fun q => e (Sum.inr.inj q)
      rw [h1]
      exact valV_dm ((List.mem_cons.mp hb).resolve_left fun q => e q.symm)
theorem valV_dm_none {f : Str → V} {b : Str} : ∀ {B : List Str}, b ∉ B → valV (dm B f) (Sum.inr b) = none
  | [], _ => rfl
  | c :: B, hb => by
    have h1 : valV (dm (c :: B) f) (Sum.inr b) = valV (dm B f) (Sum.inr b) := valV_neg (p := (Sum.inr c, f c)) fun q => hb (by rw [Sum.inr.inj q]; exact List.mem_cons_self)
    rw [h1]
    exact valV_dm_none fun q => hb (List.mem_cons_of_mem _ q)
/-- f with b told anew -/
def at1 {β : Type} (f : Str → β) (b : Str) (v : β) : Str → β := fun x => if x = b then v else f x
theorem at1_same {β : Type} (f : Str → β) (b : Str) (v : β) : at1 f b v b = v := if_pos rfl
theorem at1_ne {β : Type} (f : Str → β) {b x : Str} (v : β) (h : x ≠ b) : at1 f b v x = f x := if_neg h
theorem putK_dm {B : List Str} {f : Str → V} {b : Str} {v : V} (hb : b ∈ B) : putK (dm B f) (Sum.inr b) v = dm B (at1 f b v) := by
  have ha : ((dm B f).any fun kv => decide (kv.1 = Sum.inr b)) = true := by
    rw [valV_any, valV_dm hb]
    rfl
  unfold putK
  rw [if_pos ha]
  unfold dm
  rw [List.map_map]
  refine List.map_congr_left fun x _ => ?_
  show (if (Sum.inr x : Key) = Sum.inr b then (_, v) else _) = _
  by_cases e : x = b
  · subst e
    rw [if_pos rfl, at1_same]
  · rw [if_neg fun q => e (Sum.inr.inj q), at1_ne f v e]
theorem putK_dm_new {B : List Str} {f : Str → V} {b : Str} {v : V} (hb : b ∉ B) : putK (dm B f) (Sum.inr b) v = dm (B ++ [b]) (at1 f b v) := by
  rw [putK_new _ (valV_dm_none hb)]
  unfold dm
  rw [List.map_append]
  congr 1
  · refine List.map_congr_left fun x hx => ?_
    rw [at1_ne f v fun e => hb (by rw [← e]; exact hx)]
  · show _ = [(Sum.inr b, at1 f b v b)]
    rw [at1_same]

/-! ### tuples of texts, of pairs -/
/-- a tuple, its object known or not -/
class Tu (u : HO) (xs : outParam (List V)) : Prop where
  is : u = .tup xs ∨ ∃ o, u = .frz o (.tup xs)
instance tuA (xs : List V) : Tu (.tup xs) xs := ⟨.inl rfl⟩
instance tuB (o : Obj) (xs : List V) : Tu (.frz o (.tup xs)) xs := ⟨.inr ⟨o, rfl⟩⟩
theorem sqT {K : PySem.W.Frag} {H : Hp} {a : Addr} {u : HO} {xs : List V} [t : Tu u xs] (h : H a = some u) : SqT K H a xs := by
  rcases t.is with e | ⟨o, e⟩
  · subst e
    exact .inl (.inl h)
  · subst e
    exact .inl (.inr ⟨o, h⟩)
theorem tyT {K : PySem.W.Frag} {H : Hp} {a : Addr} {u : HO} {xs : List V} [t : Tu u xs] (h : H a = some u) : TyX K H (.ref a) (.type "tuple") := by
  rcases t.is with e | ⟨o, e⟩
  · subst e
    exact .base (.tup h)
  · subst e
    exact .fTuple h
def StrT (H : Hp) (a : Addr) (xs : List Str) : Prop := ∃ u, Tu u (xs.map V.str) ∧ H a = some u
theorem StrT.of {H : Hp} {a : Addr} {xs : List Str} (h : H a = some (.tup (xs.map V.str))) : StrT H a xs := ⟨_, inferInstance, h⟩
theorem StrT.same {H H' : Hp} {a : Addr} {xs : List Str} (s : Same H H') (h : StrT H a xs) : StrT H' a xs := let ⟨u, i, h⟩ := h; ⟨u, i, s _ _ h⟩
theorem StrT.sq {K : PySem.W.Frag} {H : Hp} {a : Addr} {xs : List Str} (h : StrT H a xs) : SqT K H a (xs.map V.str) := let ⟨_, _, h⟩ := h; sqT h
/-- .. known, as one that a builtin made -/
def StrZ (H : Hp) (a : Addr) (xs : List Str) : Prop := ∃ o : Obj, o.cls = .type "tuple" ∧ o.dict = none ∧ H a = some (.frz o (.tup (xs.map V.str)))
theorem StrZ.t {H : Hp} {a : Addr} {xs : List Str} (h : StrZ H a xs) : StrT H a xs := let ⟨o, _, _, h⟩ := h; ⟨_, inferInstance, h⟩
theorem StrZ.same {H H' : Hp} {a : Addr} {xs : List Str} (s : Same H H') (h : StrZ H a xs) : StrZ H' a xs := let ⟨u, i, j, h⟩ := h; ⟨u, i, j, s _ _ h⟩
abbrev StrL (H : Hp) (a : Addr) (xs : List Str) : Prop := H a = some (.lst (xs.map V.str))
abbrev PairAtH (H : Hp) (p : Addr) (q : Str × Str) : Prop := H p = some (.tup [.str q.1, .str q.2])
/-- a tuple of pairs of texts -/
def PairsT (H : Hp) (e : Addr) (E : List (Str × Str)) : Prop := ∃ ps : List Addr, H e = some (.tup (ps.map V.ref)) ∧ Paired (PairAtH H) ps E
theorem Paired.same {H H' : Hp} (s : Same H H') : ∀ {ps : List Addr} {E : List (Str × Str)}, Paired (PairAtH H) ps E → Paired (PairAtH H') ps E
  | _, _, .nil => .nil
  | _, _, .cons r t => .cons (s _ _ r) (Paired.same s t)
theorem PairsT.same {H H' : Hp} {e : Addr} {E : List (Str × Str)} (s : Same H H') (p : PairsT H e E) : PairsT H' e E :=
  let ⟨ps, h, r⟩ := p
  ⟨ps, s _ _ h, Paired.same s r⟩
theorem Paired.at1 {β γ : Type} {F : β → γ → Prop} : ∀ {ps : List β} {E : List γ} {i : Nat} {p : β}, Paired F ps E → ps[i]? = some p → ∃ q, E[i]? = some q ∧ F p q
  | _, _, _, _, .nil, e => by simp at e
  | _, _, 0, _, .cons r _, e => by
    have e1 := Option.some.inj e
    rw [← e1]
    exact ⟨_, rfl, r⟩
  | _, _, i + 1, _, .cons _ t, e => Paired.at1 (i := i) t e
theorem Paired.at2 {β γ : Type} {F : β → γ → Prop} : ∀ {ps : List β} {E : List γ} {i : Nat} {q : γ}, Paired F ps E → E[i]? = some q → ∃ p, ps[i]? = some p ∧ F p q
  | _, _, _, _, .nil, e => by simp at e
  | _, _, 0, _, .cons r _, e => by
    have e1 := Option.some.inj e
    rw [← e1]
    exact ⟨_, rfl, r⟩
  | _, _, i + 1, _, .cons _ t, e => Paired.at2 (i := i) t e
theorem Paired.snoc' {β γ : Type} {F : β → γ → Prop} {p : β} {q : γ} (h : F p q) : ∀ {ps : List β} {E : List γ}, Paired F ps E → Paired F (ps ++ [p]) (E ++ [q])
  | _, _, .nil => .cons h .nil
  | _, _, .cons r t => .cons r (Paired.snoc' h t)
theorem Paired.len {β γ : Type} {F : β → γ → Prop} : ∀ {ps : List β} {E : List γ}, Paired F ps E → ps.length = E.length
  | _, _, .nil => rfl
  | _, _, .cons _ t => congrArg Nat.succ (Paired.len t)

/-! ### a web -/
theorem bw_ : ¬ (("bells" : Str) = "wakes") := by decide +kernel
def wf (b e : Addr) : List (Str × V) := putF "wakes" (.ref e) (putF "bells" (.ref b) [])
theorem wf_bells (b e : Addr) : (wf b e).lookup ("bells" : Str) = some (.ref b) := by
  unfold wf
  rw [lookup_putF, if_neg bw_, lookup_putF, if_pos rfl]
theorem wf_wakes (b e : Addr) : (wf b e).lookup ("wakes" : Str) = some (.ref e) := by
  unfold wf
  rw [lookup_putF, if_pos rfl]
/-- its class, its bells' tuple, its wakes' tuple -/
structure WebAt (C : Addr) (H : Hp) (a b : Addr) (B : List Str) (E : List (Str × Str)) : Prop where
  ob : ∃ dx e, H a = some (.ins C dx (wf b e)) ∧ PairsT H e E
  bells : StrT H b B
theorem WebAt.same {C : Addr} {H H' : Hp} {a b : Addr} {B : List Str} {E : List (Str × Str)} (s : Same H H') (w : WebAt C H a b B E) : WebAt C H' a b B E :=
  let ⟨dx, e, h, p⟩ := w.ob
  ⟨⟨dx, e, s _ _ h, p.same s⟩, w.bells.same s⟩
/-- text order -/
def ltS (a b : Str) : Prop := a.cps.toList < b.cps.toList
instance (a b : Str) : Decidable (ltS a b) := inferInstanceAs (Decidable (a.cps.toList < b.cps.toList))
/-- the numbers of things: at most twelve bells, at most so many wakes -/
structure Good (B : List Str) (E : List (Str × Str)) : Prop where
  nd : B.Nodup
  few : B.length ≤ 12
  wn : E.Nodup
  wo : Of E B
  wl : E.length ≤ 200
theorem Good.wsB {B : List Str} {E : List (Str × Str)} (g : Good B E) {a x : Str} (h : x ∈ ws E a) : x ∈ B := (g.wo _ (mem_ws.mp h)).2
theorem Good.wkB {B : List Str} {E : List (Str × Str)} (g : Good B E) {a x : Str} (h : x ∈ wk E a) : x ∈ B := (g.wo _ (mem_wk.mp h)).1

/-! ### a table of lists: for each bell a list of its own -/
def TabL (H : Hp) (d : Addr) (B : List Str) (g : Str → List Str) : Prop := ∃ la : Str → Addr, H d = some (.dK (dm B fun b => .ref (la b))) ∧ ∀ b ∈ B, StrL H (la b) (g b)
theorem TabL.same {H H' : Hp} {d : Addr} {B : List Str} {g : Str → List Str} (s : Same H H') (t : TabL H d B g) : TabL H' d B g :=
  let ⟨la, h, r⟩ := t
  ⟨la, s _ _ h, fun b hb => s _ _ (r b hb)⟩

/-! ### small facts -/
theorem inV_strs (x : Str) (ys : List Str) : inV (V.str x) (ys.map V.str) = decide (x ∈ ys) := by
  unfold inV
  rw [List.any_map]
  by_cases h : x ∈ ys
  · rw [decide_eq_true h]
    exact List.any_eq_true.mpr ⟨x, h, beq_self_eq_true x⟩
  · rw [decide_eq_false h]
    refine List.any_eq_false.mpr fun y hy e => h ?_
    have e2 : (y == x) = true := e
    rw [← eq_of_beq e2]
    exact hy
theorem str_at {ys : List Str} {i : Nat} {x : V} (h : (ys.map V.str)[i]? = some x) : ∃ y, ys[i]? = some y ∧ x = V.str y := by
  rw [List.getElem?_map] at h
  obtain ⟨y, h1, h2⟩ := Option.map_eq_some_iff.mp h
  exact ⟨y, h1, h2.symm⟩
theorem ref_at {ys : List Addr} {i : Nat} {x : V} (h : (ys.map V.ref)[i]? = some x) : ∃ y, ys[i]? = some y ∧ x = V.ref y := by
  rw [List.getElem?_map] at h
  obtain ⟨y, h1, h2⟩ := Option.map_eq_some_iff.mp h
  exact ⟨y, h1, h2.symm⟩
theorem int_at {ys : List Int} {i : Nat} {x : V} (h : (ys.map V.int)[i]? = some x) : ∃ y, ys[i]? = some y ∧ x = V.int y := by
  rw [List.getElem?_map] at h
  obtain ⟨y, h1, h2⟩ := Option.map_eq_some_iff.mp h
  exact ⟨y, h1, h2.symm⟩
theorem at_lt {α : Type} {l : List α} {i : Nat} {x : α} (h : l[i]? = some x) : i < l.length := (List.getElem?_eq_some_iff.mp h).1
theorem take_one {α : Type} {l : List α} {i : Nat} {x : α} (h : l[i]? = some x) : l.take (i + 1) = l.take i ++ [x] := by
  rw [List.take_add_one, h]
  rfl
theorem _root_.L2.Same.new {H : Hp} {p : Addr} {o : HO} (h : H p = none) : Same H (upd H p o) := fun b u e => by
  rw [upd_ne (ne_of_none e h)]
  exact e
theorem _root_.L2.Same.set {H H1 : Hp} {p : Addr} {o : HO} (s : Same H H1) (h : H p = none) : Same H (upd H1 p o) := fun b u e => by
  rw [upd_ne (ne_of_none e h)]
  exact s b u e
theorem some_ne {H : Hp} {a b : Addr} {o : HO} (h : H a = some o) (h' : H b = none) : a ≠ b := ne_of_none h h'
end Wk
set_option Elab.async false
set_option linter.all false
set_option maxRecDepth 100000
set_option maxHeartbeats 4000000
/-! dict(zip(t, u)), t and u tuples. -/
namespace Wk
open PySem
open PySem.Sem (wp)
section
variable {prog : Program} {w : World} {A : Around} {E : Value → Shared → Prop} {s : Shared}
/-- both iterators, over their tuples -/
structure Two (h : Heap) (i1 i2 l1 l2 : Addr) (k : Nat) (xs ys : Array Value) : Prop where
  a : h.IsTupleIter i1 l1 k
  b : h.IsTupleIter i2 l2 k
  x : h.IsTuple l1 xs
  y : h.IsTuple l2 ys
theorem Two.by {h h' : Heap} {i1 i2 l1 l2 : Addr} {k : Nat} {xs ys : Array Value} (t : Two h i1 i2 l1 l2 k xs ys) (e : ∀ c o, c = i1 ∨ c = i2 ∨ c = l1 ∨ c = l2 → h.get? c = some o → h'.get? c = some o) : Two h' i1 i2 l1 l2 k xs ys :=
  ⟨t.a.at fun o z => e _ o (.inl rfl) z, t.b.at fun o z => e _ o (.inr (.inl rfl)) z, Heap.IsTuple.at t.x fun o z => e _ o (.inr (.inr (.inl rfl))) z, Heap.IsTuple.at t.y fun o z => e _ o (.inr (.inr (.inr rfl))) z⟩
theorem four {p : Addr → Prop} {i1 i2 l1 l2 c : Addr} (h1 : p i1) (h2 : p i2) (h3 : p l1) (h4 : p l2) (hc : c = i1 ∨ c = i2 ∨ c = l1 ∨ c = l2) : p c := by
  rcases hc with r | r | r | r
  · rw [r]; exact h1
  · rw [r]; exact h2
  · rw [r]; exact h3
  · rw [r]; exact h4
/-- a turn while the pair told before is held: a new pair is made -/
theorem heldT_item {z TI TO T i1 i2 l1 l2 : Addr} {f : Bool} {oT : Obj} {k : Nat} {xs ys : Array Value} {x y : Value} {Q : Option Value → Shared → Prop} (D : ZipApart z TI TO i1 i2 l1 l2)
    (hz : IsZipHeld s.heap z TI TO T f) (hT : s.heap.get? T = some oT) (hTI : IsPair s.heap TI (.ref i1) (.ref i2)) (t : Two s.heap i1 i2 l1 l2 k xs ys) (hx : xs[k]? = some x) (hy : ys[k]? = some y)
    (q : ∀ g, IsZipHeld g z TI TO T true → Two g i1 i2 l1 l2 (k + 1) xs ys → IsPair g s.heap.objs.size x y → (∀ c o, c ≠ z → c ≠ i1 → c ≠ i2 → s.heap.get? c = some o → g.get? c = some o) → Q (some (.ref s.heap.objs.size)) { s with heap := g }) :
    wpAny (model prog w) A (pyNext (.ref z)) Q E s := by
  have ty : s.TypeIs (.ref z) "zip" := ⟨_, hz, rfl⟩
  unfold pyNext
  refine wpAny_bind (wpAny_attempt (wpAny_callSpecial?_slot (name := Str.ofString "__next__") ty F.slot_zip_next (wpAny_call_entry F.slot_zip_next ty F.entry_zip_next ?_ (F.args_zip_next_1 _))))
  show wpAny _ _ (field (.ref z) 2 >>= _) _ _ _
  refine wpAny_bind (wpAny_field hz rfl (x := .bool false) rfl ?_)
  show wpAny _ _ (field (.ref z) 3 >>= _) _ _ _
  refine wpAny_bind (wpAny_field hz rfl (x := .ref TI) rfl (wpAny_bind (wpAny_seqItems hTI rfl ?_)))
  show wpAny _ _ (Builtin.SmallTypes.ownedTupleIsFree (.ref z) >>= _) _ _ _
  refine wpAny_bind (wpAny_tupleHeld_zip hz hT fun g1 z1 b1 => ?_)
  have t1 := t.by (h' := g1) fun c o hc e => b1.extBut c o (four (p := fun c => c ≠ z) D.i1z D.i2z D.l1z D.l2z hc) e
  simp only [Bool.false_eq_true, if_false]
  refine wpAny_bind ?_
  rw [← Array.forIn_toList]
  simp only [List.forIn_cons, List.forIn_nil]
  refine wpAny_bind (wpAny_bind (wpAny_holding ?_))
  show wpAny _ _ (Builtin.SmallTypes.nextOf (.ref i1) >>= _) _ _ _
  refine wpAny_bind (RZ.nextOf_tuple_item (s := { s with heap := g1 }) t1.a t1.x hx fun g2 a2 b2 => wpAny_pure (wpAny_pure (wpAny_bind (wpAny_bind (wpAny_holding ?_)))))
  show wpAny _ _ (Builtin.SmallTypes.nextOf (.ref i2) >>= _) _ _ _
  refine wpAny_bind (RZ.nextOf_tuple_item (s := { s with heap := g2 }) (t1.b.extBut b2.extBut D.i12.symm) (Heap.IsTuple.at t1.y fun o e => b2.extBut _ o D.l2i1 e) hy fun g3 a3 b3 => wpAny_pure (wpAny_pure (wpAny_pure ?_)))
  show wpAny _ _ (newTuple [x, y] >>= _) _ _ _
  refine wpAny_bind (wpAny_newTuple (wpAny_pure ⟨_, rfl, wpAny_pure ?_⟩))
  have n3 : g3.objs.size = s.heap.objs.size := by rw [b3.1, b2.1, b1.1]
  have up : ∀ c o, g3.get? c = some o → (g3.push { cls := .type "tuple", data := .seq #[x, y] }).get? c = some o := fun c o e => Heap.get?_push_of_some _ e
  have k3 : ∀ c o, c ≠ z → c ≠ i1 → c ≠ i2 → s.heap.get? c = some o → g3.get? c = some o := fun c o c1 c2 c3 e => b3.extBut _ _ c3 (b2.extBut _ _ c2 (b1.extBut _ _ c1 e))
  have new : IsPair (g3.push { cls := .type "tuple", data := .seq #[x, y] }) g3.objs.size x y := Heap.get?_push_size _ rfl
  show Q (some (.ref g3.objs.size)) _
  rw [n3] at new ⊢
  exact q _ (up _ _ (b3.extBut _ _ D.i2z.symm (b2.extBut _ _ D.i1z.symm z1)))
    ⟨(a2.extBut b3.extBut D.i12).at fun o e => up _ o e, a3.at fun o e => up _ o e, Heap.IsTuple.at t.x fun o e => up _ o (k3 _ o D.l1z D.l1i1 D.l1i2 e), Heap.IsTuple.at t.y fun o e => up _ o (k3 _ o D.l2z D.l2i1 D.l2i2 e)⟩ new fun c o c1 c2 c3 e => up _ o (k3 c o c1 c2 c3 e)
/-- the end while it is held -/
theorem heldT_end {z TI TO T i1 i2 l1 l2 : Addr} {f : Bool} {oT : Obj} {k : Nat} {xs ys : Array Value} {Q : Option Value → Shared → Prop} (hh : A.handled = none) (D : ZipApart z TI TO i1 i2 l1 l2)
    (hz : IsZipHeld s.heap z TI TO T f) (hT : s.heap.get? T = some oT) (hTI : IsPair s.heap TI (.ref i1) (.ref i2)) (t : Two s.heap i1 i2 l1 l2 k xs ys) (hend : xs[k]? = none ∨ ys[k]? = none)
    (q : ∀ g, (∀ c o, c ≠ z → c ≠ i1 → c ≠ i2 → s.heap.get? c = some o → g.get? c = some o) → Q none { s with heap := g }) : wpAny (model prog w) A (pyNext (.ref z)) Q E s := by
  have ty : s.TypeIs (.ref z) "zip" := ⟨_, hz, rfl⟩
  have fin : ∀ (g : Heap) (e : Addr), (∀ c o, c ≠ z → c ≠ i1 → c ≠ i2 → s.heap.get? c = some o → g.get? c = some o) → (∃ o, g.get? e = some o ∧ o.cls = .type "StopIteration") → wpAny (model prog w) A (do
      if (← isInstance (.ref e) (.type "StopIteration")) then pure none else throw (.ref e) : Sem (Option Value)) Q E { s with heap := g } := fun g e hk ⟨o, ho, hc⟩ =>
    wpAny_bind (wpAny_isInstance (T := "StopIteration") (b := true) ⟨o, ho, hc⟩ isSubtype_stop (wpAny_pure (q _ hk)))
  unfold pyNext
  refine wpAny_bind (wpAny_attempt (wpAny_callSpecial?_slot (name := Str.ofString "__next__") ty F.slot_zip_next (wpAny_call_entry F.slot_zip_next ty F.entry_zip_next ?_ (F.args_zip_next_1 _))))
  show wpAny _ _ (field (.ref z) 2 >>= _) _ _ _
  refine wpAny_bind (wpAny_field hz rfl (x := .bool false) rfl ?_)
  show wpAny _ _ (field (.ref z) 3 >>= _) _ _ _
  refine wpAny_bind (wpAny_field hz rfl (x := .ref TI) rfl (wpAny_bind (wpAny_seqItems hTI rfl ?_)))
  show wpAny _ _ (Builtin.SmallTypes.ownedTupleIsFree (.ref z) >>= _) _ _ _
  refine wpAny_bind (wpAny_tupleHeld_zip hz hT fun g1 z1 b1 => ?_)
  have t1 := t.by (h' := g1) fun c o hc e => b1.extBut c o (four (p := fun c => c ≠ z) D.i1z D.i2z D.l1z D.l2z hc) e
  simp only [Bool.false_eq_true, if_false]
  refine wpAny_bind ?_
  rw [← Array.forIn_toList]
  simp only [List.forIn_cons, List.forIn_nil]
  refine wpAny_bind (wpAny_bind (wpAny_holding ?_))
  show wpAny _ _ (Builtin.SmallTypes.nextOf (.ref i1) >>= _) _ _ _
  cases hx : xs[k]? with
  | none =>
    refine wpAny_bind (RZ.nextOf_tuple_end (s := { s with heap := g1 }) hh t1.a t1.x hx fun g2 e b2 he => ?_)
    exact fin g2 e (fun c o c1 c2 _ u => b2 _ _ c2 (b1.extBut _ _ c1 u)) he
  | some x =>
    have hy : ys[k]? = none := hend.resolve_left (by rw [hx]; exact fun r => nomatch r)
    refine wpAny_bind (RZ.nextOf_tuple_item (s := { s with heap := g1 }) t1.a t1.x hx fun g2 a2 b2 => wpAny_pure (wpAny_pure (wpAny_bind (wpAny_bind (wpAny_holding ?_)))))
    show wpAny _ _ (Builtin.SmallTypes.nextOf (.ref i2) >>= _) _ _ _
    refine wpAny_bind (RZ.nextOf_tuple_end (s := { s with heap := g2 }) hh (t1.b.extBut b2.extBut D.i12.symm) (Heap.IsTuple.at t1.y fun o e => b2.extBut _ o D.l2i1 e) hy fun g3 e b3 he => ?_)
    exact fin g3 e (fun c o c1 c2 c3 u => b3 _ _ c3 (b2.extBut _ _ c2 (b1.extBut _ _ c1 u))) he
end
section
variable {prog : Program} {w : World}
/-- zip(t, u) as an argument of dict -/
theorem zipT_arg (z TI TO i1 i2 l1 l2 : Addr) (D : ZipApart z TI TO i1 i2 l1 l2) (xs ys : Array Value) :
    PairArg prog w "zip" z [z, TI, TO, i1, i2, l1, l2] [z, TO, i1, i2] (min xs.size ys.size) (fun i k v => xs[i]? = some k ∧ ys[i]? = some v)
      (fun h => IsZip h z TI TO .none ∧ IsPair h TI (.ref i1) (.ref i2) ∧ (∃ a b, IsPair h TO a b) ∧ Two h i1 i2 l1 l2 0 xs ys) where
  type := fun s ok => ⟨_, ok.1, rfl⟩
  notDict := by decide
  keep := fun h h' ⟨hz, hTI, ⟨a, b, hTO⟩, t⟩ hk => ⟨hk _ _ hz, hk _ _ hTI, ⟨a, b, hk _ _ hTO⟩, t.by fun c o _ e => hk c o e⟩
  there := fun h ⟨hz, hTI, ⟨a, c, hTO⟩, t⟩ b hb => by
    obtain ⟨o1, h1, _⟩ := t.a
    obtain ⟨o2, h2, _⟩ := t.b
    obtain ⟨o3, h3, _⟩ := t.x
    obtain ⟨o4, h4, _⟩ := t.y
    simp only [List.mem_cons, List.not_mem_nil, or_false] at hb
    rcases hb with r | r | r | r | r | r | r <;> rw [r]
    all_goals first | exact ⟨_, hz⟩ | exact ⟨_, h1⟩ | exact ⟨_, h2⟩ | exact ⟨_, h3⟩ | exact ⟨_, h4⟩ | exact ⟨_, hTI⟩ | exact ⟨_, hTO⟩
  sub := fun b hb => by
    simp only [List.mem_cons, List.not_mem_nil, or_false] at hb ⊢
    rcases hb with r | r | r | r <;> simp [r]
  noKeys := fun A s Q E hA ok h => getAttrOr_miss_zip ok.1 rfl rfl rfl zip_no_keys (by decide +kernel) hA h
  iter := fun A s d Q E hA ⟨hz, hTI, ⟨a, b, hTO⟩, t⟩ hd hdf h => by
    simp only [List.mem_cons, List.not_mem_nil, or_false, not_or] at hdf
    obtain ⟨dz, dTI, dTO, d1, d2, d3, d4⟩ := hdf
    refine wpAny_pyIter_zip hz (h z [z, TO, i1, i2] (fun i h => IsPair h TI (.ref i1) (.ref i2) ∧ Two h i1 i2 l1 l2 i xs ys ∧
      ((IsZip h z TI TO .none ∧ ∃ a b, IsPair h TO a b) ∨ ∃ T f oT, IsZipHeld h z TI TO T f ∧ h.get? T = some oT ∧ T ≠ z ∧ T ≠ i1 ∧ T ≠ i2 ∧ T ≠ d)) s.heap s.toks ?_ ⟨hTI, t, .inl ⟨hz, a, b, hTO⟩⟩ (fun _ _ e => e) fun b hb => .inl hb)
    refine ⟨fun hm => ?_, fun i g1 g2 ⟨pTI, t, st⟩ hk => ?_, fun i s1 Q1 E1 hi ⟨pTI, t, st⟩ hds hQ => ?_, fun s1 Q1 E1 ⟨pTI, t, st⟩ hQ => ?_⟩
    · simp only [List.mem_cons, List.not_mem_nil, or_false] at hm
      exact hm.elim dz fun r => r.elim dTO fun r => r.elim d1 d2
    · refine ⟨hk _ _ (Ne.symm dTI) pTI, t.by fun c o hc e => hk c o (four (p := fun c => c ≠ d) (Ne.symm d1) (Ne.symm d2) (Ne.symm d3) (Ne.symm d4) hc) e, ?_⟩
      · rcases st with ⟨pz, a, b, pO⟩ | ⟨T, f, oT, pz, pT, r1, r2, r3, r4⟩
        · exact .inl ⟨hk _ _ (Ne.symm dz) pz, a, b, hk _ _ (Ne.symm dTO) pO⟩
        · exact .inr ⟨T, f, oT, hk _ _ (Ne.symm dz) pz, hk _ _ r4 pT, r1, r2, r3, r4⟩
    · have ex := Array.getElem?_eq_getElem (Nat.lt_of_lt_of_le hi (Nat.min_le_left xs.size ys.size))
      have ey := Array.getElem?_eq_getElem (Nat.lt_of_lt_of_le hi (Nat.min_le_right xs.size ys.size))
      have lt : ∀ {c o}, s1.heap.get? c = some o → s1.heap.objs.size ≠ c := fun e => Nat.ne_of_gt (Heap.lt_size e)
      have m1 : s1.heap.objs.size ≠ i1 := let ⟨_, e, _⟩ := t.a; lt e
      have m2 : s1.heap.objs.size ≠ i2 := let ⟨_, e, _⟩ := t.b; lt e
      have out : ∀ {c : Addr}, c ∉ [z, TO, i1, i2] → c ≠ z ∧ c ≠ TO ∧ c ≠ i1 ∧ c ≠ i2 := fun hc => by simpa using hc
      rcases st with ⟨pz, a, b, pO⟩ | ⟨T, f, oT, pz, pT, r1, r2, r3, r4⟩
      · refine RZ.pyNext_zipT_item D pz pTI pO t.a t.b t.x t.y ex ey fun g a1 a2 a3 a4 a5 a6 hk => ?_
        refine hQ s1.heap.objs.size _ _ g s1.toks ⟨ex, ey⟩ (.inl ⟨_, a5, rfl, _, rfl⟩) ⟨hk _ _ D.TIz D.TITO D.TIi1 D.TIi2 pTI, ⟨a3, a4, Heap.IsTuple.at t.x fun o e => hk _ o D.l1z D.l1TO D.l1i1 D.l1i2 e, Heap.IsTuple.at t.y fun o e => hk _ o D.l2z D.l2TO D.l2i1 D.l2i2 e⟩,
          .inr ⟨s1.heap.objs.size, false, _, a1, a5, lt pz, m1, m2, Nat.ne_of_gt hds⟩⟩ fun c o hc e => hk c o (out hc).1 (out hc).2.1 (out hc).2.2.1 (out hc).2.2.2 e
      · refine heldT_item D pz pT pTI t ex ey fun g a1 a3 a5 hk => ?_
        exact hQ s1.heap.objs.size _ _ g s1.toks ⟨ex, ey⟩ (.inl ⟨_, a5, rfl, _, rfl⟩) ⟨hk _ _ D.TIz D.TIi1 D.TIi2 pTI, a3, .inr ⟨T, true, oT, a1, hk _ _ r1 r2 r3 pT, r1, r2, r3, r4⟩⟩ fun c o hc e => hk c o (out hc).1 (out hc).2.2.1 (out hc).2.2.2 e
    · have hend : xs[min xs.size ys.size]? = none ∨ ys[min xs.size ys.size]? = none := by
        rcases Nat.le_total xs.size ys.size with q | q
        · exact .inl (Array.getElem?_eq_none (Nat.le_of_eq (Nat.min_eq_left q).symm))
        · exact .inr (Array.getElem?_eq_none (Nat.le_of_eq (Nat.min_eq_right q).symm))
      have out : ∀ {c : Addr}, c ∉ [z, TO, i1, i2] → c ≠ z ∧ c ≠ TO ∧ c ≠ i1 ∧ c ≠ i2 := fun hc => by simpa using hc
      rcases st with ⟨pz, a, b, pO⟩ | ⟨T, f, oT, pz, pT, r1, r2, r3, r4⟩
      · exact RZ.pyNext_zipT_end hA D pz pTI pO t.a t.b t.x t.y hend fun g hk => hQ g s1.toks fun c o hc e => hk c o (out hc).1 (out hc).2.1 (out hc).2.2.1 (out hc).2.2.2 e
      · exact heldT_end hA D pz pT pTI t hend fun g hk => hQ g s1.toks fun c o hc e => hk c o (out hc).1 (out hc).2.2.1 (out hc).2.2.2 e
end
end Wk
namespace Wk
open PySem PySem.Spec PyProof.Rows L2
/-- the pairs of two lists, as entries -/
def zipK (ks : List Str) (ys : List V) : List (Key × V) := (ks.map Sum.inr).zip ys
theorem zipK_vals {ks : List Str} {ys : List V} {us ws : List Value} (r : Vals (ks.map V.str) us) (q : Vals ys ws) (hl : ks.length = ys.length) : KV (zipK ks ys) ((ks.map Sum.inr).zip ws) := by
  unfold zipK KV
  induction q generalizing ks us with
  | nil =>
    cases ks with
    | nil => exact .nil
    | cons _ _ => simp at hl
  | cons rv t ih =>
    cases ks with
    | nil => simp at hl
    | cons k ks =>
      cases r with
      | cons _ rt => exact .cons ⟨rfl, rv⟩ (ih rt (by simpa using hl))
theorem mergeK_new : ∀ (more acc : List (Key × V)), ((acc ++ more).map (·.1)).Nodup → mergeK acc more = acc ++ more
  | [], acc, _ => by simp [mergeK]
  | kv :: more, acc, h => by
    have h1 : ((acc ++ [kv] ++ more).map (·.1)).Nodup := by simpa using h
    have e : valV acc kv.1 = none := by
      cases q : valV acc kv.1 with
      | none => rfl
      | some v =>
        have hin := valV_in q
        rw [List.map_append, List.nodup_append] at h
        exact absurd rfl (h.2.2 kv.1 hin kv.1 (by simp))
    show mergeK (putK acc kv.1 kv.2) more = _
    rw [putK_new _ e, mergeK_new more _ h1]
    simp
def tDictZip (K : PySem.W.Frag) (ta : TA) : TE := fun σ H Q => ta σ H fun vs H1 => ∃ (a b : Addr) (ks : List Str) (ys : List V), vs = [.ref a, .ref b] ∧ SqT K H1 a (ks.map V.str) ∧ SqT K H1 b ys ∧ ks.length = ys.length ∧ ks.Nodup ∧ ∀ p, H1 p = none → Q (.ref p) (upd H1 p (.dK (zipK ks ys)))
theorem pe_dictZip {X : Cx} {e1 e2 : Expr} {ta : TA} {p p2 q pos : Pos} (hc : X.calm = true) (hg : Gl X "dict") (hm : X.mg "dict" = none) (hg2 : Gl X "zip") (hm2 : X.mg "zip" = none) (ha : PA X [e1, e2] ta)
    (hs : starEach [e1, e2] X.env = (false, eval e1 X.env) :: starEach [e2] X.env := by rfl) (hpl : (backTo q (starEach [e2] X.env)).any (·.1) = false := by rfl)
    (hs2 : starEach [Expr.Call (.Name "zip" p2) [e1, e2] [] q] X.env = (false, eval (Expr.Call (.Name "zip" p2) [e1, e2] [] q) X.env) :: starEach [] X.env := by rfl) :
    PE X (.Call (.Name "dict" p) [.Call (.Name "zip" p2) [e1, e2] [] q] [] pos) (tDictZip X.K ta) := by
  refine ⟨fun pins s σ H Q I h => Call_ (ld_blt I hg hm boot_dict ?_)⟩
  refine PyProof.Rows.callWith_type1 (PyProof.Rows.args_cons (Call_ (ld_blt I hg2 hm2 PyProof.Rows.boot_zip (PyProof.Rows.callWith_type1 (thn (ha.run q pins s σ H _ I h) fun us s1 ⟨vs, H1, I1, r1, a, b, ks, ys, ex, hx, hy, hl, hn, k⟩ => ?_) hs hpl))) hs2) hs2 rfl
  subst ex
  obtain ⟨u1, u2, rfl, g1, g2⟩ := vals2 r1
  cases g1
  cases g2
  obtain ⟨its, rx, px, zx⟩ := I1.tuple hx
  obtain ⟨jts, ry, py, zy⟩ := I1.tuple hy
  have lx : its.length = ks.length := by rw [← rx.length, List.length_map]
  have ly : jts.length = ys.length := ry.length.symm
  obtain ⟨_, ea, _⟩ := id px
  obtain ⟨_, eb, _⟩ := id py
  refine RZ.call_zipT px py fun g hz hTI hTO h1 h2 hsz hk => PyProof.Rows.args_nil ?_
  have D := PySem.W.ktu_apart s1.heap.objs.size a b (Heap.lt_size ea) (Heap.lt_size eb)
  refine PySem.call_dict_pairs (s := { s1 with heap := g }) (knd := mixKind X.prog X.w) (kvs := (ks.map Sum.inr).zip jts) (zipT_arg _ _ _ _ _ a b D its.toArray jts.toArray) (I1.ok.hd hc)
    ⟨hz, hTI, ⟨_, _, hTO⟩, h1, h2, Heap.IsTuple.at px fun o e => hk _ o e, Heap.IsTuple.at py fun o e => hk _ o e⟩ ⟨?_, fun i key v ⟨q1, q2⟩ => ?_⟩ ?_ fun h' tk hd' keep => ?_
  · rw [List.length_zip, List.length_map]
    simp [lx, ly]
  · have q1' : its[i]? = some key := by simpa using q1
    have q2' : jts[i]? = some v := by simpa using q2
    have hi : i < ks.length := by rw [← lx]; exact (List.getElem?_eq_some_iff.mp q1').1
    obtain ⟨w, hw, rw'⟩ := rx.get (i := i) (x := .str ks[i]) (by simp [hi])
    rw [q1'] at hw
    have ew : key = w := Option.some.inj hw
    refine ⟨Sum.inr ks[i], ?_, ?_⟩
    · rw [List.getElem?_zip_eq_some]
      exact ⟨by simp [hi], q2'⟩
    · rw [ew]
      exact kV_is (k := Sum.inr ks[i]) rw'
  · rw [List.length_map] at zx
    exact Nat.le_trans (Nat.min_le_left _ _) (by rw [List.size_toArray, lx]; exact zx)
  · have rel := zipK_vals rx ry hl
    have nd : (((zipK ks ys)).map (·.1)).Nodup := by
      unfold zipK
      rw [List.map_fst_zip (by simp [hl])]
      exact hn.map _ fun a b hab e => hab (Sum.inr.inj e)
    have em : mergeK [] (zipK ks ys) = zipK ks ys := by
      have := mergeK_new (zipK ks ys) [] (by simpa using nd)
      simpa using this
    have rel2 := KV.merge rel (.nil : KV [] [])
    rw [em] at rel2
    have hle : s1.heap.objs.size ≤ g.objs.size := by rw [hsz]; exact Nat.le_add_right _ _
    have hm' : (g.objs.size == sysModules) = false := beq_eq_false_iff_ne.mpr (Nat.ne_of_gt (Nat.lt_of_lt_of_le I1.big hle))
    have lz : (zipK ks ys).length ≤ sizeLine := by
      unfold zipK
      rw [List.length_zip, List.length_map, ← hl, Nat.min_self]
      rw [List.length_map] at zx
      exact zx
    refine ⟨.ref g.objs.size, upd H1 g.objs.size (.dK (zipK ks ys)), I1.laid (t' := tk) (fun c o e => keep c o (fun hmem => ?_) (hk c o e)) hle (dk_new lz hm' rel2 hd'), rfl, k _ (I1.hok.fresh hle)⟩
    have lt := Heap.lt_size e
    simp only [List.mem_cons, List.not_mem_nil, or_false] at hmem
    rcases hmem with r | r | r | r <;> rw [r] at lt
    · exact absurd lt (Nat.not_lt.mpr (Nat.le_add_right _ _))
    · exact absurd lt (Nat.not_lt.mpr (Nat.le_add_right _ _))
    · exact absurd lt (Nat.lt_irrefl _)
    · exact absurd lt (Nat.not_lt.mpr (Nat.le_add_right _ _))
end Wk
set_option Elab.async false
set_option linter.all false
set_option maxRecDepth 100000
set_option maxHeartbeats 4000000
/-! y = {k: v for ..}, y a local that is no name of the comprehension: the store is the comprehension's own. -/
namespace Wk
open PySem PySem.Spec PyProof.Rows L2
section
variable {X : Cx}
theorem sw_dict {kx vx : Expr} {gs : List Comprehension} {scope : Scope} {pos py : Pos} {y : Str} {l : Nat} {env : Env} (hk : env.scope.kind = .function) (hy : env.scope.names.lookup y = some .local) (hl : (py.line == pos.line) = true)
    (ha : (scope.names.any fun (n, k) => n == y && (k == .local || k == .cell)) = false) : swapsWith (.DictComp kx vx gs scope pos) (some (.Name y py)) l env = pure true := by
  have e1 : env.kindOf y = some .local := hy
  have e2 : env.blockKind = .function := by
    unfold Env.blockKind
    rw [hk]
    rfl
  unfold swapsWith
  simp only [e1, e2, ha, hl, Expr.pos]
  rfl
theorem ps_setDc {i : Nat} {y : Str} {py : Pos} {kx vx tg iter : Expr} {ifs : List Expr} {scope : Scope} {own : List (Str × Nat)} {pos spos : Pos} {wi : TI} {g : TG} {tt : TT} {tk tv : TE} (hc : X.calm = true) (hN : X.N.Nodup) (hy : X.N[i]? = some y) (hyl : X.env.scope.names.lookup y = some .local)
    (hsw : swapsWith (.DictComp kx vx [⟨tg, iter, ifs, 0⟩] scope pos) (some (.Name y py)) spos.line X.env = pure true) (hi : PI X tg iter wi) (ok : BlkOk X.N X.env.scope scope own)
    (hg : ∀ (s : Shared) (H : Hp) (C : Addr) (cl : List (Str × Addr)) (fp : List Addr), PG (X.blk s H scope (compEnvC scope cl C X.env) fp) tg g)
    (ht : ∀ (s : Shared) (H : Hp) (C : Addr) (cl : List (Str × Addr)) (fp : List Addr), PTs (X.blk s H scope (compEnvC scope cl C X.env) fp) ifs tt)
    (hk : ∀ (s : Shared) (H : Hp) (C : Addr) (cl : List (Str × Addr)) (fp : List Addr), PE (X.blk s H scope (compEnvC scope cl C X.env) fp) kx tk)
    (he : ∀ (s : Shared) (H : Hp) (C : Addr) (cl : List (Str × Addr)) (fp : List Addr), PE (X.blk s H scope (compEnvC scope cl C X.env) fp) vx tv) (hs : ∀ x, foldedSetIterable iter X.env x = pure x := by intro _; rfl) :
    PS X (.Assign [.Name y py] (.DictComp kx vx [⟨tg, iter, ifs, 0⟩] scope pos) spos) (tAsg (tDc wi g tt tk tv (own.map (·.2))) (gName i)) := by
  refine ⟨fun pins s σ H D I h => ?_⟩
  have h : tDc wi g tt tk tv (own.map (·.2)) σ H (fun x H1 => gName i x σ H1 D.nx) := h
  rw [exec_Assign_Name_used _ _ _ _ hsw]
  refine wpAny_bind (wpAny_standAt (wpAny_bind ?_))
  show wpAny _ X.A (do let _ ← comprehension (.DictComp kx vx [⟨tg, iter, ifs, 0⟩] scope pos) scope X.env (firstIterPos [⟨tg, iter, ifs, 0⟩] pos) newDict false (eval iter X.env) (some (assign (.Name y py) X.env))) _ _ s
  refine wpAny_bind (thn (dc_core (Qf := fun _ s' => SP X pins D .next s') hc hN I hi ok hg ht hk he hs h fun L C s1 m H1 I1 q hn f => ?_) fun _ s' hq => wpAny_pure (wpAny_pure hq))
  obtain ⟨f0, f1, f2, f3, f4, f5⟩ := f
  show wpAny _ _ (assign (.Name y py) X.env (.ref L)) _ _ _
  refine wpAny_assign_Name (store_ok2 (v := V.ref L) I1 hN hy (.inl hyl) rfl (fun s2 I2 ⟨a, sb, ha⟩ => ?_) (.inr hyl))
  have apart : C ≠ a := ha.elim (fun z => by rw [z]; exact f1) fun z e => f4 y a z e.symm
  exact ⟨m, hn.sameBut sb apart, fun h3 sb3 => ⟨_, H1, I2.turned (t' := s2.toks) (fun b o hb e => (sb3.2 b hb).trans e) f0 f1 f3 f4 f5, q⟩⟩
end
end Wk
set_option Elab.async false
set_option linter.all false
set_option maxRecDepth 100000
set_option maxHeartbeats 4000000
/-! A tuple that a builtin made has no dict of its own; so a method of such a tuple can be called. -/
namespace Wk
open PySem PySem.Spec PyProof.Rows L2
section
variable {X : Cx}
/-- tuple(list): the new tuple, its object told -/
theorem call_tupleZ : CallR X (.type "tuple") (fun xs H Q => ∃ p ys, xs = [.ref p] ∧ SqL X.K H p ys ∧ ∀ (l : Addr) (o : Obj), H l = none → o.cls = .type "tuple" → o.dict = none → Q (.ref l) (upd H l (.frz o (.tup ys)))) := by
  intro pins s σ H xs us Q I r ⟨p, ys, e, hq, q⟩
  subst e
  obtain ⟨u, rfl, rx⟩ := vals1 r
  cases rx
  obtain ⟨its, r', pl, hz⟩ := I.list hq
  have hlen := r'.length
  refine call_tuple_list pl.isList (fun h' kp => ?_) (by simp only [List.size_toArray] <;> omega)
  have I1 : Inv X pins σ H { s with heap := h' } := I.kept (t' := s.toks) kp
  have hnew : (h'.push { cls := .type "tuple", data := .seq its.toArray }).get? h'.objs.size = some { cls := .type "tuple", data := .seq its.toArray } := Heap.get?_push_size _ rfl
  have I2 : Inv X pins σ (upd H h'.objs.size (.frz { cls := .type "tuple", data := .seq its.toArray } (.tup ys))) { s with heap := h'.push { cls := .type "tuple", data := .seq its.toArray } } :=
    I1.laid (t' := s.toks) (fun b o e => Heap.get?_push_of_some _ e) (Nat.le_refl _) (show ObjOk X.prog X.w _ _ _ (.frz _ (.tup ys)) from ⟨hnew, hz, its, r', IsTup.new _ _⟩)
  exact ⟨.ref h'.objs.size, _, I2, rfl, q _ _ (I1.hok.fresh (Nat.le_refl _)) rfl rfl⟩
def tyZ (x : V) (H : Hp) : Prop := ∃ (p : Addr) (o : Obj) (u : HO), x = .ref p ∧ H p = some (.frz o u) ∧ o.cls = .type "tuple" ∧ o.dict = none
def tBMZ (r : V → List V → Hp → VK → Prop) (to : TE) (t : TA) : TE := fun σ H Q => to σ H fun x H1 => tyZ x H1 ∧ t σ H1 fun xs H2 => r x xs H2 Q
variable {o e : Expr} {es : List Expr} {to : TE} {t : TA} {name : Str} {apos cpos : Pos} {id : String} {r : V → List V → Hp → VK → Prop}
theorem pe_bmZ (slot : Slot "tuple" name id) (hty : typeOf (.builtin id) = pure (.type "method_descriptor")) (hm : MtR X id r) (ho : PE X o to) (ha : PA X (e :: es) t)
    (hbase : attributeBase o name X.env (eval o X.env) = eval o X.env := by rfl)
    (hfew : ((backTo cpos (starEach (e :: es) X.env)).all (fun x => !x.1) && (backToKw cpos (keywordEach [] X.env)).all (fun x => x.1.isSome)
      && decide ((e :: es).length + ([] : List Keyword).length + (if ([] : List Keyword).isEmpty then 0 else 1) < 30)) = true := by rfl)
    (hline : (apos.endLine == cpos.line) = true := by rfl) (hs : starEach (e :: es) X.env = (false, eval e X.env) :: starEach es X.env := by rfl) (hplain : (backTo cpos (starEach es X.env)).any (·.1) = false := by rfl) :
    PE X (.Call (.Attribute o name apos) (e :: es) [] cpos) (tBMZ r to t) := by
  refine ⟨fun pins s σ H Q I h => ?_⟩
  refine wpAny_Call_method_late hbase hfew hline rfl (thn (ho.run pins s σ H _ I h) fun v s1 ⟨x, H1, I1, r1, ty, q1⟩ => ?_)
  obtain ⟨p, ob, u, ex, hp, hc, hd⟩ := ty
  subst ex
  cases r1
  have hob : s1.heap.get? p = some ob := (I1.hok p _ hp).1
  refine ⟨"tuple", id, PySem.F.plainAttrs_tuple, slot, hty, ⟨ob, hob, hc⟩, fun a ea => ?_, ?_⟩
  · cases ea
    exact ⟨ob, hob, hd⟩
  have hA := ha.run cpos pins s1 σ H1 _ I1 q1
  rw [hs] at hA ⊢
  refine Calls.callWith_builtin (by show (false || (backTo cpos (starEach es X.env)).any (·.1)) = false; rw [hplain] <;> rfl) (Calls.evalArgs_plain ?_)
  exact thn hA fun us s2 ⟨vs, H2, I2, r2, q2⟩ => hm pins s2 σ H2 (.ref p) vs (.ref p) us Q I2 (show RelV (.ref p) (.ref p) from rfl) r2 q2
end
end Wk
set_option Elab.async false
set_option linter.all false
set_option maxRecDepth 100000
set_option maxHeartbeats 4000000
/-! Comprehensions that let stand what stands: their list is told. -/
namespace Wk
open PySem PySem.Spec PyProof.Rows L2
theorem walk_signs {z : Str} : Walk (Its z) (z.cps.toList.map fun c => V.str ⟨#[c]⟩).length (fun _ => True) (YAt (z.cps.toList.map fun c => V.str ⟨#[c]⟩)) := by
  have e : (z.cps.toList.map fun c => V.str ⟨#[c]⟩).length = z.cps.size := by simp
  rw [e]
  refine walk_str.mono (fun _ h => h) fun i H x H' _ _ ⟨h1, c, h2, h3⟩ => ⟨h1, ?_⟩
  rw [List.getElem?_map, Array.getElem?_toList, h2, h3]
  rfl
theorem walk_nums {n : Nat} : Walk (Itr 0 n) ((List.range n).map fun (i : Nat) => V.int (i : Int)).length (fun _ => True) (YAt ((List.range n).map fun (i : Nat) => V.int (i : Int))) := by
  have e : ((List.range n).map fun (i : Nat) => V.int (i : Int)).length = n := by simp
  rw [e]
  refine walk_range.mono (fun _ h => h) fun i H x H' hi _ ⟨h1, h2⟩ => ⟨h1, ?_⟩
  rw [List.getElem?_map, List.getElem?_range hi, h2]
  simp
/-- over things that are read: which are kept, what is made of each -/
theorem lc_over {α : Type} {J : It} {xs : List α} {v : α → V} {G : Hp → Prop} (w : Walk J (xs.map v).length G (YAt (xs.map v))) {g : TG} {tt : TT} {te : TE} {vs : List Nat} {σ : L2.St} {H1 : Hp} {D : Addr} {Qd : Hp → Prop} (P : α → Bool) (F : α → V)
    (hD : H1 D = none) (hn : xs.length < sizeLine) (hG : ∀ H, Same H1 H → G H)
    (hs : ∀ (i : Nat) (x : α) (H : Hp), xs[i]? = some x → Same H1 H → ∀ (Rt : VK) (Rf : Hp → Prop), (∀ H4, Same H H4 → P x = true → Rt (F x) H4) → (∀ H4, Same H H4 → P x = false → Rf H4) →
      g (v x) (wipe σ vs) H fun σ2 H2 => wipe σ2 vs = wipe σ vs ∧ tt σ2 H2 fun b H3 => if b = true then te σ2 H3 Rt else Rf H3)
    (hd : ∀ H, Same H1 H → H D = some (.lst ((xs.filter P).map F)) → Qd H) :
    ∃ W : Nat → Nat → Hp → Prop, (∃ m, W 0 m (upd H1 D (.lst []))) ∧ ∀ i m H, W i m H →
      (J.stop i H ∧ Qd H) ∨ (J.go i H ∧ ∃ Nx : Hp → Prop, (∀ H', Nx H' → ∃ m', m' < m ∧ W (i + 1) m' H') ∧ ∀ x H', J.yld i H x H' → g x (wipe σ vs) H' fun σ2 H2 => wipe σ2 vs = wipe σ vs ∧ tt σ2 H2 fun b H3 =>
        if b = true then te σ2 H3 fun y H4 => ∃ acc, H4 D = some (.lst acc) ∧ acc.length < sizeLine ∧ Nx (upd H4 D (.lst (acc ++ [y]))) else Nx H3) := by
  refine lc_it w (fun i H => Same H1 H ∧ H D = some (.lst (((xs.take i).filter P).map F))) ⟨Same.new hD, upd_same⟩ (fun i H _ h => hG H h.1) (fun i y H H' hi ⟨s, hl⟩ ⟨e, hy⟩ => ?_) fun H ⟨s, hl⟩ => hd H s ?_
  · subst e
    rw [List.getElem?_map] at hy
    obtain ⟨x, hx, ey⟩ := Option.map_eq_some_iff.mp hy
    subst ey
    have tk := take_one hx
    refine hs i x H' hx s _ _ (fun H4 s4 hp => ⟨_, s4 _ _ hl, ?_, (s.trans s4).set hD, ?_⟩) fun H4 s4 hp => ⟨s.trans s4, ?_⟩
    · rw [List.length_map]
      exact Nat.lt_of_le_of_lt (Nat.le_trans (List.length_filter_le _ _) (List.length_take_le' _ _)) hn
    · rw [upd_same, tk, List.filter_append, List.filter_cons, if_pos hp, List.map_append]
      rfl
    · rw [s4 _ _ hl, tk, List.filter_append, List.filter_cons, if_neg (by rw [hp]; exact Bool.false_ne_true)]
      simp
  · rw [List.length_map, List.take_length] at hl
    exact hl
/-- .. of all of them -/
theorem lc_each {α : Type} {J : It} {xs : List α} {v : α → V} {G : Hp → Prop} (w : Walk J (xs.map v).length G (YAt (xs.map v))) {g : TG} {te : TE} {vs : List Nat} {σ : L2.St} {H1 : Hp} {D : Addr} {Qd : Hp → Prop} (F : α → V)
    (hD : H1 D = none) (hn : xs.length < sizeLine) (hG : ∀ H, Same H1 H → G H)
    (hs : ∀ (i : Nat) (x : α) (H : Hp), xs[i]? = some x → Same H1 H → ∀ (Rt : VK), (∀ H4, Same H H4 → Rt (F x) H4) → g (v x) (wipe σ vs) H fun σ2 H2 => wipe σ2 vs = wipe σ vs ∧ te σ2 H2 Rt)
    (mono : ∀ x σ H Q Q', (∀ σ2 H2, Q σ2 H2 → Q' σ2 H2) → g x σ H Q → g x σ H Q')
    (hd : ∀ H, Same H1 H → H D = some (.lst (xs.map F)) → Qd H) :
    ∃ W : Nat → Nat → Hp → Prop, (∃ m, W 0 m (upd H1 D (.lst []))) ∧ ∀ i m H, W i m H →
      (J.stop i H ∧ Qd H) ∨ (J.go i H ∧ ∃ Nx : Hp → Prop, (∀ H', Nx H' → ∃ m', m' < m ∧ W (i + 1) m' H') ∧ ∀ x H', J.yld i H x H' → g x (wipe σ vs) H' fun σ2 H2 => wipe σ2 vs = wipe σ vs ∧ tYes σ2 H2 fun b H3 =>
        if b = true then te σ2 H3 fun y H4 => ∃ acc, H4 D = some (.lst acc) ∧ acc.length < sizeLine ∧ Nx (upd H4 D (.lst (acc ++ [y]))) else Nx H3) :=
  lc_over w (fun _ => true) F hD hn hG (fun i x H hx s Rt Rf ht _ => mono _ _ _ _ _ (fun σ2 H2 ⟨h1, h2⟩ => ⟨h1, (iteT h2 : if true = true then te σ2 H2 Rt else Rf H2)⟩) (hs i x H hx s Rt fun H4 s4 => ht H4 s4 rfl)) fun H s h => hd H s (by rw [List.filter_eq_self.mpr fun _ _ => rfl] at h; exact h)
theorem yesT {σ : L2.St} {H : Hp} {A B : Hp → Prop} (h : A H) : tYes σ H (fun b H3 => if b = true then A H3 else B H3) := (iteT h : if true = true then A H else B H)
theorem iteF_of {c A B : Prop} [Decidable c] (h : ¬ c) (hb : B) : if c then A else B := by
  rw [if_neg h]
  exact hb
theorem gName_mono (i : Nat) : ∀ (x : V) (σ : L2.St) (H : Hp) (Q Q' : L2.St → Hp → Prop), (∀ σ2 H2, Q σ2 H2 → Q' σ2 H2) → gName i x σ H Q → gName i x σ H Q' := fun _ _ _ _ _ h q => h _ _ q
end Wk
set_option Elab.async false
set_option linter.all false
set_option maxRecDepth 100000
set_option maxHeartbeats 4000000
/-! bounds -/
namespace Wk
open PySem PySem.Spec PyProof.Rows L2
section
variable {P : Program} {w : World} {K : PySem.W.Frag} {mg : Str → Option Value} {base : Heap}
/-! is_whole: asked of ints -/
def sp_is_whole : Sp := fun vs H Q _ => ∃ i : Int, vs = [.int i] ∧ Q (.bl true) H
theorem sc_is_whole : FnScope ["thing"] ["thing"] (defScope st_is_whole) := ⟨rfl, rfl, rfl, by decide +kernel, rfl, by decide +kernel, by decide +kernel⟩
theorem ok_is_whole (T : Txt K mg) : DefOk P w K mg base 1 "is_whole" ["thing"] sp_is_whole := by
  refine DefOk.mk' T.d_is_whole sc_is_whole (fun _ _ _ _ _ _ us hl => match us, hl with | [_], _ => rfl) (fun vs H Q E h => ?_) (fun f cdv A outer s H vs Q E hr h => ?_)
  · obtain ⟨i, rfl, _⟩ := h
    rfl
  · obtain ⟨i, rfl, k⟩ := h
    refine ⟨_, pss_one (ps_ret (pe_and (pe_callB call_isi rfl T.b_isinstance (by decide +kernel) (pa_cons (pv 0) (pa_cons (pe_bltn (v := .ty "int") rfl T.b_int_ (by decide +kernel) rfl) pa_nil)))
      (pe_one (pe_not (pe_callB call_isi rfl T.b_isinstance (by decide +kernel) (pa_cons (pv 0) (pa_cons (pe_bltn (v := .ty "bool") rfl T.b_bool (by decide +kernel) rfl) pa_nil))))))), ?_⟩
    refine ⟨_, rfl, _, _, _, _, true, rfl, .ty _, .base (.int _), kit_ty (by decide +kernel), _, rfl, ?_⟩
    exact ⟨_, rfl, _, _, _, _, false, rfl, .ty _, .base (.int _), kit_ty (by decide +kernel), _, rfl, k⟩
/-! is_within -/
def sp_is_within : Sp := fun vs H Q _ => ∃ i lo hi : Int, vs = [.int i, .int lo, .int hi] ∧ lo ≤ i ∧ i ≤ hi ∧ Q (.bl true) H
theorem sc_is_within : FnScope ["thing", "least", "most"] ["thing", "least", "most"] (defScope st_is_within) := ⟨rfl, rfl, rfl, by decide +kernel, rfl, by decide +kernel, by decide +kernel⟩
theorem ok_is_within (T : Txt K mg) : DefOk P w K mg base 2 "is_within" ["thing", "least", "most"] sp_is_within := by
  obtain ⟨f1, fd1, m1, k1, b1, G1⟩ := ok_is_whole (P := P) (w := w) (base := base) T
  refine DefOk.mk' T.d_is_within sc_is_within (fun _ _ _ _ _ _ us hl => match us, hl with | [_, _, _], _ => rfl) (fun vs H Q E h => ?_) (fun f cdv A outer s H vs Q E hr h => ?_)
  · obtain ⟨i, lo, hi, rfl, _⟩ := h
    rfl
  · obtain ⟨i, lo, hi, rfl, h1, h2, k⟩ := h
    refine ⟨_, pss_one (ps_ret (pe_and (pe_call G1 hr rfl m1 k1 b1 .nil pass0 (pa_cons (pv 0) pa_nil)) (pe_one (pe_chain op_le op_le (pv 1) (pv 0) (pv 2))))), ?_⟩
    refine ⟨_, rfl, _, rfl, _, rfl, _, rfl, _, rfl, _, _, rfl, rfl, _, rfl, ?_⟩
    rw [decide_eq_true h1, if_pos rfl]
    refine ⟨_, rfl, _, _, rfl, rfl, ?_⟩
    show Q (.bl (decide (i ≤ hi))) H
    rw [decide_eq_true h2]
    exact k
end
end Wk
set_option Elab.async false
set_option linter.all false
set_option maxRecDepth 100000
set_option maxHeartbeats 4000000
/-! webs: names, bells, wakes -/
namespace Wk
open PySem PySem.Spec PyProof.Rows L2
/-- a text of one to eight small letters -/
def NameOk (x : Str) : Prop := 1 ≤ x.length ∧ x.length ≤ 8 ∧ ∀ c ∈ x.cps.toList, c ∈ ("abcdefghijklmnopqrstuvwxyz" : Str).cps.toList
section
variable {P : Program} {w : World} {K : PySem.W.Frag} {mg : Str → Option Value} {base : Heap}
def sp_is_name : Sp := fun vs H Q _ => ∃ x : Str, vs = [.str x] ∧ NameOk x ∧ ∀ H', Same H H' → Q (.bl true) H'
theorem sc_is_name : FnScope ["thing", "sign"] ["thing"] (defScope st_is_name) := ⟨rfl, rfl, rfl, by decide +kernel, rfl, by decide +kernel, by decide +kernel⟩
theorem ok_is_name (T : Txt K mg) : DefOk P w K mg base 1 "is_name" ["thing"] sp_is_name := by
  obtain ⟨t1, m1⟩ := T.c_MOST_LETTERS
  obtain ⟨t2, m2⟩ := T.c_LETTERS
  refine DefOk.mk' T.d_is_name sc_is_name (fun _ _ _ _ _ _ us hl => match us, hl with | [_], _ => rfl) (fun vs H Q E h => ?_) (fun f cdv A outer s H vs Q E hr h => ?_)
  · obtain ⟨x, rfl, _⟩ := h
    rfl
  · obtain ⟨x, rfl, ⟨n1, n2, n3⟩, k⟩ := h
    refine ⟨_, pss_cons (ps_if (PW.pt (pw_or (pt_not (pt_val (pe_callB call_isi rfl T.b_isinstance (by decide +kernel) (pa_cons (pv 0) (pa_cons (pe_bltn (v := .ty "str") rfl T.b_str (by decide +kernel) rfl) pa_nil)))))
        (pw_or1 (pt_not (pt_chain op_le op_le pe_int (pe_callB call_len_str rfl T.b_len PySem.boot_len (pa_cons (pv 0) pa_nil)) (pe_glob (v := .int 8) rfl m1 ⟨_, rfl⟩)))))) (pss_one (ps_ret pe_bl)) pss_nil)
      (pss_one (ps_ret (pe_callB (cr_all rfl) rfl T.b_all (by decide +kernel) (pa_cons (pe_lc (own := [("sign", 1)]) (g := gName 1) (tt := tYes) rfl sc_is_name.nd (pi_str (pv 0)) (blkOk_by (N := ["thing", "sign"]) (sc := defScope st_is_name) (by decide +kernel))
        (fun _ _ _ _ _ => pg_name (i := 1) sc_is_name.nd rfl (Or.inl rfl)) (fun _ _ _ _ _ => pts_nil) (fun _ _ _ _ _ => pe_cmpR op_in_sign (pv 1) (pe_glob (v := .str "abcdefghijklmnopqrstuvwxyz") rfl m2 ⟨_, rfl⟩) rfl)) pa_nil)))), ?_⟩
    refine ⟨_, rfl, _, _, _, _, true, rfl, .ty _, .base (.str _), kit_ty (by decide +kernel), _, rfl, ?_⟩
    refine iteF ?_
    refine ⟨_, rfl, _, rfl, Nat.le_trans n2 (by decide), _, _, rfl, rfl, _, rfl, ?_⟩
    rw [decide_eq_true (show (1 : Int) ≤ (x.length : Int) by omega), if_pos rfl]
    refine ⟨_, _, rfl, rfl, _, rfl, ?_⟩
    rw [decide_eq_true (show (x.length : Int) ≤ 8 by omega)]
    refine iteF ?_
    refine ⟨_, rfl, _, rfl, fun D hD => lc_each walk_signs (fun c => .bl (decide (c ∈ ("abcdefghijklmnopqrstuvwxyz" : Str).cps.toList))) hD ?_ (fun _ _ => trivial) (fun i c H1 hc s1 Rt ht => ?_) (gName_mono 1) fun H1 s1 h1 => ?_⟩
    · simp only [Array.length_toList]
      exact Nat.lt_of_le_of_lt n2 (by decide)
    · exact ⟨rfl, _, rfl, _, _, rfl, rfl, ht _ (Same.refl _)⟩
    · refine ⟨_, (x.cps.toList.map fun c => decide (c ∈ ("abcdefghijklmnopqrstuvwxyz" : Str).cps.toList)), rfl, SqL.of (by rw [h1, List.map_map]; rfl), ?_⟩
      have e : (x.cps.toList.map fun c => decide (c ∈ ("abcdefghijklmnopqrstuvwxyz" : Str).cps.toList)).all id = true := by
        rw [List.all_map, List.all_eq_true]
        exact fun c hc => decide_eq_true (n3 c hc)
      rw [e]
      exact k _ s1

/-- rising bells, one to twelve -/
structure BellsOk (B : List Str) : Prop where
  some : 1 ≤ B.length
  few : B.length ≤ 12
  nm : ∀ x ∈ B, NameOk x
  up : B.Pairwise ltS
theorem up_at {B : List Str} (h : B.Pairwise ltS) {i : Nat} {x : Str} (hx : B[i]? = some x) (hi : 0 < i) : ∃ y, B[i - 1]? = some y ∧ ltS y x := by
  obtain ⟨h1, e1⟩ := List.getElem?_eq_some_iff.mp hx
  have h2 : i - 1 < B.length := by omega
  refine ⟨B[i - 1], List.getElem?_eq_getElem h2, ?_⟩
  rw [← e1]
  exact List.pairwise_iff_getElem.mp h (i - 1) i h2 h1 (by omega)
def sp_check_bells : Sp := fun vs H Q _ => ∃ (b : Addr) (B : List Str), vs = [.ref b] ∧ StrT H b B ∧ BellsOk B ∧ ∀ H', Same H H' → Q .non H'
theorem sc_check_bells : FnScope ["bells", "number", "name"] ["bells"] (defScope st_check_bells) := ⟨rfl, rfl, rfl, by decide +kernel, rfl, by decide +kernel, by decide +kernel⟩
theorem ok_check_bells (T : Txt K mg) : DefOk P w K mg base 2 "check_bells" ["bells"] sp_check_bells := by
  obtain ⟨t1, m1⟩ := T.c_MOST_BELLS
  obtain ⟨f1, fd1, g1, k1, b1, G1⟩ := ok_is_name (P := P) (w := w) (base := base) T
  refine DefOk.mk' T.d_check_bells sc_check_bells (fun _ _ _ _ _ _ us hl => match us, hl with | [_], _ => rfl) (fun vs H Q E h => ?_) (fun f cdv A outer s H vs Q E hr h => ?_)
  · obtain ⟨b, B, rfl, _⟩ := h
    rfl
  · obtain ⟨b, B, rfl, ⟨ub, ib, hb⟩, ok, k⟩ := h
    have nd := sc_check_bells.nd
    refine ⟨_, pss_cons (ps_if (PW.pt (pw_or (pt_not (pt_val (pe_callB call_isi rfl T.b_isinstance (by decide +kernel) (pa_cons (pv 0) (pa_cons (pe_bltn (v := .ty "tuple") rfl T.b_tuple (by decide +kernel) rfl) pa_nil)))))
        (pw_or1 (pt_not (pt_chain op_le op_le pe_int (pe_callB call_len rfl T.b_len PySem.boot_len (pa_cons (pv 0) pa_nil)) (pe_glob (v := .int 12) rfl m1 ⟨_, rfl⟩)))))) (pss_one ps_never) pss_nil)
      (pss_one (ps_for PassesOwn.never rfl (pi_enumT rfl T.b_enumerate (pa_cons (pv 0) pa_nil)) (pg_tup rfl (pgs_cons (pg_name (i := 1) nd rfl (Or.inl rfl)) (pgs_cons (pg_name (i := 2) nd rfl (Or.inl rfl)) pgs_nil)))
        (pss_one (ps_if (PW.pt (pw_or (pt_not (pt_val (pe_call G1 hr rfl g1 k1 b1 .nil pass0 (pa_cons (pv 2) pa_nil))))
          (pw_or1 (PW.pt (pw_and (pt_cmpR op_gt (pv 1) pe_int (nomark _)) (pw_and1 (pt_cmpR op_le_str (pv 2) (pe_ix ix_tup (pv 0) (pe_op op_sub (pv 1) pe_int) (fun _ _ => rfl)) (nomark _)))))))) (pss_one ps_never) pss_nil)))), ?_⟩
    refine ⟨_, rfl, _, _, _, _, true, rfl, .ty _, (tyT hb), kit_ty (by decide +kernel), _, rfl, ?_⟩
    refine iteF ?_
    have hl : (B.map V.str).length = B.length := List.length_map ..
    refine ⟨_, rfl, _, (B.length : Int).toNat, rfl, .inr ⟨_, sqT hb, by rw [hl]; simp⟩, _, _, rfl, rfl, _, rfl, ?_⟩
    have h1 := ok.some
    have h2 := ok.few
    rw [decide_eq_true (show (1 : Int) ≤ (((B.length : Int).toNat : Nat) : Int) by omega), if_pos rfl]
    refine ⟨_, _, rfl, rfl, _, rfl, ?_⟩
    rw [decide_eq_true (show (((B.length : Int).toNat : Nat) : Int) ≤ 12 by omega)]
    refine iteF ?_
    refine ⟨_, rfl, b, _, rfl, sqT hb, for_enumT (xs := B.map V.str) (fun i σ H1 => ∃ v1 v2, σ = [some (.ref b), v1, v2] ∧ Same H H1) ⟨none, none, rfl, Same.refl _⟩ (fun i σ H1 ⟨_, _, _, s1⟩ => sqT (s1 _ _ hb)) ?_ ?_⟩
    · rintro i x p σ H1 hx ⟨v1, v2, rfl, s1⟩ hp
      obtain ⟨y, hy, rfl⟩ := str_at hx
      have s2 : Same H (upd H1 p (.tup [.int (i : Nat), .str y])) := s1.trans (Same.new hp)
      refine ⟨p, _, rfl, sqT upd_same, rfl, _, _, rfl, _, _, rfl, rfl, ?_⟩
      refine ⟨_, rfl, y, rfl, ok.nm y (List.mem_of_getElem? hy), fun H3 s3 => ⟨_, rfl, ?_⟩⟩
      refine iteF ?_
      refine ⟨_, rfl, _, _, rfl, rfl, _, rfl, ?_⟩
      have s4 := s2.trans s3
      refine ite2 (fun hd => ?_) (fun hd => iteF ⟨_, _, rfl, s4⟩)
      have hi : 0 < i := by
        have := of_decide_eq_true hd
        omega
      obtain ⟨z, hz, hlt⟩ := up_at ok.up hy hi
      refine ⟨_, rfl, _, rfl, _, rfl, _, _, rfl, rfl, b, B.map V.str, _, .str z, rfl, rfl, sqT (s4 _ _ hb), at_of (j := i - 1) (by omega) (by rw [List.getElem?_map, hz]; rfl), _, _, rfl, rfl, _, rfl, ?_⟩
      rw [show decide (z.cps.toList < y.cps.toList) = true from decide_eq_true hlt]
      exact iteF ⟨_, _, rfl, s4⟩
    · rintro σ H1 ⟨v1, v2, rfl, s1⟩
      exact k H1 s1

/-! pairs -/
def sp_is_wake : Sp := fun vs H Q _ => ∃ (p b : Addr) (q : Str × Str) (B : List Str), vs = [.ref p, .ref b] ∧ PairAtH H p q ∧ StrT H b B ∧ (∀ x ∈ B, NameOk x) ∧ q.1 ∈ B ∧ q.2 ∈ B ∧ ∀ H', Same H H' → Q (.bl true) H'
theorem sc_is_wake : FnScope ["thing", "bells", "name"] ["thing", "bells"] (defScope st_is_wake) := ⟨rfl, rfl, rfl, by decide +kernel, rfl, by decide +kernel, by decide +kernel⟩
theorem ok_is_wake (T : Txt K mg) : DefOk P w K mg base 2 "is_wake" ["thing", "bells"] sp_is_wake := by
  obtain ⟨f1, fd1, g1, k1, b1, G1⟩ := ok_is_name (P := P) (w := w) (base := base) T
  refine DefOk.mk' T.d_is_wake sc_is_wake (fun _ _ _ _ _ _ us hl => match us, hl with | [_, _], _ => rfl) (fun vs H Q E h => ?_) (fun f cdv A outer s H vs Q E hr h => ?_)
  · obtain ⟨p, b, q, B, rfl, _⟩ := h
    rfl
  · obtain ⟨p, b, q, B, rfl, hp, ⟨ub, ib, hb⟩, nm, h1, h2, k⟩ := h
    have nd := sc_is_wake.nd
    refine ⟨_, pss_cons (ps_if (PW.pt (pw_or (pt_not (pt_val (pe_callB call_isi rfl T.b_isinstance (by decide +kernel) (pa_cons (pv 0) (pa_cons (pe_bltn (v := .ty "tuple") rfl T.b_tuple (by decide +kernel) rfl) pa_nil)))))
        (pw_or1 (pt_cmpR op_ne (pe_callB call_len rfl T.b_len PySem.boot_len (pa_cons (pv 0) pa_nil)) pe_int (nomark _))))) (pss_one (ps_ret pe_bl)) pss_nil)
      (pss_one (ps_ret (pe_callB (cr_all rfl) rfl T.b_all (by decide +kernel) (pa_cons (pe_lc (own := [("name", 2)]) (g := gName 2) (tt := tYes) rfl nd (pi_tup (pv 0)) (blkOk_by (N := ["thing", "bells", "name"]) (sc := defScope st_is_wake) (by decide +kernel))
        (fun _ _ _ _ _ => pg_name (i := 2) nd rfl (Or.inl rfl)) (fun _ _ _ _ _ => pts_nil) (fun _ _ _ _ _ => pe_and (pe_call G1 hr rfl g1 k1 b1 .nil pass0 (pa_cons (pv 2) pa_nil)) (pe_one (pe_cmpR (r := rIn K false) op_in_seq (pv 2) (pv 1) rfl)))) pa_nil)))), ?_⟩
    refine ⟨_, rfl, _, _, _, _, true, rfl, .ty _, (tyT hp), kit_ty (by decide +kernel), _, rfl, ?_⟩
    refine iteF ?_
    refine ⟨_, rfl, _, 2, rfl, .inr ⟨_, sqT hp, rfl⟩, rfl, _, rfl, ?_⟩
    refine iteNS rfl ?_
    refine ⟨_, rfl, p, rfl, ⟨_, sqT hp⟩, fun D hD => lc_each (xs := [q.1, q.2]) (v := V.str) walk_tup (fun x => .bl true) hD (by show 2 < sizeLine; decide) (fun H1 s1 => sqT (s1 _ _ hp)) (fun i x H1 hx s1 Rt ht => ?_) (gName_mono 2) fun H1 s1 e1 => ?_⟩
    · have hxB : x ∈ B := by
        have hm := List.mem_of_getElem? hx
        rcases List.mem_cons.mp hm with e | e
        · rw [e]; exact h1
        · rw [List.mem_singleton.mp e]; exact h2
      refine ⟨rfl, _, rfl, x, rfl, nm x hxB, fun H2 s2 => ⟨_, rfl, iteT ?_⟩⟩
      refine ⟨_, rfl, _, rfl, b, _, rfl, .inr (sqT (s2 _ _ (s1 _ _ hb))), rfl, flat_strs B, ?_⟩
      show Rt (.bl (inV (V.str x) (B.map V.str))) H2
      rw [inV_strs, decide_eq_true hxB]
      exact ht _ s2
    · exact ⟨_, [true, true], rfl, SqL.of e1, k _ s1⟩
/-- pairs in order -/
def ltP (p q : Str × Str) : Prop := ltS p.1 q.1 ∨ (p.1 = q.1 ∧ ltS p.2 q.2)
theorem ltS_irrefl (x : Str) : ¬ ltS x x := List.lt_irrefl _
theorem leS_no {p q : Str × Str} (h : ltP p q) : leS [q.1, q.2] [p.1, p.2] = false := by
  show (if decide (q.1 = p.1) = true then (if decide (q.2 = p.2) = true then _ else !decide (p.2.cps.toList < q.2.cps.toList)) else !decide (p.1.cps.toList < q.1.cps.toList)) = false
  rcases h with h | ⟨e, h⟩
  · rw [if_neg fun e => ltS_irrefl p.1 (by have e2 := of_decide_eq_true e; rw [e2] at h; exact h), decide_eq_true (show p.1.cps.toList < q.1.cps.toList from h)]
    rfl
  · rw [if_pos (decide_eq_true e.symm), if_neg fun e => ltS_irrefl p.2 (by have e2 := of_decide_eq_true e; rw [e2] at h; exact h), decide_eq_true (show p.2.cps.toList < q.2.cps.toList from h)]
    rfl
structure WakesOk (B : List Str) (E : List (Str × Str)) : Prop where
  wo : Of E B
  up : E.Pairwise ltP
theorem upP_at {B : List (Str × Str)} (h : B.Pairwise ltP) {i : Nat} {x : Str × Str} (hx : B[i]? = some x) (hi : 0 < i) : ∃ y, B[i - 1]? = some y ∧ ltP y x := by
  obtain ⟨h1, e1⟩ := List.getElem?_eq_some_iff.mp hx
  have h2 : i - 1 < B.length := by omega
  refine ⟨B[i - 1], List.getElem?_eq_getElem h2, ?_⟩
  rw [← e1]
  exact List.pairwise_iff_getElem.mp h (i - 1) i h2 h1 (by omega)
def sp_check_wakes : Sp := fun vs H Q _ => ∃ (e b : Addr) (E : List (Str × Str)) (B : List Str), vs = [.ref e, .ref b] ∧ PairsT H e E ∧ StrT H b B ∧ (∀ x ∈ B, NameOk x) ∧ WakesOk B E ∧ ∀ H', Same H H' → Q .non H'
theorem sc_check_wakes : FnScope ["wakes", "bells", "number", "wake"] ["wakes", "bells"] (defScope st_check_wakes) := ⟨rfl, rfl, rfl, by decide +kernel, rfl, by decide +kernel, by decide +kernel⟩
theorem ok_check_wakes (T : Txt K mg) : DefOk P w K mg base 3 "check_wakes" ["wakes", "bells"] sp_check_wakes := by
  obtain ⟨f1, fd1, g1, k1, b1, G1⟩ := ok_is_wake (P := P) (w := w) (base := base) T
  refine DefOk.mk' T.d_check_wakes sc_check_wakes (fun _ _ _ _ _ _ us hl => match us, hl with | [_, _], _ => rfl) (fun vs H Q E h => ?_) (fun f cdv A outer s H vs Q E' hr h => ?_)
  · obtain ⟨e, b, E, B, rfl, _⟩ := h
    rfl
  · obtain ⟨e, b, E, B, rfl, hE, ⟨ub, ib, hb⟩, nm, ok, k⟩ := h
    obtain ⟨ps, he, rel⟩ := id hE
    have nd := sc_check_wakes.nd
    have hu := hu_of hr
    refine ⟨_, pss_cons (ps_if (pt_not (pt_val (pe_callB call_isi rfl T.b_isinstance (by decide +kernel) (pa_cons (pv 0) (pa_cons (pe_bltn (v := .ty "tuple") rfl T.b_tuple (by decide +kernel) rfl) pa_nil))))) (pss_one ps_never) pss_nil)
      (pss_one (ps_for PassesOwn.never rfl (pi_enumT rfl T.b_enumerate (pa_cons (pv 0) pa_nil)) (pg_tup rfl (pgs_cons (pg_name (i := 2) nd rfl (Or.inl rfl)) (pgs_cons (pg_name (i := 3) nd rfl (Or.inl rfl)) pgs_nil)))
        (pss_one (ps_if (PW.pt (pw_or (pt_not (pt_val (pe_call G1 hr rfl g1 k1 b1 .nil pass0 (pa_cons (pv 3) (pa_cons (pv 1) pa_nil)))))
          (pw_or1 (PW.pt (pw_and (pt_cmpR op_gt (pv 2) pe_int (nomark _)) (pw_and1 (pt_cmpR (op_leS (Nat.lt_of_succ_lt hu)) (pv 3) (pe_ix ix_tup (pv 0) (pe_op op_sub (pv 2) pe_int) (fun _ _ => rfl)) (nomark _)))))))) (pss_one ps_never) pss_nil)))), ?_⟩
    refine ⟨_, rfl, _, _, _, _, true, rfl, .ty _, (tyT he), kit_ty (by decide +kernel), _, rfl, ?_⟩
    refine iteF ?_
    refine ⟨_, rfl, e, _, rfl, sqT he, for_enumT (xs := ps.map V.ref) (fun i σ H1 => ∃ v1 v2, σ = [some (.ref e), some (.ref b), v1, v2] ∧ Same H H1) ⟨none, none, rfl, Same.refl _⟩ (fun i σ H1 ⟨_, _, _, s1⟩ => sqT (s1 _ _ he)) ?_ ?_⟩
    · rintro i x p σ H1 hx ⟨v1, v2, rfl, s1⟩ hp
      obtain ⟨y, hy, rfl⟩ := ref_at hx
      obtain ⟨q, hq, hyq⟩ := Paired.at1 rel hy
      have s2 : Same H (upd H1 p (.tup [.int (i : Nat), .ref y])) := s1.trans (Same.new hp)
      have hqB := ok.wo q (List.mem_of_getElem? hq)
      refine ⟨p, _, rfl, sqT upd_same, rfl, _, _, rfl, _, _, rfl, rfl, ?_⟩
      refine ⟨_, rfl, _, rfl, y, b, q, B, rfl, s2 _ _ hyq, ⟨_, ib, s2 _ _ hb⟩, nm, hqB.1, hqB.2, fun H3 s3 => ⟨_, rfl, ?_⟩⟩
      refine iteF ?_
      refine ⟨_, rfl, _, _, rfl, rfl, _, rfl, ?_⟩
      have s4 := s2.trans s3
      refine ite2 (fun hd => ?_) (fun hd => iteF ⟨_, _, rfl, s4⟩)
      have hi : 0 < i := by
        have := of_decide_eq_true hd
        omega
      obtain ⟨q0, hq0, hlt⟩ := upP_at ok.up hq hi
      obtain ⟨y0, hy0, hyq0⟩ := Paired.at2 rel hq0
      refine ⟨_, rfl, _, rfl, _, rfl, _, _, rfl, rfl, e, ps.map V.ref, _, .ref y0, rfl, rfl, sqT (s4 _ _ he), at_of (j := i - 1) (by omega) (by rw [List.getElem?_map, hy0]; rfl), y, y0, [q.1, q.2], [q0.1, q0.2], rfl, rfl, sqT (s4 _ _ hyq), sqT (s4 _ _ hyq0), _, rfl, ?_⟩
      rw [leS_no hlt]
      exact iteF ⟨_, _, rfl, s4⟩
    · rintro σ H1 ⟨v1, v2, rfl, s1⟩
      exact k H1 s1
end
end Wk
set_option Elab.async false
set_option linter.all false
set_option maxRecDepth 100000
set_option maxHeartbeats 4000000
/-! webs: a Web is made; wanted: stands, counts -/
namespace Wk
open PySem PySem.Spec PyProof.Rows L2
section
variable {P : Program} {w : World} {K : PySem.W.Frag} {mg : Str → Option Value} {base : Heap} {C : Addr}
def sp_init (C : Addr) : Sp := fun vs H Q _ => ∃ (x dx b e : Addr) (B : List Str) (E : List (Str × Str)), vs = [.ref x, .ref b, .ref e] ∧ H x = some (.ins C dx []) ∧ StrT H b B ∧ BellsOk B ∧ PairsT H e E ∧ WakesOk B E ∧
  ∀ H', (∀ c o, H c = some o → c ≠ x → H' c = some o) → H' x = some (.ins C dx (wf b e)) → Q .non H'
theorem sc_init : FnScope ["self", "bells", "wakes"] ["self", "bells", "wakes"] (defScope st_init) := ⟨rfl, rfl, rfl, by decide +kernel, rfl, by decide +kernel, by decide +kernel⟩
theorem ok_init (T : Txt K mg) (W : WebT K mg C) {fI : Addr} {fd : FuncData} (F : FunD K "__init__" "Web.__init__" (defArgs st_init) (defBody st_init) (defScope st_init) [] [] fI fd) : FnOk P w K mg base CX0 4 fI fd ["self", "bells", "wakes"] (sp_init C) := by
  obtain ⟨f1, fd1, g1, k1, b1, G1⟩ := ok_check_bells (P := P) (w := w) (base := base) T
  obtain ⟨f2, fd2, g2, k2, b2, G2⟩ := ok_check_wakes (P := P) (w := w) (base := base) T
  refine F.ok sc_init (fun vs H Q E h => ?_) fun cdv A outer s H vs Q E' hr h => ?_
  · obtain ⟨x, dx, b, e, B, E, rfl, _⟩ := h
    rfl
  · obtain ⟨x, dx, b, e, B, E, rfl, hx, ⟨ub, ib, hb⟩, okB, he, okE, k⟩ := h
    refine ⟨_, PSs.nox (pss_cons (ps_expr (pe_call G1 (hr.mono (by decide)) rfl g1 k1 b1 .nil pass0 (pa_cons (pv 1) pa_nil))) (pss_cons (ps_expr (pe_call G2 hr rfl g2 k2 b2 .nil pass0 (pa_cons (pv 2) (pa_cons (pv 1) pa_nil))))
      (pss_cons (ps_fld (pv 0) (pv 1) rfl) (pss_one (ps_fld (pv 0) (pv 2) rfl))))), ?_⟩
    refine ⟨_, rfl, b, B, rfl, ⟨_, ib, hb⟩, okB, fun H1 s1 => ?_⟩
    refine ⟨_, rfl, _, rfl, e, b, E, B, rfl, he.same s1, ⟨_, ib, s1 _ _ hb⟩, okB.nm, okE, fun H2 s2 => ?_⟩
    have s := s1.trans s2
    refine ⟨_, rfl, _, rfl, x, C, dx, [], rfl, s _ _ hx, W.cl, W.nB, (by show 0 < 1000; decide), _, rfl, _, rfl, x, C, dx, _, rfl, upd_same, W.cl, W.nW, (by show 1 < 1000; decide), ?_⟩
    refine k _ (fun c o hc ne => ?_) upd_same
    rw [upd_ne ne, upd_ne ne]
    exact s _ _ hc

/-! check_web -/
theorem WebT.isC (W : WebT K mg C) : C8.InsC K C := ⟨W.cl, W.ha, W.hn, W.htk, W.hm, W.me⟩
def sp_check_web (C : Addr) : Sp := fun vs H Q _ => ∃ (a dx : Addr) (fs : List (Str × V)), vs = [.ref a] ∧ H a = some (.ins C dx fs) ∧ Q .non H
theorem sc_check_web : FnScope ["thing"] ["thing"] (defScope st_check_web) := ⟨rfl, rfl, rfl, by decide +kernel, rfl, by decide +kernel, by decide +kernel⟩
theorem ok_check_web (T : Txt K mg) (W : WebT K mg C) : DefOk P w K mg base 1 "check_web" ["thing"] (sp_check_web C) := by
  refine DefOk.mk' T.d_check_web sc_check_web (fun _ _ _ _ _ _ us hl => match us, hl with | [_], _ => rfl) (fun vs H Q E h => ?_) (fun f cdv A outer s H vs Q E hr h => ?_)
  · obtain ⟨a, dx, fs, rfl, _⟩ := h
    rfl
  · obtain ⟨a, dx, fs, rfl, ha, k⟩ := h
    refine ⟨_, pss_one (ps_if (pt_not (pt_val (pe_callB (C8.call_isC W.isC) rfl T.b_isinstance (by decide +kernel) (pa_cons (pv 0) (pa_cons (pe_glob (v := .ref C) rfl W.mgC rfl) pa_nil))))) (pss_one ps_never) pss_nil), ?_⟩
    exact ⟨_, rfl, a, dx, fs, rfl, ha, _, rfl, iteF k⟩

/-! is_lot: asked of rising tuples of bells -/
def sp_is_lot (C : Addr) : Sp := fun vs H Q _ => ∃ (a b t : Addr) (B : List Str) (E : List (Str × Str)) (L : List Str), vs = [.ref a, .ref t] ∧ WebAt C H a b B E ∧ StrT H t L ∧ (∀ x ∈ L, x ∈ B) ∧ L.Pairwise ltS ∧ L.length ≤ 1000 ∧ ∀ H', Same H H' → Q (.bl true) H'
theorem sc_is_lot : FnScope ["web", "thing", "name", "k"] ["web", "thing"] (defScope st_is_lot) := ⟨rfl, rfl, rfl, by decide +kernel, rfl, by decide +kernel, by decide +kernel⟩
theorem ok_is_lot (T : Txt K mg) (W : WebT K mg C) : DefOk P w K mg base 1 "is_lot" ["web", "thing"] (sp_is_lot C) := by
  refine DefOk.mk' T.d_is_lot sc_is_lot (fun _ _ _ _ _ _ us hl => match us, hl with | [_, _], _ => rfl) (fun vs H Q E h => ?_) (fun f cdv A outer s H vs Q E' hr h => ?_)
  · obtain ⟨a, b, t, B, E, L, rfl, _⟩ := h
    rfl
  · obtain ⟨a, b, t, B, E, L, rfl, hw, ⟨ut, it, ht⟩, hB, up, hl, k⟩ := h
    have nd := sc_is_lot.nd
    obtain ⟨⟨dx, e, ha, _⟩, ub, ib, hb⟩ := id hw
    have hlV : (L.map V.str).length = L.length := List.length_map ..
    refine ⟨_, pss_cons (ps_if (PW.pt (pw_or (pt_not (pt_val (pe_callB call_isi rfl T.b_isinstance (by decide +kernel) (pa_cons (pv 1) (pa_cons (pe_bltn (v := .ty "tuple") rfl T.b_tuple (by decide +kernel) rfl) pa_nil)))))
        (pw_or1 (pt_not (pt_val (pe_callB (cr_all rfl) rfl T.b_all (by decide +kernel) (pa_cons (pe_lc (own := [("name", 2)]) (g := gName 2) (tt := tYes) rfl nd (pi_tup (pv 1)) (blkOk_by (N := ["web", "thing", "name", "k"]) (sc := defScope st_is_lot) (by decide +kernel))
          (fun _ _ _ _ _ => pg_name (i := 2) nd rfl (Or.inl rfl)) (fun _ _ _ _ _ => pts_nil) (fun _ _ _ _ _ => pe_and (pe_callB (r := rIsi K) call_isi rfl T.b_isinstance (by decide +kernel) (pa_cons (pv 2) (pa_cons (pe_bltn (v := .ty "str") rfl T.b_str (by decide +kernel) rfl) pa_nil)))
            (pe_one (pe_cmpR (r := rIn K false) op_in_seq (pv 2) (pe_fld (pv 0) rfl : PE _ _ (tFld K (tVar 0) "bells")) rfl)))) pa_nil))))))) (pss_one (ps_ret pe_bl)) pss_nil)
      (pss_one (ps_ret (pe_callB (cr_all rfl) rfl T.b_all (by decide +kernel) (pa_cons (pe_lc (own := [("k", 3)]) (g := gName 3) (tt := tYes) rfl nd (pi_range1 rfl T.b_range (pa_cons (pe_op op_sub (pe_callB call_len rfl T.b_len PySem.boot_len (pa_cons (pv 1) pa_nil)) pe_int) pa_nil)) (blkOk_by (N := ["web", "thing", "name", "k"]) (sc := defScope st_is_lot) (by decide +kernel))
          (fun _ _ _ _ _ => pg_name (i := 3) nd rfl (Or.inl rfl)) (fun _ _ _ _ _ => pts_nil) (fun _ _ _ _ _ => pe_cmpR op_lt_str (pe_ix (r := rIxT K) ix_tup (pv 1) (pv 3) (fun _ _ => rfl)) (pe_ix (r := rIxT K) ix_tup (pv 1) (pe_op op_add (pv 3) pe_int) (fun _ _ => rfl)) (nomark _))) pa_nil)))), ?_⟩
    refine ⟨_, rfl, _, _, _, _, true, rfl, .ty _, (tyT ht), kit_ty (by decide +kernel), _, rfl, ?_⟩
    refine iteF ?_
    refine ⟨_, rfl, t, rfl, ⟨_, sqT ht⟩, fun D hD => lc_each (xs := L) (v := V.str) walk_tup (fun x => .bl true) hD (small1000 hl) (fun H1 s1 => sqT (s1 _ _ ht)) (fun i x H1 hx s1 Rt kt => ?_) (gName_mono 2) fun H1 s1 e1 => ?_⟩
    · refine ⟨rfl, _, rfl, _, _, _, _, true, rfl, .ty _, .base (.str _), kit_ty (by decide +kernel), _, rfl, iteT ?_⟩
      refine ⟨_, rfl, _, rfl, a, C, dx, _, _, rfl, s1 _ _ ha, W.cl, W.nB, wf_bells _ _, b, _, rfl, .inr (sqT (s1 _ _ hb)), rfl, flat_strs B, ?_⟩
      show Rt (.bl (inV (V.str x) (B.map V.str))) H1
      rw [inV_strs, decide_eq_true (hB x (List.mem_of_getElem? hx))]
      exact kt _ (Same.refl _)
    · refine ⟨_, L.map fun _ => true, rfl, SqL.of (by rw [e1, List.map_map]; rfl), _, rfl, ?_⟩
      have ea : (L.map fun _ => true).all id = true := by
        rw [List.all_map, List.all_eq_true]
        exact fun _ _ => rfl
      rw [ea]
      refine iteF ?_
      have ht1 := s1 _ _ ht
      refine ⟨_, rfl, _, L.length, rfl, .inr ⟨_, sqT ht1, hlV.symm⟩, _, _, rfl, rfl, _, rfl, by omega, by omega, fun D2 hD2 => lc_each (xs := List.range ((L.length : Int) - 1).toNat) (v := fun (i : Nat) => V.int (i : Int)) walk_nums (fun x => .bl true) hD2 ?_ (fun _ _ => trivial) (fun i z H2 hz s2 Rt kt => ?_) (gName_mono 3) fun H2 s2 e2 => ?_⟩
      · rw [List.length_range]
        exact small1000 (by omega)
      · have hz2 : z < ((L.length : Int) - 1).toNat := List.mem_range.mp (List.mem_of_getElem? hz)
        have h0 : L[z]? = some L[z] := List.getElem?_eq_getElem (by omega)
        have h1 : L[z + 1]? = some L[z + 1] := List.getElem?_eq_getElem (by omega)
        have ht2 := s2 _ _ ht1
        refine ⟨rfl, _, rfl, _, rfl, t, _, _, _, rfl, rfl, sqT ht2, at_of (j := z) rfl (by rw [List.getElem?_map, h0]; rfl), _, rfl, _, rfl, _, _, rfl, rfl, t, _, _, _, rfl, rfl, sqT ht2, at_of (j := z + 1) rfl (by rw [List.getElem?_map, h1]; rfl), _, _, rfl, rfl, ?_⟩
        have hlt : ltS L[z] L[z + 1] := List.pairwise_iff_getElem.mp up z (z + 1) (by omega) (by omega) (by omega)
        rw [show decide (L[z].cps.toList < L[z + 1].cps.toList) = true from decide_eq_true hlt]
        exact kt _ (Same.refl _)
      · refine ⟨_, (List.range ((L.length : Int) - 1).toNat).map fun _ => true, rfl, SqL.of (by rw [e2, List.map_map]; rfl), ?_⟩
        have eb : ((List.range ((L.length : Int) - 1).toNat).map fun _ => true).all id = true := by
          rw [List.all_map, List.all_eq_true]
          exact fun _ _ => rfl
        rw [eb]
        exact k _ (s1.trans s2)

/-! stand_of -/
/-- a stand as it is handed in: None, or a rising tuple of bells; the tuple that it stands for -/
def StandIn (b : Addr) (B : List Str) (x : V) (t : Addr) (L : List Str) : Prop := (x = .non ∧ t = b ∧ L = B) ∨ (x = .ref t ∧ (∀ y ∈ L, y ∈ B) ∧ L.Pairwise ltS ∧ L.length ≤ 1000)
def sp_stand_of (C : Addr) : Sp := fun vs H Q _ => ∃ (a b t : Addr) (x : V) (B : List Str) (E : List (Str × Str)) (L : List Str), vs = [.ref a, x] ∧ WebAt C H a b B E ∧ StrT H t L ∧ StandIn b B x t L ∧ ∀ H', Same H H' → Q (.ref t) H'
theorem sc_stand_of : FnScope ["web", "live"] ["web", "live"] (defScope st_stand_of) := ⟨rfl, rfl, rfl, by decide +kernel, rfl, by decide +kernel, by decide +kernel⟩
theorem ok_stand_of (T : Txt K mg) (W : WebT K mg C) : DefOk P w K mg base 2 "stand_of" ["web", "live"] (sp_stand_of C) := by
  obtain ⟨f1, fd1, g1, k1, b1, G1⟩ := ok_is_lot (P := P) (w := w) (base := base) T W
  refine DefOk.mk' T.d_stand_of sc_stand_of (fun _ _ _ _ _ _ us hl => match us, hl with | [_, _], _ => rfl) (fun vs H Q E h => ?_) (fun f cdv A outer s H vs Q E' hr h => ?_)
  · obtain ⟨a, b, t, x, B, E, L, rfl, _⟩ := h
    rfl
  · obtain ⟨a, b, t, x, B, E, L, rfl, hw, ⟨ut, it, ht⟩, hx, k⟩ := h
    obtain ⟨⟨dx, e, ha, _⟩, ub, ib, hb⟩ := id hw
    refine ⟨_, pss_cons (ps_if (pt_cmpR op_isN (pv 1) pe_non (nomark _)) (pss_one (ps_ret (pe_fld (pv 0) rfl))) pss_nil) (pss_cons (ps_if (pt_not (pt_val (pe_call G1 hr rfl g1 k1 b1 .nil pass0 (pa_cons (pv 0) (pa_cons (pv 1) pa_nil))))) (pss_one ps_never) pss_nil) (pss_one (ps_ret (pv 1)))), ?_⟩
    rcases hx with ⟨rfl, rfl, rfl⟩ | ⟨rfl, h1, h2, h3⟩
    · refine ⟨_, rfl, rfl, _, rfl, iteT ?_⟩
      exact ⟨_, rfl, a, C, dx, _, _, rfl, ha, W.cl, W.nB, wf_bells _ _, k _ (Same.refl _)⟩
    · refine ⟨_, rfl, rfl, _, rfl, iteF ?_⟩
      refine ⟨_, rfl, _, rfl, a, b, t, B, E, L, rfl, hw, ⟨_, it, ht⟩, h1, h2, h3, fun H1 s1 => ⟨_, rfl, iteF ?_⟩⟩
      exact ⟨_, rfl, k _ s1⟩

/-! check_counts -/
def sp_check_counts (C : Addr) : Sp := fun vs H Q _ => ∃ (a b c : Addr) (B : List Str) (E : List (Str × Str)) (ns : List Int), vs = [.ref a, .ref c] ∧ WebAt C H a b B E ∧ H c = some (.tup (ns.map V.int)) ∧ ns.length = B.length ∧ (∀ n ∈ ns, 0 ≤ n ∧ n ≤ 1000000000000000000000000000000) ∧ ∀ H', Same H H' → Q .non H'
theorem sc_check_counts : FnScope ["web", "counts", "number", "many"] ["web", "counts"] (defScope st_check_counts) := ⟨rfl, rfl, rfl, by decide +kernel, rfl, by decide +kernel, by decide +kernel⟩
theorem ok_check_counts (T : Txt K mg) (W : WebT K mg C) : DefOk P w K mg base 3 "check_counts" ["web", "counts"] (sp_check_counts C) := by
  obtain ⟨t1, m1⟩ := T.c_BIG
  obtain ⟨f1, fd1, g1, k1, b1, G1⟩ := ok_is_within (P := P) (w := w) (base := base) T
  refine DefOk.mk' T.d_check_counts sc_check_counts (fun _ _ _ _ _ _ us hl => match us, hl with | [_, _], _ => rfl) (fun vs H Q E h => ?_) (fun f cdv A outer s H vs Q E' hr h => ?_)
  · obtain ⟨a, b, c, B, E, ns, rfl, _⟩ := h
    rfl
  · obtain ⟨a, b, c, B, E, ns, rfl, hw, hc, hl, hn, k⟩ := h
    have nd := sc_check_counts.nd
    obtain ⟨⟨dx, e, ha, _⟩, ub, ib, hb⟩ := id hw
    refine ⟨_, pss_cons (ps_if (PW.pt (pw_or (pt_not (pt_val (pe_callB call_isi rfl T.b_isinstance (by decide +kernel) (pa_cons (pv 1) (pa_cons (pe_bltn (v := .ty "tuple") rfl T.b_tuple (by decide +kernel) rfl) pa_nil)))))
        (pw_or1 (pt_cmpR op_ne (pe_callB call_len rfl T.b_len PySem.boot_len (pa_cons (pv 1) pa_nil)) (pe_callB call_len rfl T.b_len PySem.boot_len (pa_cons (pe_fld (pv 0) rfl) pa_nil)) (nomark _))))) (pss_one ps_never) pss_nil)
      (pss_one (ps_for PassesOwn.never rfl (pi_enumT rfl T.b_enumerate (pa_cons (pv 1) pa_nil)) (pg_tup rfl (pgs_cons (pg_name (i := 2) nd rfl (Or.inl rfl)) (pgs_cons (pg_name (i := 3) nd rfl (Or.inl rfl)) pgs_nil)))
        (pss_one (ps_if (pt_not (pt_val (pe_call G1 hr rfl g1 k1 b1 .nil pass0 (pa_cons (pv 3) (pa_cons pe_int (pa_cons (pe_glob (v := .int 1000000000000000000000000000000) rfl m1 ⟨_, rfl⟩) pa_nil)))))) (pss_one ps_never) pss_nil)))), ?_⟩
    refine ⟨_, rfl, _, _, _, _, true, rfl, .ty _, (tyT hc), kit_ty (by decide +kernel), _, rfl, ?_⟩
    refine iteF ?_
    refine ⟨_, rfl, _, B.length, rfl, .inr ⟨_, sqT hc, by rw [List.length_map, hl]⟩, _, rfl, a, C, dx, _, _, rfl, ha, W.cl, W.nB, wf_bells _ _, _, B.length, rfl, .inr ⟨_, sqT hb, (List.length_map ..).symm⟩, rfl, _, rfl, ?_⟩
    refine iteNS rfl ?_
    refine ⟨_, rfl, c, _, rfl, sqT hc, for_enumT (xs := ns.map V.int) (fun i σ H1 => ∃ v1 v2, σ = [some (.ref a), some (.ref c), v1, v2] ∧ Same H H1) ⟨none, none, rfl, Same.refl _⟩ (fun i σ H1 ⟨_, _, _, s1⟩ => sqT (s1 _ _ hc)) ?_ ?_⟩
    · rintro i x p σ H1 hx ⟨v1, v2, rfl, s1⟩ hp
      obtain ⟨y, hy, rfl⟩ := int_at hx
      have s2 : Same H (upd H1 p (.tup [.int (i : Nat), .int y])) := s1.trans (Same.new hp)
      have hy2 := hn y (List.mem_of_getElem? hy)
      refine ⟨p, _, rfl, sqT upd_same, rfl, _, _, rfl, _, _, rfl, rfl, ?_⟩
      exact ⟨_, rfl, y, 0, _, rfl, hy2.1, hy2.2, _, rfl, iteF ⟨_, _, rfl, s2⟩⟩
    · rintro σ H1 ⟨v1, v2, rfl, s1⟩
      exact k H1 s1

/-! in_order -/
def sp_in_order (C : Addr) : Sp := fun vs H Q _ => ∃ (a b n : Addr) (B : List Str) (E : List (Str × Str)) (S : List Str), vs = [.ref a, .ref n] ∧ WebAt C H a b B E ∧ B.length ≤ 1000 ∧ StrL H n S ∧ ∀ H' t, Same H H' → StrT H' t (B.filter fun x => decide (x ∈ S)) → Q (.ref t) H'
theorem sc_in_order : FnScope ["web", "names", "name"] ["web", "names"] (defScope st_in_order) := ⟨rfl, rfl, rfl, by decide +kernel, rfl, by decide +kernel, by decide +kernel⟩
theorem ok_in_order (T : Txt K mg) (W : WebT K mg C) : DefOk P w K mg base 1 "in_order" ["web", "names"] (sp_in_order C) := by
  refine DefOk.mk' T.d_in_order sc_in_order (fun _ _ _ _ _ _ us hl => match us, hl with | [_, _], _ => rfl) (fun vs H Q E h => ?_) (fun f cdv A outer s H vs Q E' hr h => ?_)
  · obtain ⟨a, b, n, B, E, S, rfl, _⟩ := h
    rfl
  · obtain ⟨a, b, n, B, E, S, rfl, hw, hl, hn, k⟩ := h
    have nd := sc_in_order.nd
    obtain ⟨⟨dx, e, ha, _⟩, ub, ib, hb⟩ := id hw
    refine ⟨_, pss_one (ps_ret (pe_callTy call_tuple_of rfl T.b_tuple (by decide +kernel) (pa_cons (pe_lc (own := [("name", 2)]) (g := gName 2) rfl nd (pi_tup (pe_fld (pv 0) rfl)) (blkOk_by (N := ["web", "names", "name"]) (sc := defScope st_in_order) (by decide +kernel))
      (fun _ _ _ _ _ => pg_name (i := 2) nd rfl (Or.inl rfl)) (fun _ _ _ _ _ => pts_one (pt_cmpR (r := rIn K false) op_in_seq (pv 2) (pv 1) rfl)) (fun _ _ _ _ _ => pv 2)) pa_nil))), ?_⟩
    refine ⟨_, rfl, a, C, dx, _, _, rfl, ha, W.cl, W.nB, wf_bells _ _, b, rfl, ⟨_, sqT hb⟩, fun D hD => lc_over (xs := B) (v := V.str) walk_tup (fun x => decide (x ∈ S)) V.str hD (small1000 hl) (fun H1 s1 => sqT (s1 _ _ hb)) (fun i x H1 hx s1 Rt Rf kt kf => ?_) fun H1 s1 e1 => ?_⟩
    · refine ⟨rfl, _, rfl, _, rfl, n, _, rfl, .inl (SqL.of (s1 _ _ hn)), rfl, flat_strs S, _, rfl, ?_⟩
      show if (inV (V.str x) (S.map V.str)) = true then _ else _
      rw [inV_strs]
      refine ite2 (fun h => ⟨_, rfl, kt _ (Same.refl _) h⟩) fun h => kf _ (Same.refl _) (by cases q : decide (x ∈ S) with | true => exact absurd q h | false => rfl)
    · exact ⟨D, _, rfl, .inl ⟨SqL.of e1, fun l hl => k _ l (s1.trans (Same.new hl)) (.of upd_same)⟩⟩
end
end Wk
set_option Elab.async false
set_option linter.all false
set_option maxRecDepth 100000
set_option maxHeartbeats 4000000
/-! pulls, counts: tables of who wakes whom, a ring, how often a bell may ring. Printed by gen_kc1.py -/
namespace Wk
open PySem PySem.Spec PyProof.Rows L2
section
variable {P : Program} {w : World} {K : PySem.W.Frag} {mg : Str → Option Value} {base : Heap} {C : Addr}

/-! wakes_of: a table of lists, filled pair by pair -/
def sp_wakes_of (C : Addr) : Sp := fun vs H Q _ => ∃ (a b : Addr) (B : List Str) (E : List (Str × Str)), vs = [.ref a] ∧ WebAt C H a b B E ∧ Good B E ∧ ∀ H' d, Same H H' → TabL H' d B (ws E) → Q (.ref d) H'
theorem sc_wakes_of : FnScope ["web", "found", "one", "other", "name"] ["web"] (defScope st_wakes_of) := ⟨rfl, rfl, rfl, by decide +kernel, rfl, by decide +kernel, by decide +kernel⟩
theorem ok_wakes_of (T : Txt K mg) (W : WebT K mg C) : DefOk P w K mg base 1 "wakes_of" ["web"] (sp_wakes_of C) := by
  refine DefOk.mk' T.d_wakes_of sc_wakes_of (fun _ _ _ _ _ _ us hl => match us, hl with | [_], _ => rfl) (fun vs H Q E h => ?_) (fun f cdv A outer s H vs Q E' hr h => ?_)
  · obtain ⟨a, b, B, E, rfl, _⟩ := h
    rfl
  · obtain ⟨a, b, B, E, rfl, hw, good, k⟩ := h
    have nd := sc_wakes_of.nd
    have hu := hu_of hr
    obtain ⟨⟨dx, e, ha, ps, he, rel⟩, ub, ib, hb⟩ := id hw
    refine ⟨_, pss_cons (ps_setDc (i := 1) (own := [("name", 4)]) (g := gName 4) (tt := tYes) rfl nd rfl rfl (sw_dict rfl rfl rfl (by decide +kernel)) (pi_tup (pe_fld (pv 0) rfl)) (blkOk_by (N := ["web", "found", "one", "other", "name"]) (sc := defScope st_wakes_of) (by decide +kernel))
        (fun _ _ _ _ _ => pg_name (i := 4) nd rfl (Or.inl rfl)) (fun _ _ _ _ _ => pts_nil) (fun _ _ _ _ _ => pv 4) (fun _ _ _ _ _ => pe_lst pa_nil))
      (pss_cons (ps_for PassesOwn.never rfl (pi_tup (pe_fld (pv 0) rfl)) (pg_tup rfl (pgs_cons (pg_name (i := 2) nd rfl (Or.inl rfl)) (pgs_cons (pg_name (i := 3) nd rfl (Or.inl rfl)) pgs_nil)))
        (pss_one (ps_expr (pe_bm PySem.F.plainAttrs_list PySem.F.slot_list_append PySem.F.type_list_append mt_append (pe_dget hu (pv 1) (pv 2) (fun _ _ => rfl)) (pa_cons (pv 3) pa_nil)))))
      (pss_one (ps_ret (pv 1)))), ?_⟩
    refine ⟨_, rfl, a, C, dx, _, _, rfl, ha, W.cl, W.nB, wf_bells _ _, b, rfl, ⟨_, sqT hb⟩, fun D hD => dc_tup (xs := B.map V.str) (fun i H1 => ∃ la : Str → Addr, Same H H1 ∧ H1 D = some (.dK (dm (B.take i) fun b => .ref (la b))) ∧ (∀ b ∈ B.take i, StrL H1 (la b) [] ∧ H (la b) = none) ∧ ∀ b ∈ B.take i, ∀ c ∈ B.take i, la b = la c → b = c)
      ⟨fun _ => 0, Same.new hD, upd_same, fun b hb => absurd hb (List.not_mem_nil), fun b hb => absurd hb (List.not_mem_nil)⟩ (fun i H1 _ ⟨_, s1, _⟩ => sqT (s1 _ _ hb)) (fun i x H1 hx ⟨la, s1, hd, hl, inj⟩ => ?_) fun H1 ⟨la, s1, hd, hl, inj⟩ => ?_⟩
    · obtain ⟨y, hy, rfl⟩ := str_at hx
      refine ⟨rfl, yesT ?_⟩
      refine ⟨_, rfl, Nat.zero_le _, fun l hl0 => ?_⟩
      have hlD : D ≠ l := some_ne hd hl0
      have hyn : y ∉ B.take i := fun hm => by
        obtain ⟨j, hj⟩ := List.mem_iff_getElem?.mp hm
        have hji : j < i := Nat.lt_of_lt_of_le (at_lt hj) (List.length_take_le _ _)
        rw [List.getElem?_take_of_lt hji] at hj
        exact Nat.ne_of_lt hji (nd_ix good.nd hj hy)
      have hlb : ∀ b ∈ B.take i, la b ≠ l := fun b hb' => some_ne (hl b hb').1 hl0
      refine ⟨_, Sum.inr y, rfl, by rw [upd_ne hlD]; exact hd, small1000 ?_, at1 la y l, (s1.trans (Same.new hl0)).set hD, ?_, fun b hb' => ?_, fun b hb' c hc' => ?_⟩
      · rw [dm_len]
        have h12 := good.few
        have := List.length_take_le' i B
        omega
      · rw [upd_same, putK_dm_new hyn, take_one hy]
        refine congrArg (fun z => some (HO.dK z)) (dm_congr fun c hc => ?_)
        unfold at1
        split <;> rfl
      · rw [take_one hy] at hb'
        rcases List.mem_append.mp hb' with h1 | h1
        · have e1 : b ≠ y := fun e => hyn (by rw [← e]; exact h1)
          have e2 : la b ≠ D := ne_of (hl b h1).1 hd (fun z => nomatch z)
          rw [at1_ne la l e1]
          exact ⟨by show (upd _ D _) (la b) = _; rw [upd_ne e2, upd_ne (hlb b h1)]; exact (hl b h1).1, (hl b h1).2⟩
        · rw [List.mem_singleton.mp h1, at1_same]
          exact ⟨by show (upd _ D _) l = _; rw [upd_ne hlD.symm, upd_same]; rfl, s1.free hl0⟩
      · rw [take_one hy] at hb' hc'
        intro e
        rcases List.mem_append.mp hb' with h1 | h1 <;> rcases List.mem_append.mp hc' with h2 | h2
        · have e1 : b ≠ y := fun e => hyn (by rw [← e]; exact h1)
          have e2 : c ≠ y := fun e => hyn (by rw [← e]; exact h2)
          rw [at1_ne la l e1, at1_ne la l e2] at e
          exact inj b h1 c h2 e
        · have e1 : b ≠ y := fun e => hyn (by rw [← e]; exact h1)
          rw [List.mem_singleton.mp h2, at1_same, at1_ne la l e1] at e
          exact absurd e (hlb b h1)
        · have e2 : c ≠ y := fun e => hyn (by rw [← e]; exact h2)
          rw [List.mem_singleton.mp h1, at1_same, at1_ne la l e2] at e
          exact absurd e.symm (hlb c h2)
        · rw [List.mem_singleton.mp h1, List.mem_singleton.mp h2]
    · rw [List.length_map, List.take_length] at hd hl inj
      refine ⟨_, rfl, a, C, dx, _, _, rfl, s1 _ _ ha, W.cl, W.nW, wf_wakes _ _, e, rfl, ⟨_, sqT (s1 _ _ he)⟩, for_tup (xs := ps.map V.ref) (fun i σ H2 => ∃ v2 v3, σ = [some (.ref a), some (.ref D), v2, v3, none] ∧ Same H H2 ∧ H2 D = some (.dK (dm B fun b => .ref (la b))) ∧ ∀ b ∈ B, StrL H2 (la b) (ws (E.take i) b))
        ⟨none, none, rfl, s1, hd, fun b hb' => (hl b hb').1⟩ (fun i σ H2 _ ⟨_, _, _, s2, _⟩ => sqT (s2 _ _ he)) ?_ ?_⟩
      · rintro i x σ H2 hx ⟨v2, v3, rfl, s2, hd2, hl2⟩
        obtain ⟨p, hp, rfl⟩ := ref_at hx
        obtain ⟨⟨x1, x2⟩, hq, hpq⟩ := Paired.at1 rel hp
        have hqB := good.wo _ (List.mem_of_getElem? hq)
        have hxB : x1 ∈ B := hqB.1
        refine ⟨p, _, rfl, sqT (s2 _ _ hpq), rfl, _, _, rfl, _, _, rfl, rfl, ?_⟩
        refine ⟨_, rfl, _, rfl, D, .ref (la x1), rfl, ?_, .inl ⟨rfl, _, SqL.of (hl2 _ hxB)⟩, _, rfl, la x1, _, _, rfl, rfl, hl2 _ hxB, small1000 ?_, _, _, rfl, fun b o hb' => ?_, ?_, fun b hb' => ?_⟩
        · have := valV_dm (f := fun b => .ref (la b)) hxB
          rw [← this]
          exact DGet.k (k := Sum.inr x1) hd2
        · rw [List.length_map]
          have h1 : (ws (E.take i) x1).length ≤ (E.take i).length := by
            unfold ws
            rw [List.length_map]
            exact List.length_filter_le _ _
          have h2 := List.length_take_le' i E
          have h3 := good.wl
          omega
        · rw [upd_ne (some_ne hb' (hl _ hxB).2)]
          exact s2 _ _ hb'
        · rw [upd_ne (ne_of hd2 (hl2 _ hxB) fun z => nomatch z)]
          exact hd2
        · have eg : ws (E.take (i + 1)) b = ws (E.take i) b ++ (if x1 = b then [x2] else []) := by
            rw [take_one hq]
            unfold ws
            rw [List.filter_append, List.map_append]
            congr 1
            by_cases q : x1 = b
            · rw [if_pos q, List.filter_cons, if_pos (decide_eq_true q)]
              rfl
            · rw [if_neg q, List.filter_cons, if_neg (by rw [decide_eq_false q]; exact Bool.false_ne_true)]
              rfl
          rw [eg]
          by_cases q : x1 = b
          · subst q
            rw [if_pos rfl]
            show (upd _ _ _) _ = _
            rw [upd_same, List.map_append]
            rfl
          · rw [if_neg q, List.append_nil]
            show (upd _ _ _) _ = _
            rw [upd_ne fun e => q (inj _ hb' _ hxB e).symm]
            exact hl2 b hb'
      · rintro σ H2 ⟨v2, v3, rfl, s2, hd2, hl2⟩
        refine ⟨_, rfl, k H2 D s2 ⟨la, hd2, fun b hb' => ?_⟩⟩
        have := hl2 b hb'
        rw [List.length_map, Paired.len rel, List.take_length] at this
        exact this

/-! wakers_of: a table of lists, filled pair by pair -/
def sp_wakers_of (C : Addr) : Sp := fun vs H Q _ => ∃ (a b : Addr) (B : List Str) (E : List (Str × Str)), vs = [.ref a] ∧ WebAt C H a b B E ∧ Good B E ∧ ∀ H' d, Same H H' → TabL H' d B (wk E) → Q (.ref d) H'
theorem sc_wakers_of : FnScope ["web", "found", "one", "other", "name"] ["web"] (defScope st_wakers_of) := ⟨rfl, rfl, rfl, by decide +kernel, rfl, by decide +kernel, by decide +kernel⟩
theorem ok_wakers_of (T : Txt K mg) (W : WebT K mg C) : DefOk P w K mg base 1 "wakers_of" ["web"] (sp_wakers_of C) := by
  refine DefOk.mk' T.d_wakers_of sc_wakers_of (fun _ _ _ _ _ _ us hl => match us, hl with | [_], _ => rfl) (fun vs H Q E h => ?_) (fun f cdv A outer s H vs Q E' hr h => ?_)
  · obtain ⟨a, b, B, E, rfl, _⟩ := h
    rfl
  · obtain ⟨a, b, B, E, rfl, hw, good, k⟩ := h
    have nd := sc_wakers_of.nd
    have hu := hu_of hr
    obtain ⟨⟨dx, e, ha, ps, he, rel⟩, ub, ib, hb⟩ := id hw
    refine ⟨_, pss_cons (ps_setDc (i := 1) (own := [("name", 4)]) (g := gName 4) (tt := tYes) rfl nd rfl rfl (sw_dict rfl rfl rfl (by decide +kernel)) (pi_tup (pe_fld (pv 0) rfl)) (blkOk_by (N := ["web", "found", "one", "other", "name"]) (sc := defScope st_wakers_of) (by decide +kernel))
        (fun _ _ _ _ _ => pg_name (i := 4) nd rfl (Or.inl rfl)) (fun _ _ _ _ _ => pts_nil) (fun _ _ _ _ _ => pv 4) (fun _ _ _ _ _ => pe_lst pa_nil))
      (pss_cons (ps_for PassesOwn.never rfl (pi_tup (pe_fld (pv 0) rfl)) (pg_tup rfl (pgs_cons (pg_name (i := 2) nd rfl (Or.inl rfl)) (pgs_cons (pg_name (i := 3) nd rfl (Or.inl rfl)) pgs_nil)))
        (pss_one (ps_expr (pe_bm PySem.F.plainAttrs_list PySem.F.slot_list_append PySem.F.type_list_append mt_append (pe_dget hu (pv 1) (pv 3) (fun _ _ => rfl)) (pa_cons (pv 2) pa_nil)))))
      (pss_one (ps_ret (pv 1)))), ?_⟩
    refine ⟨_, rfl, a, C, dx, _, _, rfl, ha, W.cl, W.nB, wf_bells _ _, b, rfl, ⟨_, sqT hb⟩, fun D hD => dc_tup (xs := B.map V.str) (fun i H1 => ∃ la : Str → Addr, Same H H1 ∧ H1 D = some (.dK (dm (B.take i) fun b => .ref (la b))) ∧ (∀ b ∈ B.take i, StrL H1 (la b) [] ∧ H (la b) = none) ∧ ∀ b ∈ B.take i, ∀ c ∈ B.take i, la b = la c → b = c)
      ⟨fun _ => 0, Same.new hD, upd_same, fun b hb => absurd hb (List.not_mem_nil), fun b hb => absurd hb (List.not_mem_nil)⟩ (fun i H1 _ ⟨_, s1, _⟩ => sqT (s1 _ _ hb)) (fun i x H1 hx ⟨la, s1, hd, hl, inj⟩ => ?_) fun H1 ⟨la, s1, hd, hl, inj⟩ => ?_⟩
    · obtain ⟨y, hy, rfl⟩ := str_at hx
      refine ⟨rfl, yesT ?_⟩
      refine ⟨_, rfl, Nat.zero_le _, fun l hl0 => ?_⟩
      have hlD : D ≠ l := some_ne hd hl0
      have hyn : y ∉ B.take i := fun hm => by
        obtain ⟨j, hj⟩ := List.mem_iff_getElem?.mp hm
        have hji : j < i := Nat.lt_of_lt_of_le (at_lt hj) (List.length_take_le _ _)
        rw [List.getElem?_take_of_lt hji] at hj
        exact Nat.ne_of_lt hji (nd_ix good.nd hj hy)
      have hlb : ∀ b ∈ B.take i, la b ≠ l := fun b hb' => some_ne (hl b hb').1 hl0
      refine ⟨_, Sum.inr y, rfl, by rw [upd_ne hlD]; exact hd, small1000 ?_, at1 la y l, (s1.trans (Same.new hl0)).set hD, ?_, fun b hb' => ?_, fun b hb' c hc' => ?_⟩
      · rw [dm_len]
        have h12 := good.few
        have := List.length_take_le' i B
        omega
      · rw [upd_same, putK_dm_new hyn, take_one hy]
        refine congrArg (fun z => some (HO.dK z)) (dm_congr fun c hc => ?_)
        unfold at1
        split <;> rfl
      · rw [take_one hy] at hb'
        rcases List.mem_append.mp hb' with h1 | h1
        · have e1 : b ≠ y := fun e => hyn (by rw [← e]; exact h1)
          have e2 : la b ≠ D := ne_of (hl b h1).1 hd (fun z => nomatch z)
          rw [at1_ne la l e1]
          exact ⟨by show (upd _ D _) (la b) = _; rw [upd_ne e2, upd_ne (hlb b h1)]; exact (hl b h1).1, (hl b h1).2⟩
        · rw [List.mem_singleton.mp h1, at1_same]
          exact ⟨by show (upd _ D _) l = _; rw [upd_ne hlD.symm, upd_same]; rfl, s1.free hl0⟩
      · rw [take_one hy] at hb' hc'
        intro e
        rcases List.mem_append.mp hb' with h1 | h1 <;> rcases List.mem_append.mp hc' with h2 | h2
        · have e1 : b ≠ y := fun e => hyn (by rw [← e]; exact h1)
          have e2 : c ≠ y := fun e => hyn (by rw [← e]; exact h2)
          rw [at1_ne la l e1, at1_ne la l e2] at e
          exact inj b h1 c h2 e
        · have e1 : b ≠ y := fun e => hyn (by rw [← e]; exact h1)
          rw [List.mem_singleton.mp h2, at1_same, at1_ne la l e1] at e
          exact absurd e (hlb b h1)
        · have e2 : c ≠ y := fun e => hyn (by rw [← e]; exact h2)
          rw [List.mem_singleton.mp h1, at1_same, at1_ne la l e2] at e
          exact absurd e.symm (hlb c h2)
        · rw [List.mem_singleton.mp h1, List.mem_singleton.mp h2]
    · rw [List.length_map, List.take_length] at hd hl inj
      refine ⟨_, rfl, a, C, dx, _, _, rfl, s1 _ _ ha, W.cl, W.nW, wf_wakes _ _, e, rfl, ⟨_, sqT (s1 _ _ he)⟩, for_tup (xs := ps.map V.ref) (fun i σ H2 => ∃ v2 v3, σ = [some (.ref a), some (.ref D), v2, v3, none] ∧ Same H H2 ∧ H2 D = some (.dK (dm B fun b => .ref (la b))) ∧ ∀ b ∈ B, StrL H2 (la b) (wk (E.take i) b))
        ⟨none, none, rfl, s1, hd, fun b hb' => (hl b hb').1⟩ (fun i σ H2 _ ⟨_, _, _, s2, _⟩ => sqT (s2 _ _ he)) ?_ ?_⟩
      · rintro i x σ H2 hx ⟨v2, v3, rfl, s2, hd2, hl2⟩
        obtain ⟨p, hp, rfl⟩ := ref_at hx
        obtain ⟨⟨x1, x2⟩, hq, hpq⟩ := Paired.at1 rel hp
        have hqB := good.wo _ (List.mem_of_getElem? hq)
        have hxB : x2 ∈ B := hqB.2
        refine ⟨p, _, rfl, sqT (s2 _ _ hpq), rfl, _, _, rfl, _, _, rfl, rfl, ?_⟩
        refine ⟨_, rfl, _, rfl, D, .ref (la x2), rfl, ?_, .inl ⟨rfl, _, SqL.of (hl2 _ hxB)⟩, _, rfl, la x2, _, _, rfl, rfl, hl2 _ hxB, small1000 ?_, _, _, rfl, fun b o hb' => ?_, ?_, fun b hb' => ?_⟩
        · have := valV_dm (f := fun b => .ref (la b)) hxB
          rw [← this]
          exact DGet.k (k := Sum.inr x2) hd2
        · rw [List.length_map]
          have h1 : (wk (E.take i) x2).length ≤ (E.take i).length := by
            unfold wk
            rw [List.length_map]
            exact List.length_filter_le _ _
          have h2 := List.length_take_le' i E
          have h3 := good.wl
          omega
        · rw [upd_ne (some_ne hb' (hl _ hxB).2)]
          exact s2 _ _ hb'
        · rw [upd_ne (ne_of hd2 (hl2 _ hxB) fun z => nomatch z)]
          exact hd2
        · have eg : wk (E.take (i + 1)) b = wk (E.take i) b ++ (if x2 = b then [x1] else []) := by
            rw [take_one hq]
            unfold wk
            rw [List.filter_append, List.map_append]
            congr 1
            by_cases q : x2 = b
            · rw [if_pos q, List.filter_cons, if_pos (decide_eq_true q)]
              rfl
            · rw [if_neg q, List.filter_cons, if_neg (by rw [decide_eq_false q]; exact Bool.false_ne_true)]
              rfl
          rw [eg]
          by_cases q : x2 = b
          · subst q
            rw [if_pos rfl]
            show (upd _ _ _) _ = _
            rw [upd_same, List.map_append]
            rfl
          · rw [if_neg q, List.append_nil]
            show (upd _ _ _) _ = _
            rw [upd_ne fun e => q (inj _ hb' _ hxB e).symm]
            exact hl2 b hb'
      · rintro σ H2 ⟨v2, v3, rfl, s2, hd2, hl2⟩
        refine ⟨_, rfl, k H2 D s2 ⟨la, hd2, fun b hb' => ?_⟩⟩
        have := hl2 b hb'
        rw [List.length_map, Paired.len rel, List.take_length] at this
        exact this

/-! rung -/
theorem at_tab {H : Hp} {d : Addr} {B : List Str} {f : Str → V} {b : Str} (h : H d = some (.dK (dm B f))) (hb : b ∈ B) : DGet H d (.str b) (some (f b)) := by
  rw [← valV_dm (f := f) hb]
  exact DGet.k (k := Sum.inr b) h
theorem put_tab {H : Hp} {d : Addr} {B : List Str} {f : Str → V} {b : Str} {v : V} (h : H d = some (.dK (dm B f))) (hb : b ∈ B) (hl : B.length ≤ 1000) : DPut H d (.str b) v (upd H d (.dK (dm B (at1 f b v)))) := by
  rw [← putK_dm (f := f) (v := v) hb]
  exact DPut.k (k := Sum.inr b) h (by rw [dm_len]; exact small1000 hl)
theorem Good.k {B : List Str} {E : List (Str × Str)} (g : Good B E) : B.length ≤ 1000 := Nat.le_trans g.few (by decide)
abbrev LivD (H : Hp) (d : Addr) (B : List Str) (L : Str → Bool) : Prop := H d = some (.dK (dm B fun b => .bl (L b)))
abbrev NumD (H : Hp) (d : Addr) (B : List Str) (w : Str → Int) : Prop := H d = some (.dK (dm B fun b => .int (w b)))
def sp_rung : Sp := fun vs H Q _ => ∃ (d t : Addr) (z : Str) (B : List Str) (E : List (Str × Str)) (L : Str → Bool), vs = [.ref d, .ref t, .str z] ∧ LivD H d B L ∧ TabL H t B (ws E) ∧ Good B E ∧ z ∈ B ∧
  ∀ H', (∀ c o, H c = some o → c ≠ d → H' c = some o) → LivD H' d B (ring E L z) → Q .non H'
theorem sc_rung : FnScope ["now", "woken", "name", "other"] ["now", "woken", "name"] (defScope st_rung) := ⟨rfl, rfl, rfl, by decide +kernel, rfl, by decide +kernel, by decide +kernel⟩
theorem ok_rung (T : Txt K mg) : DefOk P w K mg base 1 "rung" ["now", "woken", "name"] sp_rung := by
  refine DefOk.mk' T.d_rung sc_rung (fun _ _ _ _ _ _ us hl => match us, hl with | [_, _, _], _ => rfl) (fun vs H Q E h => ?_) (fun f cdv A outer s H vs Q E' hr h => ?_)
  · obtain ⟨d, t, z, B, E, L, rfl, _⟩ := h
    rfl
  · obtain ⟨d, t, z, B, E, L, rfl, hd, ⟨la, ht, hla⟩, good, hz, k⟩ := h
    have nd := sc_rung.nd
    have hu := hu_of hr
    have dt : t ≠ d := fun e => by
      rw [e, hd] at ht
      have e2 : dm B (fun b => V.bl (L b)) = dm B fun b => .ref (la b) := by
        injection ht with ht
        injection ht
      have v1 := valV_dm (f := fun b => V.bl (L b)) hz
      rw [e2, valV_dm (f := fun b => V.ref (la b)) hz] at v1
      cases v1
    have dl : la z ≠ d := ne_of (hla z hz) hd (fun q => nomatch q)
    refine ⟨_, pss_cons (ps_dput hu (pv 0) (pv 2) pe_bl rfl) (pss_one (ps_for PassesOwn.never rfl (pi_list (pe_dget hu (pv 1) (pv 2) (fun _ _ => rfl))) (pg_name (i := 3) nd rfl (Or.inl rfl)) (pss_one (ps_dput hu (pv 0) (pv 3) pe_bl rfl)))), ?_⟩
    refine ⟨_, rfl, _, rfl, d, _, rfl, put_tab hd hz good.k, ?_⟩
    refine ⟨_, rfl, _, rfl, t, .ref (la z), rfl, at_tab (f := fun b => .ref (la b)) (by rw [upd_ne dt]; exact ht) hz, la z, rfl, ⟨_, SqL.of (by rw [upd_ne dl]; exact hla z hz)⟩,
      for_list (xs := (ws E z).map V.str) (fun i σ H1 => ∃ v, σ = [some (.ref d), some (.ref t), some (.str z), v] ∧ (∀ c o, H c = some o → c ≠ d → H1 c = some o) ∧ LivD H1 d B (fun x => decide (x ∈ (ws E z).take i) || (!decide (x = z) && L x)))
      ⟨none, rfl, fun c o hc ne => by rw [upd_ne ne]; exact hc, ?_⟩ (fun i σ H1 _ ⟨_, _, fr, _⟩ => SqL.of (fr _ _ (hla z hz) dl)) ?_ ?_⟩
    · show (upd _ _ _) _ = _
      rw [upd_same]
      refine congrArg (fun q => some (HO.dK q)) (dm_congr fun x _ => ?_)
      unfold at1
      by_cases e : x = z
      · subst e
        simp
      · simp [e]
    · rintro i x σ H1 hx ⟨v, rfl, fr, hd1⟩
      obtain ⟨y, hy, rfl⟩ := str_at hx
      have hyB : y ∈ B := good.wsB (List.mem_of_getElem? hy)
      refine ⟨_, rfl, _, rfl, d, _, rfl, put_tab hd1 hyB good.k, _, rfl, fun c o hc ne => by rw [upd_ne ne]; exact fr c o hc ne, ?_⟩
      show (upd _ _ _) _ = _
      rw [upd_same]
      refine congrArg (fun q => some (HO.dK q)) (dm_congr fun x _ => ?_)
      rw [take_one hy]
      unfold at1
      by_cases e : x = y
      · subst e
        simp
      · simp [e]
    · rintro σ H1 ⟨v, rfl, fr, hd1⟩
      refine k H1 fr ?_
      rw [List.length_map, List.take_length] at hd1
      exact hd1

/-! let -/
def sp_let : Sp := fun vs H Q _ => ∃ (d t : Addr) (z : Str) (l : Bool) (B : List Str) (E : List (Str × Str)) (w : Str → Int), vs = [.ref d, .ref t, .str z, .bl l] ∧ NumD H d B w ∧ TabL H t B (wk E) ∧ Good B E ∧ z ∈ B ∧
  ∀ H', Same H H' → Q (.int (one l + tot w (wk E z))) H'
theorem sc_let : FnScope ["wished", "wakers", "name", "is_live", "waker"] ["wished", "wakers", "name", "is_live"] (defScope st_let_) := ⟨rfl, rfl, rfl, by decide +kernel, rfl, by decide +kernel, by decide +kernel⟩
theorem ok_let (T : Txt K mg) : DefOk P w K mg base 1 "let" ["wished", "wakers", "name", "is_live"] sp_let := by
  refine DefOk.mk' T.d_let_ sc_let (fun _ _ _ _ _ _ us hl => match us, hl with | [_, _, _, _], _ => rfl) (fun vs H Q E h => ?_) (fun f cdv A outer s H vs Q E' hr h => ?_)
  · obtain ⟨d, t, z, l, B, E, w, rfl, _⟩ := h
    rfl
  · obtain ⟨d, t, z, l, B, E, w, rfl, hd, ⟨la, ht, hla⟩, good, hz, k⟩ := h
    have nd := sc_let.nd
    have hu := hu_of hr
    refine ⟨_, pss_one (ps_ret (pe_op op_add (pe_callTy call_int1 rfl T.b_int_ (by decide +kernel) (pa_cons (pv 3) pa_nil)) (pe_callB (cr_sum rfl) rfl T.b_sum (by decide +kernel) (pa_cons (pe_lc (own := [("waker", 4)]) (g := gName 4) (tt := tYes) rfl nd (pi_list (pe_dget hu (pv 1) (pv 2) (fun _ _ => rfl)))
      (blkOk_by (N := ["wished", "wakers", "name", "is_live", "waker"]) (sc := defScope st_let_) (by decide +kernel)) (fun _ _ _ _ _ => pg_name (i := 4) nd rfl (Or.inl rfl)) (fun _ _ _ _ _ => pts_nil) (fun _ _ _ _ _ => pe_dget hu (pv 0) (pv 4) (fun _ _ => rfl))) pa_nil)))), ?_⟩
    refine ⟨_, rfl, .inr ⟨l, rfl, ?_⟩⟩
    refine ⟨_, rfl, _, rfl, t, .ref (la z), rfl, at_tab (f := fun b => .ref (la b)) ht hz, la z, rfl, ⟨_, SqL.of (hla z hz)⟩, fun D hD => lc_each (xs := wk E z) (v := V.str) walk_list (fun x => .int (w x)) hD (small1000 ?_) (fun H1 s1 => SqL.of (s1 _ _ (hla z hz))) (fun i x H1 hx s1 Rt kt => ?_) (gName_mono 4) fun H1 s1 e1 => ?_⟩
    · have h1 : (wk E z).length ≤ E.length := by
        unfold wk
        rw [List.length_map]
        exact List.length_filter_le _ _
      have := good.wl
      omega
    · have hxB : x ∈ B := good.wkB (List.mem_of_getElem? hx)
      exact ⟨rfl, _, rfl, _, rfl, d, .int (w x), rfl, at_tab (f := fun b => .int (w b)) (s1 _ _ hd) hxB, kt _ (Same.refl _)⟩
    · refine ⟨_, (wk E z).map w, rfl, SqL.of (by rw [e1, List.map_map]; rfl), _, _, rfl, rfl, ?_⟩
      exact k _ s1
end
end Wk
set_option Elab.async false
set_option linter.all false
set_option maxRecDepth 100000
set_option maxHeartbeats 4000000
/-! counts: who is come to, what bars -/
namespace Wk
open PySem PySem.Spec PyProof.Rows L2
section
variable {P : Program} {w : World} {K : PySem.W.Frag} {mg : Str → Option Value} {base : Heap} {C : Addr}
theorem nodup_len {α : Type} [DecidableEq α] : ∀ {S B : List α}, S.Nodup → (∀ x ∈ S, x ∈ B) → S.length ≤ B.length
  | [], _, _, _ => Nat.zero_le _
  | x :: S, B, h, hB => by
    obtain ⟨h1, h2⟩ := List.nodup_cons.mp h
    have ih := nodup_len (S := S) (B := B.erase x) h2 fun y hy => (List.mem_erase_of_ne (fun e => h1 (by rw [← e]; exact hy))).mpr (hB y (List.mem_cons_of_mem _ hy))
    have hx := hB x List.mem_cons_self
    have hl := List.length_erase_of_mem hx
    have hp := List.length_pos_of_mem hx
    rw [List.length_cons]
    omega
/-- the slot of a while's place -/
def placeOf (n : Nat) (σ : L2.St) (i : Nat) : Nat := match σ[i]? with
  | some (some (.int z)) => n - z.toNat
  | _ => 0
def sp_come_by (C : Addr) : Sp := fun vs H Q _ => ∃ (a b t d : Addr) (B : List Str) (E : List (Str × Str)) (L : List Str) (w : Str → Int), vs = [.ref a, .ref t, .ref d] ∧ WebAt C H a b B E ∧ Good B E ∧ StrT H t L ∧ NumD H d B w ∧
  ∀ H' f S, Same H H' → StrL H' f S → (∀ x ∈ B, x ∈ L → 0 < w x → x ∈ S) → (∀ a ∈ S, ∀ x ∈ ws E a, 0 < w x → x ∈ S) → Q (.ref f) H'
theorem sc_come_by : FnScope ["web", "live", "wished", "woken", "name", "found", "at"] ["web", "live", "wished"] (defScope st_come_by) := ⟨rfl, rfl, rfl, by decide +kernel, rfl, by decide +kernel, by decide +kernel⟩
theorem ok_come_by (T : Txt K mg) (W : WebT K mg C) : DefOk P w K mg base 2 "come_by" ["web", "live", "wished"] (sp_come_by C) := by
  obtain ⟨f1, fd1, g1, k1, b1, G1⟩ := ok_wakes_of (P := P) (w := w) (base := base) T W
  refine DefOk.mk' T.d_come_by sc_come_by (fun _ _ _ _ _ _ us hl => match us, hl with | [_, _, _], _ => rfl) (fun vs H Q E h => ?_) (fun f cdv A outer s H vs Q E' hr h => ?_)
  · obtain ⟨a, b, t, d, B, E, L, w, rfl, _⟩ := h
    rfl
  · obtain ⟨a, b, t, d, B, E, L, w, rfl, hw, good, ⟨ut, it, ht⟩, hd, k⟩ := h
    have nd := sc_come_by.nd
    have hu := hu_of hr
    refine ⟨_, pss_cons (ps_set (i := 3) nd rfl (Or.inl rfl) (pe_call G1 hr rfl g1 k1 b1 .nil pass0 (pa_cons (pv 0) pa_nil)))
      (pss_cons (ps_setLc (i := 5) (own := [("name", 4)]) (g := gName 4) rfl nd rfl rfl (sw_true rfl rfl rfl (by decide +kernel)) (pi_tup (pe_fld (pv 0) rfl)) (blkOk_by (N := ["web", "live", "wished", "woken", "name", "found", "at"]) (sc := defScope st_come_by) (by decide +kernel))
        (fun _ _ _ _ _ => pg_name (i := 4) nd rfl (Or.inl rfl)) (fun _ _ _ _ _ => pts_one (PW.pt (pw_and (pt_cmpR (r := rIn K false) op_in_seq (pv 4) (pv 1) rfl) (pw_and1 (pt_cmpR op_gt (pe_dget hu (pv 2) (pv 4) (fun _ _ => rfl)) pe_int (nomark _)))))) (fun _ _ _ _ _ => pv 4))
      (pss_cons (ps_set (i := 6) nd rfl (Or.inl rfl) pe_int)
      (pss_cons (ps_while PassesOwn.never (pt_cmpR op_lt (pv 6) (pe_callB call_len rfl T.b_len PySem.boot_len (pa_cons (pv 5) pa_nil)) (nomark _))
        (pss_cons (ps_for PassesOwn.never rfl (pi_list (pe_dget hu (pv 3) (pe_ix ix_list (pv 5) (pv 6) (fun _ _ => rfl)) (fun _ _ => rfl))) (pg_name (i := 4) nd rfl (Or.inl rfl))
          (pss_one (ps_if (PW.pt (pw_and (pt_cmpR op_gt (pe_dget hu (pv 2) (pv 4) (fun _ _ => rfl)) pe_int (nomark _)) (pw_and1 (pt_cmpR op_notIn_seq (pv 4) (pv 5) rfl))))
            (pss_one (ps_expr (pe_bm PySem.F.plainAttrs_list PySem.F.slot_list_append PySem.F.type_list_append mt_append (pv 5) (pa_cons (pv 4) pa_nil)))) pss_nil)))
        (pss_one (ps_aug (i := 6) nd rfl (.inl rfl) pe_int ip_add))))
      (pss_one (ps_ret (pv 5)))))), ?_⟩
    refine ⟨_, rfl, a, b, B, E, rfl, hw, good, fun H1 tw s1 tab => ?_⟩
    obtain ⟨la, htw, hla⟩ := id tab
    have hw1 := hw.same s1
    obtain ⟨⟨dx, e, ha, _⟩, ub, ib, hb⟩ := id hw1
    refine ⟨_, rfl, a, C, dx, _, _, rfl, ha, W.cl, W.nB, wf_bells _ _, b, rfl, ⟨_, sqT hb⟩, fun D hD => lc_over (xs := B) (v := V.str) walk_tup (fun x => decide (x ∈ L ∧ 0 < w x)) V.str hD (small1000 good.k) (fun H2 s2 => sqT (s2 _ _ hb)) (fun i x H2 hx s2 Rt Rf kt kf => ?_) fun H2 s2 e2 => ?_⟩
    · have hxB := List.mem_of_getElem? hx
      refine ⟨rfl, _, rfl, _, rfl, t, _, rfl, .inr (sqT (s2 _ _ (s1 _ _ ht))), rfl, flat_strs L, _, rfl, ?_⟩
      show if (inV (V.str x) (L.map V.str)) = true then _ else _
      rw [inV_strs]
      refine ite2 (fun h => ?_) fun h => ?_
      · refine ⟨_, rfl, _, rfl, d, .int (w x), rfl, at_tab (f := fun b => .int (w b)) (s2 _ _ (s1 _ _ hd)) hxB, _, _, rfl, rfl, _, rfl, ?_⟩
        refine ite2 (fun h2 => ⟨_, rfl, kt _ (Same.refl _) (decide_eq_true ⟨of_decide_eq_true h, of_decide_eq_true h2⟩)⟩) fun h2 => kf _ (Same.refl _) (decide_eq_false fun q => h2 (decide_eq_true q.2))
      · exact if_neg Bool.false_ne_true |>.mpr (kf _ (Same.refl _) (decide_eq_false fun q => h (decide_eq_true q.1)))
    · refine while_by (fun σ H3 => ∃ (S : List Str) (n : Nat) (v : Option V), σ = [some (.ref a), some (.ref t), some (.ref d), some (.ref tw), v, some (.ref D), some (.int (n : Int))] ∧ Same H1 H3 ∧ StrL H3 D S ∧ S.Nodup ∧ (∀ x ∈ S, x ∈ B) ∧ n ≤ S.length ∧
          (∀ x ∈ B, x ∈ L → 0 < w x → x ∈ S) ∧ ∀ j a, j < n → S[j]? = some a → ∀ x ∈ ws E a, 0 < w x → x ∈ S) (fun σ _ => placeOf B.length σ 6)
        ⟨B.filter fun x => decide (x ∈ L ∧ 0 < w x), 0, none, rfl, s2, e2, good.nd.filter _, fun x hx => (List.mem_filter.mp hx).1, Nat.zero_le _, fun x hB hL hx => List.mem_filter.mpr ⟨hB, decide_eq_true ⟨hL, hx⟩⟩, fun j _ hj => absurd hj (Nat.not_lt_zero _)⟩ ?_ ?_
      · rintro σ H3 ⟨S, n, v, rfl, s3, hS, ndS, hSB, hn, base, clos⟩
        have few : S.length ≤ B.length := nodup_len ndS hSB
        refine ⟨_, rfl, _, rfl, _, S.length, rfl, .inl ⟨_, SqL.of hS, (List.length_map ..).symm⟩, _, _, rfl, rfl, _, rfl, ?_⟩
        refine ite2 (fun hlt => ?_) fun hge => ?_
        · have hlt : n < S.length := by
            have := of_decide_eq_true hlt
            omega
          have hy : S[n]? = some S[n] := List.getElem?_eq_getElem hlt
          have hyB : S[n] ∈ B := hSB _ (List.getElem_mem hlt)
          refine ⟨_, rfl, _, rfl, _, rfl, D, _, _, .str S[n], rfl, rfl, SqL.of hS, at_of (j := n) rfl (by rw [List.getElem?_map, hy]; rfl), tw, .ref (la S[n]), rfl, at_tab (f := fun b => .ref (la b)) (s3 _ _ htw) hyB, la S[n], rfl, ⟨_, SqL.of (s3 _ _ (hla _ hyB))⟩,
            for_list (xs := (ws E S[n]).map V.str) (fun i σ H4 => ∃ (S' : List Str) (v : Option V), σ = [some (.ref a), some (.ref t), some (.ref d), some (.ref tw), v, some (.ref D), some (.int (n : Int))] ∧ Same H1 H4 ∧ StrL H4 D S' ∧ S'.Nodup ∧ (∀ x ∈ S', x ∈ B) ∧ (∃ more, S' = S ++ more) ∧ ∀ x ∈ (ws E S[n]).take i, 0 < w x → x ∈ S')
              ⟨S, v, rfl, s3, hS, ndS, hSB, ⟨[], by simp⟩, fun x hx => absurd hx (List.not_mem_nil)⟩ (fun i σ H4 _ ⟨_, _, _, s4, _⟩ => SqL.of (s4 _ _ (hla _ hyB))) ?_ ?_⟩
          · rintro i x σ H4 hx ⟨S', v', rfl, s4, hS', ndS', hSB', ⟨more, em⟩, cl'⟩
            obtain ⟨z, hz, rfl⟩ := str_at hx
            have hzB : z ∈ B := good.wsB (List.mem_of_getElem? hz)
            have few' : S'.length ≤ B.length := nodup_len ndS' hSB'
            refine ⟨_, rfl, _, rfl, d, .int (w z), rfl, at_tab (f := fun b => .int (w b)) (s4 _ _ (s1 _ _ hd)) hzB, _, _, rfl, rfl, _, rfl, ?_⟩
            have old : ∀ x ∈ (ws E S[n]).take i, 0 < w x → ∀ q, x ∈ S' ++ q := fun x hx hp q => List.mem_append_left _ (cl' x hx hp)
            refine ite2 (fun hp => ?_) fun hp => ?_
            · refine ⟨_, rfl, _, rfl, D, _, rfl, .inl (SqL.of hS'), rfl, flat_strs S', _, rfl, ?_⟩
              show if (if true = true then !inV (V.str z) (S'.map V.str) else inV (V.str z) (S'.map V.str)) = true then _ else _
              rw [if_pos rfl, inV_strs]
              by_cases hin : z ∈ S'
              · rw [decide_eq_true hin]
                refine iteF ⟨S', _, rfl, s4, hS', ndS', hSB', ⟨more, em⟩, fun x hx hp => ?_⟩
                rw [take_one hz] at hx
                rcases List.mem_append.mp hx with h | h
                · exact cl' x h hp
                · rw [List.mem_singleton.mp h]
                  exact hin
              · rw [decide_eq_false hin]
                refine iteT ?_
                refine ⟨_, rfl, .inl ⟨rfl, _, SqL.of hS'⟩, _, rfl, D, _, _, rfl, rfl, hS', small1000 ?_, S' ++ [z], _, rfl, s4.set hD, ?_, ?_, ?_, ⟨more ++ [z], by rw [em, List.append_assoc]⟩, fun x hx hp => ?_⟩
                · rw [List.length_map]
                  have := good.k
                  omega
                · show (upd _ _ _) _ = _
                  rw [upd_same, List.map_append]
                  rfl
                · rw [List.nodup_append]
                  refine ⟨ndS', List.nodup_cons.mpr ⟨List.not_mem_nil, List.nodup_nil⟩, fun x hx y hy e => hin ?_⟩
                  rw [← List.mem_singleton.mp hy, ← e]
                  exact hx
                · intro x hx
                  rcases List.mem_append.mp hx with h | h
                  · exact hSB' x h
                  · rw [List.mem_singleton.mp h]
                    exact hzB
                · rw [take_one hz] at hx
                  rcases List.mem_append.mp hx with h | h
                  · exact old x h hp _
                  · exact List.mem_append_right _ h
            · refine iteF ⟨S', _, rfl, s4, hS', ndS', hSB', ⟨more, em⟩, fun x hx hp' => ?_⟩
              rw [take_one hz] at hx
              rcases List.mem_append.mp hx with h | h
              · exact cl' x h hp'
              · rw [List.mem_singleton.mp h] at hp'
                exact absurd (decide_eq_true hp') hp
          · rintro σ H4 ⟨S', v', rfl, s4, hS', ndS', hSB', ⟨more, em⟩, cl'⟩
            rw [List.length_map, List.take_length] at cl'
            refine ⟨_, rfl, _, _, rfl, rfl, ⟨S', n + 1, v', rfl, s4, hS', ndS', hSB', ?_, fun x hB hL hx => ?_, fun j c hj hc x hx hp => ?_⟩, ?_⟩
            · rw [em, List.length_append]
              omega
            · rw [em]
              exact List.mem_append_left _ (base x hB hL hx)
            · have hjS : j < S.length := by omega
              have hc' : S[j]? = some c := by
                rw [em, List.getElem?_append_left hjS] at hc
                exact hc
              by_cases ej : j = n
              · subst ej
                rw [hy] at hc'
                rw [← Option.some.inj hc'] at hx
                exact cl' x hx hp
              · rw [em]
                exact List.mem_append_left _ (clos j c (by omega) hc' x hx hp)
            · show B.length - ((n : Int) + 1).toNat < B.length - (n : Int).toNat
              omega
        · have hge : S.length ≤ n := by
            have h1 : ¬ ((n : Int) < (S.length : Int)) := fun q => hge (decide_eq_true q)
            omega
          refine ⟨_, rfl, k H3 D S (s1.trans s3) hS base fun a ha x hx hp => ?_⟩
          obtain ⟨j, hj⟩ := List.mem_iff_getElem?.mp ha
          exact clos j a (Nat.lt_of_lt_of_le (at_lt hj) hge) hj x hx hp
      · intro σ H3 Q1 Q2 hq h
        obtain ⟨v1, e1, v2, e2', h⟩ := h
        obtain ⟨x, n, e3, h3, i, j, e4, e5, c, e6, h⟩ := h
        exact ⟨v1, e1, v2, e2', x, n, e3, h3, i, j, e4, e5, c, e6, hq _ _ h⟩
end
end Wk
set_option Elab.async false
set_option linter.all false
set_option maxRecDepth 100000
set_option maxHeartbeats 4000000
/-! counts: what bars -/
namespace Wk
open PySem PySem.Spec PyProof.Rows L2
section
variable {P : Program} {w : World} {K : PySem.W.Frag} {mg : Str → Option Value} {base : Heap} {C : Addr}
/-- who is live, by the tuple -/
def liv (L : List Str) : Str → Bool := fun x => decide (x ∈ L)
/-- z is the first that has more than its bound -/
def BellBar (E : List (Str × Str)) (B : List Str) (w : Str → Int) (L : Str → Bool) (z : Str) : Prop := ∃ i : Nat, B[i]? = some z ∧ bound E w L z < w z ∧ ∀ (j : Nat) (y : Str), j < i → B[j]? = some y → w y ≤ bound E w L y
/-- what is told: None where they can be rung; the first that has more than its bound -/
def Told (E : List (Str × Str)) (B : List Str) (w : Str → Int) (L : List Str) (H : Hp) (Q : VK) : Prop :=
  (Feas E B w (liv L) ∧ ∀ H', Same H H' → Q .non H') ∨ ∃ z, BellBar E B w (liv L) z ∧ ∀ H' p, Same H H' → H' p = some (.tup [.str "bell", .str z]) → Q (.ref p) H'
theorem Told.same {E : List (Str × Str)} {B : List Str} {w : Str → Int} {L : List Str} {H H1 : Hp} {Q : VK} (s : Same H H1) (t : Told E B w L H Q) : Told E B w L H1 Q := by
  rcases t with ⟨f, k⟩ | ⟨z, b, k⟩
  · exact .inl ⟨f, fun H' s' => k H' (s.trans s')⟩
  · exact .inr ⟨z, b, fun H' p s' h => k H' p (s.trans s') h⟩
def sp_why_not (C : Addr) : Sp := fun vs H Q _ => ∃ (a b d t : Addr) (B : List Str) (E : List (Str × Str)) (L : List Str) (w : Str → Int), vs = [.ref a, .ref d, .ref t] ∧ WebAt C H a b B E ∧ Good B E ∧ NumD H d B w ∧ StrT H t L ∧ Told E B w L H Q
theorem sc_why_not : FnScope ["web", "wished", "live", "wakers", "name", "come", "shut"] ["web", "wished", "live"] (defScope st_why_not) := ⟨rfl, rfl, rfl, by decide +kernel, rfl, by decide +kernel, by decide +kernel⟩
theorem ok_why_not (T : Txt K mg) (W : WebT K mg C) : DefOk P w K mg base 3 "why_not" ["web", "wished", "live"] (sp_why_not C) := by
  obtain ⟨f1, fd1, g1, k1, b1, G1⟩ := ok_wakers_of (P := P) (w := w) (base := base) T W
  obtain ⟨f2, fd2, g2, k2, b2, G2⟩ := ok_let (P := P) (w := w) (base := base) T
  obtain ⟨f3, fd3, g3, k3, b3, G3⟩ := ok_come_by (P := P) (w := w) (base := base) T W
  obtain ⟨f4, fd4, g4, k4, b4, G4⟩ := ok_in_order (P := P) (w := w) (base := base) T W
  refine DefOk.mk' T.d_why_not sc_why_not (fun _ _ _ _ _ _ us hl => match us, hl with | [_, _, _], _ => rfl) (fun vs H Q E h => ?_) (fun f cdv A outer s H vs Q E' hr h => ?_)
  · obtain ⟨a, b, d, t, B, E, L, w, rfl, _⟩ := h
    rfl
  · obtain ⟨a, b, d, t, B, E, L, w, rfl, hw, good, hd, ⟨ut, it, ht⟩, told⟩ := h
    have nd := sc_why_not.nd
    have hu := hu_of hr
    have hr1 : Room 1 _ := hr.mono (by decide)
    refine ⟨_, pss_cons (ps_set (i := 3) nd rfl (Or.inl rfl) (pe_call G1 hr1 rfl g1 k1 b1 .nil pass0 (pa_cons (pv 0) pa_nil)))
      (pss_cons (ps_for PassesOwn.never rfl (pi_tup (pe_fld (pv 0) rfl)) (pg_name (i := 4) nd rfl (Or.inl rfl))
        (pss_one (ps_if (pt_cmpR op_gt (pe_dget hu (pv 1) (pv 4) (fun _ _ => rfl)) (pe_call G2 hr1 rfl g2 k2 b2 .nil pass0 (pa_cons (pv 1) (pa_cons (pv 3) (pa_cons (pv 4) (pa_cons (pe_cmpR op_in_seq (pv 4) (pv 2) rfl) pa_nil))))) (nomark _))
          (pss_one (ps_ret (pe_tup (pa_cons pe_str (pa_cons (pv 4) pa_nil))))) pss_nil)))
      (pss_cons (ps_set (i := 5) nd rfl (Or.inr rfl) (pe_call G3 hr rfl g3 k3 b3 .nil pass0 (pa_cons (pv 0) (pa_cons (pv 2) (pa_cons (pv 1) pa_nil)))))
      (pss_cons (ps_set (i := 6) nd rfl (Or.inl rfl) (pe_call G4 hr1 rfl g4 k4 b4 .nil pass0 (pa_cons (pv 0) (pa_cons
        (pe_lc (own := [("name", 4)]) (g := gName 4) rfl nd (pi_tup (pe_fld (pv 0) rfl)) (blkOk_by (N := ["web", "wished", "live", "wakers", "name", "come", "shut"]) (sc := defScope st_why_not) (by decide +kernel))
          (fun _ _ _ _ _ => pg_name (i := 4) nd rfl (Or.inl rfl)) (fun _ _ _ _ _ => pts_one (PW.pt (pw_and (pt_cmpR op_gt (pe_dget hu (pv 1) (pv 4) (fun _ _ => rfl)) pe_int (nomark _)) (pw_and1 (pt_cmpR (r := rIn K true) op_notIn_seq (pv 4) (pv 5) rfl))))) (fun _ _ _ _ _ => pv 4)) pa_nil))))
      (pss_one (ps_ret (pe_ifExp (pt_cmpR (op_neD hr.units) (pv 6) (pe_tup pa_nil) (nomark _)) (pe_tup (pa_cons pe_str (pa_cons (pv 6) pa_nil))) pe_non)))))), ?_⟩
    refine ⟨_, rfl, a, b, B, E, rfl, hw, good, fun H1 tk s1 tab => ?_⟩
    have hw1 := hw.same s1
    obtain ⟨⟨dx, e, ha, _⟩, ub, ib, hb⟩ := id hw1
    have told1 := told.same s1
    refine ⟨_, rfl, a, C, dx, _, _, rfl, ha, W.cl, W.nB, wf_bells _ _, b, rfl, ⟨_, sqT hb⟩, for_tup (xs := B.map V.str) (fun i σ H2 => ∃ v, σ = [some (.ref a), some (.ref d), some (.ref t), some (.ref tk), v, none, none] ∧ Same H1 H2 ∧ ∀ (j : Nat) (y : Str), j < i → B[j]? = some y → w y ≤ bound E w (liv L) y)
      ⟨none, rfl, Same.refl _, fun j y h => absurd h (Nat.not_lt_zero _)⟩ (fun i σ H2 _ ⟨_, _, s2, _⟩ => sqT (s2 _ _ hb)) ?_ ?_⟩
    · rintro i x σ H2 hx ⟨v, rfl, s2, low⟩
      obtain ⟨y, hy, rfl⟩ := str_at hx
      have hyB := List.mem_of_getElem? hy
      refine ⟨_, rfl, _, rfl, d, .int (w y), rfl, at_tab (f := fun b => .int (w b)) (s2 _ _ (s1 _ _ hd)) hyB, ?_⟩
      refine ⟨_, rfl, _, rfl, _, rfl, _, rfl, _, rfl, t, _, rfl, .inr (sqT (s2 _ _ (s1 _ _ ht))), rfl, flat_strs L, ?_⟩
      refine ⟨d, tk, y, _, B, E, w, rfl, s2 _ _ (s1 _ _ hd), tab.same s2, good, hyB, fun H3 s3 => ⟨_, bound E w (liv L) y, rfl, congrArg V.int ?_, _, rfl, ?_⟩⟩
      · show one (inV (V.str y) (L.map V.str)) + tot w (wk E y) = _
        rw [inV_strs]
        rfl
      have s4 := s2.trans s3
      refine ite2 (fun hgt => ?_) fun hle => ⟨_, rfl, s4, fun j z hj hz => ?_⟩
      · have hgt : bound E w (liv L) y < w y := of_decide_eq_true hgt
        rcases told1 with ⟨f, _⟩ | ⟨z, ⟨i0, hz, hbar, low0⟩, kk⟩
        · exact absurd (f.le y hyB) (by omega)
        · have ei : i = i0 := by
            rcases Nat.lt_trichotomy i i0 with h | h | h
            · exact absurd (low0 i y h hy) (by omega)
            · exact h
            · exact absurd (low i0 z h hz) (by omega)
          subst ei
          rw [hy] at hz
          have ez : y = z := Option.some.inj hz
          subst ez
          refine ⟨_, rfl, by show 2 ≤ sizeLine; decide, fun p hp => kk _ p (s4.trans (Same.new hp)) upd_same⟩
      · have hle : w y ≤ bound E w (liv L) y := by
          have h1 : ¬ (bound E w (liv L) y < w y) := fun q => hle (decide_eq_true q)
          omega
        rcases Nat.lt_or_ge j i with h | h
        · exact low j z h hz
        · have ej : j = i := by omega
          subst ej
          rw [hy] at hz
          rw [← Option.some.inj hz]
          exact hle
    · rintro σ H2 ⟨v, rfl, s2, low⟩
      rw [List.length_map] at low
      have all : ∀ y ∈ B, w y ≤ bound E w (liv L) y := fun y hy => by
        obtain ⟨j, hj⟩ := List.mem_iff_getElem?.mp hy
        exact low j y (at_lt hj) hj
      rcases told1 with ⟨feas, kk⟩ | ⟨z, ⟨i0, hz, hbar, _⟩, _⟩
      · refine ⟨_, rfl, _, rfl, _, rfl, a, b, t, d, B, E, L, w, rfl, hw1.same s2, good, ⟨_, it, s2 _ _ (s1 _ _ ht)⟩, s2 _ _ (s1 _ _ hd), fun H3 fa S s3 hS cl1 cl2 => ?_⟩
        have s5 := s2.trans s3
        have allS : ∀ y ∈ B, 0 < w y → y ∈ S := fun y hy hp => (feas.rc y hy hp).within (fun x hx hl hp' => cl1 x hx (of_decide_eq_true hl) hp') cl2
        refine ⟨_, rfl, _, rfl, a, C, dx, _, _, rfl, s5 _ _ ha, W.cl, W.nB, wf_bells _ _, b, rfl, ⟨_, sqT (s5 _ _ hb)⟩, fun D hD => lc_over (xs := B) (v := V.str) walk_tup (fun x => false) V.str hD (small1000 good.k) (fun H4 s4 => sqT (s4 _ _ (s5 _ _ hb))) (fun i x H4 hx s4 Rt Rf kt kf => ?_) fun H4 s4 e4 => ?_⟩
        · have hxB := List.mem_of_getElem? hx
          refine ⟨rfl, _, rfl, _, rfl, d, .int (w x), rfl, at_tab (f := fun b => .int (w b)) (s4 _ _ (s5 _ _ (s1 _ _ hd))) hxB, _, _, rfl, rfl, _, rfl, ?_⟩
          refine ite2 (fun hp => ?_) fun hp => iteF (kf _ (Same.refl _) rfl)
          refine ⟨_, rfl, _, rfl, fa, _, rfl, .inl (SqL.of (s4 _ _ hS)), rfl, flat_strs S, _, rfl, ?_⟩
          show if (if true = true then !inV (V.str x) (S.map V.str) else inV (V.str x) (S.map V.str)) = true then _ else _
          rw [if_pos rfl, inV_strs, decide_eq_true (allS x hxB (of_decide_eq_true hp))]
          exact iteF (kf _ (Same.refl _) rfl)
        · have s6 := s5.trans s4
          have e0 : B.filter (fun _ => false) = [] := List.filter_eq_nil_iff.mpr fun _ _ => Bool.false_ne_true
          rw [e0] at e4
          refine ⟨a, b, D, B, E, [], rfl, hw1.same s6, good.k, e4, fun H5 ts s7 hts => ?_⟩
          have e1 : (B.filter fun x => decide (x ∈ ([] : List Str))) = [] := List.filter_eq_nil_iff.mpr fun x _ => by rw [decide_eq_false (List.not_mem_nil)]; exact Bool.false_ne_true
          rw [e1] at hts
          refine ⟨_, rfl, Nat.zero_le _, fun p hp => ?_⟩
          refine ⟨.tuple [], .tuple [], .tup (hts.same (Same.new hp)).sq .nil, .tup (sqT upd_same) .nil, rfl, rfl, _, rfl, ?_⟩
          exact iteF (kk _ ((s6.trans s7).trans (Same.new hp)))
      · exact absurd (all z (List.mem_of_getElem? hz)) (by omega)

/-! a def with live=None -/
structure DefOkK (P : Program) (w : World) (K : PySem.W.Frag) (mg : Str → Option Value) (base : Heap) (k : Nat) (x : Str) (ps : List Str) (sp : Sp) : Prop where
  ex : ∃ f fd ds, mg x = some (.ref f) ∧ PySem.W.keepIn K (.ref f) = true ∧ Vals [V.non] ds ∧ Binds K fd ps ds ∧ KBn K fd ps 2 ["live"] (fun us ws => us ++ ws) (fun vs zs => vs ++ zs) ∧ FnOk P w K mg base CX0 k f fd ps sp
theorem DefOkK.mk' {x a b : Str} {st : Stmt} {N : List Str} {k : Nat} {sp : Sp} (t : TDk K mg x st) (S : FnScope N [a, b, "live"] (defScope st))
    (h0 : ∀ (D : Addr) (doc pm : Value) (an : Option Addr) (cdv ct : Value) (us ks : List Value), us.length = 2 → ks.length = 1 → KwChain D ((["live"] : List Str).zip ks) (bindArgs (PySem.W.fnOf x x (defArgs st) (defBody st) (defScope st) .none (.ref D) doc pm an cdv ct) ⟨us, []⟩) (([a, b, "live"] : List Str).zip (us ++ ks)))
    (h1 : ∀ (kV doc pm : Value) (an : Option Addr) (cdv ct : Value) (us ws : List Value), us.length = 2 → ws.length = 1 → bindArgs (PySem.W.fnOf x x (defArgs st) (defBody st) (defScope st) .none kV doc pm an cdv ct) ⟨us, (["live"] : List Str).zip ws⟩ = pure (([a, b, "live"] : List Str).zip (us ++ ws)))
    (len : ∀ vs H Q E, sp vs H Q E → vs.length = 3)
    (hbody : ∀ (f : Addr) (cdv : Value) (A : Around) (outer : List Env) (s : Shared) (H : Hp) (vs : List V) (Q : VK) (E : XK), Room k (A.deeper (envOfC x (defScope st) s.heap.objs.size f cdv)) → sp vs H Q E →
      ∃ t, PSs (cxOf CX0 P w K mg base N x (defScope st) f cdv A outer s H E).nox (defBody st) t ∧ t { nx := fun _ H' => Q .non H', rt := Q } (start N vs) H) : DefOkK P w K mg base (k + 1) x [a, b, "live"] sp := by
  obtain ⟨f, fd, m, F⟩ := t
  obtain ⟨ds, rd, bd⟩ := F.binds0 (ps := [a, b, "live"]) 2 (by simp) rfl h0
  refine ⟨f, fd, ds, m, F.kp, rd, bd, ⟨fun s us ws X l1 l2 => ?_, fun r1 r2 => r1.append r2⟩, F.ok S len fun cdv A outer s H vs Q E hr h => let ⟨t, p, q⟩ := hbody f cdv A outer s H vs Q E hr h; ⟨t, p.nox, q⟩⟩
  obtain ⟨oc, od, dV, kV, doc, pm, an, cdv, ct, osl, rfl, lk, hcd, hD, hK⟩ := F.ex
  rcases hD with ⟨_, rfl⟩ | ⟨e, _⟩
  · exact .of_eq (h1 kV doc pm an cdv ct us ws l1 l2)
  · exact absurd rfl e

/-! bars -/
theorem zipK_dm (B : List Str) (f : Str → V) : zipK B (B.map f) = dm B f := by
  unfold zipK dm
  induction B with
  | nil => rfl
  | cons b B ih =>
    show (Sum.inr b, f b) :: _ = _
    rw [List.map_cons]
    congr 1
abbrev NumT (H : Hp) (c : Addr) (B : List Str) (w : Str → Int) : Prop := H c = some (.tup (B.map fun b => V.int (w b)))
def Small (B : List Str) (w : Str → Int) : Prop := ∀ b ∈ B, 0 ≤ w b ∧ w b ≤ 1000000000000000000000000000000
def sp_bars (C : Addr) : Sp := fun vs H Q _ => ∃ (a b c t : Addr) (x : V) (B : List Str) (E : List (Str × Str)) (L : List Str) (w : Str → Int), vs = [.ref a, .ref c, x] ∧ WebAt C H a b B E ∧ Good B E ∧ NumT H c B w ∧ Small B w ∧ StrT H t L ∧ StandIn b B x t L ∧ Told E B w L H Q
theorem sc_bars : FnScope ["web", "counts", "live"] ["web", "counts", "live"] (defScope st_bars) := ⟨rfl, rfl, rfl, by decide +kernel, rfl, by decide +kernel, by decide +kernel⟩
theorem ok_bars (T : Txt K mg) (W : WebT K mg C) : DefOkK P w K mg base 4 "bars" ["web", "counts", "live"] (sp_bars C) := by
  obtain ⟨f1, fd1, g1, k1, b1, G1⟩ := ok_check_web (P := P) (w := w) (base := base) T W
  obtain ⟨f2, fd2, g2, k2, b2, G2⟩ := ok_check_counts (P := P) (w := w) (base := base) T W
  obtain ⟨f3, fd3, g3, k3, b3, G3⟩ := ok_stand_of (P := P) (w := w) (base := base) T W
  obtain ⟨f4, fd4, g4, k4, b4, G4⟩ := ok_why_not (P := P) (w := w) (base := base) T W
  refine DefOkK.mk' T.d_bars sc_bars (fun _ _ _ _ _ _ us ks l1 l2 => match us, ks, l1, l2 with | [_, _], [_], _, _ => ⟨_, _, _, _, _, _, rfl, rfl, rfl⟩) (fun _ _ _ _ _ _ us ws l1 l2 => match us, ws, l1, l2 with | [_, _], [_], _, _ => rfl) (fun vs H Q E h => ?_) (fun f cdv A outer s H vs Q E' hr h => ?_)
  · obtain ⟨a, b, c, t, x, B, E, L, w, rfl, _⟩ := h
    rfl
  · obtain ⟨a, b, c, t, x, B, E, L, w, rfl, hw, good, hc, sm, ⟨ut, it, ht⟩, hx, told⟩ := h
    obtain ⟨⟨dx, e, ha, _⟩, ub, ib, hb⟩ := id hw
    refine ⟨_, pss_cons (ps_expr (pe_call G1 (hr.mono (by decide)) rfl g1 k1 b1 .nil pass0 (pa_cons (pv 0) pa_nil))) (pss_cons (ps_expr (pe_call G2 hr rfl g2 k2 b2 .nil pass0 (pa_cons (pv 0) (pa_cons (pv 1) pa_nil))))
      (pss_one (ps_ret (pe_call G4 hr rfl g4 k4 b4 .nil pass0 (pa_cons (pv 0) (pa_cons (pe_dictZip rfl rfl T.b_dict rfl T.b_zip (pa_cons (pe_fld (pv 0) rfl) (pa_cons (pv 1) pa_nil))) (pa_cons (pe_call G3 (hr.mono (by decide)) rfl g3 k3 b3 .nil pass0 (pa_cons (pv 0) (pa_cons (pv 2) pa_nil))) pa_nil))))))), ?_⟩
    have hc' : H c = some (.tup ((B.map w).map V.int)) := by
      rw [List.map_map]
      exact hc
    refine ⟨_, rfl, a, dx, _, rfl, ha, _, rfl, _, rfl, a, b, c, B, E, B.map w, rfl, hw, hc', List.length_map .., fun n hn => ?_, fun H1 s1 => ?_⟩
    · obtain ⟨y, hy, rfl⟩ := List.mem_map.mp hn
      exact sm y hy
    · refine ⟨_, rfl, _, rfl, a, C, dx, _, _, rfl, s1 _ _ ha, W.cl, W.nB, wf_bells _ _, _, rfl, b, c, B, _, rfl, sqT (s1 _ _ hb), sqT (s1 _ _ hc), (List.length_map ..).symm, good.nd, fun d hd => ?_⟩
      rw [zipK_dm]
      have s2 : Same H (upd H1 d (.dK (dm B fun b => .int (w b)))) := s1.trans (Same.new hd)
      refine ⟨_, rfl, _, rfl, a, b, t, x, B, E, L, rfl, hw.same s2, ⟨_, it, s2 _ _ ht⟩, hx, fun H2 s3 => ?_⟩
      have s4 := s2.trans s3
      exact ⟨a, b, d, t, B, E, L, w, rfl, hw.same s4, good, s3 _ _ upd_same, ⟨_, it, s4 _ _ ht⟩, told.same s4⟩
end
end Wk
set_option Elab.async false
set_option linter.all false
set_option maxRecDepth 100000
set_option maxHeartbeats 4000000
/-! counts: a free bell, a row that rings all -/
namespace Wk
open PySem PySem.Spec PyProof.Rows L2
section
variable {P : Program} {w : World} {K : PySem.W.Frag} {mg : Str → Option Value} {base : Heap} {C : Addr}
/-- who is full, in order -/
def fulls (E : List (Str × Str)) (B : List Str) (w : Str → Int) (L : Str → Bool) : List Str := B.filter fun x => L x && decide (w x = 1 + tot w (wk E x))
theorem mem_fulls {E : List (Str × Str)} {B : List Str} {w : Str → Int} {L : Str → Bool} {x : Str} (hx : x ∈ B) : x ∈ fulls E B w L ↔ Full E w L x := by
  unfold fulls Full
  rw [List.mem_filter, Bool.and_eq_true, decide_eq_true_eq]
  exact ⟨fun h => h.2, fun h => ⟨hx, h⟩⟩
/-- behind a lock, all stands as ahead of it -/
theorem Same.unlock {H H1 : Hp} {d : Addr} {u : HO} {od : Obj} (hd : H d = some u) (s : Same (upd H d (.frz od u)) H1) : Same H (upd H1 d u) := fun b o h => by
  by_cases e : b = d
  · rw [e] at h
    rw [e, upd_same, ← hd, h]
  · rw [upd_ne e]
    exact s b o (by rw [upd_ne e]; exact h)
theorem frz_tab {H : Hp} {d : Addr} {od : Obj} {B : List Str} {f : Str → V} {b : Str} (h : H d = some (.frz od (.dK (dm B f)))) (hb : b ∈ B) : DGet H d (.str b) (some (f b)) := by
  rw [← valV_dm (f := f) hb]
  exact .inl ⟨dm B f, Sum.inr b, .inr ⟨od, h⟩, rfl, rfl⟩
def sp_free_one : Sp := fun vs H Q _ => ∃ (tw tk dl dn kp : Addr) (B : List Str) (E : List (Str × Str)) (w : Str → Int) (L : Str → Bool), vs = [.ref tw, .ref tk, .ref dl, .ref dn, .ref kp] ∧ TabL H tw B (ws E) ∧ TabL H tk B (wk E) ∧ NumD H dl B w ∧ LivD H dn B L ∧ StrL H kp [] ∧ Good B E ∧
  (∃ z ∈ B, Free E w L z) ∧ ∀ H' z, Same H H' → z ∈ B → Free E w L z → Q (.str z) H'
theorem sc_free_one : FnScope ["woken", "wakers", "left", "now", "kept", "full", "name", "other"] ["woken", "wakers", "left", "now", "kept"] (defScope st_free_one) := ⟨rfl, rfl, rfl, by decide +kernel, rfl, by decide +kernel, by decide +kernel⟩
theorem ok_free_one (T : Txt K mg) : DefOk P w K mg base 2 "free_one" ["woken", "wakers", "left", "now", "kept"] sp_free_one := by
  obtain ⟨f2, fd2, g2, k2, b2, G2⟩ := ok_let (P := P) (w := w) (base := base) T
  refine DefOk.mk' T.d_free_one sc_free_one (fun _ _ _ _ _ _ us hl => match us, hl with | [_, _, _, _, _], _ => rfl) (fun vs H Q E h => ?_) (fun f cdv A outer s H vs Q E' hr h => ?_)
  · obtain ⟨tw, tk, dl, dn, kp, B, E, w, L, rfl, _⟩ := h
    rfl
  · obtain ⟨tw, tk, dl, dn, kp, B, E, w, L, rfl, htw, htk, hdl, hdn, hkp, good, ⟨z0, hz0, free0⟩, k⟩ := h
    have nd := sc_free_one.nd
    have hu := hu_of hr
    obtain ⟨la, hta, hla⟩ := id htw
    have nld : dl ≠ dn := fun e => by
      rw [e] at hdl
      have e2 := hdl.symm.trans hdn
      have e3 : dm B (fun b => V.int (w b)) = dm B fun b => .bl (L b) := by
        injection e2 with e2
        injection e2
      have v1 := valV_dm (f := fun b => V.int (w b)) hz0
      rw [e3, valV_dm (f := fun b => V.bl (L b)) hz0] at v1
      cases v1
    refine ⟨_, pss_cons (ps_set (i := 5) nd rfl (Or.inr rfl) (pe_lst pa_nil))
      (pss_cons (ps_lock (ps_for PassesOwn.never rfl (pi_keys (pv 3)) (pg_name (i := 6) nd rfl (Or.inr rfl))
        (pss_one (ps_if (PW.pt (pw_and (pt_val (pe_dget hu (pv 3) (pv 6) (fun _ _ => rfl))) (pw_and1 (pt_cmpR op_eq (pe_dget hu (pv 2) (pv 6) (fun _ _ => rfl))
            (pe_op op_sub (pe_call G2 hr rfl g2 k2 b2 .nil pass0 (pa_cons (pv 2) (pa_cons (pv 1) (pa_cons (pv 6) (pa_cons pe_bl pa_nil))))) (pe_callTy call_int1 rfl T.b_int_ (by decide +kernel) (pa_cons (pe_cmpR op_in_seq (pv 6) (pv 4) rfl) pa_nil))) (nomark _)))))
          (pss_one (ps_expr (pe_bm PySem.F.plainAttrs_list PySem.F.slot_list_append PySem.F.type_list_append mt_append (pv 5) (pa_cons (pv 6) pa_nil)))) pss_nil))))
      (pss_cons (ps_lock (ps_for PassesOwn.never rfl (pi_keys (pv 3)) (pg_name (i := 6) nd rfl (Or.inr rfl))
        (pss_one (ps_if (PW.pt (pw_and (pt_val (pe_dget hu (pv 3) (pv 6) (fun _ _ => rfl))) (pw_and (pt_cmpR op_gt (pe_dget hu (pv 2) (pv 6) (fun _ _ => rfl)) pe_int (nomark _))
            (pw_and1 (pt_not (pt_val (pe_callB (cr_any rfl) rfl T.b_any (by decide +kernel) (pa_cons (pe_lc (own := [("other", 7)]) (g := gName 7) (tt := tYes) rfl nd (pi_list (pe_dget hu (pv 0) (pv 6) (fun _ _ => rfl)))
              (blkOk_by (N := ["woken", "wakers", "left", "now", "kept", "full", "name", "other"]) (sc := defScope st_free_one) (by decide +kernel)) (fun _ _ _ _ _ => pg_name (i := 7) nd rfl (Or.inl rfl)) (fun _ _ _ _ _ => pts_nil)
              (fun _ _ _ _ _ => pe_and (pe_cmpR (r := rIn K false) op_in_seq (pv 7) (pv 5) rfl) (pe_one (pe_cmpR op_ne (pv 7) (pv 6) (nomark _))))) pa_nil))))))))
          (pss_one (ps_ret (pv 6))) pss_nil))))
      (pss_one (ps_ret pe_non)))), ?_⟩
    refine ⟨Nat.zero_le _, fun fl hfl => ?_⟩
    have s0 : Same H (upd H fl (.lst [])) := Same.new hfl
    -- the full ones
    refine ⟨dn, _, s0 _ _ hdn, trivial, fun od => ?_⟩
    have frame : ∀ c o, H c = some o → c ≠ dn → (upd (upd H fl (.lst [])) dn (.frz od (.dK (dm B fun b => .bl (L b))))) c = some o := fun c o hc ne => by
      rw [upd_ne ne]
      exact s0 _ _ hc
    have ndf : fl ≠ dn := fun e => by
      rw [e] at hfl
      rw [hdn] at hfl
      cases hfl
    refine ⟨_, rfl, dn, od, rfl, .inl ⟨_, upd_same, for_it (walk_keys (kvs := dm B fun b => .bl (L b))) (fun i σ H1 => ∃ v, σ = [some (.ref tw), some (.ref tk), some (.ref dl), some (.ref dn), some (.ref kp), some (.ref fl), v, none] ∧
        (∀ c o, H c = some o → c ≠ dn → H1 c = some o) ∧ H1 dn = some (.frz od (.dK (dm B fun b => .bl (L b)))) ∧ StrL H1 fl ((B.take i).filter fun x => L x && decide (w x = 1 + tot w (wk E x))))
      ⟨none, rfl, frame, upd_same, by show (upd _ _ _) _ = _; rw [upd_ne ndf, upd_same]; rfl⟩ (fun i σ H1 _ ⟨_, _, _, h, _⟩ => h) ?_ ?_⟩⟩
    · rintro i x σ H1 H1' hi ⟨v, rfl, fr, hfz, hfull⟩ ⟨rfl, ky, vv, hk, rfl⟩
      rw [dm_at] at hk
      obtain ⟨y, hy, ey⟩ := Option.map_eq_some_iff.mp hk
      have e1 : Sum.inr y = ky := congrArg (fun q => q.1) ey
      subst e1
      have hyB := List.mem_of_getElem? hy
      have tk1 := take_one hy
      have skip : (L y && decide (w y = 1 + tot w (wk E y))) = false → StrL H1' fl ((B.take (i + 1)).filter fun x => L x && decide (w x = 1 + tot w (wk E x))) := fun e => by
        rw [tk1, List.filter_append, List.filter_cons, if_neg (by rw [e]; exact Bool.false_ne_true)]
        simpa using hfull
      refine ⟨_, rfl, _, rfl, dn, .bl (L y), rfl, frz_tab (f := fun b => .bl (L b)) hfz hyB, _, rfl, ?_⟩
      refine ite2 (fun hL => ?_) fun hL => iteF ⟨_, rfl, fr, hfz, skip (by rw [Bool.eq_false_iff.mpr hL]; rfl)⟩
      refine ⟨_, rfl, _, rfl, dl, .int (w y), rfl, at_tab (f := fun b => .int (w b)) (fr _ _ hdl nld) hyB, ?_⟩
      have tabk : TabL H1' tk B (wk E) := by
        obtain ⟨lk, h1, h2⟩ := htk
        refine ⟨lk, fr _ _ h1 fun e => ?_, fun b hb => fr _ _ (h2 b hb) (ne_of (h2 b hb) hdn fun q => nomatch q)⟩
        rw [e, hdn] at h1
        have e3 : dm B (fun b => V.bl (L b)) = dm B fun b => .ref (lk b) := by
          injection h1 with h1
          injection h1
        have v1 := valV_dm (f := fun b => V.bl (L b)) hz0
        rw [e3, valV_dm (f := fun b => V.ref (lk b)) hz0] at v1
        cases v1
      have nkd : kp ≠ dn := ne_of hkp hdn fun q => nomatch q
      refine ⟨_, rfl, _, rfl, _, rfl, dl, tk, y, true, B, E, w, rfl, fr _ _ hdl nld, tabk, good, hyB, fun H2 s2 => ?_⟩
      refine ⟨_, rfl, _, rfl, kp, [], rfl, .inl (SqL.of (s2 _ _ (fr _ _ hkp nkd))), rfl, rfl, .inr ⟨false, rfl, _, _, rfl, rfl, rfl, _, rfl, ?_⟩⟩
      have hfull2 := s2 _ _ hfull
      have fr2 : ∀ c o, H c = some o → c ≠ dn → H2 c = some o := fun c o hc ne => s2 _ _ (fr c o hc ne)
      have ew : (V.int (w y) = V.int (one true + tot w (wk E y) - 0)) ↔ w y = 1 + tot w (wk E y) := by
        rw [Int.sub_zero, one_t]
        exact ⟨fun q => V.int.inj q, fun q => by rw [q]⟩
      refine ite2 (fun hw => ?_) fun hw => ?_
      · have hw' : w y = 1 + tot w (wk E y) := ew.mp (of_decide_eq_true hw)
        refine ⟨_, rfl, .inl ⟨rfl, _, SqL.of hfull2⟩, _, rfl, fl, _, _, rfl, rfl, hfull2, small1000 ?_, _, rfl, fun c o hc ne => ?_, ?_, ?_⟩
        · rw [List.length_map]
          have h1 := List.length_filter_le (fun x => L x && decide (w x = 1 + tot w (wk E x))) (B.take i)
          have h2 := List.length_take_le' i B
          have := good.k
          omega
        · rw [upd_ne (some_ne hc hfl)]
          exact fr2 c o hc ne
        · rw [upd_ne ndf.symm]
          exact s2 _ _ hfz
        · show (upd _ _ _) _ = _
          rw [upd_same, tk1, List.filter_append, List.filter_cons, if_pos (by rw [hL, decide_eq_true hw']; rfl), List.map_append]
          rfl
      · refine ⟨_, rfl, fr2, s2 _ _ hfz, ?_⟩
        have hw' : ¬ w y = 1 + tot w (wk E y) := fun q => hw (decide_eq_true (ew.mpr q))
        exact s2 _ _ (skip (by rw [decide_eq_false hw', Bool.and_false]))
    · rintro σ H1 ⟨v, rfl, fr, hfz, hfull⟩
      rw [dm_len, List.take_length] at hfull
      refine ⟨hfz, ?_⟩
      -- a free one
      have s2 : Same H (upd H1 dn (.dK (dm B fun b => .bl (L b)))) := fun c o hc => by
        by_cases e : c = dn
        · rw [e] at hc ⊢
          rw [upd_same, ← hdn, hc]
        · rw [upd_ne e]
          exact fr c o hc e
      have hfull2 : StrL (upd H1 dn (.dK (dm B fun b => .bl (L b)))) fl (fulls E B w L) := by
        show (upd _ _ _) _ = _
        rw [upd_ne ndf]
        exact hfull
      refine ⟨dn, _, upd_same, trivial, fun od2 => ?_⟩
      rw [upd_upd]
      refine ⟨_, rfl, dn, od2, rfl, .inl ⟨_, upd_same, for_it (walk_keys (kvs := dm B fun b => .bl (L b))) (fun i σ H2 => ∃ v, σ = [some (.ref tw), some (.ref tk), some (.ref dl), some (.ref dn), some (.ref kp), some (.ref fl), v, none] ∧
          Same (upd H1 dn (.frz od2 (.dK (dm B fun b => .bl (L b))))) H2 ∧ ∀ (j : Nat) (y : Str), j < i → B[j]? = some y → ¬ Free E w L y) ⟨v, rfl, Same.refl _, fun j y hj => absurd hj (Nat.not_lt_zero _)⟩ (fun i σ H2 _ ⟨_, _, s3, _⟩ => s3 _ _ upd_same) ?_ ?_⟩⟩
      · rintro i x σ H2 H2' hi ⟨v2, rfl, s3, none_yet⟩ ⟨rfl, ky, vv, hk, rfl⟩
        rw [dm_at] at hk
        obtain ⟨y, hy, ey⟩ := Option.map_eq_some_iff.mp hk
        have e1 : Sum.inr y = ky := congrArg (fun q => q.1) ey
        subst e1
        have hyB := List.mem_of_getElem? hy
        have fr3 : ∀ c o, H c = some o → c ≠ dn → H2' c = some o := fun c o hc ne => s3 c o (by rw [upd_ne ne]; exact fr c o hc ne)
        have hfz2 : H2' dn = some (.frz od2 (.dK (dm B fun b => .bl (L b)))) := s3 _ _ upd_same
        have hfl3 : StrL H2' fl (fulls E B w L) := s3 fl _ (by rw [upd_ne ndf]; exact hfull)
        have next : ¬ Free E w L y → ∀ (j : Nat) (x : Str), j < i + 1 → B[j]? = some x → ¬ Free E w L x := fun h j x hj hx => by
          rcases Nat.lt_or_ge j i with q | q
          · exact none_yet j x q hx
          · have ej : j = i := by omega
            subst ej
            rw [hy] at hx
            rw [← Option.some.inj hx]
            exact h
        refine ⟨_, rfl, _, rfl, dn, .bl (L y), rfl, frz_tab (f := fun b => .bl (L b)) hfz2 hyB, _, rfl, ?_⟩
        refine ite2 (fun hL => ?_) fun hL => iteF ⟨_, rfl, s3, next fun q => hL q.1⟩
        refine ⟨_, rfl, _, rfl, dl, .int (w y), rfl, at_tab (f := fun b => .int (w b)) (fr3 _ _ hdl nld) hyB, _, _, rfl, rfl, _, rfl, ?_⟩
        refine ite2 (fun hp => ?_) fun hp => iteF ⟨_, rfl, s3, next fun q => hp (decide_eq_true q.2.1)⟩
        have nlad : la y ≠ dn := ne_of (hla y hyB) hdn fun q => nomatch q
        have ntd : tw ≠ dn := fun e => by
          rw [e, hdn] at hta
          have e3 : dm B (fun b => V.bl (L b)) = dm B fun b => .ref (la b) := by
            injection hta with hta
            injection hta
          have v1 := valV_dm (f := fun b => V.bl (L b)) hz0
          rw [e3, valV_dm (f := fun b => V.ref (la b)) hz0] at v1
          cases v1
        refine ⟨_, rfl, _, rfl, tw, .ref (la y), rfl, at_tab (f := fun b => .ref (la b)) (fr3 _ _ hta ntd) hyB, la y, rfl, ⟨_, SqL.of (fr3 _ _ (hla y hyB) nlad)⟩,
          fun D hD => lc_each (xs := ws E y) (v := V.str) walk_list (fun x => .bl (decide (x ∈ fulls E B w L) && !decide (x = y))) hD (small1000 ?_) (fun H3 s4 => SqL.of (s4 _ _ (fr3 _ _ (hla y hyB) nlad))) (fun j x H3 hx s4 Rt kt => ?_) (gName_mono 7) fun H3 s4 e4 => ?_⟩
        · have h1 : (ws E y).length ≤ E.length := by
            unfold ws
            rw [List.length_map]
            exact List.length_filter_le _ _
          have := good.wl
          omega
        · refine ⟨rfl, _, rfl, _, rfl, fl, _, rfl, .inl (SqL.of (s4 _ _ hfl3)), rfl, flat_strs _, _, rfl, ?_⟩
          show if (inV (V.str x) ((fulls E B w L).map V.str)) = true then _ else _
          rw [inV_strs]
          have fin := kt H3 (Same.refl _)
          refine ite2 (fun h => ⟨_, rfl, _, rfl, rfl, ?_⟩) fun h => ?_
          · show Rt (.bl (!decide (V.str x = V.str y))) H3
            have e5 : decide (V.str x = V.str y) = decide (x = y) := by
              by_cases q : x = y
              · rw [q]
                simp
              · rw [decide_eq_false q, decide_eq_false fun z => q (V.str.inj z)]
            rw [e5]
            rw [h, Bool.true_and] at fin
            exact fin
          · rw [Bool.eq_false_iff.mpr h, Bool.false_and] at fin
            exact fin
        · refine ⟨_, (ws E y).map fun x => decide (x ∈ fulls E B w L) && !decide (x = y), rfl, SqL.of (by rw [e4, List.map_map]; rfl), _, rfl, ?_⟩
          have s5 := s3.trans s4
          have iff : ((ws E y).map fun x => decide (x ∈ fulls E B w L) && !decide (x = y)).any id = true ↔ ∃ x ∈ ws E y, x ≠ y ∧ Full E w L x := by
            rw [List.any_map, List.any_eq_true]
            constructor
            · rintro ⟨x, hx, hq⟩
              obtain ⟨q1, q2⟩ := Bool.and_eq_true_iff.mp hq
              refine ⟨x, hx, ?_, (mem_fulls (good.wsB hx)).mp (of_decide_eq_true q1)⟩
              intro e
              rw [decide_eq_true e] at q2
              cases q2
            · rintro ⟨x, hx, hne, hf⟩
              refine ⟨x, hx, Bool.and_eq_true_iff.mpr ⟨decide_eq_true ((mem_fulls (good.wsB hx)).mpr hf), ?_⟩⟩
              rw [decide_eq_false hne]
              rfl
          cases hany : ((ws E y).map fun x => decide (x ∈ fulls E B w L) && !decide (x = y)).any id with
          | true =>
            obtain ⟨x, hx, hne, hf⟩ := iff.mp hany
            exact iteF ⟨_, rfl, s5, next fun q => q.2.2 x hx hne hf⟩
          | false =>
            refine iteT ⟨_, rfl, s5 _ _ upd_same, ?_⟩
            refine k _ y ?_ hyB ⟨hL, of_decide_eq_true hp, fun x hx hne hf => ?_⟩
            · intro c o hc
              by_cases e : c = dn
              · rw [e] at hc ⊢
                rw [upd_same, ← hdn, hc]
              · rw [upd_ne e]
                exact s4 _ _ (fr3 c o hc e)
            · have := iff.mpr ⟨x, hx, hne, hf⟩
              rw [hany] at this
              cases this
      · rintro σ H2 ⟨v2, rfl, s3, none_at_all⟩
        rw [dm_len] at none_at_all
        obtain ⟨j, hj⟩ := List.mem_iff_getElem?.mp hz0
        exact absurd free0 (none_at_all j z0 (at_lt hj) hj)
end
end Wk
set_option Elab.async false
set_option linter.all false
set_option maxRecDepth 100000
set_option maxHeartbeats 4000000
/-! counts: a row that rings all -/
namespace Wk
open PySem PySem.Spec PyProof.Rows L2
section
variable {P : Program} {w : World} {K : PySem.W.Frag} {mg : Str → Option Value} {base : Heap} {C : Addr}
theorem at1_less (w : Str → Int) (z : Str) : at1 (fun b => V.int (w b)) z (.int (w z - 1)) = fun b => V.int (less w z b) := by
  funext b
  unfold at1 less
  by_cases e : b = z
  · rw [if_pos e, if_pos e, e]
  · rw [if_neg e, if_neg e]
/-- a row that rings wholly from the stand, each bell just so often -/
structure RowOf (E : List (Str × Str)) (B : List Str) (w : Str → Int) (L : List Str) (row : List Str) : Prop where
  rings : Rings E (liv L) row
  inB : ∀ x ∈ row, x ∈ B
  cnt : ∀ b ∈ B, Wk.cnt row b = w b
  len : (row.length : Int) = tot w B
def sp_rung_out (C : Addr) : Sp := fun vs H Q _ => ∃ (a b d t kp : Addr) (B : List Str) (E : List (Str × Str)) (L : List Str) (w : Str → Int), vs = [.ref a, .ref d, .ref t, .ref kp] ∧ WebAt C H a b B E ∧ Good B E ∧ NumD H d B w ∧ StrT H t L ∧ StrL H kp [] ∧ Feas E B w (liv L) ∧ tot w B ≤ 400 ∧
  ∀ H' p row, Same H H' → StrZ H' p row → RowOf E B w L row → Q (.ref p) H'
theorem sc_rung_out : FnScope ["web", "wished", "live", "kept", "woken", "wakers", "left", "found", "now", "turn", "name"] ["web", "wished", "live", "kept"] (defScope st_rung_out) := ⟨rfl, rfl, rfl, by decide +kernel, rfl, by decide +kernel, by decide +kernel⟩
theorem ok_rung_out (T : Txt K mg) (W : WebT K mg C) : DefOk P w K mg base 3 "rung_out" ["web", "wished", "live", "kept"] (sp_rung_out C) := by
  obtain ⟨f1, fd1, g1, k1, b1, G1⟩ := ok_wakes_of (P := P) (w := w) (base := base) T W
  obtain ⟨f2, fd2, g2, k2, b2, G2⟩ := ok_wakers_of (P := P) (w := w) (base := base) T W
  obtain ⟨f3, fd3, g3, k3, b3, G3⟩ := ok_free_one (P := P) (w := w) (base := base) T
  obtain ⟨f4, fd4, g4, k4, b4, G4⟩ := ok_rung (P := P) (w := w) (base := base) T
  refine DefOk.mk' T.d_rung_out sc_rung_out (fun _ _ _ _ _ _ us hl => match us, hl with | [_, _, _, _], _ => rfl) (fun vs H Q E h => ?_) (fun f cdv A outer s H vs Q E' hr h => ?_)
  · obtain ⟨a, b, d, t, kp, B, E, L, w, rfl, _⟩ := h
    rfl
  · obtain ⟨a, b, d, t, kp, B, E, L, w, rfl, hw, good, hd, ⟨ut, it, ht⟩, hkp, feas, few, k⟩ := h
    have nd := sc_rung_out.nd
    have hu := hu_of hr
    have hr1 : Room 1 _ := hr.mono (by decide)
    refine ⟨_, pss_cons (ps_asg (pe_tup (pa_cons (pe_call G1 hr1 rfl g1 k1 b1 .nil pass0 (pa_cons (pv 0) pa_nil)) (pa_cons (pe_call G2 hr1 rfl g2 k2 b2 .nil pass0 (pa_cons (pv 0) pa_nil))
        (pa_cons (pe_callTy call_dictD rfl T.b_dict (by decide +kernel) (pa_cons (pv 1) pa_nil)) (pa_cons (pe_lst pa_nil) pa_nil)))))
        (pg_tup rfl (pgs_cons (pg_name (i := 4) nd rfl (Or.inl rfl)) (pgs_cons (pg_name (i := 5) nd rfl (Or.inl rfl)) (pgs_cons (pg_name (i := 6) nd rfl (Or.inl rfl)) (pgs_cons (pg_name (i := 7) nd rfl (Or.inl rfl)) pgs_nil))))))
      (pss_cons (ps_setDc (i := 8) (own := [("name", 10)]) (g := gName 10) (tt := tYes) rfl nd rfl rfl (sw_dict rfl rfl rfl (by decide +kernel)) (pi_tup (pe_fld (pv 0) rfl)) (blkOk_by (N := ["web", "wished", "live", "kept", "woken", "wakers", "left", "found", "now", "turn", "name"]) (sc := defScope st_rung_out) (by decide +kernel))
        (fun _ _ _ _ _ => pg_name (i := 10) nd rfl (Or.inl rfl)) (fun _ _ _ _ _ => pts_nil) (fun _ _ _ _ _ => pv 10) (fun _ _ _ _ _ => pe_cmpR (r := rIn K false) op_in_seq (pv 10) (pv 2) rfl))
      (pss_cons (ps_for PassesOwn.never rfl (pi_range1 rfl T.b_range (pa_cons (pe_sumVals rfl rfl T.b_sum (pv 1)) pa_nil)) (pg_name (i := 9) nd rfl (Or.inl rfl))
        (pss_cons (ps_set (i := 10) nd rfl (Or.inl rfl) (pe_call G3 (hr.mono (by decide)) rfl g3 k3 b3 .nil pass0 (pa_cons (pv 4) (pa_cons (pv 5) (pa_cons (pv 6) (pa_cons (pv 8) (pa_cons (pv 3) pa_nil)))))))
        (pss_cons (ps_expr (pe_bm PySem.F.plainAttrs_list PySem.F.slot_list_append PySem.F.type_list_append mt_append (pv 7) (pa_cons (pv 10) pa_nil)))
        (pss_cons (ps_daug hu (pv 6) (pv 10) pe_int in_sub (fun _ _ _ => rfl))
        (pss_one (ps_expr (pe_call G4 hr1 rfl g4 k4 b4 .nil pass0 (pa_cons (pv 8) (pa_cons (pv 4) (pa_cons (pv 10) pa_nil))))))))))
      (pss_one (ps_ret (pe_callTy call_tupleZ rfl T.b_tuple (by decide +kernel) (pa_cons (pv 7) pa_nil)))))), ?_⟩
    refine ⟨_, rfl, a, b, B, E, rfl, hw, good, fun H1 tw s1 tab1 => ?_⟩
    refine ⟨_, rfl, a, b, B, E, rfl, hw.same s1, good, fun H2 tk s2 tab2 => ?_⟩
    have s12 := s1.trans s2
    refine ⟨_, rfl, d, _, rfl, .inl (s12 _ _ hd), fun dl hdl => ⟨Nat.zero_le _, fun fl hfl => ⟨by show 4 ≤ sizeLine; decide, fun tp htp => ?_⟩⟩⟩
    have hfl2 : H2 fl = none := (Same.new hdl).free hfl
    have htp2 : H2 tp = none := (Same.new hdl).free ((Same.new hfl).free htp)
    have s3 : Same H2 (upd (upd (upd H2 dl (.dK (dm B fun b => .int (w b)))) fl (.lst [])) tp (.tup [.ref tw, .ref tk, .ref dl, .ref fl])) := ((Same.new hdl).set hfl2).set htp2
    have dl3 := Same.new (o := .tup [.ref tw, .ref tk, .ref dl, .ref fl]) htp dl _ (Same.new (o := .lst []) hfl dl _ (upd_same (H := H2) (a := dl) (o := .dK (dm B fun b => .int (w b)))))
    have fl3 := Same.new (o := .tup [.ref tw, .ref tk, .ref dl, .ref fl]) htp fl _ (upd_same (H := upd H2 dl (.dK (dm B fun b => .int (w b)))) (a := fl) (o := .lst []))
    have tp3 : (upd (upd (upd H2 dl (.dK (dm B fun b => .int (w b)))) fl (.lst [])) tp (.tup [.ref tw, .ref tk, .ref dl, .ref fl])) tp = some (.tup [.ref tw, .ref tk, .ref dl, .ref fl]) := upd_same
    refine ⟨tp, _, rfl, sqT tp3, rfl, _, _, rfl, _, _, rfl, _, _, rfl, _, _, rfl, rfl, ?_⟩
    have s123 := s12.trans s3
    obtain ⟨⟨dx, e, ha, _⟩, ub, ib, hb⟩ := id hw
    refine ⟨_, rfl, a, C, dx, _, _, rfl, s123 _ _ ha, W.cl, W.nB, wf_bells _ _, b, rfl, ⟨_, sqT (s123 _ _ hb)⟩, fun dn hdn => dc_tup (xs := B.map V.str) (fun i H4 => Same (upd (upd (upd H2 dl (.dK (dm B fun b => .int (w b)))) fl (.lst [])) tp (.tup [.ref tw, .ref tk, .ref dl, .ref fl])) H4 ∧ H4 dn = some (.dK (dm (B.take i) fun b => .bl (liv L b))))
      ⟨Same.new hdn, upd_same⟩ (fun i H4 _ ⟨s4, _⟩ => sqT (s4 _ _ (s123 _ _ hb))) (fun i x H4 hx ⟨s4, h4⟩ => ?_) fun H4 ⟨s4, h4⟩ => ?_⟩
    · obtain ⟨y, hy, rfl⟩ := str_at hx
      have hyn : y ∉ B.take i := fun hm => by
        obtain ⟨j, hj⟩ := List.mem_iff_getElem?.mp hm
        have hji : j < i := Nat.lt_of_lt_of_le (at_lt hj) (List.length_take_le _ _)
        rw [List.getElem?_take_of_lt hji] at hj
        exact Nat.ne_of_lt hji (nd_ix good.nd hj hy)
      refine ⟨rfl, yesT ⟨_, rfl, _, rfl, _, rfl, t, _, rfl, .inr (sqT (s4 _ _ (s123 _ _ ht))), rfl, flat_strs L, _, Sum.inr y, rfl, h4, small1000 ?_, s4.set hdn, ?_⟩⟩
      · rw [dm_len]
        have h12 := good.few
        have := List.length_take_le' i B
        omega
      · rw [upd_same, putK_dm_new hyn, take_one hy]
        refine congrArg (fun z => some (HO.dK z)) (dm_congr fun c hc => ?_)
        unfold at1
        by_cases q : c = y
        · rw [if_pos q, q]
          show V.bl (inV (V.str y) (L.map V.str)) = _
          rw [inV_strs]
          rfl
        · rw [if_neg q]
    · rw [List.length_map, List.take_length] at h4
      have nln : dl ≠ dn := some_ne dl3 hdn
      have nfn : fl ≠ dn := some_ne fl3 hdn
      have nfl : fl ≠ dl := ne_of fl3 dl3 fun q => nomatch q
      have hdn2 : H2 dn = none := s3.free hdn
      have s24 := s3.trans s4
      have esum : (B.map w).sum = tot w B := rfl
      have nn : 0 ≤ tot w B := tot_nn fun b _ => feas.nn b
      refine ⟨_, rfl, d, _, B.map w, rfl, s24 _ _ (s12 _ _ hd), by rw [dm_vals, List.map_map]; rfl, _, rfl, by rw [esum]; omega, by rw [esum]; omega, for_range (lo := 0) (n := (B.map w).sum.toNat) (fun i σ H5 => ∃ v9 v10 row w', σ = [some (.ref a), some (.ref d), some (.ref t), some (.ref kp), some (.ref tw), some (.ref tk), some (.ref dl), some (.ref fl), some (.ref dn), v9, v10] ∧
          Same H2 H5 ∧ NumD H5 dl B w' ∧ LivD H5 dn B (after E (liv L) row) ∧ StrL H5 fl row ∧ Feas E B w' (after E (liv L) row) ∧ Rings E (liv L) row ∧ row.length = i ∧ (∀ x ∈ row, x ∈ B) ∧ (∀ b ∈ B, w' b + cnt row b = w b) ∧ tot w' B = tot w B - i)
        ⟨none, none, [], w, rfl, s24, s4 _ _ dl3, h4, s4 _ _ fl3, feas, trivial, rfl, fun x hx => absurd hx (List.not_mem_nil), fun b _ => by simp [cnt], by omega⟩ ?_ ?_⟩
      · rintro i σ H5 hi ⟨v9, v10, row, w', rfl, s5, hl5, hn5, hf5, feas5, rings5, len5, in5, cnt5, tot5⟩
        rw [esum] at hi
        refine ⟨_, rfl, _, rfl, _, rfl, _, rfl, _, rfl, tw, tk, dl, dn, kp, B, E, w', after E (liv L) row, rfl, tab1.same (s2.trans s5), tab2.same s5, hl5, hn5, s5 _ _ (s12 _ _ hkp), good, feas5.free good.wo (by omega), fun H6 z s6 hz free => ?_⟩
        refine ⟨_, rfl, .inl ⟨rfl, _, SqL.of (s6 _ _ hf5)⟩, _, rfl, fl, _, _, rfl, rfl, s6 _ _ hf5, small1000 ?_, ?_⟩
        · rw [List.length_map]
          omega
        · have hl7 : NumD (upd H6 fl (.lst (row.map V.str ++ [V.str z]))) dl B w' := by
            show (upd _ _ _) _ = _
            rw [upd_ne nfl.symm]
            exact s6 _ _ hl5
          refine ⟨_, rfl, _, rfl, dl, .int (w' z), rfl, at_tab (f := fun b => .int (w' b)) hl7 hz, _, _, rfl, rfl, _, put_tab hl7 hz good.k, ?_⟩
          rw [at1_less]
          have hn8 : LivD (upd (upd H6 fl (.lst (row.map V.str ++ [V.str z]))) dl (.dK (dm B fun b => .int (less w' z b)))) dn B (after E (liv L) row) := by
            show (upd _ _ _) _ = _
            rw [upd_ne nln.symm, upd_ne nfn.symm]
            exact s6 _ _ hn5
          have s8 : Same H2 (upd (upd H6 fl (.lst (row.map V.str ++ [V.str z]))) dl (.dK (dm B fun b => .int (less w' z b)))) := ((s5.trans s6).set hfl2).set hdl
          refine ⟨_, rfl, _, rfl, _, rfl, dn, tw, z, B, E, after E (liv L) row, rfl, hn8, tab1.same (s2.trans s8), good, hz, fun H9 fr hn9 => ?_⟩
          refine ⟨_, _, row ++ [z], less w' z, rfl, fun c o hc => fr c o (s8 c o hc) (some_ne hc hdn2), fr _ _ upd_same nln, ?_, ?_, ?_, rings_snoc E z row _ rings5 free.1, ?_, ?_, ?_, ?_⟩
          · rw [after_snoc]
            exact hn9
          · refine fr _ _ ?_ nfn
            rw [upd_ne nfl, upd_same, List.map_append]
            rfl
          · rw [after_snoc]
            exact feas5.ring good.wn good.wo hz free
          · rw [List.length_append, len5]
            rfl
          · intro x hx
            rcases List.mem_append.mp hx with h | h
            · exact in5 x h
            · rw [List.mem_singleton.mp h]
              exact hz
          · intro b hb'
            rw [cnt_snoc]
            have := cnt5 b hb'
            unfold less
            by_cases q : b = z
            · rw [if_pos q, if_pos q]
              omega
            · rw [if_neg q, if_neg q]
              omega
          · rw [tot_less_in good.nd hz]
            omega
      · rintro σ H5 ⟨v9, v10, row, w', rfl, s5, hl5, hn5, hf5, feas5, rings5, len5, in5, cnt5, tot5⟩
        rw [esum] at len5 tot5
        have z0 : tot w' B = 0 := by omega
        refine ⟨_, rfl, fl, _, rfl, SqL.of hf5, fun p ob hp hob1 hob2 => ?_⟩
        refine k _ p row ((s12.trans s5).trans (Same.new hp)) ⟨ob, hob1, hob2, upd_same⟩ ⟨rings5, in5, fun b hb' => ?_, by omega⟩
        have h1 := tot_ge (w := w') (l := B) (fun b _ => feas5.nn b) hb'
        have h2 := feas5.nn b
        have h3 := cnt5 b hb'
        omega

/-! ringing -/
def sp_ringing (C : Addr) : Sp := fun vs H Q _ => ∃ (a b c t : Addr) (x : V) (B : List Str) (E : List (Str × Str)) (L : List Str) (w : Str → Int), vs = [.ref a, .ref c, x] ∧ WebAt C H a b B E ∧ Good B E ∧ NumT H c B w ∧ Small B w ∧ StrT H t L ∧ StandIn b B x t L ∧ Feas E B w (liv L) ∧ tot w B ≤ 400 ∧
  ∀ H' p row, Same H H' → StrZ H' p row → RowOf E B w L row → Q (.ref p) H'
theorem sc_ringing : FnScope ["web", "counts", "live", "stand", "wished", "why"] ["web", "counts", "live"] (defScope st_ringing) := ⟨rfl, rfl, rfl, by decide +kernel, rfl, by decide +kernel, by decide +kernel⟩
theorem ok_ringing (T : Txt K mg) (W : WebT K mg C) : DefOkK P w K mg base 4 "ringing" ["web", "counts", "live"] (sp_ringing C) := by
  obtain ⟨t1, m1⟩ := T.c_MOST_PULLS
  obtain ⟨f1, fd1, g1, k1, b1, G1⟩ := ok_check_web (P := P) (w := w) (base := base) T W
  obtain ⟨f2, fd2, g2, k2, b2, G2⟩ := ok_check_counts (P := P) (w := w) (base := base) T W
  obtain ⟨f3, fd3, g3, k3, b3, G3⟩ := ok_stand_of (P := P) (w := w) (base := base) T W
  obtain ⟨f4, fd4, g4, k4, b4, G4⟩ := ok_why_not (P := P) (w := w) (base := base) T W
  obtain ⟨f5, fd5, g5, k5, b5, G5⟩ := ok_rung_out (P := P) (w := w) (base := base) T W
  refine DefOkK.mk' T.d_ringing sc_ringing (fun _ _ _ _ _ _ us ks l1 l2 => match us, ks, l1, l2 with | [_, _], [_], _, _ => ⟨_, _, _, _, _, _, rfl, rfl, rfl⟩) (fun _ _ _ _ _ _ us ws l1 l2 => match us, ws, l1, l2 with | [_, _], [_], _, _ => rfl) (fun vs H Q E h => ?_) (fun f cdv A outer s H vs Q E' hr h => ?_)
  · obtain ⟨a, b, c, t, x, B, E, L, w, rfl, _⟩ := h
    rfl
  · obtain ⟨a, b, c, t, x, B, E, L, w, rfl, hw, good, hc, sm, ⟨ut, it, ht⟩, hx, feas, few, k⟩ := h
    have nd := sc_ringing.nd
    obtain ⟨⟨dx, e, ha, _⟩, ub, ib, hb⟩ := id hw
    refine ⟨_, pss_cons (ps_expr (pe_call G1 (hr.mono (by decide)) rfl g1 k1 b1 .nil pass0 (pa_cons (pv 0) pa_nil))) (pss_cons (ps_expr (pe_call G2 hr rfl g2 k2 b2 .nil pass0 (pa_cons (pv 0) (pa_cons (pv 1) pa_nil))))
      (pss_cons (ps_par (i := 3) (j := 4) rfl nd rfl rfl (by decide) rfl rfl (pa_cons (pe_call G3 (hr.mono (by decide)) rfl g3 k3 b3 .nil pass0 (pa_cons (pv 0) (pa_cons (pv 2) pa_nil))) (pa_cons (pe_dictZip rfl rfl T.b_dict rfl T.b_zip (pa_cons (pe_fld (pv 0) rfl) (pa_cons (pv 1) pa_nil))) pa_nil)) (by rfl))
      (pss_cons (ps_set (i := 5) nd rfl (Or.inl rfl) (pe_call G4 hr rfl g4 k4 b4 .nil pass0 (pa_cons (pv 0) (pa_cons (pv 4) (pa_cons (pv 3) pa_nil)))))
      (pss_cons (ps_if (pt_cmpR op_notN (pv 5) pe_non (nomark _)) (pss_one ps_never) pss_nil)
      (pss_cons (ps_if (pt_cmpR op_gt (pe_callB (cr_sumT rfl) rfl T.b_sum (by decide +kernel) (pa_cons (pv 1) pa_nil)) (pe_glob (v := .int 400) rfl m1 ⟨_, rfl⟩) (nomark _)) (pss_one ps_never) pss_nil)
      (pss_one (ps_ret (pe_call G5 hr rfl g5 k5 b5 .nil pass0 (pa_cons (pv 0) (pa_cons (pv 4) (pa_cons (pv 3) (pa_cons (pe_lst pa_nil) pa_nil))))))))))))
      , ?_⟩
    have hc' : H c = some (.tup ((B.map w).map V.int)) := by
      rw [List.map_map]
      exact hc
    refine ⟨_, rfl, a, dx, _, rfl, ha, _, rfl, _, rfl, a, b, c, B, E, B.map w, rfl, hw, hc', List.length_map .., fun n hn => ?_, fun H1 s1 => ?_⟩
    · obtain ⟨y, hy, rfl⟩ := List.mem_map.mp hn
      exact sm y hy
    · refine ⟨_, rfl, _, rfl, a, b, t, x, B, E, L, rfl, hw.same s1, ⟨_, it, s1 _ _ ht⟩, hx, fun H2 s2 => ?_⟩
      have s3 := s1.trans s2
      refine ⟨_, rfl, a, C, dx, _, _, rfl, s3 _ _ ha, W.cl, W.nB, wf_bells _ _, _, rfl, b, c, B, _, rfl, sqT (s3 _ _ hb), sqT (s3 _ _ hc), (List.length_map ..).symm, good.nd, fun d hd => ?_⟩
      rw [zipK_dm]
      have s4 : Same H (upd H2 d (.dK (dm B fun b => .int (w b)))) := s3.trans (Same.new hd)
      refine ⟨_, _, rfl, ?_⟩
      refine ⟨_, rfl, _, rfl, _, rfl, a, b, d, t, B, E, L, w, rfl, hw.same s4, good, upd_same, ⟨_, it, s4 _ _ ht⟩, .inl ⟨feas, fun H5 s5 => ?_⟩⟩
      have s6 := s4.trans s5
      refine ⟨_, rfl, rfl, _, rfl, iteF ?_⟩
      refine ⟨_, rfl, c, B.map w, rfl, SqT.of (by rw [List.map_map]; exact s6 _ _ hc), _, _, rfl, rfl, _, rfl, ?_⟩
      rw [show decide ((400 : Int) < (B.map w).sum) = false from decide_eq_false (by have : (B.map w).sum = tot w B := rfl; omega)]
      refine iteF ?_
      refine ⟨_, rfl, _, rfl, _, rfl, Nat.zero_le _, fun kp hkp => ?_⟩
      have s7 := s6.trans (Same.new hkp (o := .lst []))
      exact ⟨a, b, d, t, kp, B, E, L, w, rfl, hw.same s7, good, Same.new hkp _ _ (s5 _ _ upd_same), ⟨_, it, s7 _ _ ht⟩, upd_same, feas, few, fun H8 p row s8 hp ok => k H8 p row (s7.trans s8) hp ok⟩
end
end Wk
set_option Elab.async false
set_option linter.all false
set_option maxRecDepth 100000
set_option maxHeartbeats 4000000
/-! the law's own: a cell, a purse, a draw -/
namespace Wk
open PySem PySem.Spec PyProof.Rows L2
section
variable {P : Program} {w : World} {K : PySem.W.Frag} {mg : Str → Option Value} {base : Heap} {C : Addr}
theorem posM : (0 : Int) < 1000000123 := by decide
theorem pos48 : (0 : Int) < 48017 := by decide
def sp_cell (K : PySem.W.Frag) : Sp := fun vs H Q _ => ∃ (a : Addr) (ns : List Int) (k : Nat), vs = [.ref a, .int k] ∧ SqL K H a (ns.map V.int) ∧ ns.length ≤ 63 ∧ k ≤ 100 ∧ ∀ H' n, Same H H' → Q (.int n) H'
theorem sc_cell : FnScope ["_law_script", "_law_k", "_law_state", "_law_cell_here"] ["_law_script", "_law_k"] (defScope st_law_cell) := ⟨rfl, rfl, rfl, by decide +kernel, rfl, by decide +kernel, by decide +kernel⟩
theorem ok_cell (T : Txt K mg) : DefOk P w K mg base 1 "_law_cell" ["_law_script", "_law_k"] (sp_cell K) := by
  refine DefOk.mk' T.d_law_cell sc_cell (fun _ _ _ _ _ _ us hl => match us, hl with | [_, _], _ => rfl) (fun vs H Q E h => ?_) (fun f cdv A outer s H vs Q E' hr h => ?_)
  · obtain ⟨a, ns, k, rfl, _⟩ := h
    rfl
  · obtain ⟨a, ns, k, rfl, ha, hl, hk, kk⟩ := h
    have nd := sc_cell.nd
    refine ⟨_, pss_cons (ps_if (pt_cmpR op_lt (pv 1) (pe_callB call_len rfl T.b_len PySem.boot_len (pa_cons (pv 0) pa_nil)) (nomark _)) (pss_one (ps_ret (pe_ix ix_list (pv 0) (pv 1) (fun _ _ => rfl)))) pss_nil)
      (pss_cons (ps_set (i := 2) nd rfl (Or.inl rfl) (pe_op op_mod (pe_op op_mul pe_int (pe_op op_add (pe_op op_add (pe_op op_mul (pv 1) (pv 1)) (pe_op op_mul pe_int (pv 1))) pe_int)) pe_int))
      (pss_cons (ps_for PassesOwn.never rfl (pi_list (pe_slice sl_list (pv 0) po_none (po_some pe_int))) (pg_name (i := 3) nd rfl (Or.inl rfl))
        (pss_one (ps_set (i := 2) nd rfl (Or.inl rfl) (pe_op op_mod (pe_op op_add (pe_op op_mul (pv 2) pe_int) (pv 3)) pe_int))))
      (pss_one (ps_ret (pv 2))))), ?_⟩
    refine ⟨_, rfl, _, rfl, _, ns.length, rfl, .inl ⟨_, ha, (List.length_map ..).symm⟩, _, _, rfl, rfl, _, rfl, ?_⟩
    refine ite2 (fun h => ?_) fun h => ?_
    · have h : k < ns.length := by
        have := of_decide_eq_true h
        omega
      exact ⟨_, rfl, _, rfl, a, _, _, .int ns[k], rfl, rfl, ha, at_of (j := k) rfl (by simp [h]), kk _ _ (Same.refl _)⟩
    · refine ⟨_, rfl, _, rfl, _, _, rfl, rfl, .inl (by omega), _, rfl, _, _, rfl, rfl, .inl (by decide), _, _, rfl, rfl, _, _, rfl, rfl, _, _, rfl, rfl, .inl (by decide), _, _, rfl, rfl, posM, ?_⟩
      refine ⟨_, rfl, _, rfl, a, _, rfl, ha, fun p hp => ?_⟩
      refine ⟨p, rfl, ⟨_, SqL.of upd_same⟩, for_list (xs := cutV (ns.map V.int) none (some 3)) (fun i σ H1 => ∃ (z : Int) (v : Option V), σ = [some (.ref a), some (.int k), some (.int z), v] ∧ 0 ≤ z ∧ z < 1000000123 ∧ Same (upd H p (.lst (cutV (ns.map V.int) none (some 3)))) H1)
        ⟨_, none, rfl, Int.emod_nonneg _ (by decide), Int.emod_lt_of_pos _ (by decide), Same.refl _⟩ (fun i σ H1 _ ⟨_, _, _, _, _, s1⟩ => SqL.of (s1 _ _ upd_same)) ?_ ?_⟩
      · rintro i x σ H1 hx ⟨z, v, rfl, z1, z2, s1⟩
        have hm : x ∈ ns.map V.int := by
          have h1 := List.mem_of_getElem? hx
          unfold cutV at h1
          exact List.mem_of_mem_drop (List.mem_of_mem_take h1)
        obtain ⟨y, _, rfl⟩ := List.mem_map.mp hm
        exact ⟨_, rfl, _, _, rfl, rfl, .inl ⟨by omega, by omega⟩, _, rfl, _, _, rfl, rfl, _, _, rfl, rfl, posM, _, _, rfl, Int.emod_nonneg _ (by decide), Int.emod_lt_of_pos _ (by decide), s1⟩
      · rintro σ H1 ⟨z, v, rfl, z1, z2, s1⟩
        exact ⟨_, rfl, kk _ _ ((Same.new hp).trans s1)⟩

/-! a purse -/
def PurseAt (H : Hp) (p : Addr) : Prop := ∃ d z c : Int, 0 ≤ d ∧ H p = some (.lst [.int d, .int z, .int c])
/-- all but the purse stands as it did -/
def But (p : Addr) (H H' : Hp) : Prop := ∀ c o, H c = some o → c ≠ p → H' c = some o
theorem But.refl (p : Addr) (H : Hp) : But p H H := fun _ _ h _ => h
theorem But.trans {p : Addr} {H H1 H2 : Hp} (a : But p H H1) (b : But p H1 H2) : But p H H2 := fun c o h n => b c o (a c o h n) n
theorem But.of {p : Addr} {H H' : Hp} (s : Same H H') : But p H H' := fun c o h _ => s c o h
theorem PurseAt.same {H H' : Hp} {p : Addr} (s : Same H H') (h : PurseAt H p) : PurseAt H' p := let ⟨d, z, c, h0, h1⟩ := h; ⟨d, z, c, h0, s _ _ h1⟩
/-- what isn't a list of three numbers stands apart from the purse -/
theorem PurseAt.ne {H : Hp} {p c : Addr} {o : HO} (h : PurseAt H p) (hc : H c = some o) (hn : ∀ d z n : Int, o ≠ .lst [.int d, .int z, .int n]) : c ≠ p := fun e => by
  obtain ⟨d, z, n, _, h1⟩ := h
  rw [e, h1] at hc
  exact hn d z n (Option.some.inj hc).symm
theorem But.free {p c : Addr} {H H' : Hp} (b : But p H H') (pp : PurseAt H p) (h : H' c = none) (hp : c ≠ p) : H c = none := by
  cases q : H c with
  | none => rfl
  | some o =>
    rw [b c o q hp] at h
    cases h
theorem But.new {p q : Addr} {H H1 : Hp} {o : HO} (b : But p H H1) (h : H1 q = none) : But p H (upd H1 q o) := b.trans (But.of (Same.new h))
def sp_purse : Sp := fun vs H Q _ => ∃ n : Int, vs = [.int n] ∧ ∀ H' p, Same H H' → H p = none → PurseAt H' p → Q (.ref p) H'
theorem sc_purse : FnScope ["_law_cell_here", "_law_digits"] ["_law_cell_here"] (defScope st_law_purse) := ⟨rfl, rfl, rfl, by decide +kernel, rfl, by decide +kernel, by decide +kernel⟩
theorem ok_purse (T : Txt K mg) : DefOk P w K mg base 1 "_law_purse" ["_law_cell_here"] sp_purse := by
  refine DefOk.mk' T.d_law_purse sc_purse (fun _ _ _ _ _ _ us hl => match us, hl with | [_], _ => rfl) (fun vs H Q E h => ?_) (fun f cdv A outer s H vs Q E' hr h => ?_)
  · obtain ⟨n, rfl, _⟩ := h
    rfl
  · obtain ⟨n, rfl, k⟩ := h
    have nd := sc_purse.nd
    refine ⟨_, pss_cons (ps_set (i := 1) nd rfl (Or.inl rfl) (pe_ifExp (PW.pt (pw_or (pt_cmpR op_lt (pv 0) pe_int (nomark _)) (pw_or1 (pt_cmpR op_ge (pv 0) (pe_op op_pow pe_int pe_int) (nomark _))))) (pe_callB call_abs rfl T.b_abs (by decide +kernel) (pa_cons (pv 0) pa_nil)) pe_int))
      (pss_one (ps_ret (pe_lst (pa_cons (pv 1) (pa_cons (pe_op op_add (pe_op op_mul (pe_op op_mod (pv 0) pe_int) pe_int) pe_int) (pa_cons pe_int pa_nil)))))), ?_⟩
    have fin : ∀ d : Int, 0 ≤ d → (tRet (tLst (tCons (tVar 1) (tCons (tOp (rI0 fun i j => .int (i + j)) (tOp (rI CMul fun i j => .int (i * j)) (tOp (rI (fun _ j => 0 < j) fun i j => .int (i % j)) (tVar 0) (tC (.int 1000000123))) (tC (.int 7001))) (tC (.int 3007))) (tCons (tC (.int 0)) tNil))))) { nx := fun _ H' => Q .non H', rt := Q } [some (.int n), some (.int d)] H := fun d hd => by
      have h1 := Int.emod_nonneg n (show (1000000123 : Int) ≠ 0 by decide)
      have h2 := Int.emod_lt_of_pos n (show (0 : Int) < 1000000123 by decide)
      exact ⟨_, rfl, _, rfl, _, _, rfl, rfl, posM, _, _, rfl, rfl, .inl ⟨by omega, by omega⟩, _, _, rfl, rfl, by show 3 ≤ sizeLine; decide, fun p hp => k _ p (Same.new hp) hp ⟨d, _, 0, hd, upd_same⟩⟩
    refine ⟨_, rfl, _, _, rfl, rfl, _, rfl, ?_⟩
    have ab : 0 ≤ (if n < 0 then -n else n) := by split <;> omega
    refine ite2 (fun h => ?_) fun h => ?_
    · exact iteT ⟨_, rfl, _, rfl, fin _ ab⟩
    · refine ⟨_, rfl, _, _, rfl, rfl, ⟨by decide, by decide, by decide⟩, _, _, rfl, rfl, _, rfl, ?_⟩
      refine ite2 (fun h2 => ⟨_, rfl, _, rfl, fin _ ab⟩) fun h2 => fin 0 (by decide)

/-! a draw -/
def sp_draw : Sp := fun vs H Q _ => ∃ (p : Addr) (m : Int), vs = [.ref p, .int m] ∧ PurseAt H p ∧ 1 ≤ m ∧ m ≤ 1000 ∧ ∀ H' r, But p H H' → PurseAt H' p → 0 ≤ r → r < m → Q (.int r) H'
theorem sc_draw : FnScope ["_law_purse_here", "_law_many", "_law_digit", "_law_state"] ["_law_purse_here", "_law_many"] (defScope st_law_draw) := ⟨rfl, rfl, rfl, by decide +kernel, rfl, by decide +kernel, by decide +kernel⟩
theorem ok_draw (T : Txt K mg) : DefOk P w K mg base 1 "_law_draw" ["_law_purse_here", "_law_many"] sp_draw := by
  refine DefOk.mk' T.d_law_draw sc_draw (fun _ _ _ _ _ _ us hl => match us, hl with | [_, _], _ => rfl) (fun vs H Q E h => ?_) (fun f cdv A outer s H vs Q E' hr h => ?_)
  · obtain ⟨p, m, rfl, _⟩ := h
    rfl
  · obtain ⟨p, m, rfl, ⟨d, z, c, hd, hp⟩, m1, m2, k⟩ := h
    have nd := sc_draw.nd
    refine ⟨_, pss_cons (ps_asg (pe_op op_add (pe_ix ix_list (pv 0) pe_int (fun _ _ => rfl)) pe_int) (pg_sub (pv 0) pe_int set_list))
      (pss_cons (ps_if (pt_cmpR op_gt (pe_ix ix_list (pv 0) pe_int (fun _ _ => rfl)) pe_int (nomark _))
        (pss_cons (ps_asg (pe_callB call_divmod rfl T.b_divmod (by decide +kernel) (pa_cons (pe_ix ix_list (pv 0) pe_int (fun _ _ => rfl)) (pa_cons (pv 1) pa_nil))) (pg_tup rfl (pgs_cons (pg_sub (pv 0) pe_int set_list) (pgs_cons (pg_name (i := 2) nd rfl (Or.inl rfl)) pgs_nil))))
          (pss_one (ps_ret (pv 2)))) pss_nil)
      (pss_cons (ps_set (i := 3) nd rfl (Or.inl rfl) (pe_op op_mod (pe_ix ix_list (pv 0) pe_int (fun _ _ => rfl)) pe_int))
      (pss_cons (ps_asg (pe_op op_add (pe_op op_mul (pv 3) (pe_op op_add (pe_op op_mod (pv 3) pe_int) pe_int)) (pe_op op_mul pe_int (pe_ix ix_list (pv 0) pe_int (fun _ _ => rfl)))) (pg_sub (pv 0) pe_int set_list))
      (pss_one (ps_ret (pe_op op_mod (pe_op op_fdiv (pe_op op_mod (pe_ix ix_list (pv 0) pe_int (fun _ _ => rfl)) pe_int) pe_int) (pv 1))))))), ?_⟩
    refine ⟨_, rfl, p, _, _, .int c, rfl, rfl, SqL.of hp, rfl, _, _, rfl, rfl, _, rfl, p, _, _, 2, rfl, rfl, hp, rfl, ?_⟩
    have h1 : (upd H p (.lst [.int d, .int z, .int (c + 1)])) p = some (.lst [.int d, .int z, .int (c + 1)]) := upd_same
    refine ⟨_, rfl, p, _, _, .int d, rfl, rfl, SqL.of h1, rfl, _, _, rfl, rfl, _, rfl, ?_⟩
    have e1 := Int.emod_nonneg d (show m ≠ 0 by omega)
    have e2 := Int.emod_lt_of_pos d (show (0 : Int) < m by omega)
    refine ite2 (fun h => ?_) fun h => ?_
    · refine ⟨_, rfl, p, _, _, .int d, rfl, rfl, SqL.of h1, rfl, _, rfl, _, _, rfl, ⟨by omega, by omega⟩, fun q hq => ?_⟩
      have nq : p ≠ q := some_ne h1 hq
      refine ⟨q, _, rfl, sqT upd_same, rfl, _, _, rfl, _, rfl, p, _, _, 0, rfl, rfl, (by rw [upd_ne nq]; exact h1), rfl, _, _, rfl, rfl, _, rfl, ?_⟩
      refine k _ _ (fun b o hb ne => ?_) ⟨d / m, z, c + 1, Int.ediv_nonneg hd (by omega), upd_same⟩ e1 e2
      have nbq : b ≠ q := fun e => by
        rw [e] at hb
        rw [upd_ne nq.symm, hb] at hq
        cases hq
      rw [upd_ne ne, upd_ne nbq, upd_ne ne]
      exact hb
    · refine ⟨_, rfl, p, _, _, .int z, rfl, rfl, SqL.of h1, rfl, _, _, rfl, rfl, posM, ?_⟩
      have z1 := Int.emod_nonneg z (show (1000000123 : Int) ≠ 0 by decide)
      have z2 := Int.emod_lt_of_pos z (show (0 : Int) < 1000000123 by decide)
      refine ⟨_, rfl, _, rfl, _, _, rfl, rfl, pos48, _, _, rfl, rfl, _, _, rfl, rfl, .inl ⟨by omega, by omega⟩, _, rfl, p, _, _, .int (c + 1), rfl, rfl, SqL.of h1, rfl, _, _, rfl, rfl, .inl (by decide), _, _, rfl, rfl, _, rfl, p, _, _, 1, rfl, rfl, h1, rfl, ?_⟩
      refine ⟨_, rfl, p, _, _, _, rfl, rfl, SqL.of upd_same, rfl, _, _, rfl, rfl, posM, _, _, rfl, rfl, ⟨by decide, by decide⟩, _, rfl, _, _, rfl, rfl, (by show 0 < m; omega), ?_⟩
      exact k _ _ (fun b o hb ne => by rw [upd_ne ne, upd_ne ne]; exact hb) ⟨d, _, c + 1, hd, upd_same⟩ (Int.emod_nonneg _ (by omega)) (Int.emod_lt_of_pos _ (by omega))
end
end Wk
set_option Elab.async false
set_option linter.all false
set_option maxRecDepth 100000
set_option maxHeartbeats 4000000
/-! the law's names: unlike, small letters, rising when sorted. -/
namespace Wk
open PySem PySem.Spec PyProof.Rows L2
def lettersL : List Nat := ("abcdefghijklmnopqrstuvwxyz" : Str).cps.toList
theorem lettersL_eq : lettersL = List.range' 97 26 := by decide +kernel
def nameB (x : Str) : Bool := decide (1 ≤ x.length) && (decide (x.length ≤ 8) && x.cps.toList.all fun c => decide (c ∈ lettersL))
theorem nameB_ok {x : Str} (h : nameB x = true) : NameOk x := by
  unfold nameB at h
  obtain ⟨h1, h⟩ := Bool.and_eq_true_iff.mp h
  obtain ⟨h2, h3⟩ := Bool.and_eq_true_iff.mp h
  exact ⟨of_decide_eq_true h1, of_decide_eq_true h2, fun c hc => of_decide_eq_true (List.all_eq_true.mp h3 c hc)⟩
def wordsL : List Str := ["pull", "put", "strike", "wake", "unwake", "back", "web", "heard", "live", "rung", "can", "most", "end"]
theorem words_ok : wordsL.all nameB = true := by decide +kernel
theorem words_nd : wordsL.Nodup := by decide +kernel
/-- the steps -/
def stepsL : List Nat := [1, 5, 7, 11]
theorem idx_nd13 : ∀ t, t < 13 → ∀ s ∈ stepsL, ((List.range 8).map fun k => (t + s * k) % 13).Nodup := by decide +kernel
theorem idx_nd26 : ∀ t, t < 13 → ∀ s ∈ stepsL, ((List.range 8).map fun k => (2 * t + s * k) % 26).Nodup := by decide +kernel
theorem range_pre {m n : Nat} (h : m ≤ n) {β : Type} (f : Nat → β) (nd : ((List.range n).map f).Nodup) : ((List.range m).map f).Nodup := by
  have e : (List.range n).take m = List.range m := by
    rw [List.take_range, Nat.min_eq_left h]
  rw [← e, List.map_take]
  exact nd.sublist (List.take_sublist _ _)
theorem map_nd {α β : Type} {f : α → β} {l : List α} (inj : ∀ a ∈ l, ∀ b ∈ l, f a = f b → a = b) (nd : l.Nodup) : (l.map f).Nodup := by
  rw [List.nodup_iff_pairwise_ne, List.pairwise_map]
  exact (List.nodup_iff_pairwise_ne.mp nd).imp_of_mem fun ha hb hne e => hne (inj _ ha _ hb e)
theorem wordsL_len : wordsL.length = 13 := rfl
/-- words at unlike places -/
def wordAt (j : Nat) : Str := wordsL.getD j ""
theorem wordAt_eq {j : Nat} (h : j < 13) : wordsL[j]? = some (wordAt j) := by
  unfold wordAt
  rw [List.getD_eq_getElem?_getD, List.getElem?_eq_getElem (by rw [wordsL_len]; exact h)]
  rfl
theorem wordAt_ok {j : Nat} (h : j < 13) : NameOk (wordAt j) := nameB_ok (List.all_eq_true.mp words_ok _ (List.mem_of_getElem? (wordAt_eq h)))
theorem wordAt_inj {i j : Nat} (hi : i < 13) (hj : j < 13) (e : wordAt i = wordAt j) : i = j := nd_ix words_nd (wordAt_eq hi) (by rw [e]; exact wordAt_eq hj)
theorem words_case {t s m : Nat} (ht : t < 13) (hs : s ∈ stepsL) (hm : m ≤ 8) : ((List.range m).map fun k => wordAt ((t + s * k) % 13)).Nodup ∧ ∀ x ∈ (List.range m).map fun k => wordAt ((t + s * k) % 13), NameOk x := by
  constructor
  · have h1 := range_pre hm _ (idx_nd13 t ht s hs)
    have e : ((List.range m).map fun k => wordAt ((t + s * k) % 13)) = ((List.range m).map fun k => (t + s * k) % 13).map wordAt := by rw [List.map_map]; rfl
    rw [e]
    refine map_nd (fun a ha b hb q => ?_) h1
    obtain ⟨i, _, rfl⟩ := List.mem_map.mp ha
    obtain ⟨j, _, rfl⟩ := List.mem_map.mp hb
    exact wordAt_inj (Nat.mod_lt _ (by decide)) (Nat.mod_lt _ (by decide)) q
  · intro x hx
    obtain ⟨k, _, rfl⟩ := List.mem_map.mp hx
    exact wordAt_ok (Nat.mod_lt _ (by decide))
/-- a letter between two texts -/
theorem glue_case {pre post : Str} {f : Nat → Nat} {m : Nat} (hl : pre.length + post.length ≤ 7) (hpre : ∀ c ∈ pre.cps.toList, c ∈ lettersL) (hpost : ∀ c ∈ post.cps.toList, c ∈ lettersL) (hf : ∀ k, f k ∈ lettersL) (nd : ((List.range m).map f).Nodup) :
    ((List.range m).map fun k => pre ++ ⟨#[f k]⟩ ++ post).Nodup ∧ ∀ x ∈ (List.range m).map fun k => pre ++ ⟨#[f k]⟩ ++ post, NameOk x := by
  have cps : ∀ c : Nat, (pre ++ (⟨#[c]⟩ : Str) ++ post).cps.toList = pre.cps.toList ++ c :: post.cps.toList := fun c => by
    show (pre.cps ++ #[c] ++ post.cps).toList = _
    simp
  constructor
  · have e : ((List.range m).map fun k => pre ++ ⟨#[f k]⟩ ++ post) = ((List.range m).map f).map fun c => pre ++ ⟨#[c]⟩ ++ post := by rw [List.map_map]; rfl
    rw [e]
    refine map_nd (fun a _ b _ q => ?_) nd
    have q2 := congrArg (fun z : Str => z.cps.toList) q
    simp only [cps] at q2
    exact (List.cons.inj (List.append_cancel_left q2)).1
  · intro x hx
    obtain ⟨k, _, rfl⟩ := List.mem_map.mp hx
    have hlen : (pre ++ (⟨#[f k]⟩ : Str) ++ post).length = pre.length + post.length + 1 := by
      show (pre ++ (⟨#[f k]⟩ : Str) ++ post).cps.size = pre.cps.size + post.cps.size + 1
      rw [← Array.length_toList, cps, List.length_append, List.length_cons, Array.length_toList, Array.length_toList]
      omega
    refine ⟨by omega, by omega, fun c hc => ?_⟩
    rw [cps] at hc
    rcases List.mem_append.mp hc with h | h
    · exact hpre c h
    · rcases List.mem_cons.mp h with h | h
      · rw [h]
        exact hf k
      · exact hpost c h
/-- the letter at a place -/
def letAt (j : Nat) : Nat := lettersL.getD j 0
theorem letAt_eq {j : Nat} (h : j < 26) : lettersL[j]? = some (letAt j) := by
  unfold letAt
  rw [List.getD_eq_getElem?_getD, lettersL_eq, List.getElem?_range' (by exact h)]
  rfl
theorem letAt_in {j : Nat} (h : j < 26) : letAt j ∈ lettersL := List.mem_of_getElem? (letAt_eq h)
theorem letters_nd : lettersL.Nodup := by rw [lettersL_eq]; exact List.nodup_range'
theorem letAt_inj {i j : Nat} (hi : i < 26) (hj : j < 26) (e : letAt i = letAt j) : i = j := nd_ix letters_nd (letAt_eq hi) (by rw [e]; exact letAt_eq hj)
theorem letters_case {t s m : Nat} (ht : t < 13) (hs : s ∈ stepsL) (hm : m ≤ 8) : ((List.range m).map fun k => letAt ((2 * t + s * k) % 26)).Nodup := by
  have h1 := range_pre hm _ (idx_nd26 t ht s hs)
  have e : ((List.range m).map fun k => letAt ((2 * t + s * k) % 26)) = ((List.range m).map fun k => (2 * t + s * k) % 26).map letAt := by rw [List.map_map]; rfl
  rw [e]
  refine map_nd (fun a ha b hb q => ?_) h1
  obtain ⟨i, _, rfl⟩ := List.mem_map.mp ha
  obtain ⟨j, _, rfl⟩ := List.mem_map.mp hb
  exact letAt_inj (Nat.mod_lt _ (by decide)) (Nat.mod_lt _ (by decide)) q

/-! ### sorted and unlike: rising -/
theorem ltS_trans {a b c : Str} (h1 : ltS a b) (h2 : ltS b c) : ltS a c := List.lt_trans h1 h2
theorem not_lt_S {a b : Str} (h : ¬ ltS b a) (hne : a ≠ b) : ltS a b := by
  have h1 : a.cps.toList ≤ b.cps.toList := List.not_lt.mp h
  rcases List.le_iff_lt_or_eq.mp h1 with q | q
  · exact q
  · refine absurd ?_ hne
    cases a
    cases b
    exact congrArg Str.mk (Array.toList_inj.mp q)
theorem rising_up : ∀ (ys : List Str) (p : Str), risingS p ys = true → (p :: ys).Nodup → (p :: ys).Pairwise ltS
  | [], p, _, _ => List.pairwise_singleton _ _
  | x :: r, p, h, nd => by
    obtain ⟨h1, h2⟩ := Bool.and_eq_true_iff.mp h
    obtain ⟨n1, n2⟩ := List.nodup_cons.mp nd
    have ih := rising_up r x h2 n2
    have hpx : ltS p x := by
      refine not_lt_S (fun q => ?_) fun e => n1 (by rw [e]; exact List.mem_cons_self)
      rw [ltCps_eq, decide_eq_true (show x.cps.toList < p.cps.toList from q)] at h1
      cases h1
    refine List.pairwise_cons.mpr ⟨fun y hy => ?_, ih⟩
    rcases List.mem_cons.mp hy with e | hy
    · rw [e]
      exact hpx
    · exact ltS_trans hpx ((List.pairwise_cons.mp ih).1 y hy)
theorem sorted_up {ys : List Str} (h : sortedS ys = true) (nd : ys.Nodup) : ys.Pairwise ltS := by
  cases ys with
  | nil => exact List.Pairwise.nil
  | cons x r => exact rising_up r x h nd
theorem bells_of {xs ys : List Str} (hp : ys.Perm xs) (hs : sortedS ys = true) (nd : xs.Nodup) (nm : ∀ x ∈ xs, NameOk x) (h1 : 1 ≤ xs.length) (h2 : xs.length ≤ 12) : BellsOk ys :=
  ⟨by rw [hp.length_eq]; exact h1, by rw [hp.length_eq]; exact h2, fun x hx => nm x (hp.mem_iff.mp hx), sorted_up hs (hp.nodup_iff.mpr nd)⟩
theorem BellsOk.nd {B : List Str} (h : BellsOk B) : B.Nodup := by
  rw [List.nodup_iff_pairwise_ne]
  refine h.up.imp fun {a b} q => ?_
  intro e
  rw [e] at q
  exact ltS_irrefl _ q
theorem WakesOk.nd {B : List Str} {E : List (Str × Str)} (h : WakesOk B E) : E.Nodup := by
  rw [List.nodup_iff_pairwise_ne]
  refine h.up.imp fun {a b} q => ?_
  intro e
  rw [e] at q
  rcases q with q | ⟨_, q⟩ <;> exact ltS_irrefl _ q
end Wk
set_option Elab.async false
set_option linter.all false
set_option maxRecDepth 100000
set_option maxHeartbeats 8000000
/-! the law's own: names -/
namespace Wk
open PySem PySem.Spec PyProof.Rows L2
theorem at_any {α : Type} {xs : List α} {z : Int} {j : Nat} {v : α} (e : z = (j : Int)) (h : xs[j]? = some v) : atI xs z = some v := by
  rw [e]
  exact atI_nat h
theorem join_ones : ∀ cs : List Nat, TL.joinL [] (cs.map fun c => [c]) = cs
  | [] => rfl
  | [_] => rfl
  | a :: b :: r => by
    have ih := join_ones (b :: r)
    show [a] ++ ([] ++ TL.joinL [] ([b] :: r.map fun c => [c])) = a :: b :: r
    rw [List.nil_append]
    rw [show TL.joinL [] ([b] :: r.map fun c => [c]) = b :: r from ih]
    rfl
theorem join_signs (cs : List Nat) : Txt.join "" (cs.map fun c => (⟨#[c]⟩ : Str)) = ⟨cs.toArray⟩ := by
  have h := SX.join_S [] (cs.map fun c => [c])
  rw [join_ones, List.map_map] at h
  exact h
theorem slice_pre (z : Str) (k : Nat) (h : k ≤ z.length) : (cutS z none (some (k : Int))).cps.toList = z.cps.toList.take k := by
  unfold cutS
  rw [HT.sIx_none, HT.sIx_nat, Nat.min_eq_left h]
  simp
theorem slice_post (z : Str) (k : Nat) (h : k ≤ z.length) : (cutS z (some (k : Int)) none).cps.toList = z.cps.toList.drop k := by
  have e : z.cps.toList.length = z.length := Array.length_toList
  unfold cutS
  rw [HT.sIx_none, HT.sIx_nat, Nat.min_eq_left h]
  show List.take (z.length - k) (List.drop k z.cps.toList) = _
  exact List.take_of_length_le (by rw [List.length_drop, e]; exact Nat.le_refl _)
section
variable {P : Program} {w : World} {K : PySem.W.Frag} {mg : Str → Option Value} {base : Heap} {C : Addr}
def sp_names : Sp := fun vs H Q _ => ∃ (p : Addr) (m : Nat), vs = [.ref p, .int m] ∧ PurseAt H p ∧ 1 ≤ m ∧ m ≤ 8 ∧ ∀ H' t B, But p H H' → PurseAt H' p → StrZ H' t B → BellsOk B → B.length ≤ 8 → Q (.ref t) H'
theorem sc_names : FnScope ["_law_purse_here", "_law_many", "_law_words", "_law_turn", "_law_step", "_law_k", "_law_letters", "_law_stem", "_law_at", "_law_found", "_law_letter"] ["_law_purse_here", "_law_many"] (defScope st_law_names) := ⟨rfl, rfl, rfl, by decide +kernel, rfl, by decide +kernel, by decide +kernel⟩
theorem ok_names (T : Txt K mg) : DefOk P w K mg base 2 "_law_names" ["_law_purse_here", "_law_many"] sp_names := by
  obtain ⟨f1, fd1, g1, k1, b1, G1⟩ := ok_draw (P := P) (w := w) (base := base) T
  refine DefOk.mk' T.d_law_names sc_names (fun _ _ _ _ _ _ us hl => match us, hl with | [_, _], _ => rfl) (fun vs H Q E h => ?_) (fun f cdv A outer s H vs Q E' hr h => ?_)
  · obtain ⟨p, m, rfl, _⟩ := h
    rfl
  · obtain ⟨p, m, rfl, pp, m1, m8, k⟩ := h
    have nd := sc_names.nd
    refine ⟨_, pss_cons (ps_set (i := 2) nd rfl (Or.inr rfl) (pe_lst (pa_cons pe_str (pa_cons pe_str (pa_cons pe_str (pa_cons pe_str (pa_cons pe_str (pa_cons pe_str (pa_cons pe_str (pa_cons pe_str (pa_cons pe_str (pa_cons pe_str (pa_cons pe_str pa_nil)))))))))))))
      (pss_cons (ps_set (i := 2) nd rfl (Or.inr rfl) (pe_op op_cat (pv 2) (pe_lst (pa_cons pe_str (pa_cons pe_str pa_nil)))))
      (pss_cons (ps_asg (pe_tup (pa_cons (pe_call G1 hr rfl g1 k1 b1 .nil pass0 (pa_cons (pv 0) (pa_cons pe_int pa_nil))) (pa_cons (pe_ix ix_list (pe_lst (pa_cons pe_int (pa_cons pe_int (pa_cons pe_int (pa_cons pe_int pa_nil))))) (pe_call G1 hr rfl g1 k1 b1 .nil pass0 (pa_cons (pv 0) (pa_cons pe_int pa_nil))) (fun _ _ => rfl)) pa_nil)))
          (pg_tup rfl (pgs_cons (pg_name (i := 3) nd rfl (Or.inr rfl)) (pgs_cons (pg_name (i := 4) nd rfl (Or.inr rfl)) pgs_nil))))
      (pss_cons (ps_if (pt_cmpR op_eq (pe_call G1 hr rfl g1 k1 b1 .nil pass0 (pa_cons (pv 0) (pa_cons pe_int pa_nil))) pe_int (nomark _))
        (pss_one (ps_ret (pe_callTy call_tupleZ rfl T.b_tuple (by decide +kernel) (pa_cons (pe_callB cr_sortedS rfl T.b_sorted (by decide +kernel) (pa_cons
          (pe_lc (own := [("_law_k", 5)]) (g := gName 5) (tt := tYes) rfl nd (pi_range1 rfl T.b_range (pa_cons (pv 1) pa_nil)) (blkOk_by (N := ["_law_purse_here", "_law_many", "_law_words", "_law_turn", "_law_step", "_law_k", "_law_letters", "_law_stem", "_law_at", "_law_found", "_law_letter"]) (sc := defScope st_law_names) (by decide +kernel))
            (fun _ _ _ _ _ => pg_name (i := 5) nd rfl (Or.inl rfl)) (fun _ _ _ _ _ => pts_nil) (fun _ _ _ _ _ => pe_ix (r := rIxL K) ix_list (pv 2) (pe_op op_mod (pe_op op_add (pv 3) (pe_op op_mul (pv 4) (pv 5))) pe_int) (fun _ _ => rfl))) pa_nil)) pa_nil)))) pss_nil)
      (pss_cons (ps_set (i := 6) nd rfl (Or.inr rfl) pe_str)
      (pss_cons (ps_set (i := 7) nd rfl (Or.inl rfl) (pe_join pe_str (pe_lc (own := [("_law_k", 5)]) (g := gName 5) (tt := tYes) rfl nd (pi_range1 rfl T.b_range (pa_cons (pe_call G1 hr rfl g1 k1 b1 .nil pass0 (pa_cons (pv 0) (pa_cons pe_int pa_nil))) pa_nil))
            (blkOk_by (N := ["_law_purse_here", "_law_many", "_law_words", "_law_turn", "_law_step", "_law_k", "_law_letters", "_law_stem", "_law_at", "_law_found", "_law_letter"]) (sc := defScope st_law_names) (by decide +kernel))
            (fun _ _ _ _ _ => pg_name (i := 5) nd rfl (Or.inl rfl)) (fun _ _ _ _ _ => pts_nil) (fun _ _ _ _ _ => pe_ix ix_str (pv 6) (pe_call G1 hr rfl g1 k1 b1 .nil pass0 (pa_cons (pv 0) (pa_cons pe_int pa_nil))) (fun _ _ => rfl)))))
      (pss_cons (ps_par (i := 8) (j := 9) rfl nd rfl rfl (by decide) rfl rfl (pa_cons (pe_call G1 hr rfl g1 k1 b1 .nil pass0 (pa_cons (pv 0) (pa_cons (pe_op op_add (pe_callB call_len_str rfl T.b_len PySem.boot_len (pa_cons (pv 7) pa_nil)) pe_int) pa_nil))) (pa_cons (pe_lst pa_nil) pa_nil)) (by rfl))
      (pss_cons (ps_for PassesOwn.never rfl (pi_range1 rfl T.b_range (pa_cons (pv 1) pa_nil)) (pg_name (i := 5) nd rfl (Or.inl rfl))
        (pss_cons (ps_set (i := 10) nd rfl (Or.inl rfl) (pe_ix ix_str (pv 6) (pe_op op_mod (pe_op op_add (pe_op op_mul pe_int (pv 3)) (pe_op op_mul (pv 4) (pv 5))) pe_int) (fun _ _ => rfl)))
        (pss_one (ps_expr (pe_bm PySem.F.plainAttrs_list PySem.F.slot_list_append PySem.F.type_list_append mt_append (pv 9) (pa_cons (pe_op op_add_str (pe_op op_add_str (pe_slice sl_str (pv 7) po_none (po_some (pv 8))) (pv 10)) (pe_slice sl_str (pv 7) (po_some (pv 8)) po_none)) pa_nil))))))
      (pss_one (ps_ret (pe_callTy call_tupleZ rfl T.b_tuple (by decide +kernel) (pa_cons (pe_callB cr_sortedS rfl T.b_sorted (by decide +kernel) (pa_cons (pv 9) pa_nil)) pa_nil))))))))))), ?_⟩
    -- the words
    refine ⟨by show 11 ≤ sizeLine; decide, fun w1 hw1 => ?_⟩
    refine ⟨_, rfl, by show 2 ≤ sizeLine; decide, fun w2 hw2 => ?_⟩
    have nw : w1 ≠ w2 := some_ne (upd_same (H := H)) hw2
    refine ⟨w1, w2, _, _, rfl, rfl, by rw [upd_ne nw]; exact upd_same, upd_same, by show 13 ≤ sizeLine; decide, fun ww hww => ?_⟩
    have s1 : Same H (upd (upd (upd H w1 (.lst [.str "pull", .str "put", .str "strike", .str "wake", .str "unwake", .str "back", .str "web", .str "heard", .str "live", .str "rung", .str "can"])) w2 (.lst [.str "most", .str "end"])) ww (.lst (wordsL.map V.str))) := ((Same.new hw1).trans (Same.new hw2)).trans (Same.new hww)
    have hW : (upd (upd (upd H w1 (.lst [.str "pull", .str "put", .str "strike", .str "wake", .str "unwake", .str "back", .str "web", .str "heard", .str "live", .str "rung", .str "can"])) w2 (.lst [.str "most", .str "end"])) ww (.lst (wordsL.map V.str))) ww = some (.lst (wordsL.map V.str)) := upd_same
    have pp1 := pp.same s1
    have nwp : ww ≠ p := pp1.ne hW (fun d z n e => by
      have e1 : wordsL.map V.str = [.int d, .int z, .int n] := HO.lst.inj e
      have e2 := congrArg List.length e1
      rw [List.length_map, wordsL_len] at e2
      cases e2)
    -- turn, step
    refine ⟨_, rfl, p, 13, rfl, pp1, by decide, by decide, fun H2 t0 bt2 pp2 t1 t2 => ?_⟩
    refine ⟨by show 4 ≤ sizeLine; decide, fun sl hsl => ?_⟩
    refine ⟨_, rfl, p, 4, rfl, pp2.same (Same.new hsl), by decide, by decide, fun H3 r3 bt3 pp3 r1 r2 => ?_⟩
    have hsl3 : H3 sl = some (.lst [.int 1, .int 5, .int 7, .int 11]) := bt3 _ _ upd_same fun e => by
      obtain ⟨d, z, c, _, hp⟩ := pp2
      rw [← e, hsl] at hp
      cases hp
    obtain ⟨tn, rfl⟩ := Int.eq_ofNat_of_zero_le t1
    obtain ⟨rn, rfl⟩ := Int.eq_ofNat_of_zero_le r1
    have htn : tn < 13 := by omega
    have hrn : rn < 4 := by omega
    obtain ⟨sn, hsn, hst⟩ : ∃ sn : Nat, ([1, 5, 7, 11] : List Nat)[rn]? = some sn ∧ sn ∈ stepsL := by
      have hl : rn < ([1, 5, 7, 11] : List Nat).length := hrn
      exact ⟨_, List.getElem?_eq_getElem hl, List.getElem_mem hl⟩
    have hstep : sn ≤ 11 := by
      have h1 : ∀ q ∈ stepsL, q ≤ 11 := by decide
      exact h1 sn hst
    refine ⟨sl, _, _, .int (sn : Int), rfl, rfl, SqL.of hsl3, at_of (j := rn) rfl ?_, by show 2 ≤ sizeLine; decide, fun tp htp => ?_⟩
    · have e : ([V.int 1, V.int 5, V.int 7, V.int 11] : List V) = ([1, 5, 7, 11] : List Nat).map fun (n : Nat) => V.int (n : Int) := rfl
      rw [e, List.getElem?_map, hsn]
      rfl
    refine ⟨tp, _, rfl, sqT upd_same, rfl, _, _, rfl, _, _, rfl, rfl, ?_⟩
    have pp4 := pp3.same (Same.new htp (o := .tup [.int tn, .int sn]))
    have bt4 : But p H (upd H3 tp (.tup [.int tn, .int sn])) := (((But.of s1).trans bt2).trans ((But.of (Same.new hsl)).trans bt3)).new htp
    have hW4 : (upd H3 tp (.tup [.int tn, .int sn])) ww = some (.lst (wordsL.map V.str)) := Same.new htp _ _ (bt3 _ _ (Same.new hsl _ _ (bt2 _ _ hW nwp)) nwp)
    refine ⟨_, rfl, p, 4, rfl, pp4, by decide, by decide, fun H5 q5 bt5 pp5 q1 q2 => ?_⟩
    have bt45 := bt4.trans bt5
    have hW5 := bt5 _ _ hW4 nwp
    refine ⟨rfl, _, rfl, ?_⟩
    refine ite2 (fun _ => ?_) fun _ => ?_
    · -- words
      obtain ⟨wnd, wnm⟩ := words_case (m := m) htn hst m8
      refine ⟨_, rfl, _, rfl, by omega, by omega, fun D hD => lc_each (xs := List.range m) (v := fun (i : Nat) => V.int (i : Int)) walk_nums (fun i => .str (wordAt ((tn + sn * i) % 13))) hD ?_ (fun _ _ => trivial) (fun i z H6 hz s6 Rt kt => ?_) (gName_mono 5) fun H6 s6 e6 => ?_⟩
      · rw [List.length_range]
        exact small1000 (by omega)
      · have hzm : z < m := List.mem_range.mp (List.mem_of_getElem? hz)
        refine ⟨rfl, _, rfl, _, rfl, _, rfl, _, rfl, _, _, rfl, rfl, .inl ⟨by omega, by omega⟩, _, _, rfl, rfl, _, _, rfl, rfl, (by show (0 : Int) < 13; decide), ww, _, _, .str (wordAt ((tn + sn * z) % 13)), rfl, rfl, SqL.of (s6 _ _ hW5), at_of (j := (tn + sn * z) % 13) (by simp) ?_, kt _ (Same.refl _)⟩
        rw [List.getElem?_map, wordAt_eq (Nat.mod_lt _ (by decide))]
        rfl
      · refine ⟨D, (List.range m).map fun i => wordAt ((tn + sn * i) % 13), rfl, SqL.of (by rw [e6, List.map_map]; rfl), ?_, fun ys q hperm hsort hq => ?_⟩
        · rw [List.length_map, List.length_range]
          omega
        · refine ⟨q, _, rfl, SqL.of upd_same, fun t ob ht hob1 hob2 => ?_⟩
          have s7 := (s6.trans (Same.new hq (o := .lst (ys.map V.str)))).trans (Same.new ht (o := .frz ob (.tup (ys.map V.str))))
          have len : ((List.range m).map fun i => wordAt ((tn + sn * i) % 13)).length = m := by rw [List.length_map, List.length_range]
          exact k _ t ys (bt45.trans (But.of s7)) (pp5.same s7) ⟨ob, hob1, hob2, upd_same⟩ (bells_of hperm hsort wnd wnm (by rw [len]; exact m1) (by rw [len]; omega)) (by rw [hperm.length_eq, len]; exact m8)
    · -- letters
      refine ⟨⟨_, rfl⟩, _, rfl, p, 8, rfl, pp5, by decide, by decide, fun H6 n6 bt6 pp6 n1 n2 => ?_⟩
      obtain ⟨nn, rfl⟩ := Int.eq_ofNat_of_zero_le n1
      refine ⟨_, rfl, by omega, by omega, fun D hD => ?_⟩
      have nDp : D ≠ p := fun e => by
        obtain ⟨d, z, c, _, hp⟩ := pp6
        rw [← e, hD] at hp
        cases hp
      refine lc_range (n := (nn : Int).toNat) (fun i H7 => But p H6 H7 ∧ PurseAt H7 p ∧ ∃ cs : List Nat, cs.length = i ∧ (∀ c ∈ cs, c ∈ lettersL) ∧ H7 D = some (.lst (cs.map fun c => V.str ⟨#[c]⟩)))
        ⟨But.of (Same.new hD), pp6.same (Same.new hD), [], rfl, fun c hc => absurd hc (List.not_mem_nil), upd_same⟩ (fun i H7 hi ⟨bt7, pp7, cs, hcs, hin, h7⟩ => ?_) fun H7 ⟨bt7, pp7, cs, hcs, hin, h7⟩ => ?_
      · refine ⟨rfl, yesT ⟨_, rfl, _, rfl, p, 26, rfl, pp7, by decide, by decide, fun H8 r8 bt8 pp8 a1 a2 => ?_⟩⟩
        obtain ⟨an, rfl⟩ := Int.eq_ofNat_of_zero_le a1
        have h8 := bt8 _ _ h7 nDp
        have hat : atI ("abcdefghijklmnopqrstuvwxyz" : Str).cps.toList (an : Int) = some (letAt an) := at_any (j := an) rfl (letAt_eq (by omega))
        refine ⟨_, _, letAt an, rfl, rfl, by show 26 ≤ sizeLine; decide, hat, _, h8, small1000 ?_, fun c o hc hne => ?_, ?_, cs ++ [letAt an], ?_, ?_, ?_⟩
        · rw [List.length_map]
          omega
        · rw [upd_ne (some_ne hc hD)]
          exact bt8 _ _ (bt7 c o hc hne) hne
        · obtain ⟨d, z, c, hd0, hp⟩ := pp8
          exact ⟨d, z, c, hd0, by rw [upd_ne nDp.symm]; exact hp⟩
        · rw [List.length_append, hcs]
          rfl
        · intro c hc
          rcases List.mem_append.mp hc with q | q
          · exact hin c q
          · rw [List.mem_singleton.mp q]
            exact letAt_in (by omega)
        · rw [upd_same, List.map_append]
          rfl
      · have e7 : (cs.map fun c => V.str ⟨#[c]⟩) = (cs.map fun c => (⟨#[c]⟩ : Str)).map V.str := by rw [List.map_map]; rfl
        have hcs' : cs.length = nn := by omega
        refine ⟨_, D, cs.map fun c => (⟨#[c]⟩ : Str), rfl, rfl, .inl (SqL.of (by rw [← e7]; exact h7)), ?_, ?_⟩
        · have e8 : ((cs.map fun c => (⟨#[c]⟩ : Str)).map (·.length)).sum = cs.length := by
            clear e7 h7 hin hcs hcs'
            induction cs with
            | nil => rfl
            | cons c cs ih =>
              rw [List.map_cons, List.map_cons, List.sum_cons, ih, List.length_cons]
              show 1 + cs.length = cs.length + 1
              omega
          rw [e8, List.length_map, hcs']
          show nn + nn * 0 ≤ 16777216
          omega
        · rw [join_signs]
          have stl : (⟨cs.toArray⟩ : Str).length = nn := by
            show cs.toArray.size = nn
            rw [List.size_toArray, hcs']
          generalize hstem : (⟨cs.toArray⟩ : Str) = stem at stl ⊢
          have stin : ∀ c ∈ stem.cps.toList, c ∈ lettersL := by rw [← hstem]; exact hin
          clear hstem e7
          have bt57 := bt45.trans (bt6.trans bt7)
          refine ⟨_, rfl, _, rfl, stem, rfl, by rw [stl, sizeLine_eq]; omega, _, _, rfl, rfl, p, _, rfl, pp7, by omega, by omega, fun H8 a8 bt8 pp8 a1 a2 => ?_⟩
          obtain ⟨an, rfl⟩ := Int.eq_ofNat_of_zero_le a1
          have han : an ≤ stem.length := by omega
          refine ⟨Nat.zero_le _, fun fl hfl => ⟨_, _, rfl, ?_⟩⟩
          have nfp : fl ≠ p := fun e => by
            obtain ⟨d, z, c, _, hp⟩ := pp8
            rw [← e, hfl] at hp
            cases hp
          refine ⟨_, rfl, _, rfl, by omega, by omega, for_range (lo := 0) (n := (m : Int).toNat) (fun i σ H9 => ∃ v5 v10, σ = [some (.ref p), some (.int m), some (.ref ww), some (.int tn), some (.int sn), v5, some (.str "abcdefghijklmnopqrstuvwxyz"), some (.str stem), some (.int an), some (.ref fl), v10] ∧
              Same H8 H9 ∧ H9 fl = some (.lst (((List.range i).map fun k => cutS stem none (some (an : Int)) ++ ⟨#[letAt ((2 * tn + sn * k) % 26)]⟩ ++ cutS stem (some (an : Int)) none).map V.str)))
            ⟨none, none, rfl, Same.new hfl, upd_same⟩ ?_ ?_⟩
          · rintro i σ H9 hi ⟨v5, v10, rfl, s9, h9⟩
            have lp : (cutS stem none (some (an : Int))).length ≤ 7 := by
              show (cutS stem none (some (an : Int))).cps.size ≤ 7
              rw [← Array.length_toList, slice_pre _ _ han]
              have := List.length_take_le' an stem.cps.toList
              have e : stem.cps.toList.length = stem.length := Array.length_toList
              omega
            have lq : (cutS stem (some (an : Int)) none).length ≤ 7 := by
              show (cutS stem (some (an : Int)) none).cps.size ≤ 7
              rw [← Array.length_toList, slice_post _ _ han, List.length_drop]
              have e : stem.cps.toList.length = stem.length := Array.length_toList
              omega
            have hat : atI ("abcdefghijklmnopqrstuvwxyz" : Str).cps.toList ((2 * (tn : Int) + (sn : Int) * (0 + (i : Int))) % 26) = some (letAt ((2 * tn + sn * i) % 26)) := at_any (j := (2 * tn + sn * i) % 26) (by rw [Int.zero_add]; simp) (letAt_eq (Nat.mod_lt _ (by decide)))
            refine ⟨_, rfl, _, rfl, _, _, rfl, rfl, .inl (by decide), _, rfl, _, rfl, _, _, rfl, rfl, .inl ⟨by omega, by omega⟩, _, _, rfl, rfl, _, _, rfl, rfl, (by show (0 : Int) < 26; decide), _, _, letAt ((2 * tn + sn * i) % 26), rfl, rfl, by show 26 ≤ sizeLine; decide, hat, ?_⟩
            refine ⟨_, rfl, .inl ⟨rfl, _, SqL.of h9⟩, _, rfl, _, rfl, _, rfl, stem, rfl, by rw [sizeLine_eq]; omega, _, rfl, _, _, rfl, rfl, ?_, _, rfl, _, rfl, _, rfl, stem, rfl, by rw [sizeLine_eq]; omega, _, _, rfl, rfl, ?_, fl, _, _, rfl, rfl, h9, small1000 ?_, _, _, rfl, s9.set hfl, ?_⟩
            · show _ + 1 ≤ sizeLine
              rw [sizeLine_eq]
              omega
            · rw [sizeLine_eq]
              have e1 : (cutS stem none (some (an : Int)) ++ (⟨#[letAt ((2 * tn + sn * i) % 26)]⟩ : Str)).length = (cutS stem none (some (an : Int))).length + 1 := by
                show (cutS stem none (some (an : Int)) ++ (⟨#[letAt ((2 * tn + sn * i) % 26)]⟩ : Str)).cps.size = _
                rw [Str.cps_append, Array.size_append]
                rfl
              omega
            · rw [List.length_map, List.length_map, List.length_range]
              omega
            · rw [upd_same, List.range_succ, List.map_append, List.map_append]
              rfl
          · rintro σ H9 ⟨v5, v10, rfl, s9, h9⟩
            have em : (m : Int).toNat = m := Int.toNat_natCast m
            rw [em] at h9
            have e1 : stem.cps.toList.length = stem.length := Array.length_toList
            obtain ⟨gnd, gnm⟩ := glue_case (pre := cutS stem none (some (an : Int))) (post := cutS stem (some (an : Int)) none) (f := fun k => letAt ((2 * tn + sn * k) % 26)) (m := m) (by
                show (cutS stem none (some (an : Int))).cps.size + (cutS stem (some (an : Int)) none).cps.size ≤ 7
                rw [← Array.length_toList, ← Array.length_toList, slice_pre _ _ han, slice_post _ _ han, List.length_take, List.length_drop]
                omega) (fun c hc => by
                rw [slice_pre _ _ han] at hc
                exact stin c (List.mem_of_mem_take hc)) (fun c hc => by
                rw [slice_post _ _ han] at hc
                exact stin c (List.mem_of_mem_drop hc)) (fun k => letAt_in (Nat.mod_lt _ (by decide))) (letters_case htn hst m8)
            generalize hxs : ((List.range m).map fun k => cutS stem none (some (an : Int)) ++ (⟨#[letAt ((2 * tn + sn * k) % 26)]⟩ : Str) ++ cutS stem (some (an : Int)) none) = xs at h9 gnd gnm
            have len : xs.length = m := by rw [← hxs, List.length_map, List.length_range]
            refine ⟨_, rfl, fl, xs, rfl, SqL.of h9, by omega, fun ys q hperm hsort hq => ?_⟩
            refine ⟨q, _, rfl, SqL.of upd_same, fun t ob ht hob1 hob2 => ?_⟩
            have s10 := (s9.trans (Same.new hq (o := .lst (ys.map V.str)))).trans (Same.new ht (o := .frz ob (.tup (ys.map V.str))))
            exact k _ t ys ((bt57.trans bt8).trans (But.of s10)) (pp8.same s10) ⟨ob, hob1, hob2, upd_same⟩ (bells_of hperm hsort gnd gnm (by rw [len]; exact m1) (by rw [len]; omega)) (by rw [hperm.length_eq, len]; exact m8)
end
end Wk
set_option Elab.async false
set_option linter.all false
set_option maxRecDepth 100000
set_option maxHeartbeats 8000000
/-! the law's own: links, a stand -/
namespace Wk
open PySem PySem.Spec PyProof.Rows L2
theorem tst_or {t u : TT} {σ : L2.St} {H : Hp} {R : Bool → Hp → Prop} (x y : Bool) (ht : ∀ R : Bool → Hp → Prop, R x H → t σ H R) (hu : ∀ R : Bool → Hp → Prop, R y H → u σ H R) (h : R (x || y) H) : tOr t u σ H R := by
  refine ht _ ?_
  cases x with
  | true => exact iteT h
  | false => exact iteF (hu _ h)
theorem tst_and {t u : TT} {σ : L2.St} {H : Hp} {R : Bool → Hp → Prop} (x y : Bool) (ht : ∀ R : Bool → Hp → Prop, R x H → t σ H R) (hu : ∀ R : Bool → Hp → Prop, R y H → u σ H R) (h : R (x && y) H) : tAnd t u σ H R := by
  refine ht _ ?_
  cases x with
  | true => exact iteT (hu _ h)
  | false => exact iteF h
theorem But.out {p c : Addr} {H H' : Hp} (b : But p H H') (pp : PurseAt H p) (h : H' c = none) : c ≠ p ∨ c = p := by
  by_cases e : c = p
  · exact .inr e
  · exact .inl e
theorem PurseAt.off {H : Hp} {p c : Addr} (h : PurseAt H p) (hc : H c = none) : c ≠ p := fun e => by
  obtain ⟨d, z, n, _, h1⟩ := h
  rw [← e, hc] at h1
  cases h1
theorem tup_off {H : Hp} {p t : Addr} {u : HO} {xs : List V} [i : Tu u xs] (h : PurseAt H p) (ht : H t = some u) : t ≠ p := by
  rcases i.is with e | ⟨o, e⟩
  · subst e
    exact h.ne ht fun _ _ _ q => nomatch q
  · subst e
    exact h.ne ht fun _ _ _ q => nomatch q
theorem But.tup {p t : Addr} {H H' : Hp} {u : HO} {xs : List V} [Tu u xs] (b : But p H H') (h : PurseAt H p) (ht : H t = some u) : H' t = some u := b _ _ ht (tup_off h ht)
theorem But.strs {p t : Addr} {H H' : Hp} {xs : List Str} (b : But p H H') (h : PurseAt H p) (ht : StrT H t xs) : StrT H' t xs := let ⟨u, i, ht⟩ := ht; ⟨u, i, b.tup h ht⟩
theorem But.strZ {p t : Addr} {H H' : Hp} {xs : List Str} (b : But p H H') (h : PurseAt H p) (ht : StrZ H t xs) : StrZ H' t xs := let ⟨u, i, j, ht⟩ := ht; ⟨u, i, j, b.tup h ht⟩
theorem Paired.mono {α β : Type} {R R' : α → β → Prop} {ps : List α} {E : List β} (h : Paired R ps E) (f : ∀ p q, R p q → R' p q) : Paired R' ps E := by
  induction h with
  | nil => exact .nil
  | cons r t ih => exact .cons (f _ _ r) ih
theorem But.pairs {p e : Addr} {H H' : Hp} {E : List (Str × Str)} (b : But p H H') (h : PurseAt H p) (hE : PairsT H e E) : PairsT H' e E := by
  obtain ⟨ps, he, rel⟩ := hE
  refine ⟨ps, b.tup h he, ?_⟩
  clear he
  induction rel with
  | nil => exact .nil
  | cons r t ih => exact .cons (b.tup h r) ih
section
variable {P : Program} {w : World} {K : PySem.W.Frag} {mg : Str → Option Value} {base : Heap} {C : Addr}
/-- pairs made so far: each ahead of (k, j) by places -/
structure Made (B : List Str) (E : List (Str × Str)) (k j : Nat) : Prop where
  up : E.Pairwise ltP
  back : ∀ q ∈ E, ∃ a b, B[a]? = some q.1 ∧ B[b]? = some q.2 ∧ (a < k ∨ (a = k ∧ b < j))
theorem Made.next {B : List Str} {E : List (Str × Str)} {k j : Nat} (h : Made B E k j) : Made B E k (j + 1) :=
  ⟨h.up, fun q hq => let ⟨a, b, h1, h2, h3⟩ := h.back q hq; ⟨a, b, h1, h2, by omega⟩⟩
theorem Made.row {B : List Str} {E : List (Str × Str)} {k j : Nat} (h : Made B E k j) : Made B E (k + 1) 0 :=
  ⟨h.up, fun q hq => let ⟨a, b, h1, h2, h3⟩ := h.back q hq; ⟨a, b, h1, h2, by omega⟩⟩
theorem at_up {B : List Str} (h : B.Pairwise ltS) {a b : Nat} {x y : Str} (hx : B[a]? = some x) (hy : B[b]? = some y) (hab : a < b) : ltS x y := by
  obtain ⟨h1, e1⟩ := List.getElem?_eq_some_iff.mp hx
  obtain ⟨h2, e2⟩ := List.getElem?_eq_some_iff.mp hy
  rw [← e1, ← e2]
  exact List.pairwise_iff_getElem.mp h a b h1 h2 hab
theorem Made.snoc {B : List Str} {E : List (Str × Str)} {k j : Nat} {x y : Str} (hB : B.Pairwise ltS) (h : Made B E k j) (hx : B[k]? = some x) (hy : B[j]? = some y) : Made B (E ++ [(x, y)]) k (j + 1) := by
  refine ⟨?_, fun q hq => ?_⟩
  · rw [List.pairwise_append]
    refine ⟨h.up, List.pairwise_singleton _ _, fun q hq r hr => ?_⟩
    rw [List.mem_singleton.mp hr]
    obtain ⟨a, b, h1, h2, h3⟩ := h.back q hq
    rcases h3 with h3 | ⟨h3, h4⟩
    · exact .inl (at_up hB h1 hx h3)
    · subst h3
      rw [hx] at h1
      exact .inr ⟨(Option.some.inj h1).symm, at_up hB h2 hy h4⟩
  · rcases List.mem_append.mp hq with hq | hq
    · exact h.next.back q hq
    · rw [List.mem_singleton.mp hq]
      exact ⟨k, j, hx, hy, by omega⟩
theorem Made.ok {B : List Str} {E : List (Str × Str)} {k j : Nat} (h : Made B E k j) : WakesOk B E :=
  ⟨fun q hq => let ⟨_, _, h1, h2, _⟩ := h.back q hq; ⟨List.mem_of_getElem? h1, List.mem_of_getElem? h2⟩, h.up⟩
/-- a list of pairs that is filled -/
abbrev PairsL (H : Hp) (l : Addr) (E : List (Str × Str)) : Prop := ∃ ps : List Addr, H l = some (.lst (ps.map V.ref)) ∧ Paired (PairAtH H) ps E
def oddsL : List Nat := [3, 2, 6, 4, 2, 5, 1, 3, 4]
def sp_links : Sp := fun vs H Q _ => ∃ (p t : Addr) (B : List Str), vs = [.ref p, .ref t] ∧ PurseAt H p ∧ StrT H t B ∧ B.Pairwise ltS ∧ B.length ≤ 8 ∧ ∀ H' e E, But p H H' → PurseAt H' p → PairsT H' e E → WakesOk B E → E.length ≤ 64 → Q (.ref e) H'
theorem sc_links : FnScope ["_law_purse_here", "_law_names_here", "_law_way", "_law_found", "_law_odds", "_law_k", "_law_j", "_law_lot", "_law_same", "_law_near", "_law_fits"] ["_law_purse_here", "_law_names_here"] (defScope st_law_links) := ⟨rfl, rfl, rfl, by decide +kernel, rfl, by decide +kernel, by decide +kernel⟩
theorem ok_links (T : Txt K mg) : DefOk P w K mg base 2 "_law_links" ["_law_purse_here", "_law_names_here"] sp_links := by
  obtain ⟨f1, fd1, g1, k1, b1, G1⟩ := ok_draw (P := P) (w := w) (base := base) T
  refine DefOk.mk' T.d_law_links sc_links (fun _ _ _ _ _ _ us hl => match us, hl with | [_, _], _ => rfl) (fun vs H Q E h => ?_) (fun f cdv A outer s H vs Q E' hr h => ?_)
  · obtain ⟨p, t, B, rfl, _⟩ := h
    rfl
  · obtain ⟨p, t, B, rfl, pp, ⟨ut, it, ht⟩, up, h8, k⟩ := h
    have nd := sc_links.nd
    have hlB : (B.map V.str).length = B.length := List.length_map ..
    refine ⟨_, pss_cons (ps_par (i := 2) (j := 3) rfl nd rfl rfl (by decide) rfl rfl (pa_cons (pe_call G1 hr rfl g1 k1 b1 .nil pass0 (pa_cons (pv 0) (pa_cons pe_int pa_nil))) (pa_cons (pe_lst pa_nil) pa_nil)) (by rfl))
      (pss_cons (ps_set (i := 4) nd rfl (Or.inl rfl) (pe_ix ix_list (pe_lst (pa_cons pe_int (pa_cons pe_int (pa_cons pe_int (pa_cons pe_int (pa_cons pe_int (pa_cons pe_int (pa_cons pe_int (pa_cons pe_int (pa_cons pe_int pa_nil)))))))))) (pv 2) (fun _ _ => rfl)))
      (pss_cons (ps_for PassesOwn.never rfl (pi_range1 rfl T.b_range (pa_cons (pe_callB call_len rfl T.b_len PySem.boot_len (pa_cons (pv 1) pa_nil)) pa_nil)) (pg_name (i := 5) nd rfl (Or.inl rfl))
        (pss_one (ps_for PassesOwn.never rfl (pi_range1 rfl T.b_range (pa_cons (pe_callB call_len rfl T.b_len PySem.boot_len (pa_cons (pv 1) pa_nil)) pa_nil)) (pg_name (i := 6) nd rfl (Or.inl rfl))
          (pss_cons (ps_set (i := 7) nd rfl (Or.inl rfl) (pe_cmpR op_eq (pe_call G1 hr rfl g1 k1 b1 .nil pass0 (pa_cons (pv 0) (pa_cons (pv 4) pa_nil))) pe_int (nomark _)))
          (C8.pss_cut (ps_par (i := 8) (j := 9) rfl nd rfl rfl (by decide) rfl rfl (pa_cons (pe_cmpR op_eq (pv 5) (pv 6) (nomark _)) (pa_cons (pe_and (pe_cmpR op_in_seq (pv 2) (pe_lst (pa_cons pe_int (pa_cons pe_int (pa_cons pe_int pa_nil)))) rfl)
            (pe_one (pe_cmpR op_eq (pe_op op_mod (pe_op op_add (pv 5) pe_int) (pe_callB call_len rfl T.b_len PySem.boot_len (pa_cons (pv 1) pa_nil))) (pv 6) (nomark _)))) pa_nil)) (by rfl))
          (pss_cons (ps_set (i := 10) nd rfl (Or.inl rfl) (pe_ix ix_list (pe_lst (pa_cons pe_bl (pa_cons pe_bl (pa_cons pe_bl (pa_cons pe_bl (pa_cons (pe_cmpR op_lt (pv 5) (pv 6) (nomark _)) (pa_cons pe_bl (pa_cons (pe_not (pv 8)) (pa_cons (pv 8) (pa_cons pe_bl pa_nil)))))))))) (pv 2) (fun _ _ => rfl)))
          (pss_one (ps_if (PW.pt (pw_or (pt_val (pv 9)) (pw_or (PW.pt (pw_and (pt_cmpR op_eq (pv 2) pe_int (nomark _)) (pw_and1 (pt_val (pv 8))))) (pw_or1 (PW.pt (pw_and (pt_val (pv 7)) (pw_and1 (pt_val (pv 10)))))))))
            (pss_one (ps_expr (pe_bm PySem.F.plainAttrs_list PySem.F.slot_list_append PySem.F.type_list_append mt_append (pv 3) (pa_cons (pe_tup (pa_cons (pe_ix ix_tup (pv 1) (pv 5) (fun _ _ => rfl)) (pa_cons (pe_ix ix_tup (pv 1) (pv 6) (fun _ _ => rfl)) pa_nil))) pa_nil)))) pss_nil))))))))
      (pss_one (ps_ret (pe_callTy call_tuple_of rfl T.b_tuple (by decide +kernel) (pa_cons (pv 3) pa_nil)))))), ?_⟩
    refine ⟨_, rfl, p, 9, rfl, pp, by decide, by decide, fun H1 way bt1 pp1 w0 w9 => ?_⟩
    obtain ⟨wn, rfl⟩ := Int.eq_ofNat_of_zero_le w0
    refine ⟨Nat.zero_le _, fun fl hfl => ⟨_, _, rfl, ?_⟩⟩
    have nfp : fl ≠ p := pp1.off hfl
    refine ⟨by show 9 ≤ sizeLine; decide, fun ol hol => ?_⟩
    obtain ⟨on, hon, h1o, h6o⟩ : ∃ on : Nat, oddsL[wn]? = some on ∧ 1 ≤ on ∧ on ≤ 6 := by
      have hl : wn < oddsL.length := by
        show wn < 9
        omega
      refine ⟨_, List.getElem?_eq_getElem hl, ?_⟩
      have h1 : ∀ q ∈ oddsL, 1 ≤ q ∧ q ≤ 6 := by decide
      exact h1 _ (List.getElem_mem hl)
    refine ⟨_, rfl, ol, _, _, .int (on : Int), rfl, rfl, SqL.of upd_same, at_of (j := wn) rfl ?_, ?_⟩
    · have e : ([V.int 3, V.int 2, V.int 6, V.int 4, V.int 2, V.int 5, V.int 1, V.int 3, V.int 4] : List V) = oddsL.map fun (n : Nat) => V.int (n : Int) := rfl
      rw [e, List.getElem?_map, hon]
      rfl
    have s2 : Same H1 (upd (upd H1 fl (.lst [])) ol (.lst [.int 3, .int 2, .int 6, .int 4, .int 2, .int 5, .int 1, .int 3, .int 4])) := (Same.new hfl).trans (Same.new hol)
    have hf2 : (upd (upd H1 fl (.lst [])) ol (.lst [.int 3, .int 2, .int 6, .int 4, .int 2, .int 5, .int 1, .int 3, .int 4])) fl = some (.lst []) := Same.new hol _ _ upd_same
    have ht1 := bt1.tup pp ht
    -- H1: fl is new there
    refine ⟨_, rfl, _, B.length, rfl, .inr ⟨_, sqT (s2 _ _ ht1), hlB.symm⟩, _, rfl, by omega, by omega, for_range (lo := 0) (n := (B.length : Int).toNat) (fun i σ H3 => ∃ v5 v6 v7 v8 v9 v10 E, σ = [some (.ref p), some (.ref t), some (.int wn), some (.ref fl), some (.int on), v5, v6, v7, v8, v9, v10] ∧ But p H1 H3 ∧ PurseAt H3 p ∧ PairsL H3 fl E ∧ Made B E i 0 ∧ E.length ≤ i * B.length)
      ⟨none, none, none, none, none, none, [], rfl, But.of s2, pp1.same s2, ⟨[], hf2, .nil⟩, ⟨List.Pairwise.nil, fun q hq => absurd hq (List.not_mem_nil)⟩, Nat.zero_le _⟩ ?_ ?_⟩
    · rintro i σ H3 hi ⟨v5, v6, v7, v8, v9, v10, E, rfl, bt3, pp3, pl3, made3, len3⟩
      have hiB : i < B.length := by omega
      have hx : B[i]? = some B[i] := List.getElem?_eq_getElem hiB
      have ht3 := bt3.tup pp1 ht1
      refine ⟨_, rfl, _, B.length, rfl, .inr ⟨_, sqT ht3, hlB.symm⟩, _, rfl, by omega, by omega, for_range (lo := 0) (n := (B.length : Int).toNat) (fun j σ H4 => ∃ v6 v7 v8 v9 v10 E, σ = [some (.ref p), some (.ref t), some (.int wn), some (.ref fl), some (.int on), some (.int (0 + (i : Int))), v6, v7, v8, v9, v10] ∧ But p H1 H4 ∧ PurseAt H4 p ∧ PairsL H4 fl E ∧ Made B E i j ∧ E.length ≤ i * B.length + j)
        ⟨v6, v7, v8, v9, v10, E, rfl, bt3, pp3, pl3, made3, len3⟩ ?_ ?_⟩
      · rintro j σ H4 hj ⟨v6, v7, v8, v9, v10, E, rfl, bt4, pp4, ⟨ps, hfl4, rel4⟩, made4, len4⟩
        have hjB : j < B.length := by omega
        have hy : B[j]? = some B[j] := List.getElem?_eq_getElem hjB
        refine ⟨_, rfl, _, rfl, p, on, rfl, pp4, by omega, by omega, fun H5 lot bt5 pp5 l0 l1 => ⟨rfl, ?_⟩⟩
        have bt15 := bt4.trans bt5
        have ht5 := bt15.tup pp1 ht1
        have hfl5 := bt5 _ _ hfl4 nfp
        have pairs5 : PairsL H5 fl E := by
          refine ⟨ps, hfl5, ?_⟩
          clear hfl5 hfl4
          clear made4 len4
          induction rel4 with
          | nil => exact .nil
          | cons r t ih => exact .cons (bt5.tup pp4 r) ih
        refine ⟨fun σ' H6 => ∃ near : Bool, σ' = [some (.ref p), some (.ref t), some (.int wn), some (.ref fl), some (.int on), some (.int (0 + (i : Int))), some (.int (0 + (j : Int))), some (.bl (decide (V.int lot = V.int 0))), some (.bl (decide (V.int (0 + (i : Int)) = V.int (0 + (j : Int))))), some (.bl near), v10] ∧ Same H5 H6, ?_, ?_⟩
        · refine ⟨_, rfl, _, rfl, rfl, ?_⟩
          refine ⟨_, rfl, by show 3 ≤ sizeLine; decide, fun nl hnl => ⟨nl, _, rfl, .inl (SqL.of upd_same), rfl, rfl, _, rfl, ?_⟩⟩
          have s6 : Same H5 (upd H5 nl (.lst [.int 2, .int 3, .int 7])) := Same.new hnl
          refine ite2 (fun _ => ?_) fun _ => ⟨_, _, rfl, _, rfl, s6⟩
          refine ⟨_, rfl, _, _, rfl, rfl, _, rfl, _, B.length, rfl, .inr ⟨_, sqT (s6 _ _ ht5), hlB.symm⟩, _, _, rfl, rfl, (by show (0 : Int) < (B.length : Int); omega), _, rfl, rfl, ?_⟩
          exact ⟨_, _, rfl, _, rfl, s6⟩
        · rintro σ' H6 ⟨near, rfl, s6⟩
          have hfl6 := s6 _ _ hfl5
          refine ⟨_, rfl, _, rfl, _, _, rfl, rfl, _, rfl, _, rfl, _, rfl, by show 9 ≤ sizeLine; decide, fun gl hgl => ?_⟩
          obtain ⟨fit, hfit⟩ : ∃ fit : Bool, ([true, true, true, false, decide ((0 + (i : Int)) < 0 + (j : Int)), true, !decide (V.int (0 + (i : Int)) = V.int (0 + (j : Int))), decide (V.int (0 + (i : Int)) = V.int (0 + (j : Int))), false] : List Bool)[wn]? = some fit := by
            have hl : wn < ([true, true, true, false, decide ((0 + (i : Int)) < 0 + (j : Int)), true, !decide (V.int (0 + (i : Int)) = V.int (0 + (j : Int))), decide (V.int (0 + (i : Int)) = V.int (0 + (j : Int))), false] : List Bool).length := by
              show wn < 9
              omega
            exact ⟨_, List.getElem?_eq_getElem hl⟩
          refine ⟨_, rfl, gl, _, _, .bl fit, rfl, rfl, SqL.of upd_same, at_of (j := wn) rfl ?_, ?_⟩
          · have e : ([V.bl true, V.bl true, V.bl true, V.bl false, V.bl (decide ((0 + (i : Int)) < 0 + (j : Int))), V.bl true, V.bl (!decide (V.int (0 + (i : Int)) = V.int (0 + (j : Int)))), V.bl (decide (V.int (0 + (i : Int)) = V.int (0 + (j : Int)))), V.bl false] : List V) = ([true, true, true, false, decide ((0 + (i : Int)) < 0 + (j : Int)), true, !decide (V.int (0 + (i : Int)) = V.int (0 + (j : Int))), decide (V.int (0 + (i : Int)) = V.int (0 + (j : Int))), false] : List Bool).map V.bl := rfl
            rw [e, List.getElem?_map, hfit]
            rfl
          show tOr (tB (tVar 9)) (tOr (tAnd (tTest (tOp rEq (tVar 2) (tC (.int 5)))) (tB (tVar 8))) (tAnd (tB (tVar 7)) (tB (tVar 10)))) _ _ _
          refine tst_or near ((decide (V.int (wn : Int) = V.int 5) && decide (V.int (0 + (i : Int)) = V.int (0 + (j : Int)))) || (decide (V.int lot = V.int 0) && fit)) (fun R h => ⟨_, rfl, _, rfl, h⟩) (fun R h => tst_or (decide (V.int (wn : Int) = V.int 5) && decide (V.int (0 + (i : Int)) = V.int (0 + (j : Int)))) (decide (V.int lot = V.int 0) && fit) (fun R h => tst_and _ _ (fun R h => ⟨_, rfl, rfl, _, rfl, h⟩) (fun R h => ⟨_, rfl, _, rfl, h⟩) h) (fun R h => tst_and _ _ (fun R h => ⟨_, rfl, _, rfl, h⟩) (fun R h => ⟨_, rfl, _, rfl, h⟩) h) h) ?_
          have s67 := Same.new hgl (o := .lst [.bl true, .bl true, .bl true, .bl false, .bl (decide ((0 + (i : Int)) < 0 + (j : Int))), .bl true, .bl (!decide (V.int (0 + (i : Int)) = V.int (0 + (j : Int)))), .bl (decide (V.int (0 + (i : Int)) = V.int (0 + (j : Int)))), .bl false])
          have s7 := s6.trans s67
          have hfl7 := s67 _ _ hfl6
          have ht7 := s7 _ _ ht5
          have bt17 := bt15.trans (But.of (p := p) s7)
          have pp7 := pp5.same s7
          obtain ⟨ps5, hfl5', rel5⟩ := pairs5
          have eps : ps5 = ps := by
            rw [hfl5] at hfl5'
            have e1 : ps.map V.ref = ps5.map V.ref := HO.lst.inj (Option.some.inj hfl5')
            exact (List.map_inj_right fun a b q => V.ref.inj q).mp e1.symm
          subst eps
          have rel7 := Paired.same s7 rel5
          refine ite2 (fun _ => ?_) fun _ => ⟨_, _, _, _, _, E, rfl, bt17, pp7, ⟨ps5, hfl7, rel7⟩, made4.next, by omega⟩
          have ax : atI (B.map V.str) (0 + (i : Int)) = some (.str B[i]) := at_of (j := i) (by omega) (by rw [List.getElem?_map, hx]; rfl)
          have ay : atI (B.map V.str) (0 + (j : Int)) = some (.str B[j]) := at_of (j := j) (by omega) (by rw [List.getElem?_map, hy]; rfl)
          refine ⟨_, rfl, .inl ⟨rfl, _, SqL.of hfl7⟩, _, rfl, _, rfl, t, _, _, _, rfl, rfl, sqT ht7, ax, _, rfl, _, rfl, t, _, _, _, rfl, rfl, sqT ht7, ay, by show 2 ≤ sizeLine; decide, fun q hq => ?_⟩
          have s8 := Same.new hq (o := .tup [.str B[i], .str B[j]])
          have nfq : fl ≠ q := some_ne hfl7 hq
          have len5 : ps5.length = E.length := Paired.len rel5
          refine ⟨fl, _, _, rfl, rfl, s8 _ _ hfl7, small1000 ?_, _, _, _, _, _, E ++ [(B[i], B[j])], rfl, ?_, ?_, ⟨ps5 ++ [q], ?_, ?_⟩, made4.snoc up hx hy, ?_⟩
          · rw [List.length_map, len5]
            have h1 : i * B.length ≤ 8 * 8 := Nat.mul_le_mul (by omega) h8
            omega
          · intro c o hc hne
            have hcf : c ≠ fl := fun e => by
              rw [e, hfl] at hc
              cases hc
            rw [upd_ne hcf]
            exact s8 _ _ (bt17 c o hc hne)
          · obtain ⟨d, z, c, hd0, hp⟩ := pp7
            exact ⟨d, z, c, hd0, by rw [upd_ne nfp.symm]; exact s8 _ _ hp⟩
          · rw [upd_same, List.map_append]
            rfl
          · refine Paired.snoc' (p := q) (q := (B[i], B[j])) ?_ ?_
            · show (upd _ _ _) _ = _
              rw [upd_ne nfq.symm]
              exact upd_same
            · have rel8 := Paired.same s8 rel7
              have frame : ∀ c o, (upd (upd H6 gl (.lst [.bl true, .bl true, .bl true, .bl false, .bl (decide ((0 + (i : Int)) < 0 + (j : Int))), .bl true, .bl (!decide (V.int (0 + (i : Int)) = V.int (0 + (j : Int)))), .bl (decide (V.int (0 + (i : Int)) = V.int (0 + (j : Int)))), .bl false])) q (.tup [.str B[i], .str B[j]])) c = some (.tup o) → c ≠ fl := fun c o hc e => by
                rw [e, s8 _ _ hfl7] at hc
                cases hc
              exact Paired.mono rel8 fun a b r => by
                show (upd _ _ _) _ = _
                rw [upd_ne (frame _ _ r)]
                exact r
          · rw [List.length_append]
            show E.length + 1 ≤ _
            omega
      · rintro σ H4 ⟨v6, v7, v8, v9, v10, E, rfl, bt4, pp4, pl4, made4, len4⟩
        have e : i * B.length + (B.length : Int).toNat = (i + 1) * B.length := by
          rw [Int.toNat_natCast, Nat.succ_mul]
        exact ⟨_, v6, v7, v8, v9, v10, E, rfl, bt4, pp4, pl4, made4.row, by omega⟩
    · rintro σ H3 ⟨v5, v6, v7, v8, v9, v10, E, rfl, bt3, pp3, ⟨ps, hfl3, rel3⟩, made3, len3⟩
      refine ⟨_, rfl, fl, _, rfl, .inl ⟨SqL.of hfl3, fun e he => ?_⟩⟩
      have s4 : Same H3 (upd H3 e (.tup (ps.map V.ref))) := Same.new he
      refine k _ e E ((bt1.trans bt3).trans (But.of s4)) (pp3.same s4) ⟨ps, upd_same, Paired.same s4 rel3⟩ made3.ok ?_
      have : (B.length : Int).toNat * B.length ≤ 8 * 8 := Nat.mul_le_mul (by omega) h8
      omega
end
end Wk
set_option Elab.async false
set_option linter.all false
set_option maxRecDepth 100000
set_option maxHeartbeats 8000000
/-! the law's own: a stand, what a bell is let -/
namespace Wk
open PySem PySem.Spec PyProof.Rows L2
theorem But.set {p D : Addr} {H0 H : Hp} {o : HO} (b : But p H0 H) (h : H0 D = none) : But p H0 (upd H D o) := fun c x hc hne => by
  rw [upd_ne (some_ne hc h)]
  exact b c x hc hne
theorem PurseAt.set {p D : Addr} {H : Hp} {o : HO} (b : PurseAt H p) (h : D ≠ p) : PurseAt (upd H D o) p := by
  obtain ⟨d, z, c, hd0, hp⟩ := b
  exact ⟨d, z, c, hd0, by rw [upd_ne h.symm]; exact hp⟩
section
variable {P : Program} {w : World} {K : PySem.W.Frag} {mg : Str → Option Value} {base : Heap} {C : Addr}
def sp_stand : Sp := fun vs H Q _ => ∃ (p t : Addr) (B : List Str), vs = [.ref p, .ref t] ∧ PurseAt H p ∧ StrT H t B ∧ B.Pairwise ltS ∧ B.length ≤ 8 ∧ ∀ H' u L, But p H H' → PurseAt H' p → StrT H' u L → (∀ x ∈ L, x ∈ B) → L.Pairwise ltS → L.length ≤ 8 → Q (.ref u) H'
theorem sc_stand : FnScope ["_law_purse_here", "_law_names_here", "_law_way", "_law_some", "_law_name"] ["_law_purse_here", "_law_names_here"] (defScope st_law_stand) := ⟨rfl, rfl, rfl, by decide +kernel, rfl, by decide +kernel, by decide +kernel⟩
theorem ok_stand (T : Txt K mg) : DefOk P w K mg base 2 "_law_stand" ["_law_purse_here", "_law_names_here"] sp_stand := by
  obtain ⟨f1, fd1, g1, k1, b1, G1⟩ := ok_draw (P := P) (w := w) (base := base) T
  refine DefOk.mk' T.d_law_stand sc_stand (fun _ _ _ _ _ _ us hl => match us, hl with | [_, _], _ => rfl) (fun vs H Q E h => ?_) (fun f cdv A outer s H vs Q E' hr h => ?_)
  · obtain ⟨p, t, B, rfl, _⟩ := h
    rfl
  · obtain ⟨p, t, B, rfl, pp, ⟨ut, it, ht⟩, up, h8, k⟩ := h
    have nd := sc_stand.nd
    refine ⟨_, pss_cons (ps_par (i := 2) (j := 3) rfl nd rfl rfl (by decide) rfl rfl (pa_cons (pe_call G1 hr rfl g1 k1 b1 .nil pass0 (pa_cons (pv 0) (pa_cons pe_int pa_nil))) (pa_cons
        (pe_lc (own := [("_law_name", 4)]) (g := gName 4) rfl nd (pi_tup (pv 1)) (blkOk_by (N := ["_law_purse_here", "_law_names_here", "_law_way", "_law_some", "_law_name"]) (sc := defScope st_law_stand) (by decide +kernel))
          (fun _ _ _ _ _ => pg_name (i := 4) nd rfl (Or.inl rfl)) (fun _ _ _ _ _ => pts_one (pt_cmpR op_gt (pe_call G1 hr rfl g1 k1 b1 .nil pass0 (pa_cons (pv 0) (pa_cons pe_int pa_nil))) pe_int (nomark _))) (fun _ _ _ _ _ => pv 4)) pa_nil)) (by rfl))
      (pss_one (ps_ret (pe_ix ix_list (pe_lst (pa_cons (pv 1) (pa_cons (pe_tup pa_nil) (pa_cons (pe_callTy call_tuple_of rfl T.b_tuple (by decide +kernel) (pa_cons (pv 3) pa_nil)) (pa_cons (pe_callTy call_tuple_of rfl T.b_tuple (by decide +kernel) (pa_cons (pv 3) pa_nil)) pa_nil))))) (pv 2) (fun _ _ => rfl)))), ?_⟩
    refine ⟨_, rfl, p, 4, rfl, pp, by decide, by decide, fun H1 way bt1 pp1 w0 w4 => ?_⟩
    have ht1 := bt1.tup pp ht
    refine ⟨_, rfl, t, rfl, ⟨_, sqT ht1⟩, fun D hD => ?_⟩
    have nDp := pp1.off hD
    refine lc_it (walk_tup (xs := B.map V.str)) (fun i H2 => But p H1 H2 ∧ PurseAt H2 p ∧ ∃ acc : List Str, acc.Sublist (B.take i) ∧ StrL H2 D acc) ⟨But.of (Same.new hD), pp1.same (Same.new hD), [], List.nil_sublist _, upd_same⟩ (fun i H2 _ h => sqT (h.1.tup pp1 ht1)) (fun i x H2 H3 hi ⟨bt2, pp2, acc, sub, hacc⟩ ⟨e, hx⟩ => ?_) fun H2 ⟨bt2, pp2, acc, sub, hacc⟩ => ?_
    · subst e
      obtain ⟨y, hy, rfl⟩ := str_at hx
      have tk := take_one hy
      refine ⟨rfl, _, rfl, p, 3, rfl, pp2, by decide, by decide, fun H4 r bt4 pp4 r0 r3 => ⟨_, _, rfl, rfl, _, rfl, ?_⟩⟩
      have h4 := bt4 _ _ hacc nDp
      refine ite2 (fun _ => ⟨_, rfl, _, h4, small1000 ?_, (bt2.trans bt4).set hD, pp4.set nDp, acc ++ [y], ?_, ?_⟩) fun _ => ⟨bt2.trans bt4, pp4, acc, ?_, h4⟩
      · have h1 := sub.length_le
        have h2 := List.length_take_le' i B
        rw [List.length_map]
        omega
      · rw [tk]
        exact sub.append (List.Sublist.refl _)
      · show (upd _ _ _) _ = _
        rw [upd_same, List.map_append]
        rfl
      · rw [tk]
        exact sub.trans (List.sublist_append_left _ _)
    · rw [List.length_map, List.take_length] at sub
      refine ⟨_, _, rfl, _, rfl, by show 0 ≤ sizeLine; exact Nat.zero_le _, fun q1 h1 => ⟨_, rfl, D, _, rfl, .inl ⟨SqL.of (Same.new h1 _ _ hacc), fun q2 h2 => ⟨_, rfl, D, _, rfl, .inl ⟨SqL.of (Same.new h2 _ _ (Same.new h1 _ _ hacc)), fun q3 h3 => ⟨by show 4 ≤ sizeLine; decide, fun q4 h4 => ?_⟩⟩⟩⟩⟩⟩
      have s1 := Same.new h1 (o := .tup [])
      have s2 := Same.new h2 (o := .tup (acc.map V.str))
      have s3 := Same.new h3 (o := .tup (acc.map V.str))
      have s4 := Same.new h4 (o := .lst [.ref t, .ref q1, .ref q2, .ref q3])
      have e1 := s4 _ _ (s3 _ _ (s2 _ _ (upd_same (H := H2) (a := q1) (o := .tup []))))
      have e2 := s4 _ _ (s3 _ _ (upd_same (H := upd H2 q1 (.tup [])) (a := q2) (o := .tup (acc.map V.str))))
      have e3 := s4 _ _ (upd_same (H := upd (upd H2 q1 (.tup [])) q2 (.tup (acc.map V.str))) (a := q3) (o := .tup (acc.map V.str)))
      have sall := ((s1.trans s2).trans s3).trans s4
      have bt := bt1.trans (bt2.trans (But.of sall))
      have pq := pp2.same sall
      have hacc8 : acc.length ≤ 8 := Nat.le_trans sub.length_le h8
      have accB : ∀ x ∈ acc, x ∈ B := fun x hx => sub.subset hx
      have accU := up.sublist sub
      have hw : way = 0 ∨ way = 1 ∨ way = 2 ∨ way = 3 := by omega
      rcases hw with rfl | rfl | rfl | rfl
      · exact ⟨_, rfl, q4, _, 0, .ref t, rfl, rfl, SqL.of upd_same, rfl, k _ t B bt pq ⟨_, it, sall _ _ (bt2.tup pp1 ht1)⟩ (fun _ h => h) up h8⟩
      · exact ⟨_, rfl, q4, _, 1, .ref q1, rfl, rfl, SqL.of upd_same, rfl, k _ q1 [] bt pq (.of e1) (fun _ h => absurd h List.not_mem_nil) List.Pairwise.nil (Nat.zero_le _)⟩
      · exact ⟨_, rfl, q4, _, 2, .ref q2, rfl, rfl, SqL.of upd_same, rfl, k _ q2 acc bt pq (.of e2) accB accU hacc8⟩
      · exact ⟨_, rfl, q4, _, 3, .ref q3, rfl, rfl, SqL.of upd_same, rfl, k _ q3 acc bt pq (.of e3) accB accU hacc8⟩
end
end Wk
set_option Elab.async false
set_option linter.all false
set_option maxRecDepth 100000
set_option maxHeartbeats 8000000
/-! the law's own: what a bell is let -/
namespace Wk
open PySem PySem.Spec PyProof.Rows L2
theorem wk_snoc (E : List (Str × Str)) (q : Str × Str) (z : Str) : wk (E ++ [q]) z = wk E z ++ (if q.2 = z then [q.1] else []) := by
  unfold wk
  rw [List.filter_append, List.map_append]
  congr 1
  by_cases h : q.2 = z
  · rw [if_pos h, List.filter_cons, if_pos (decide_eq_true h)]
    rfl
  · rw [if_neg h, List.filter_cons, if_neg (by rw [decide_eq_false h]; exact Bool.false_ne_true)]
    rfl
theorem tot_snoc (w : Str → Int) (l : List Str) (a : Str) : tot w (l ++ [a]) = tot w l + w a := by
  unfold tot
  rw [List.map_append, List.sum_append]
  simp
section
variable {P : Program} {w : World} {K : PySem.W.Frag} {mg : Str → Option Value} {base : Heap} {C : Addr}
def sp_lawlet : Sp := fun vs H Q _ => ∃ (t e c u : Addr) (z : Str) (B : List Str) (E : List (Str × Str)) (L : List Str) (w : Str → Int), vs = [.ref t, .ref e, .ref c, .ref u, .str z] ∧ StrZ H t B ∧ PairsT H e E ∧ NumT H c B w ∧ StrT H u L ∧ Good B E ∧
  ∀ H', Same H H' → Q (.int (bound E w (liv L) z)) H'
theorem sc_lawlet : FnScope ["_law_names_here", "_law_links_here", "_law_wished", "_law_stand_here", "_law_name", "_law_bound_here", "_law_pair"] ["_law_names_here", "_law_links_here", "_law_wished", "_law_stand_here", "_law_name"] (defScope st_law_let) := ⟨rfl, rfl, rfl, by decide +kernel, rfl, by decide +kernel, by decide +kernel⟩
theorem ok_lawlet (T : Txt K mg) : DefOk P w K mg base 1 "_law_let" ["_law_names_here", "_law_links_here", "_law_wished", "_law_stand_here", "_law_name"] sp_lawlet := by
  refine DefOk.mk' T.d_law_let sc_lawlet (fun _ _ _ _ _ _ us hl => match us, hl with | [_, _, _, _, _], _ => rfl) (fun vs H Q E h => ?_) (fun f cdv A outer s H vs Q E' hr h => ?_)
  · obtain ⟨t, e, c, u, z, B, E, L, w, rfl, _⟩ := h
    rfl
  · obtain ⟨t, e, c, u, z, B, E, L, w, rfl, ht, ⟨ps, he, rel⟩, hc, ⟨uu, iu, hu⟩, good, k⟩ := h
    have nd := sc_lawlet.nd
    refine ⟨_, pss_cons (ps_set (i := 5) nd rfl (Or.inl rfl) (pe_callTy call_int1 rfl T.b_int_ (by decide +kernel) (pa_cons (pe_cmpR op_in_seq (pv 4) (pv 3) rfl) pa_nil)))
      (pss_cons (ps_for PassesOwn.never rfl (pi_tup (pv 1)) (pg_name (i := 6) nd rfl (Or.inl rfl))
        (pss_one (ps_if (pt_cmpR op_eq (pe_ix ix_tup (pv 6) pe_int (fun _ _ => rfl)) (pv 4) (nomark _))
          (pss_one (ps_set (i := 5) nd rfl (Or.inl rfl) (pe_op op_add (pv 5) (pe_ix ix_tup (pv 2) (pe_bmZ PySem.F.slot_tuple_index PySem.F.type_tuple_index mt_tup_index (pv 0) (pa_cons (pe_ix ix_tup (pv 6) pe_int (fun _ _ => rfl)) pa_nil)) (fun _ _ => rfl))))) pss_nil)))
      (pss_one (ps_ret (pv 5)))), ?_⟩
    refine ⟨_, rfl, _, rfl, u, _, rfl, .inr (sqT hu), rfl, flat_strs L, .inr ⟨decide (z ∈ L), ?_, ?_⟩⟩
    · show [V.bl (inV (V.str z) (L.map V.str))] = _
      rw [inV_strs]
    refine ⟨_, rfl, e, rfl, ⟨_, sqT he⟩, for_tup (xs := ps.map V.ref) (fun i σ H1 => ∃ v6, σ = [some (.ref t), some (.ref e), some (.ref c), some (.ref u), some (.str z), some (.int (bound (E.take i) w (liv L) z)), v6] ∧ Same H H1)
      ⟨none, ?_, Same.refl _⟩ (fun i σ H1 _ ⟨_, _, s1⟩ => sqT (s1 _ _ he)) ?_ ?_⟩
    · have e0 : bound (E.take 0) w (liv L) z = if decide (z ∈ L) = true then 1 else 0 := by
        show one (decide (z ∈ L)) + 0 = _
        rw [Int.add_zero]
        rfl
      rw [e0]
      rfl
    · rintro i x σ H1 hx ⟨v6, rfl, s1⟩
      obtain ⟨p, hp, rfl⟩ := ref_at hx
      obtain ⟨⟨x1, x2⟩, hq, hpq⟩ := Paired.at1 rel hp
      have hxB : x1 ∈ B := (good.wo _ (List.mem_of_getElem? hq)).1
      have hp1 := s1 _ _ hpq
      have eb : bound (E.take (i + 1)) w (liv L) z = bound (E.take i) w (liv L) z + if x2 = z then w x1 else 0 := by
        unfold bound
        rw [take_one hq, wk_snoc]
        by_cases q : x2 = z
        · rw [if_pos q, if_pos q, tot_snoc]
          exact (Int.add_assoc _ _ _).symm
        · rw [if_neg q, if_neg q, List.append_nil]
          omega
      refine ⟨_, rfl, p, _, 1, .str x2, rfl, rfl, sqT hp1, rfl, _, rfl, rfl, _, rfl, ?_⟩
      refine ite2 (fun q => ?_) fun q => ⟨some (.ref p), ?_, s1⟩
      · have q : x2 = z := by
          have q1 : V.str x2 = V.str z := of_decide_eq_true q
          exact V.str.inj q1
        obtain ⟨j, hj⟩ := List.mem_iff_getElem?.mp hxB
        obtain ⟨ob, hob1, hob2, hz⟩ := ht.same s1
        refine ⟨_, rfl, _, rfl, _, rfl, ⟨t, ob, _, rfl, hz, hob1, hob2⟩, _, rfl, p, _, 0, .str x1, rfl, rfl, sqT hp1, rfl, t, B, x1, j, rfl, rfl, sqT hz, hj, fun m hm e => Nat.ne_of_lt hm (nd_ix good.nd e hj), c, _, j, .int (w x1), rfl, rfl, sqT (s1 _ _ hc), at_any (j := j) rfl (by rw [List.getElem?_map, hj]; rfl), _, _, rfl, rfl, some (.ref p), ?_, s1⟩
        rw [eb, if_pos q]
        rfl
      · have q : ¬ x2 = z := fun e => q (by rw [e]; exact decide_eq_true rfl)
        rw [eb, if_neg q, Int.add_zero]
        rfl
    · rintro σ H1 ⟨v6, rfl, s1⟩
      rw [List.length_map, Paired.len rel, List.take_length]
      exact ⟨_, rfl, k _ s1⟩
end
end Wk
set_option Elab.async false
set_option linter.all false
set_option maxRecDepth 100000
set_option maxHeartbeats 4000000
/-! Data: lists of texts, of numbers, tuples of pairs; when they are equal. -/
namespace Wk
open PySem PySem.Spec PyProof.Rows L2
theorem strOk_of {x : Str} (h : NameOk x) : PyData.strOk x = true := by
  unfold PyData.strOk
  rw [Array.all_eq_true']
  intro c hc
  have h1 := h.2.2 c (Array.mem_toList_iff.mpr hc)
  have h2 : ∀ c ∈ ("abcdefghijklmnopqrstuvwxyz" : Str).cps.toList, c < 0x110000 := by decide +kernel
  exact decide_eq_true (h2 c h1)
abbrev pd (q : Str × Str) : PyData := .tuple [.str q.1, .str q.2]
theorem lay_strs : ∀ {S : List Str}, (∀ x ∈ S, PyData.strOk x = true) → PyData.canLayAll0 (S.map PyData.str) = true
  | [], _ => rfl
  | x :: S, h => by
    simp only [List.map_cons, PyData.canLayAll0, PyData.canLay0]
    rw [h x List.mem_cons_self, lay_strs fun y hy => h y (List.mem_cons_of_mem _ hy)]
    rfl
theorem depth_strs : ∀ {S : List Str}, PyData.depthAll (S.map PyData.str) = 0
  | [] => rfl
  | x :: S => by
    simp only [List.map_cons, PyData.depthAll, PyData.depth]
    rw [depth_strs]
    rfl
theorem shaped_strs {S : List Str} (h : ∀ x ∈ S, PyData.strOk x = true) : SeqAt.shaped (.list (S.map PyData.str)) = true := by
  show (PyData.canLay0 _ && decide (PyData.depth _ ≤ 64)) = true
  have h2 : PyData.depth (.list (S.map PyData.str)) ≤ 64 := by
    have := depth_strs (S := S)
    simp only [PyData.depth]
    omega
  rw [decide_eq_true h2]
  simp only [PyData.canLay0]
  rw [lay_strs h]
  rfl
theorem shaped_pair {q : Str × Str} (h1 : PyData.strOk q.1 = true) (h2 : PyData.strOk q.2 = true) : SeqAt.shaped (pd q) = true := by
  show (PyData.canLay0 _ && decide (PyData.depth _ ≤ 64)) = true
  simp only [pd, PyData.canLay0, PyData.canLayAll0, PyData.depth, PyData.depthAll]
  rw [h1, h2]
  rfl
theorem lay_pairs : ∀ {E : List (Str × Str)}, (∀ q ∈ E, PyData.strOk q.1 = true ∧ PyData.strOk q.2 = true) → PyData.canLayAll0 (E.map pd) = true
  | [], _ => rfl
  | x :: S, h => by
    simp only [List.map_cons, PyData.canLayAll0, PyData.canLay0]
    rw [(h x List.mem_cons_self).1, (h x List.mem_cons_self).2, lay_pairs fun y hy => h y (List.mem_cons_of_mem _ hy)]
    rfl
theorem depth_pairs : ∀ {E : List (Str × Str)}, PyData.depthAll (E.map pd) ≤ 1
  | [] => Nat.zero_le _
  | x :: S => by
    have := depth_pairs (E := S)
    simp only [List.map_cons, PyData.depthAll, PyData.depth]
    omega
theorem shaped_pairs {E : List (Str × Str)} (h : ∀ q ∈ E, PyData.strOk q.1 = true ∧ PyData.strOk q.2 = true) : SeqAt.shaped (.tuple (E.map pd)) = true := by
  show (PyData.canLay0 _ && decide (PyData.depth _ ≤ 64)) = true
  have h2 : PyData.depth (.tuple (E.map pd)) ≤ 64 := by
    have := depth_pairs (E := E)
    simp only [PyData.depth]
    omega
  rw [decide_eq_true h2]
  simp only [PyData.canLay0]
  rw [lay_pairs h]
  rfl
theorem shaped_ints (ns : List Int) : SeqAt.shaped (.list (ns.map PyData.int)) = true := PySem.W.ke_shaped_ints ns
theorem eqv_pd (q r : Str × Str) : PyData.eqv (pd q) (pd r) = decide (q = r) := by
  obtain ⟨a, b⟩ := q
  obtain ⟨c, d⟩ := r
  simp only [pd, PyData.eqv, PyData.eqvAll]
  by_cases h1 : a = c
  · subst h1
    by_cases h2 : b = d
    · subst h2
      simp
    · simp [h2]
  · simp [h1]
theorem eqv_ints : ∀ (xs : List Int), PyData.eqv (.list (xs.map PyData.int)) (.list (xs.map PyData.int)) = true := by
  intro xs
  simp only [PyData.eqv]
  induction xs with
  | nil => rfl
  | cons a r ih =>
    simp only [List.map_cons, PyData.eqvAll, PyData.eqv]
    rw [ih]
    simp
theorem any_pd (E : List (Str × Str)) (q : Str × Str) : ((E.map pd).any fun z => PyData.eqv z (pd q)) = decide (q ∈ E) := by
  rw [List.any_map]
  by_cases h : q ∈ E
  · rw [decide_eq_true h]
    refine List.any_eq_true.mpr ⟨q, h, ?_⟩
    show PyData.eqv (pd q) (pd q) = true
    rw [eqv_pd, decide_eq_true rfl]
  · rw [decide_eq_false h]
    refine List.any_eq_false.mpr fun r hr e => h ?_
    have e2 : PyData.eqv (pd r) (pd q) = true := e
    rw [eqv_pd] at e2
    rw [← of_decide_eq_true e2]
    exact hr
section
variable {K : PySem.W.Frag} {H : Hp}
theorem dp_strs : ∀ (S : List Str), DpAll K H (S.map V.str) (S.map PyData.str)
  | [] => .nil
  | x :: S => .cons (.str x) (dp_strs S)
theorem dp_ints : ∀ (S : List Int), DpAll K H (S.map V.int) (S.map PyData.int)
  | [] => .nil
  | x :: S => .cons (.int x) (dp_ints S)
theorem dp_pair {p : Addr} {q : Str × Str} (h : PairAtH H p q) : Dp K H (.ref p) (pd q) := .tup (SqT.of h) (.cons (.str _) (.cons (.str _) .nil))
theorem dp_pairs : ∀ {ps : List Addr} {E : List (Str × Str)}, Paired (PairAtH H) ps E → DpAll K H (ps.map V.ref) (E.map pd)
  | _, _, .nil => .nil
  | _, _, .cons r t => .cons (dp_pair r) (dp_pairs t)
end
end Wk
set_option Elab.async false
set_option linter.all false
set_option maxRecDepth 100000
set_option maxHeartbeats 8000000
/-! the law's own: a walk over a row -/
namespace Wk
open PySem PySem.Spec PyProof.Rows L2
theorem _root_.L2.SqL.keep {K : PySem.W.Frag} {H H' : Hp} {a : Addr} {xs : List V} (s : Same H H') (h : SqL K H a xs) : SqL K H' a xs := by
  rcases h with (h | ⟨o, h⟩) | h
  · exact .inl (.inl (s _ _ h))
  · exact .inl (.inr ⟨o, s _ _ h⟩)
  · exact .inr h
theorem _root_.L2.SqT.keep {K : PySem.W.Frag} {H H' : Hp} {a : Addr} {xs : List V} (s : Same H H') (h : SqT K H a xs) : SqT K H' a xs := by
  rcases h with (h | ⟨o, h⟩) | h
  · exact .inl (.inl (s _ _ h))
  · exact .inl (.inr ⟨o, s _ _ h⟩)
  · exact .inr h
theorem iter_any {K : PySem.W.Frag} {tl : TE} {σ : L2.St} {H0 H : Hp} {R : It → Hp → Prop} {r : Addr} {xs : List V} (ht : ∀ R' : V → Hp → Prop, R' (.ref r) H → tl σ H R') (s : Same H0 H) (h : SqL K H0 r xs ∨ SqT K H0 r xs)
    (main : ∀ (J : It) (G : Hp → Prop), Walk J xs.length G (YAt xs) → (∀ H', Same H0 H' → G H') → R J H) : iList K tl σ H R ∨ iTup K tl σ H R := by
  rcases h with h | h
  · exact .inl (ht _ ⟨r, rfl, ⟨_, h.keep s⟩, main _ _ walk_list fun H' s => h.keep s⟩)
  · exact .inr (ht _ ⟨r, rfl, ⟨_, h.keep s⟩, main _ _ walk_tup fun H' s => h.keep s⟩)
theorem pi_or {X : Cx} {tg e : Expr} {w1 w2 : TI} (h1 : PI X tg e w1) (h2 : PI X tg e w2) : PI X tg e (fun σ H R => w1 σ H R ∨ w2 σ H R) :=
  ⟨fun pins s σ H R I h => h.elim (h1.run pins s σ H R I) (h2.run pins s σ H R I)⟩
theorem zip_ref : ∀ {ps : List Addr} {E : List (Str × Str)}, ps.length = E.length → (ps.zip E).map (fun q => V.ref q.1) = ps.map V.ref
  | [], [], _ => rfl
  | p :: ps, q :: E, h => by
    have ih := zip_ref (ps := ps) (E := E) (Nat.succ.inj h)
    show V.ref p :: (ps.zip E).map (fun q => V.ref q.1) = _
    rw [ih]
    rfl
theorem zip_filt (P : Str × Str → Bool) (F : Str × Str → V) : ∀ {ps : List Addr} {E : List (Str × Str)}, ps.length = E.length → ((ps.zip E).filter fun q => P q.2).map (fun q => F q.2) = (E.filter P).map F
  | [], [], _ => rfl
  | p :: ps, q :: E, h => by
    have ih := zip_filt P F (ps := ps) (E := E) (Nat.succ.inj h)
    show (((p, q) :: ps.zip E).filter fun q => P q.2).map (fun q => F q.2) = _
    rw [List.filter_cons, List.filter_cons]
    cases e : P q with
    | true => exact congrArg (F q :: ·) ih
    | false => exact ih
/-- those awake behind a ring -/
def anew (E : List (Str × Str)) (S : List Str) (y : Str) : List Str := S ++ (E.filter fun q => decide (q.1 = y) && !decide (q.2 ∈ S)).map (·.2)
theorem mem_drop1 {S : List Str} {j : Nat} {y : Str} (nd : S.Nodup) (hj : S[j]? = some y) (x : Str) : x ∈ S.eraseIdx j ↔ x ∈ S ∧ x ≠ y := by
  rw [List.mem_eraseIdx_iff_getElem?]
  constructor
  · rintro ⟨i, hi, hx⟩
    refine ⟨List.mem_of_getElem? hx, fun e => ?_⟩
    subst e
    exact hi (nd_ix nd hx hj)
  · rintro ⟨hx, hne⟩
    obtain ⟨i, hi⟩ := List.mem_iff_getElem?.mp hx
    refine ⟨i, fun e => hne ?_, hi⟩
    subst e
    rw [hi] at hj
    exact Option.some.inj hj
theorem mem_anew {E : List (Str × Str)} {S : List Str} {y x : Str} : x ∈ anew E S y ↔ x ∈ S ∨ x ∈ ws E y := by
  unfold anew ws
  rw [List.mem_append, List.mem_map, List.mem_map]
  constructor
  · rintro (h | ⟨q, hq, rfl⟩)
    · exact .inl h
    · obtain ⟨h1, h2⟩ := List.mem_filter.mp hq
      exact .inr ⟨q, List.mem_filter.mpr ⟨h1, (Bool.and_eq_true_iff.mp h2).1⟩, rfl⟩
  · rintro (h | ⟨q, hq, rfl⟩)
    · exact .inl h
    · obtain ⟨h1, h2⟩ := List.mem_filter.mp hq
      by_cases hs : q.2 ∈ S
      · exact .inl hs
      · refine .inr ⟨q, List.mem_filter.mpr ⟨h1, ?_⟩, rfl⟩
        rw [h2, decide_eq_false hs]
        rfl
theorem nodup_anew {E : List (Str × Str)} {S : List Str} {y : Str} (hE : E.Nodup) (hS : S.Nodup) : (anew E S y).Nodup := by
  unfold anew
  rw [List.nodup_append]
  refine ⟨hS, ?_, fun a ha b hb e => ?_⟩
  · rw [List.nodup_iff_pairwise_ne, List.pairwise_map, List.pairwise_filter]
    refine List.Pairwise.imp ?_ (List.nodup_iff_pairwise_ne.mp hE)
    rintro ⟨a, b⟩ ⟨a', b'⟩ hne h1 h2 e
    have e1 : a = y := of_decide_eq_true (Bool.and_eq_true_iff.mp h1).1
    have e2 : a' = y := of_decide_eq_true (Bool.and_eq_true_iff.mp h2).1
    exact hne (by rw [e1, e2, show b = b' from e])
  · subst e
    obtain ⟨q, hq, rfl⟩ := List.mem_map.mp hb
    have h2 := (Bool.and_eq_true_iff.mp (List.mem_filter.mp hq).2).2
    rw [decide_eq_true ha] at h2
    cases h2
theorem ring_next {E : List (Str × Str)} {L : Str → Bool} {S : List Str} {j : Nat} {y : Str} (nd : S.Nodup) (hj : S[j]? = some y) (hS : ∀ x, x ∈ S ↔ L x = true) (x : Str) : x ∈ anew E (S.eraseIdx j) y ↔ ring E L y x = true := by
  rw [mem_anew, mem_drop1 nd hj, hS]
  unfold ring
  constructor
  · rintro (⟨h1, h2⟩ | h)
    · rw [h1, decide_eq_false h2]
      simp
    · rw [decide_eq_true h]
      rfl
  · intro h
    by_cases h1 : x ∈ ws E y
    · exact .inr h1
    · by_cases h2 : x = y
      · rw [decide_eq_false h1, decide_eq_true h2] at h
        cases h
      · rw [decide_eq_false h1, decide_eq_false h2] at h
        exact .inl ⟨by simpa using h, h2⟩
section
variable {P : Program} {w : World} {K : PySem.W.Frag} {mg : Str → Option Value} {base : Heap} {C : Addr}
def sp_walk (K : PySem.W.Frag) : Sp := fun vs H Q _ => ∃ (e r st : Addr) (B : List Str) (E : List (Str × Str)) (L row : List Str), vs = [.ref e, .ref r, .ref st] ∧ PairsT H e E ∧ (SqL K H r (row.map V.str) ∨ SqT K H r (row.map V.str)) ∧ (SqL K H st (L.map V.str) ∨ SqT K H st (L.map V.str)) ∧
  Good B E ∧ (∀ x ∈ L, x ∈ B) ∧ L.Nodup ∧ Rings E (liv L) row ∧ row.length ≤ 400 ∧
  ∀ H' l t1 t2 S, Same H H' → H' l = some (.lst [.ref t1, .ref t2]) → H' t1 = some (.tup (List.replicate row.length (.bl true))) → StrT H' t2 S → S.Nodup → (∀ x ∈ S, x ∈ B) → (∀ x, x ∈ S ↔ after E (liv L) row x = true) → Q (.ref l) H'
theorem sc_walk : FnScope ["_law_links_here", "_law_pulled", "_law_stand_here", "_law_now", "_law_rings_here", "_law_name", "_law_pair"] ["_law_links_here", "_law_pulled", "_law_stand_here"] (defScope st_law_walk) := ⟨rfl, rfl, rfl, by decide +kernel, rfl, by decide +kernel, by decide +kernel⟩
theorem ok_walk (T : Txt K mg) : DefOk P w K mg base 1 "_law_walk" ["_law_links_here", "_law_pulled", "_law_stand_here"] (sp_walk K) := by
  refine DefOk.mk' T.d_law_walk sc_walk (fun _ _ _ _ _ _ us hl => match us, hl with | [_, _, _], _ => rfl) (fun vs H Q E h => ?_) (fun f cdv A outer s H vs Q E' hr h => ?_)
  · obtain ⟨e, r, st, B, E, L, row, rfl, _⟩ := h
    rfl
  · obtain ⟨e, r, st, B, E, L, row, rfl, ⟨ps, he, rel⟩, hrow, hst, good, LB, Lnd, rings, few, k⟩ := h
    have nd := sc_walk.nd
    have plen := Paired.len rel
    refine ⟨_, pss_cons (ps_asg (pe_tup (pa_cons (pe_callTy call_list_of rfl T.b_list (by decide +kernel) (pa_cons (pv 2) pa_nil)) (pa_cons (pe_lst pa_nil) pa_nil)))
        (pg_tup rfl (pgs_cons (pg_name (i := 3) nd rfl (Or.inr rfl)) (pgs_cons (pg_name (i := 4) nd rfl (Or.inl rfl)) pgs_nil))))
      (pss_cons (ps_for PassesOwn.never rfl (pi_or (pi_list (pv 1)) (pi_tup (pv 1))) (pg_name (i := 5) nd rfl (Or.inr rfl))
        (pss_cons (ps_expr (pe_bm PySem.F.plainAttrs_list PySem.F.slot_list_append PySem.F.type_list_append mt_append (pv 4) (pa_cons (pe_cmpR op_in_seq (pv 5) (pv 3) rfl) pa_nil)))
        (pss_one (ps_if (pt_cmpR op_in_seq (pv 5) (pv 3) rfl)
          (pss_cons (ps_expr (pe_bm PySem.F.plainAttrs_list PySem.F.slot_list_remove PySem.F.type_list_remove mt_removeS (pv 3) (pa_cons (pv 5) pa_nil)))
          (pss_one (ps_set (i := 3) nd rfl (Or.inr rfl) (pe_op op_cat (pv 3) (pe_lc (own := [("_law_pair", 6)]) (g := gName 6) rfl nd (pi_tup (pv 0)) (blkOk_by (N := ["_law_links_here", "_law_pulled", "_law_stand_here", "_law_now", "_law_rings_here", "_law_name", "_law_pair"]) (sc := defScope st_law_walk) (by decide +kernel))
            (fun _ _ _ _ _ => pg_name (i := 6) nd rfl (Or.inl rfl)) (fun _ _ _ _ _ => pts_one (PW.pt (pw_and (pt_cmpR op_eq (pe_ix (r := rIxT K) ix_tup (pv 6) pe_int (fun _ _ => rfl)) (pv 5) (nomark _)) (pw_and1 (pt_cmpR (r := rIn K true) op_notIn_seq (pe_ix (r := rIxT K) ix_tup (pv 6) pe_int (fun _ _ => rfl)) (pv 3) rfl)))))
            (fun _ _ _ _ _ => pe_ix (r := rIxT K) ix_tup (pv 6) pe_int (fun _ _ => rfl))))))) pss_nil))))
      (pss_one (ps_ret (pe_lst (pa_cons (pe_callTy call_tuple_of rfl T.b_tuple (by decide +kernel) (pa_cons (pv 4) pa_nil)) (pa_cons (pe_callTy call_tuple_of rfl T.b_tuple (by decide +kernel) (pa_cons (pe_callB cr_sortedS rfl T.b_sorted (by decide +kernel) (pa_cons (pv 3) pa_nil)) pa_nil)) pa_nil)))))), ?_⟩
    refine ⟨_, rfl, st, _, rfl, hst, fun nw hnw => ⟨Nat.zero_le _, fun rl hrl => ⟨by show 2 ≤ sizeLine; decide, fun tp htp => ?_⟩⟩⟩
    have s3 : Same H (upd (upd (upd H nw (.lst (L.map V.str))) rl (.lst [])) tp (.tup [.ref nw, .ref rl])) := ((Same.new hnw).trans (Same.new hrl)).trans (Same.new htp)
    have hnw3 := Same.new (o := .tup [.ref nw, .ref rl]) htp nw _ (Same.new (o := .lst []) hrl nw _ (upd_same (H := H) (a := nw) (o := .lst (L.map V.str))))
    have hrl3 := Same.new (o := .tup [.ref nw, .ref rl]) htp rl _ (upd_same (H := upd H nw (.lst (L.map V.str))) (a := rl) (o := .lst []))
    have hrl0 : H rl = none := (Same.new hnw).free hrl
    refine ⟨tp, _, rfl, SqT.of upd_same, rfl, _, _, rfl, _, _, rfl, rfl, ?_⟩
    have hne : nw ≠ rl := some_ne (upd_same (H := H) (a := nw) (o := .lst (L.map V.str))) hrl
    refine iter_any (fun R' h => ⟨_, rfl, h⟩) s3 hrow fun J G wJ hG => ?_
    refine for_it wJ (fun i σ H1 => ∃ nw' S v5, σ = [some (.ref e), some (.ref r), some (.ref st), some (.ref nw'), some (.ref rl), v5, none] ∧ Same H H1 ∧ H nw' = none ∧ nw' ≠ rl ∧ StrL H1 nw' S ∧ H1 rl = some (.lst (List.replicate i (.bl true))) ∧ S.Nodup ∧ (∀ x ∈ S, x ∈ B) ∧ ∀ x, x ∈ S ↔ after E (liv L) (row.take i) x = true)
      ⟨nw, L, none, rfl, s3, hnw, hne, hnw3, hrl3, Lnd, LB, fun x => by
        show x ∈ L ↔ decide (x ∈ L) = true
        rw [decide_eq_true_iff]⟩ (fun i σ H1 _ ⟨_, _, _, _, s1, _⟩ => hG _ s1) ?_ ?_
    · rintro i x σ H9 H1 hi ⟨nw', S, v5, rfl, s1, n0, nne, hS, hR, Snd, SB, mem⟩ ⟨e1, hx⟩
      subst e1
      obtain ⟨y, hy, rfl⟩ := str_at hx
      have hyS : y ∈ S := (mem y).mpr (rings_take i y rings hy)
      have hil : i < row.length := at_lt hy
      have lenS : S.length ≤ 12 := Nat.le_trans (nodup_len Snd SB) good.few
      obtain ⟨j, hj⟩ := List.mem_iff_getElem?.mp hyS
      have ev : (if false = true then !inV (V.str y) (S.map V.str) else inV (V.str y) (S.map V.str)) = true := by
        show inV (V.str y) (S.map V.str) = true
        rw [inV_strs]
        exact decide_eq_true hyS
      refine ⟨_, rfl, .inl ⟨rfl, _, SqL.of hR⟩, _, rfl, _, rfl, nw', _, rfl, .inl (SqL.of hS), rfl, flat_strs S, rl, _, _, rfl, rfl, hR, small1000 ?_, ?_⟩
      · rw [List.length_replicate]
        omega
      rw [ev]
      have eR : List.replicate i (V.bl true) ++ [V.bl true] = List.replicate (i + 1) (V.bl true) := by
        rw [List.replicate_succ']
      rw [eR]
      have hS2 : StrL (upd H1 rl (.lst (List.replicate (i + 1) (.bl true)))) nw' S := by
        show (upd _ _ _) _ = _
        rw [upd_ne nne]
        exact hS
      have s2 : Same H (upd H1 rl (.lst (List.replicate (i + 1) (.bl true)))) := s1.set hrl0
      refine ⟨_, rfl, _, rfl, nw', _, rfl, .inl (SqL.of hS2), rfl, flat_strs S, _, rfl, ?_⟩
      rw [ev]
      refine iteT ?_
      refine ⟨_, rfl, .inl ⟨rfl, _, SqL.of hS2⟩, _, rfl, nw', S, y, j, rfl, rfl, hS2, hj, fun m hm e => Nat.ne_of_lt hm (nd_ix Snd e hj), ?_⟩
      generalize hS' : S.eraseIdx j = S'
      have s4 : Same H (upd (upd H1 rl (.lst (List.replicate (i + 1) (.bl true)))) nw' (.lst (S'.map V.str))) := s2.set n0
      have hS4 : StrL (upd (upd H1 rl (.lst (List.replicate (i + 1) (.bl true)))) nw' (.lst (S'.map V.str))) nw' S' := upd_same
      have hR4 : (upd (upd H1 rl (.lst (List.replicate (i + 1) (.bl true)))) nw' (.lst (S'.map V.str))) rl = some (.lst (List.replicate (i + 1) (.bl true))) := by
        rw [upd_ne nne.symm]
        exact upd_same
      generalize (upd (upd H1 rl (.lst (List.replicate (i + 1) (.bl true)))) nw' (.lst (S'.map V.str))) = H4 at s4 hS4 hR4 ⊢
      have he4 : H4 e = some (.tup ((ps.zip E).map fun q => V.ref q.1)) := by
        rw [zip_ref plen]
        exact s4 _ _ he
      refine ⟨_, rfl, _, rfl, e, rfl, ⟨_, SqT.of he4⟩, fun D hD => lc_over (xs := ps.zip E) (v := fun q => V.ref q.1) walk_tup (fun q => decide (q.2.1 = y) && !decide (q.2.2 ∈ S')) (fun q => V.str q.2.2) hD (small1000 ?_) (fun H5 s5 => SqT.of (s5 _ _ he4)) (fun i5 q H5 hq s5 Rt Rf kt kf => ?_) fun H5 s5 e5 => ?_⟩
      · rw [List.length_zip]
        have := good.wl
        omega
      · obtain ⟨q1, x1, x2⟩ := q
        obtain ⟨hp, hE⟩ := List.getElem?_zip_eq_some.mp hq
        obtain ⟨q', hq', hpq⟩ := Paired.at1 rel hp
        rw [hE] at hq'
        have e6 : (x1, x2) = q' := Option.some.inj hq'
        subst e6
        have hp5 := s5 _ _ (s4 _ _ hpq)
        refine ⟨rfl, _, rfl, q1, _, 0, .str x1, rfl, rfl, SqT.of hp5, rfl, _, rfl, rfl, _, rfl, ?_⟩
        refine ite2 (fun h1 => ?_) fun h1 => iteF (kf _ (Same.refl _) ?_)
        · have h1 : x1 = y := V.str.inj (of_decide_eq_true h1)
          refine ⟨_, rfl, q1, _, 1, .str x2, rfl, rfl, SqT.of hp5, rfl, _, rfl, nw', _, rfl, .inl (SqL.of (s5 _ _ hS4)), rfl, flat_strs S', _, rfl, ?_⟩
          show if (if true = true then !inV (V.str x2) (S'.map V.str) else inV (V.str x2) (S'.map V.str)) = true then _ else _
          rw [if_pos rfl, inV_strs]
          refine ite2 (fun h2 => ?_) fun h2 => kf _ (Same.refl _) ?_
          · refine ⟨_, rfl, q1, _, 1, .str x2, rfl, rfl, SqT.of hp5, rfl, kt _ (Same.refl _) ?_⟩
            show (decide (x1 = y) && !decide (x2 ∈ S')) = true
            rw [decide_eq_true h1, h2]
            rfl
          · show (decide (x1 = y) && !decide (x2 ∈ S')) = false
            cases z : (!decide (x2 ∈ S')) with
            | true => exact absurd z h2
            | false => rw [Bool.and_false]
        · show (decide (x1 = y) && !decide (x2 ∈ S')) = false
          rw [decide_eq_false fun h => h1 (decide_eq_true (by rw [h])), Bool.false_and]
      · have e6 := zip_filt (fun q => decide (q.1 = y) && !decide (q.2 ∈ S')) (fun q => V.str q.2) plen
        rw [e6] at e5
        have S'nd : S'.Nodup := by
          rw [← hS']
          exact Snd.eraseIdx j
        have S'B : ∀ x ∈ S', x ∈ B := fun x hx => by
          rw [← hS'] at hx
          exact SB x (List.mem_of_mem_eraseIdx hx)
        have len' : S'.length ≤ 12 := Nat.le_trans (nodup_len S'nd S'B) good.few
        refine ⟨nw', D, _, _, rfl, rfl, s5 _ _ hS4, e5, Nat.le_of_lt (small1000 ?_), fun q hq => ?_⟩
        · rw [List.length_map, List.length_map]
          have h1 := List.length_filter_le (fun q : Str × Str => decide (q.1 = y) && !decide (q.2 ∈ S')) E
          have h2 := good.wl
          omega
        have s6 : Same H H5 := s4.trans s5
        have hq0 : H q = none := s6.free hq
        refine ⟨q, anew E S' y, _, rfl, s6.trans (Same.new hq), hq0, (some_ne (s5 _ _ hR4) hq).symm, ?_, Same.new hq _ _ (s5 _ _ hR4), nodup_anew good.wn S'nd, fun x hx => ?_, fun x => ?_⟩
        · show (upd _ _ _) _ = _
          rw [upd_same]
          unfold anew
          rw [List.map_append, List.map_map]
          rfl
        · rcases mem_anew.mp hx with h | h
          · exact S'B x h
          · exact good.wsB h
        · rw [take_one hy, after_snoc, ← hS']
          exact ring_next Snd hj mem x
    · rintro σ H1 ⟨nw', S, v5, rfl, s1, n0, nne, hS, hR, Snd, SB, mem⟩
      rw [List.length_map] at hR mem
      rw [List.take_length] at mem
      have lenS : S.length ≤ 12 := Nat.le_trans (nodup_len Snd SB) good.few
      refine ⟨_, rfl, rl, _, rfl, .inl ⟨SqL.of hR, fun t1 ht1 => ⟨_, rfl, nw', S, rfl, SqL.of (Same.new ht1 _ _ hS), by omega, fun ys q perm srt hq => ⟨q, _, rfl, .inl ⟨SqL.of upd_same, fun t2 ht2 => ⟨by show 2 ≤ sizeLine; decide, fun l hl => ?_⟩⟩⟩⟩⟩⟩
      have a1 := Same.new ht1 (o := .tup (List.replicate row.length (.bl true)))
      have a2 := Same.new hq (o := .lst (ys.map V.str))
      have a3 := Same.new ht2 (o := .tup (ys.map V.str))
      have a4 := Same.new hl (o := .lst [.ref t1, .ref t2])
      refine k _ l t1 t2 ys ((((s1.trans a1).trans a2).trans a3).trans a4) upd_same (a4 _ _ (a3 _ _ (a2 _ _ upd_same))) (.of (a4 _ _ upd_same)) (perm.nodup_iff.mpr Snd) (fun x hx => SB x (perm.mem_iff.mp hx)) fun x => ?_
      rw [perm.mem_iff]
      exact mem x
end
end Wk
set_option Elab.async false
set_option linter.all false
set_option maxRecDepth 100000
set_option maxHeartbeats 8000000
/-! the law's own: a row that rings wholly -/
namespace Wk
open PySem PySem.Spec PyProof.Rows L2
theorem cut_last (row : List Str) (y : Str) : cutV ((row ++ [y]).map V.str) (some (-1)) none = [V.str y] := by
  have e : (row ++ [y]).map V.str = row.map V.str ++ [V.str y] := by rw [List.map_append]; rfl
  have hl : (row.map V.str ++ [V.str y]).length = row.length + 1 := by rw [List.length_append, List.length_map]; rfl
  have h1 : HT.sIx (row.length + 1) 0 (some (-1)) = row.length := by
    show (if (-1 : Int) < 0 then ((-1 : Int) + ((row.length + 1 : Nat) : Int)).toNat else min (-1 : Int).toNat (row.length + 1)) = row.length
    rw [if_pos (by decide)]
    omega
  rw [e]
  unfold cutV
  rw [hl, h1, HT.sIx_none, List.drop_append_of_le_length (by rw [List.length_map]; exact Nat.le_refl _), List.drop_of_length_le (by rw [List.length_map]; exact Nat.le_refl _)]
  show List.take (row.length + 1 - row.length) [V.str y] = _
  exact List.take_of_length_le (by show 1 ≤ _; omega)
section
variable {P : Program} {w : World} {K : PySem.W.Frag} {mg : Str → Option Value} {base : Heap} {C : Addr}
def sp_lawrung : Sp := fun vs H Q _ => ∃ (p e st : Addr) (B : List Str) (E : List (Str × Str)) (L : List Str), vs = [.ref p, .ref e, .ref st, .int 60] ∧ PurseAt H p ∧ PairsT H e E ∧ StrT H st L ∧ Good B E ∧ (∀ x ∈ B, NameOk x) ∧ (∀ x ∈ L, x ∈ B) ∧ L.Nodup ∧
  ∀ H' r row, But p H H' → PurseAt H' p → StrZ H' r row → Rings E (liv L) row → (∀ x ∈ row, x ∈ B) → row.length ≤ 60 → Q (.ref r) H'
theorem sc_lawrung : FnScope ["_law_purse_here", "_law_links_here", "_law_stand_here", "_law_upto", "_law_found", "_law_now", "_law_turn"] ["_law_purse_here", "_law_links_here", "_law_stand_here", "_law_upto"] (defScope st_law_rung) := ⟨rfl, rfl, rfl, by decide +kernel, rfl, by decide +kernel, by decide +kernel⟩
theorem ok_lawrung (T : Txt K mg) : DefOk P w K mg base 2 "_law_rung" ["_law_purse_here", "_law_links_here", "_law_stand_here", "_law_upto"] sp_lawrung := by
  obtain ⟨f1, fd1, g1, k1, b1, G1⟩ := ok_draw (P := P) (w := w) (base := base) T
  obtain ⟨f2, fd2, g2, k2, b2, G2⟩ := ok_walk (P := P) (w := w) (base := base) T
  refine DefOk.mk' T.d_law_rung sc_lawrung (fun _ _ _ _ _ _ us hl => match us, hl with | [_, _, _, _], _ => rfl) (fun vs H Q E h => ?_) (fun f cdv A outer s H vs Q E' hr h => ?_)
  · obtain ⟨p, e, st, B, E, L, rfl, _⟩ := h
    rfl
  · obtain ⟨p, e, st, B, E, L, rfl, pp, hE, hst, good, nm, LB, Lnd, k⟩ := h
    have nd := sc_lawrung.nd
    refine ⟨_, pss_cons (ps_par (i := 4) (j := 5) rfl nd rfl rfl (by decide) rfl rfl (pa_cons (pe_lst pa_nil) (pa_cons (pe_callTy call_list_of rfl T.b_list (by decide +kernel) (pa_cons (pv 2) pa_nil)) pa_nil)) (by rfl))
      (pss_cons (ps_for PassesOwn.never rfl (pi_range1 rfl T.b_range (pa_cons (pe_call G1 hr rfl g1 k1 b1 .nil pass0 (pa_cons (pv 0) (pa_cons (pe_op op_add (pv 3) pe_int) pa_nil))) pa_nil)) (pg_name (i := 6) nd rfl (Or.inl rfl))
        (pss_one (ps_if (pt_cmpR (op_neD hr.units) (pv 5) (pe_lst pa_nil) (nomark _))
          (pss_cons (ps_expr (pe_bm PySem.F.plainAttrs_list PySem.F.slot_list_append PySem.F.type_list_append mt_append (pv 4) (pa_cons (pe_ix ix_list (pv 5) (pe_call G1 hr rfl g1 k1 b1 .nil pass0 (pa_cons (pv 0) (pa_cons (pe_callB call_len rfl T.b_len PySem.boot_len (pa_cons (pv 5) pa_nil)) pa_nil))) (fun _ _ => rfl)) pa_nil)))
          (pss_one (ps_set (i := 5) nd rfl (Or.inl rfl) (pe_callTy call_list_of rfl T.b_list (by decide +kernel) (pa_cons (pe_ix ix_list (pe_call G2 hr rfl g2 k2 b2 .nil pass0 (pa_cons (pv 1) (pa_cons (pe_slice sl_list (pv 4) (po_some (pe_un un_neg pe_int)) po_none) (pa_cons (pv 5) pa_nil)))) pe_int (fun _ _ => rfl)) pa_nil))))) pss_nil)))
      (pss_one (ps_ret (pe_callTy call_tupleZ rfl T.b_tuple (by decide +kernel) (pa_cons (pv 4) pa_nil))))), ?_⟩
    refine ⟨Nat.zero_le _, fun fl hfl => ⟨_, rfl, st, _, rfl, .inr (hst.same (Same.new hfl)).sq, fun nw hnw => ⟨_, _, rfl, ?_⟩⟩⟩
    have nfp : fl ≠ p := pp.off hfl
    have hfl2 := Same.new (o := .lst (L.map V.str)) hnw fl _ (upd_same (H := H) (a := fl) (o := .lst []))
    have hnw0 : H nw = none := (Same.new hfl).free hnw
    have s2 : Same H (upd (upd H fl (.lst [])) nw (.lst (L.map V.str))) := (Same.new hfl).trans (Same.new hnw)
    refine ⟨_, rfl, _, rfl, _, _, rfl, rfl, p, 61, rfl, pp.same s2, by decide, by decide, fun H3 many bt3 pp3 m0 m1 => ?_⟩
    obtain ⟨mn, rfl⟩ := Int.eq_ofNat_of_zero_le m0
    have bt03 : But p H H3 := (But.of s2).trans bt3
    have hnw3 : H3 nw = some (.lst (L.map V.str)) := bt3 _ _ upd_same (pp.off hnw0)
    have hfl3 := bt3 _ _ hfl2 nfp
    refine ⟨_, rfl, by omega, by omega, for_range (lo := 0) (n := (mn : Int).toNat) (fun i σ H4 => ∃ row S nw' v6, σ = [some (.ref p), some (.ref e), some (.ref st), some (.int 60), some (.ref fl), some (.ref nw'), v6] ∧ But p H H4 ∧ PurseAt H4 p ∧ StrL H4 fl row ∧ StrL H4 nw' S ∧ nw' ≠ p ∧ nw' ≠ fl ∧ S.Nodup ∧ (∀ x ∈ S, x ∈ B) ∧ (∀ x, x ∈ S ↔ after E (liv L) row x = true) ∧ Rings E (liv L) row ∧ (∀ x ∈ row, x ∈ B) ∧ row.length ≤ i)
      ⟨[], L, nw, none, rfl, bt03, pp3, hfl3, hnw3, pp.off hnw0, (some_ne (upd_same (H := H) (a := fl) (o := .lst [])) hnw).symm, Lnd, LB, fun x => by
        show x ∈ L ↔ decide (x ∈ L) = true
        rw [decide_eq_true_iff], trivial, fun x hx => absurd hx List.not_mem_nil, Nat.zero_le _⟩ ?_ ?_⟩
    · rintro i σ H4 hi ⟨row, S, nw', v6, rfl, bt4, pp4, hfl4, hnw4, nnp, nnf, Snd, SB, mem, rings, rowB, len⟩
      have lenS : S.length ≤ 12 := Nat.le_trans (nodup_len Snd SB) good.few
      refine ⟨_, rfl, Nat.zero_le _, fun el hel => ?_⟩
      have s5 := Same.new hel (o := .lst [])
      refine ⟨_, _, .lst (SqL.of (s5 _ _ hnw4)) (dp_strs S), .lst (SqL.of upd_same) .nil, shaped_strs fun x hx => strOk_of (nm x (SB x hx)), rfl, _, rfl, ?_⟩
      cases S with
      | nil => exact iteF ⟨row, [], nw', _, rfl, bt4.trans (But.of s5), pp4.same s5, s5 _ _ hfl4, s5 _ _ hnw4, nnp, nnf, Snd, SB, mem, rings, rowB, by omega⟩
      | cons y0 S0 =>
        refine iteT ?_
        generalize hS : y0 :: S0 = S at *
        have lenP : 1 ≤ S.length := by
          rw [← hS]
          exact Nat.succ_le_succ (Nat.zero_le _)
        have bt5 := bt4.trans (But.of s5)
        have pp5 := pp4.same s5
        have hfl5 := s5 _ _ hfl4
        have hnw5 := s5 _ _ hnw4
        generalize upd H4 el (.lst []) = H5 at bt5 pp5 hfl5 hnw5 ⊢
        refine ⟨_, rfl, .inl ⟨rfl, _, SqL.of hfl5⟩, _, rfl, _, rfl, _, rfl, _, S.length, rfl, .inl ⟨_, SqL.of hnw5, (List.length_map ..).symm⟩, p, S.length, rfl, pp5, by omega, by omega, fun H6 at6 bt6 pp6 a0 a1 => ?_⟩
        obtain ⟨an, rfl⟩ := Int.eq_ofNat_of_zero_le a0
        have han : an < S.length := by omega
        have hy : S[an]? = some S[an] := List.getElem?_eq_getElem han
        generalize S[an] = y at hy
        have hyS := List.mem_of_getElem? hy
        have hfl6 := bt6 _ _ hfl5 nfp
        have hnw6 := bt6 _ _ hnw5 nnp
        refine ⟨nw', _, _, .str y, rfl, rfl, SqL.of hnw6, at_any (j := an) rfl (by rw [List.getElem?_map, hy]; rfl), fl, _, _, rfl, rfl, hfl6, small1000 ?_, ?_⟩
        · rw [List.length_map]
          omega
        have bt06 := bt5.trans bt6
        have e7 : row.map V.str ++ [V.str y] = (row ++ [y]).map V.str := by rw [List.map_append]; rfl
        rw [e7]
        have hfl7 : StrL (upd H6 fl (.lst ((row ++ [y]).map V.str))) fl (row ++ [y]) := upd_same
        have hnw7 : StrL (upd H6 fl (.lst ((row ++ [y]).map V.str))) nw' S := by
          show (upd _ _ _) _ = _
          rw [upd_ne nnf]
          exact hnw6
        have bt7 : But p H (upd H6 fl (.lst ((row ++ [y]).map V.str))) := bt06.set hfl
        have pp7 : PurseAt (upd H6 fl (.lst ((row ++ [y]).map V.str))) p := pp6.set nfp
        generalize upd H6 fl (.lst ((row ++ [y]).map V.str)) = H7 at bt7 pp7 hfl7 hnw7 ⊢
        refine ⟨_, rfl, _, rfl, _, rfl, _, rfl, fl, _, rfl, SqL.of hfl7, fun cl hcl => ?_⟩
        rw [cut_last]
        have s8 := Same.new hcl (o := .lst [V.str y])
        have eL : liv S = after E (liv L) row := by
          funext x
          have := mem x
          show decide (x ∈ S) = _
          cases q : after E (liv L) row x with
          | true => exact decide_eq_true (this.mpr q)
          | false => exact decide_eq_false (fun h => absurd (this.mp h) (by rw [q]; decide))
        refine ⟨_, rfl, e, cl, nw', B, E, S, [y], rfl, ((bt7.pairs pp hE)).same s8, .inl (SqL.of upd_same), .inl (SqL.of (s8 _ _ hnw7)), good, SB, Snd, ⟨decide_eq_true hyS, trivial⟩, by show 1 ≤ 400; decide, fun H9 l t1 t2 S' s9 hl ht1 ht2 S'nd S'B mem' => ?_⟩
        refine ⟨l, _, 1, .ref t2, rfl, rfl, SqL.of hl, rfl, t2, _, rfl, .inr ht2.sq, fun nx hnx => ?_⟩
        have s10 := Same.new hnx (o := .lst (S'.map V.str))
        have s79 := (s8.trans s9).trans s10
        refine ⟨row ++ [y], S', nx, _, rfl, bt7.trans (But.of s79), pp7.same s79, s79 _ _ hfl7, upd_same, ((pp7.same (s8.trans s9)).off hnx), (some_ne (s9 _ _ (s8 _ _ hfl7)) hnx).symm, S'nd, S'B, fun x => ?_, rings_snoc E y row _ rings ((mem y).mp hyS), fun x hx => ?_, ?_⟩
        · rw [mem' x, eL, after_snoc]
          exact Iff.rfl
        · rcases List.mem_append.mp hx with h | h
          · exact rowB x h
          · rw [List.mem_singleton.mp h]
            exact SB y hyS
        · rw [List.length_append]
          show row.length + 1 ≤ _
          omega
    · rintro σ H4 ⟨row, S, nw', v6, rfl, bt4, pp4, hfl4, hnw4, nnp, nnf, Snd, SB, mem, rings, rowB, len⟩
      refine ⟨_, rfl, fl, _, rfl, SqL.of hfl4, fun r ob hr1 ob1 ob2 => ?_⟩
      have s5 := Same.new hr1 (o := .frz ob (.tup (row.map V.str)))
      exact k _ r row (bt4.trans (But.of s5)) (pp4.same s5) ⟨ob, ob1, ob2, upd_same⟩ rings rowB (by omega)
end
end Wk
set_option Elab.async false
set_option linter.all false
set_option maxRecDepth 100000
set_option maxHeartbeats 8000000
/-! the law's own: a row told for numbers rings so -/
namespace Wk
open PySem PySem.Spec PyProof.Rows L2
def rCountT (K : PySem.W.Frag) : V → List V → Hp → VK → Prop := fun x xs H Q => ∃ p, ∃ ys : List Str, ∃ z, x = .ref p ∧ xs = [.str z] ∧ SqT K H p (ys.map V.str) ∧ Q (.int (ys.count z : Nat)) H
theorem mt_countZ {X : Cx} : MtR X "tuple.count" (rCountT X.K) := mt_countT
section
variable {P : Program} {w : World} {K : PySem.W.Frag} {mg : Str → Option Value} {base : Heap} {C : Addr}
def sp_lawrings : Sp := fun vs H Q _ => ∃ (t e c u pl : Addr) (B : List Str) (E : List (Str × Str)) (L : List Str) (w : Str → Int) (row : List Str), vs = [.ref t, .ref e, .ref c, .ref u, .ref pl] ∧ StrT H t B ∧ PairsT H e E ∧ NumT H c B w ∧ StrT H u L ∧ StrZ H pl row ∧ Good B E ∧ (∀ x ∈ L, x ∈ B) ∧ L.Nodup ∧ RowOf E B w L row ∧ tot w B ≤ 400 ∧
  ∀ H', Same H H' → Q (.bl true) H'
theorem sc_lawrings : FnScope ["_law_names_here", "_law_links_here", "_law_wished", "_law_stand_here", "_law_pulled", "_law_name"] ["_law_names_here", "_law_links_here", "_law_wished", "_law_stand_here", "_law_pulled"] (defScope st_law_rings) := ⟨rfl, rfl, rfl, by decide +kernel, rfl, by decide +kernel, by decide +kernel⟩
theorem ok_lawrings (T : Txt K mg) : DefOk P w K mg base 2 "_law_rings" ["_law_names_here", "_law_links_here", "_law_wished", "_law_stand_here", "_law_pulled"] sp_lawrings := by
  obtain ⟨f2, fd2, g2, k2, b2, G2⟩ := ok_walk (P := P) (w := w) (base := base) T
  refine DefOk.mk' T.d_law_rings sc_lawrings (fun _ _ _ _ _ _ us hl => match us, hl with | [_, _, _, _, _], _ => rfl) (fun vs H Q E h => ?_) (fun f cdv A outer s H vs Q E' hr h => ?_)
  · obtain ⟨t, e, c, u, pl, B, E, L, w, row, rfl, _⟩ := h
    rfl
  · obtain ⟨t, e, c, u, pl, B, E, L, w, row, rfl, ⟨ut, it, ht⟩, hE, hc, hu, ⟨ob, ob1, ob2, hpl⟩, good, LB, Lnd, ok, few, k⟩ := h
    have nd := sc_lawrings.nd
    have hlr : row.length ≤ 400 := by
      have := ok.len
      omega
    refine ⟨_, pss_cons (ps_if (PW.pt (pw_or (pt_cmpR (op_neD hr.units) (pe_lc (own := [("_law_name", 5)]) (g := gName 5) (tt := tYes) rfl nd (pi_tup (pv 0)) (blkOk_by (N := ["_law_names_here", "_law_links_here", "_law_wished", "_law_stand_here", "_law_pulled", "_law_name"]) (sc := defScope st_law_rings) (by decide +kernel))
            (fun _ _ _ _ _ => pg_name (i := 5) nd rfl (Or.inl rfl)) (fun _ _ _ _ _ => pts_nil) (fun _ _ _ _ _ => pe_bmZ (r := rCountT K) PySem.F.slot_tuple_count PySem.F.type_tuple_count mt_countZ (pv 4) (pa_cons (pv 5) pa_nil)))
          (pe_callTy call_list_of rfl T.b_list (by decide +kernel) (pa_cons (pv 2) pa_nil)) (nomark _))
        (pw_or1 (pt_cmpR op_ne (pe_callB call_len rfl T.b_len PySem.boot_len (pa_cons (pv 4) pa_nil)) (pe_callB (cr_sumT rfl) rfl T.b_sum (by decide +kernel) (pa_cons (pv 2) pa_nil)) (nomark _)))))
        (pss_one (ps_ret pe_bl)) pss_nil)
      (pss_one (ps_ret (pe_cmpR op_notIn_seq pe_bl (pe_ix ix_list (pe_call G2 hr rfl g2 k2 b2 .nil pass0 (pa_cons (pv 1) (pa_cons (pv 4) (pa_cons (pv 3) pa_nil)))) pe_int (fun _ _ => rfl)) rfl))), ?_⟩
    refine ⟨_, rfl, t, rfl, ⟨_, sqT ht⟩, fun D hD => lc_each (xs := B) (v := V.str) walk_tup (fun x => .int (w x)) hD (small1000 good.k) (fun H1 s1 => sqT (s1 _ _ ht)) (fun i x H1 hx s1 Rt kt => ?_) (gName_mono 5) fun H1 s1 e1 => ?_⟩
    · have ex : V.int ((row.count x : Nat) : Int) = V.int (w x) := by rw [← ok.cnt x (List.mem_of_getElem? hx)]; rfl
      refine ⟨rfl, _, rfl, ⟨pl, ob, _, rfl, s1 _ _ hpl, ob1, ob2⟩, _, rfl, pl, row, x, rfl, rfl, sqT (s1 _ _ hpl), ?_⟩
      rw [ex]
      exact kt _ (Same.refl _)
    · have hc1 := s1 _ _ hc
      refine ⟨_, rfl, c, _, rfl, .inr (SqT.of hc1), fun q hq => ?_⟩
      have s2 := Same.new hq (o := .lst (B.map fun b => V.int (w b)))
      have em : B.map (fun b => V.int (w b)) = (B.map w).map V.int := by rw [List.map_map]; rfl
      have hD2 : (upd H1 q (.lst (B.map fun b => V.int (w b)))) D = some (.lst ((B.map w).map V.int)) := by
        rw [← em]
        exact s2 _ _ e1
      have hq2 : (upd H1 q (.lst (B.map fun b => V.int (w b)))) q = some (.lst ((B.map w).map V.int)) := by
        rw [← em]
        exact upd_same
      have s02 := s1.trans s2
      generalize upd H1 q (.lst (B.map fun b => V.int (w b))) = H2 at hD2 hq2 s02 s2 ⊢
      refine ⟨_, _, .lst (SqL.of hD2) (dp_ints _), .lst (SqL.of hq2) (dp_ints _), shaped_ints _, shaped_ints _, _, rfl, ?_⟩
      rw [eqv_ints]
      refine iteF ?_
      have hc2 := s02 _ _ hc
      have hpl2 := s02 _ _ hpl
      refine ⟨_, rfl, _, row.length, rfl, .inr ⟨_, sqT hpl2, (List.length_map ..).symm⟩, _, rfl, c, B.map w, rfl, SqT.of (by rw [← em]; exact hc2), ?_⟩
      have es : (B.map w).sum = (row.length : Int) := by
        have h1 := ok.len
        have h2 : (B.map w).sum = tot w B := rfl
        omega
      rw [es]
      refine ⟨rfl, _, rfl, ?_⟩
      rw [decide_eq_true rfl]
      refine iteF ?_
      refine ⟨_, rfl, _, rfl, _, rfl, e, pl, u, B, E, L, row, rfl, hE.same s02, .inr (sqT hpl2), .inr (hu.same s02).sq, good, LB, Lnd, ok.rings, hlr, fun H3 l t1 t2 S s3 hl ht1 ht2 Snd SB mem => ?_⟩
      refine ⟨l, _, 0, .ref t1, rfl, rfl, SqL.of hl, rfl, t1, _, rfl, .inr (SqT.of ht1), rfl, ?_, ?_⟩
      · rw [List.all_replicate]
        simp [flatV]
      · have ev : inV (V.bl false) (List.replicate row.length (V.bl true)) = false := by
          unfold inV
          rw [List.any_replicate]
          by_cases h0 : row.length = 0
          · rw [if_pos h0]
          · rw [if_neg h0]
            rfl
        show Q (.bl (if true = true then !inV (V.bl false) (List.replicate row.length (V.bl true)) else inV (V.bl false) (List.replicate row.length (V.bl true)))) H3
        rw [ev]
        exact k _ (s02.trans s3)
end
end Wk
set_option Elab.async false
set_option linter.all false
set_option maxRecDepth 100000
set_option maxHeartbeats 8000000
/-! the law's own: one more of a bell that has all it is let -/
namespace Wk
open PySem PySem.Spec PyProof.Rows L2
theorem cat_of {K : PySem.W.Frag} {a b : Addr} {xs ys : List V} {H : Hp} {Q : VK} (ha : H a = some (.tup xs)) (hb : H b = some (.tup ys)) (hl : xs.length + ys.length ≤ sizeLine) (k : ∀ H' p, Same H H' → H' p = some (.tup (xs ++ ys)) → Q (.ref p) H') : rCatA K (.ref a) (.ref b) H Q :=
  ⟨a, b, xs, ys, rfl, rfl, .of ha, .of hb, hl, fun e => k H b (Same.refl _) (by rw [e]; exact hb), fun _ e => k H a (Same.refl _) (by rw [e, List.append_nil]; exact ha), fun _ _ p hp => k _ p (Same.new hp) upd_same⟩
theorem sl_of {K : PySem.W.Frag} {a : Addr} {xs : List V} {lo hi : Option Int} {H : Hp} {Q : VK} (ha : H a = some (.tup xs)) (k : ∀ H' p, Same H H' → H' p = some (.tup (cutV xs lo hi)) → Q (.ref p) H') : rSlA K (.ref a) lo hi H Q := by
  refine ⟨a, xs, rfl, .of ha, fun ⟨h1, h2⟩ => k H a (Same.refl _) ?_, fun _ p hp => k _ p (Same.new hp) upd_same⟩
  have e : cutV xs lo hi = xs := by
    unfold cutV
    rw [h1, h2, List.drop_zero]
    exact List.take_of_length_le (by omega)
  rw [e]
  exact ha
theorem cut_pre (xs : List V) (k : Nat) (h : k ≤ xs.length) : cutV xs none (some (k : Int)) = xs.take k := by
  unfold cutV
  rw [HT.sIx_none, HT.sIx_nat, List.drop_zero, Nat.min_eq_left h]
  rfl
theorem cut_post (xs : List V) (k : Nat) (h : k ≤ xs.length) : cutV xs (some (k : Int)) none = xs.drop k := by
  unfold cutV
  rw [HT.sIx_none, HT.sIx_nat, Nat.min_eq_left h]
  exact List.take_of_length_le (by rw [List.length_drop]; exact Nat.le_refl _)
theorem put_at {B : List Str} {f : Str → V} {i : Nat} {b : Str} {v : V} (nd : B.Nodup) (hb : B[i]? = some b) : (B.map f).take i ++ [v] ++ (B.map f).drop (i + 1) = B.map (at1 f b v) := by
  refine List.ext_getElem? fun j => ?_
  have hi := at_lt hb
  have hl : ((B.map f).take i).length = i := by
    rw [List.length_take, List.length_map]
    omega
  rw [List.getElem?_map]
  rcases Nat.lt_trichotomy j i with h | h | h
  · rw [List.append_assoc, List.getElem?_append_left (by rw [hl]; exact h), List.getElem?_take_of_lt h, List.getElem?_map]
    cases hj : B[j]? with
    | none => rfl
    | some x =>
      have hne : x ≠ b := fun e => by
        rw [e] at hj
        exact Nat.ne_of_lt h (nd_ix nd hj hb)
      show some (f x) = some (at1 f b v x)
      rw [at1_ne f v hne]
  · subst h
    rw [List.append_assoc, List.getElem?_append_right (by rw [hl]; exact Nat.le_refl _), hl, Nat.sub_self, hb]
    show some v = some (at1 f b v b)
    rw [at1_same]
  · rw [List.getElem?_append_right (by rw [List.length_append, hl]; exact h), List.length_append, hl, List.getElem?_drop, List.getElem?_map]
    have e : i + 1 + (j - (i + [v].length)) = j := by
      show i + 1 + (j - (i + 1)) = j
      omega
    rw [e]
    cases hj : B[j]? with
    | none => rfl
    | some x =>
      have hne : x ≠ b := fun e => by
        rw [e] at hj
        exact Nat.ne_of_gt h (nd_ix nd hj hb)
      show some (f x) = some (at1 f b v x)
      rw [at1_ne f v hne]
/-- one more of b -/
def plus (w : Str → Int) (b : Str) : Str → Int := fun x => if x = b then w x + 1 else w x
theorem at1_plus (w : Str → Int) (b : Str) : at1 (fun x => V.int (w x)) b (.int (w b + 1)) = fun x => V.int (plus w b x) := by
  funext x
  unfold at1 plus
  by_cases e : x = b
  · rw [if_pos e, if_pos e, e]
  · rw [if_neg e, if_neg e]
theorem plus_bar {E : List (Str × Str)} {B : List Str} {w : Str → Int} {L : Str → Bool} {b : Str} (nd : B.Nodup) (hb : b ∈ B) (f : Feas E B w L) (full : w b = bound E w L b) (no : (b, b) ∉ E) : BellBar E B (plus w b) L b := by
  obtain ⟨i, hi⟩ := List.mem_iff_getElem?.mp hb
  have up : ∀ x, w x ≤ plus w b x := fun x => by unfold plus; split <;> omega
  refine ⟨i, hi, ?_, fun j y hj hy => ?_⟩
  · have h1 : tot (plus w b) (wk E b) = tot w (wk E b) := tot_congr fun a ha => by
      unfold plus
      rw [if_neg fun e => no (by rw [e] at ha; exact mem_wk.mp ha)]
    have h2 : plus w b b = w b + 1 := if_pos rfl
    unfold bound at full ⊢
    omega
  · have hne : y ≠ b := fun e => by
      rw [e] at hy
      exact Nat.ne_of_lt hj (nd_ix nd hy hi)
    have h1 : plus w b y = w y := if_neg hne
    have h2 := f.le y (List.mem_of_getElem? hy)
    have h3 := tot_mono (l := wk E y) fun a _ => up a
    unfold bound at h2 ⊢
    omega
section
variable {P : Program} {w : World} {K : PySem.W.Frag} {mg : Str → Option Value} {base : Heap} {C : Addr}
def sp_lawfull (C : Addr) : Sp := fun vs H Q _ => ∃ (a b t e c u : Addr) (B : List Str) (E : List (Str × Str)) (L : List Str) (w : Str → Int), vs = [.ref a, .ref t, .ref e, .ref c, .ref u] ∧ WebAt C H a b B E ∧ StrZ H t B ∧ PairsT H e E ∧ NumT H c B w ∧ StrT H u L ∧ Good B E ∧ (∀ x ∈ B, NameOk x) ∧ (∀ x ∈ L, x ∈ B) ∧ L.Pairwise ltS ∧ L.length ≤ 8 ∧ Feas E B w (liv L) ∧ tot w B ≤ 400 ∧
  ∀ H', Same H H' → Q (.bl true) H'
theorem sc_lawfull : FnScope ["_law_house", "_law_names_here", "_law_links_here", "_law_wished", "_law_stand_here", "_law_k", "_law_full", "_law_more"] ["_law_house", "_law_names_here", "_law_links_here", "_law_wished", "_law_stand_here"] (defScope st_law_full_right) := ⟨rfl, rfl, rfl, by decide +kernel, rfl, by decide +kernel, by decide +kernel⟩
theorem room65 {k : Nat} {A : Around} (r : Room k A) : A.units + 65 < cLine := by have := r.un; omega
theorem bell_ok : PyData.strOk ("bell" : Str) = true := by decide +kernel
theorem ok_lawfull (T : Txt K mg) (W : WebT K mg C) : DefOk P w K mg base 5 "_law_full_right" ["_law_house", "_law_names_here", "_law_links_here", "_law_wished", "_law_stand_here"] (sp_lawfull C) := by
  obtain ⟨f1, fd1, g1, k1, b1, G1⟩ := ok_lawlet (P := P) (w := w) (base := base) T
  obtain ⟨f2, fd2, ds2, g2, k2, v2, b2, kb2, G2⟩ := ok_bars (P := P) (w := w) (base := base) T W
  refine DefOk.mk' T.d_law_full_right sc_lawfull (fun _ _ _ _ _ _ us hl => match us, hl with | [_, _, _, _, _], _ => rfl) (fun vs H Q E h => ?_) (fun f cdv A outer s H vs Q E' hr h => ?_)
  · obtain ⟨a, b, t, e, c, u, B, E, L, w, rfl, _⟩ := h
    rfl
  · obtain ⟨a, b, t, e, c, u, B, E, L, w, rfl, hw, hz, hE, hc, hu, good, nm, LB, up, L8, feas, few, k⟩ := h
    have nd := sc_lawfull.nd
    have hr1 : Room 1 _ := hr.mono (by decide)
    refine ⟨_, pss_cons (ps_for PassesOwn.never rfl (pi_range1 rfl T.b_range (pa_cons (pe_callB call_len rfl T.b_len PySem.boot_len (pa_cons (pv 1) pa_nil)) pa_nil)) (pg_name (i := 5) nd rfl (Or.inl rfl))
        (pss_cons (ps_set (i := 6) nd rfl (Or.inl rfl) (pe_cmpR op_eq (pe_ix ix_tup (pv 3) (pv 5) (fun _ _ => rfl)) (pe_call G1 hr1 rfl g1 k1 b1 .nil pass0 (pa_cons (pv 1) (pa_cons (pv 2) (pa_cons (pv 3) (pa_cons (pv 4) (pa_cons (pe_ix ix_tup (pv 1) (pv 5) (fun _ _ => rfl)) pa_nil)))))) (nomark _)))
        (pss_one (ps_if (PW.pt (pw_and (pt_val (pv 6)) (pw_and1 (pt_cmpR (op_outT (room65 hr)) (pe_tup (pa_cons (pe_ix ix_tup (pv 1) (pv 5) (fun _ _ => rfl)) (pa_cons (pe_ix ix_tup (pv 1) (pv 5) (fun _ _ => rfl)) pa_nil))) (pv 2) rfl))))
          (pss_cons (ps_set (i := 7) nd rfl (Or.inl rfl) (pe_op op_catA (pe_op op_catA (pe_slice sl_tupA (pv 3) po_none (po_some (pv 5))) (pe_tup (pa_cons (pe_op op_add (pe_ix ix_tup (pv 3) (pv 5) (fun _ _ => rfl)) pe_int) pa_nil))) (pe_slice sl_tupA (pv 3) (po_some (pe_op op_add (pv 5) pe_int)) po_none)))
          (pss_one (ps_if (pt_cmpR (op_neD hr.units) (pe_callN G2 hr rfl g2 k2 kb2 pass0 (pa_cons (pv 0) (pa_cons (pv 7) pa_nil)) (pk_cons (pv 4) pk_nil)) (pe_tup (pa_cons pe_str (pa_cons (pe_ix ix_tup (pv 1) (pv 5) (fun _ _ => rfl)) pa_nil))) (nomark _))
            (pss_one (ps_ret pe_bl)) pss_nil))) pss_nil))))
      (pss_one (ps_ret pe_bl)), ?_⟩
    obtain ⟨ob, ob1, ob2, hz0⟩ := id hz
    obtain ⟨ps, he, rel⟩ := id hE
    have hlB : (B.map V.str).length = B.length := List.length_map ..
    refine ⟨_, rfl, _, B.length, rfl, .inr ⟨_, sqT hz0, hlB.symm⟩, _, rfl, by have := good.few; omega, by have := good.few; omega, for_range (lo := 0) (n := (B.length : Int).toNat) (fun i σ H1 => ∃ v5 v6 v7, σ = [some (.ref a), some (.ref t), some (.ref e), some (.ref c), some (.ref u), v5, v6, v7] ∧ Same H H1)
      ⟨none, none, none, rfl, Same.refl _⟩ ?_ ?_⟩
    · rintro i σ H1 hi ⟨v5, v6, v7, rfl, s1⟩
      have hiB : i < B.length := by omega
      obtain ⟨y, hy⟩ : ∃ y, B[i]? = some y := ⟨_, List.getElem?_eq_getElem hiB⟩
      have hyB := List.mem_of_getElem? hy
      have aty : atI (B.map V.str) (0 + (i : Int)) = some (.str y) := at_any (j := i) (by omega) (by rw [List.getElem?_map, hy]; rfl)
      have atw : atI (B.map fun b => V.int (w b)) (0 + (i : Int)) = some (.int (w y)) := at_any (j := i) (by omega) (by rw [List.getElem?_map, hy]; rfl)
      refine ⟨_, rfl, _, rfl, c, _, _, .int (w y), rfl, rfl, SqT.of (s1 _ _ hc), atw, _, rfl, _, rfl, _, rfl, _, rfl, _, rfl, _, rfl, t, _, _, .str y, rfl, rfl, sqT (s1 _ _ hz0), aty, t, e, c, u, y, B, E, L, w, rfl, hz.same s1, hE.same s1, s1 _ _ hc, hu.same s1, good, fun H2 s2 => ⟨rfl, ?_⟩⟩
      have s02 := s1.trans s2
      refine ⟨_, rfl, _, rfl, ?_⟩
      refine ite2 (fun hfull => ?_) fun _ => iteF ⟨_, _, _, rfl, s02⟩
      have hfull : w y = bound E w (liv L) y := V.int.inj (of_decide_eq_true hfull)
      refine ⟨_, rfl, _, rfl, t, _, _, .str y, rfl, rfl, sqT (s02 _ _ hz0), aty, _, rfl, _, rfl, t, _, _, .str y, rfl, rfl, sqT (s02 _ _ hz0), aty, by show 2 ≤ sizeLine; decide, fun q hq => ?_⟩
      have s3 := Same.new hq (o := .tup [.str y, .str y])
      have s03 := s02.trans s3
      have hy1 := strOk_of (nm y hyB)
      have hqd : PairAtH (upd H2 q (.tup [.str y, .str y])) q (y, y) := upd_same
      generalize upd H2 q (.tup [.str y, .str y]) = H3 at s03 s3 hqd ⊢
      refine ⟨_, rfl, pd (y, y), E.map pd, dp_pair hqd, .tup (SqT.of (s03 _ _ he)) (dp_pairs (Paired.same s03 rel)), shaped_pair hy1 hy1, shaped_pairs fun q hq => ⟨strOk_of (nm _ (good.wo _ hq).1), strOk_of (nm _ (good.wo _ hq).2)⟩, _, rfl, ?_⟩
      rw [any_pd]
      refine ite2 (fun hno => ?_) fun _ => ⟨_, _, _, rfl, s03⟩
      have hno : (y, y) ∉ E := fun h => by
        rw [decide_eq_true h] at hno
        cases hno
      have lW : (B.map fun b => V.int (w b)).length = B.length := List.length_map ..
      have few12 := good.few
      refine ⟨_, rfl, _, rfl, _, rfl, sl_of (s03 _ _ hc) fun H4 p1 s4 hp1 => ?_⟩
      have s04 := s03.trans s4
      refine ⟨_, rfl, _, rfl, c, _, _, .int (w y), rfl, rfl, SqT.of (s04 _ _ hc), atw, _, _, rfl, rfl, by show 1 ≤ sizeLine; decide, fun p2 hp2 => ?_⟩
      have s5 := Same.new hp2 (o := .tup [.int (w y + 1)])
      refine cat_of (s5 _ _ hp1) upd_same (Nat.le_of_lt (small1000 ?_)) fun H6 p3 s6 hp3 => ?_
      · have := cutV_length (B.map fun b => V.int (w b)) none (some (0 + (i : Int)))
        show _ + 1 ≤ 1000
        omega
      have s06 := (s04.trans s5).trans s6
      refine ⟨_, rfl, _, rfl, _, _, rfl, rfl, _, rfl, ?_⟩
      unfold tNoPart
      refine sl_of (s06 _ _ hc) fun H7 p4 s7 hp4 => ?_
      have e1 : cutV (B.map fun b => V.int (w b)) none (some (0 + (i : Int))) = (B.map fun b => V.int (w b)).take i := by
        rw [Int.zero_add]
        exact cut_pre _ i (by omega)
      have e2 : cutV (B.map fun b => V.int (w b)) (some (0 + (i : Int) + 1)) none = (B.map fun b => V.int (w b)).drop (i + 1) := by
        rw [Int.zero_add]
        exact cut_post _ (i + 1) (by omega)
      rw [e1] at hp3
      rw [e2] at hp4
      refine cat_of (s7 _ _ hp3) hp4 (Nat.le_of_lt (small1000 ?_)) fun H8 p5 s8 hp5 => ?_
      · rw [List.length_append, List.length_take, List.length_drop, lW]
        show _ + 1 + _ ≤ 1000
        omega
      rw [put_at good.nd hy, at1_plus] at hp5
      have s08 := (s06.trans s7).trans s8
      refine ⟨_, rfl, _, rfl, _, rfl, rfl, rfl, a, b, p5, u, .ref u, B, E, L, plus w y, rfl, hw.same s08, good, hp5, fun x hx => ?_, hu.same s08, .inr ⟨rfl, LB, up, by omega⟩, .inr ⟨y, plus_bar good.nd hyB feas hfull hno, fun H9 p6 s9 hp6 => ?_⟩⟩
      · have h1 := feas.nn x
        have h2 := tot_ge (w := w) (l := B) (fun b _ => feas.nn b) hx
        unfold plus
        split <;> omega
      have s09 := s08.trans s9
      refine ⟨_, rfl, _, rfl, t, _, _, .str y, rfl, rfl, sqT (s09 _ _ hz0), aty, by show 2 ≤ sizeLine; decide, fun p7 hp7 => ?_⟩
      have s10 := Same.new hp7 (o := .tup [.str "bell", .str y])
      have hp67 : PairAtH (upd H9 p7 (.tup [.str "bell", .str y])) p6 ("bell", y) := s10 _ _ hp6
      have hp77 : PairAtH (upd H9 p7 (.tup [.str "bell", .str y])) p7 ("bell", y) := upd_same
      refine ⟨pd ("bell", y), pd ("bell", y), dp_pair hp67, dp_pair hp77, shaped_pair bell_ok hy1, shaped_pair bell_ok hy1, _, rfl, ?_⟩
      rw [eqv_pd, decide_eq_true rfl]
      exact iteF ⟨_, _, _, rfl, s09.trans s10⟩
    · rintro σ H1 ⟨v5, v6, v7, rfl, s1⟩
      exact k _ s1
end
end Wk
set_option Elab.async false
set_option linter.all false
set_option maxRecDepth 100000
set_option maxHeartbeats 8000000
/-! the law's own: all that is asked of one cell -/
namespace Wk
open PySem PySem.Spec PyProof.Rows L2
theorem walk_zipT {K : PySem.W.Frag} {a b : Addr} {xs ys : List V} {n : Nat} (h1 : xs.length = n) (h2 : ys.length = n) : Walk (RZ.ItzT K a b) n (fun H => SqT K H a xs ∧ SqT K H b ys) (YPair (fun i => xs[i]?) (fun i => ys[i]?)) := by
  refine ⟨fun i H hi q => ?_, fun H q => ⟨xs, ys, q.1, q.2, .inl (by omega)⟩, fun i H v H' _ q y => ?_⟩
  · have e1 : i < xs.length := by omega
    have e2 : i < ys.length := by omega
    exact ⟨xs, ys, xs[i], ys[i], q.1, q.2, by simp [e1], by simp [e2]⟩
  · obtain ⟨T, x, z, h1, h2, h3, h4, h5⟩ := y
    exact ⟨T, x, z, h1, h2, h3, h4 xs q.1, h5 ys q.2⟩
theorem But.web {C p : Addr} {H H' : Hp} {a b : Addr} {B : List Str} {E : List (Str × Str)} (s : But p H H') (pp : PurseAt H p) (h : WebAt C H a b B E) : WebAt C H' a b B E :=
  let ⟨⟨dx, e, ha, hE⟩, hb⟩ := h
  ⟨⟨dx, e, s _ _ ha (pp.ne ha fun _ _ _ q => nomatch q), s.pairs pp hE⟩, s.strs pp hb⟩
theorem tot_zero {α : Type} [DecidableEq α] : ∀ (B : List α), tot (fun _ : α => (0 : Int)) B = 0
  | [] => rfl
  | a :: l => by
    rw [tot_cons, tot_zero l]
    rfl
theorem tot_count {α : Type} [DecidableEq α] {B : List α} (nd : B.Nodup) : ∀ {row : List α}, (∀ x ∈ row, x ∈ B) → tot (cnt row) B = row.length
  | [], _ => by
    have : tot (cnt ([] : List α)) B = tot (fun _ => 0) B := tot_congr fun a _ => by simp [cnt]
    rw [this]
    exact tot_zero B
  | c :: r, h => by
    have h1 := tot_count nd (row := r) fun x hx => h x (List.mem_cons_of_mem _ hx)
    have h2 : B.count c = 1 := by rw [nd.count, if_pos (h c List.mem_cons_self)]
    rw [tot_cnt_cons, h1, h2, List.length_cons]
    rfl
theorem tot_top {w v : Str → Int} {B : List Str} (hw : ∀ b ∈ B, 0 ≤ w b) (hv : ∀ b ∈ B, 0 ≤ v b) : tot (top w v) B ≤ tot w B + tot v B := by
  induction B with
  | nil => exact Int.le_refl _
  | cons a l ih =>
    have h1 := ih (fun b hb => hw b (List.mem_cons_of_mem _ hb)) (fun b hb => hv b (List.mem_cons_of_mem _ hb))
    rw [tot_cons, tot_cons, tot_cons]
    have h2 := hw a List.mem_cons_self
    have h3 := hv a List.mem_cons_self
    have h4 : top w v a = v a ∨ top w v a = w a := by unfold top; split <;> simp
    rcases h4 with h4 | h4 <;> omega
theorem small_of {E : List (Str × Str)} {B : List Str} {w : Str → Int} {L : Str → Bool} (f : Feas E B w L) (few : tot w B ≤ 400) : Small B w := fun b hb => by
  have h1 := f.nn b
  have h2 := tot_ge (w := w) (l := B) (fun b _ => f.nn b) hb
  omega
theorem rep_of {K : PySem.W.Frag} {q : Addr} {n : Nat} {H : Hp} {Q : VK} (hq : H q = some (.tup [.int 0])) (h1 : 1 ≤ n) (h8 : n ≤ 8) (k : ∀ H' g, Same H H' → H' g = some (.tup (List.replicate n (.int 0))) → Q (.ref g) H') : rRepT K (.ref q) (.int (n : Int)) H Q ∨ rRep1 K (.ref q) (.int (n : Int)) H Q := by
  by_cases e : n = 1
  · subst e
    exact .inr ⟨q, _, rfl, rfl, SqT.of hq, k H q (Same.refl _) hq⟩
  · refine .inl ⟨q, (n : Int), _, rfl, rfl, SqT.of hq, by simp, by omega, by omega, by show 1 ≤ 1000; decide, fun p hp => k _ p (Same.new hp) ?_⟩
    rw [upd_same, Int.toNat_natCast, List.flatten_replicate_singleton]
theorem rep_map (B : List Str) : List.replicate B.length (V.int 0) = B.map fun b => V.int ((fun _ : Str => (0 : Int)) b) := by
  induction B with
  | nil => rfl
  | cons a l ih =>
    show V.int 0 :: List.replicate l.length (V.int 0) = _
    rw [ih]
    rfl
section
variable {P : Program} {w : World} {K : PySem.W.Frag} {mg : Str → Option Value} {base : Heap} {C : Addr}
theorem kb_init {K : PySem.W.Frag} {fI : Addr} {fd : FuncData} (F : FunD K "__init__" "Web.__init__" (defArgs st_init) (defBody st_init) (defScope st_init) [] [] fI fd) : KBn K fd ["self", "bells", "wakes"] 2 ["wakes"] (fun us ws => us ++ ws) (fun vs zs => vs ++ zs) := by
  refine ⟨fun s us ws X l1 l2 => ?_, fun r1 r2 => r1.append r2⟩
  obtain ⟨oc, od, dV, kV, doc, pm, an, cdv, ct, osl, rfl, lk, hcd, hD, hK⟩ := F.ex
  rcases hD with ⟨_, rfl⟩ | ⟨e, _⟩
  · exact .of_eq (match us, ws, l1, l2 with | [_, _], [_], _, _ => rfl)
  · exact absurd rfl e
def sp_right : Sp := fun vs H Q _ => ∃ p : Addr, vs = [.ref p] ∧ PurseAt H p ∧ ∀ H', But p H H' → Q (.bl true) H'
theorem sc_right : FnScope ["_law_purse_here", "_law_names_here", "_law_links_here", "_law_house", "_law_stand_here", "_law_greatest_ones", "_law_turn", "_law_pulled", "_law_wished", "_law_name", "_law_one", "_law_other"] ["_law_purse_here"] (defScope st_law_right) := ⟨rfl, rfl, rfl, by decide +kernel, rfl, by decide +kernel, by decide +kernel⟩
theorem ok_right (T : Txt K mg) (W : WebT K mg C) : DefOk P w K mg base 6 "_law_right" ["_law_purse_here"] sp_right := by
  obtain ⟨fI, fdI, mk, FI⟩ := W.init
  have GI := ok_init (P := P) (w := w) (base := base) T W FI
  have kI := kb_init FI
  obtain ⟨f1, fd1, g1, k1, b1, G1⟩ := ok_draw (P := P) (w := w) (base := base) T
  obtain ⟨f2, fd2, g2, k2, b2, G2⟩ := ok_names (P := P) (w := w) (base := base) T
  obtain ⟨f3, fd3, g3, k3, b3, G3⟩ := ok_links (P := P) (w := w) (base := base) T
  obtain ⟨f4, fd4, g4, k4, b4, G4⟩ := ok_stand (P := P) (w := w) (base := base) T
  obtain ⟨f5, fd5, g5, k5, b5, G5⟩ := ok_lawrung (P := P) (w := w) (base := base) T
  obtain ⟨f6, fd6, g6, k6, b6, G6⟩ := ok_lawrings (P := P) (w := w) (base := base) T
  obtain ⟨f7, fd7, g7, k7, b7, G7⟩ := ok_lawfull (P := P) (w := w) (base := base) T W
  obtain ⟨f8, fd8, ds8, g8, k8, v8, b8, kb8, G8⟩ := ok_bars (P := P) (w := w) (base := base) T W
  obtain ⟨f9, fd9, ds9, g9, k9, v9, b9, kb9, G9⟩ := ok_ringing (P := P) (w := w) (base := base) T W
  refine DefOk.mk' T.d_law_right sc_right (fun _ _ _ _ _ _ us hl => match us, hl with | [_], _ => rfl) (fun vs H Q E h => ?_) (fun f cdv A outer s H vs Q E' hr h => ?_)
  · obtain ⟨p, rfl, _⟩ := h
    rfl
  · obtain ⟨p, rfl, pp, k⟩ := h
    have nd := sc_right.nd
    have hr1 : Room 1 _ := hr.mono (by decide)
    have hr2 : Room 2 _ := hr.mono (by decide)
    have hr4 : Room 4 _ := hr.mono (by decide)
    refine ⟨_, pss_cons (ps_set (i := 1) nd rfl (Or.inl rfl) (pe_call G2 hr2 rfl g2 k2 b2 .nil pass0 (pa_cons (pv 0) (pa_cons (pe_op op_add pe_int (pe_call G1 hr1 rfl g1 k1 b1 .nil pass0 (pa_cons (pv 0) (pa_cons pe_int pa_nil)))) pa_nil))))
      (pss_cons (ps_set (i := 2) nd rfl (Or.inl rfl) (pe_call G3 hr2 rfl g3 k3 b3 .nil pass0 (pa_cons (pv 0) (pa_cons (pv 1) pa_nil))))
      (pss_cons (ps_par (i := 3) (j := 4) rfl nd rfl rfl (by decide) rfl rfl (pa_cons (pe_makeK mk GI hr rfl W.mgC kI pass0 (pa_cons (pv 1) pa_nil) (pk_cons (pv 2) pk_nil)) (pa_cons (pe_call G4 hr2 rfl g4 k4 b4 .nil pass0 (pa_cons (pv 0) (pa_cons (pv 1) pa_nil))) pa_nil)) (by rfl))
      (pss_cons (ps_set (i := 5) nd rfl (Or.inl rfl) (pe_op (OpR.or op_repT op_rep1) (pe_tup (pa_cons pe_int pa_nil)) (pe_callB call_len rfl T.b_len PySem.boot_len (pa_cons (pv 1) pa_nil))))
      (pss_cons (ps_for PassesOwn.never rfl (pi_range1 rfl T.b_range (pa_cons pe_int pa_nil)) (pg_name (i := 6) nd rfl (Or.inl rfl))
        (pss_cons (ps_set (i := 7) nd rfl (Or.inr rfl) (pe_call G5 hr2 rfl g5 k5 b5 .nil pass0 (pa_cons (pv 0) (pa_cons (pv 2) (pa_cons (pv 4) (pa_cons pe_int pa_nil))))))
        (pss_cons (ps_set (i := 8) nd rfl (Or.inl rfl) (pe_callTy call_tuple_of rfl T.b_tuple (by decide +kernel) (pa_cons (pe_lc (own := [("_law_name", 9)]) (g := gName 9) (tt := tYes) rfl nd (pi_tup (pv 1)) (blkOk_by (N := ["_law_purse_here", "_law_names_here", "_law_links_here", "_law_house", "_law_stand_here", "_law_greatest_ones", "_law_turn", "_law_pulled", "_law_wished", "_law_name", "_law_one", "_law_other"]) (sc := defScope st_law_right) (by decide +kernel))
            (fun _ _ _ _ _ => pg_name (i := 9) nd rfl (Or.inl rfl)) (fun _ _ _ _ _ => pts_nil) (fun _ _ _ _ _ => pe_bmZ (r := rCountT K) PySem.F.slot_tuple_count PySem.F.type_tuple_count mt_countZ (pv 7) (pa_cons (pv 9) pa_nil))) pa_nil)))
        (pss_cons (ps_if (PW.pt (pw_or (pt_cmpR op_notN (pe_callN G8 hr4 rfl g8 k8 kb8 pass0 (pa_cons (pv 3) (pa_cons (pv 8) pa_nil)) (pk_cons (pv 4) pk_nil)) pe_non (nomark _)) (pw_or1 (pt_cmpR op_notN (pe_call G8 hr4 rfl g8 k8 b8 v8 pass0 (pa_cons (pv 3) (pa_cons (pv 8) pa_nil))) pe_non (nomark _)))))
          (pss_one (ps_ret pe_bl)) pss_nil)
        (pss_cons (ps_if (pt_not (pt_val (pe_call G6 hr2 rfl g6 k6 b6 .nil pass0 (pa_cons (pv 1) (pa_cons (pv 2) (pa_cons (pv 8) (pa_cons (pv 4) (pa_cons (pe_callN G9 hr4 rfl g9 k9 kb9 pass0 (pa_cons (pv 3) (pa_cons (pv 8) pa_nil)) (pk_cons (pv 4) pk_nil)) pa_nil))))))))
          (pss_one (ps_ret pe_bl)) pss_nil)
        (pss_cons (ps_if (pt_not (pt_val (pe_call G7 hr rfl g7 k7 b7 .nil pass0 (pa_cons (pv 3) (pa_cons (pv 1) (pa_cons (pv 2) (pa_cons (pv 8) (pa_cons (pv 4) pa_nil))))))))
          (pss_one (ps_ret pe_bl)) pss_nil)
        (pss_cons (ps_set (i := 5) nd rfl (Or.inl rfl) (pe_callTy call_tuple_of rfl T.b_tuple (by decide +kernel) (pa_cons (pe_lc (own := [("_law_one", 10), ("_law_other", 11)]) (g := gTup K 2 (gCons (gName 10) (gCons (gName 11) gNil))) (tt := tYes) rfl nd (RZ.pi_zipA rfl T.b_zip (pa_cons (pv 5) (pa_cons (pv 8) pa_nil))) (blkOk_by (N := ["_law_purse_here", "_law_names_here", "_law_links_here", "_law_house", "_law_stand_here", "_law_greatest_ones", "_law_turn", "_law_pulled", "_law_wished", "_law_name", "_law_one", "_law_other"]) (sc := defScope st_law_right) (by decide +kernel))
            (fun _ _ _ _ _ => pg_tup rfl (pgs_cons (pg_name (i := 10) nd rfl (Or.inl rfl)) (pgs_cons (pg_name (i := 11) nd rfl (Or.inl rfl)) pgs_nil))) (fun _ _ _ _ _ => pts_nil) (fun _ _ _ _ _ => pe_callB (call_max2 rfl) rfl T.b_max (by decide +kernel) (pa_cons (pv 10) (pa_cons (pv 11) pa_nil)))) pa_nil)))
        (pss_cons (ps_if (pt_cmpR op_notN (pe_callN G8 hr4 rfl g8 k8 kb8 pass0 (pa_cons (pv 3) (pa_cons (pv 5) pa_nil)) (pk_cons (pv 4) pk_nil)) pe_non (nomark _))
          (pss_one (ps_ret pe_bl)) pss_nil)
        (pss_one (ps_if (pt_not (pt_val (pe_call G6 hr2 rfl g6 k6 b6 .nil pass0 (pa_cons (pv 1) (pa_cons (pv 2) (pa_cons (pv 5) (pa_cons (pv 4) (pa_cons (pe_callN G9 hr4 rfl g9 k9 kb9 pass0 (pa_cons (pv 3) (pa_cons (pv 5) pa_nil)) (pk_cons (pv 4) pk_nil)) pa_nil))))))))
          (pss_one (ps_ret pe_bl)) pss_nil))))))))))
      (pss_one (ps_ret pe_bl)))))), ?_⟩
    refine ⟨_, rfl, _, rfl, p, 8, rfl, pp, by decide, by decide, fun H1 r1 bt1 pp1 r0 r8 => ?_⟩
    obtain ⟨rn, rfl⟩ := Int.eq_ofNat_of_zero_le r0
    refine ⟨_, _, rfl, rfl, p, 1 + rn, rfl, pp1, by omega, by omega, fun H2 t B bt2 pp2 hz2 okB B8 => ?_⟩
    refine ⟨_, rfl, _, rfl, p, t, B, rfl, pp2, hz2.t, okB.up, B8, fun H3 e E bt3 pp3 hE3 okE E64 => ?_⟩
    have hz3 := bt3.strZ pp2 hz2
    have bt03 := (bt1.trans bt2).trans bt3
    have good : Good B E := ⟨okB.nd, okB.few, okE.nd, okE.wo, by omega⟩
    refine ⟨_, rfl, _, rfl, rfl, rfl, fun x dx hx hdx hne => ?_⟩
    have s3 : Same H3 (upd (upd H3 dx (.own x)) x (.ins C dx [])) := (Same.new hdx).set hx
    refine ⟨x, dx, t, e, B, E, rfl, upd_same, (hz3.same s3).t, okB, hE3.same s3, okE, fun H4 fr4 hx4 => ⟨rfl, ?_⟩⟩
    have s4 : Same H3 H4 := fun c o hc => fr4 c o (s3 c o hc) (some_ne hc hx)
    have web4 : WebAt C H4 x t B E := ⟨⟨dx, e, hx4, hE3.same s4⟩, (hz3.same s4).t⟩
    have pp4 := pp3.same s4
    refine ⟨_, rfl, _, rfl, p, t, B, rfl, pp4, (hz3.same s4).t, okB.up, B8, fun H5 u L bt5 pp5 hu5 LB up L8 => ⟨_, _, rfl, ?_⟩⟩
    have Lnd : L.Nodup := by
      rw [List.nodup_iff_pairwise_ne]
      refine up.imp fun {a b} q => ?_
      intro e1
      rw [e1] at q
      exact ltS_irrefl _ q
    have bt05 : But p H H5 := (bt03.trans (But.of s4)).trans bt5
    have web5 := bt5.web pp4 web4
    have hz5 := bt5.strZ pp4 (hz3.same s4)
    have hE5 := bt5.pairs pp4 (hE3.same s4)
    refine ⟨by show 1 ≤ sizeLine; decide, fun q hq => ⟨_, rfl, _, B.length, rfl, .inr ⟨_, (hz5.same (Same.new hq)).t.sq, (List.length_map ..).symm⟩, rep_of upd_same okB.some B8 fun H6 g0 s6 hg0 => ?_⟩⟩
    have s56 : Same H5 H6 := (Same.new hq).trans s6
    rw [rep_map] at hg0
    refine ⟨_, rfl, by decide, by decide, for_range (lo := 0) (n := (3 : Int).toNat) (fun i σ H7 => ∃ g v6 v7 v8 wg, σ = [some (.ref p), some (.ref t), some (.ref e), some (.ref x), some (.ref u), some (.ref g), v6, v7, v8, none, none, none] ∧ But p H5 H7 ∧ PurseAt H7 p ∧ NumT H7 g B wg ∧ Feas E B wg (liv L) ∧ tot wg B ≤ 60 * (i : Int))
      ⟨g0, none, none, none, fun _ => 0, rfl, But.of s56, pp5.same s56, hg0, feas_zero E B (liv L), by rw [tot_zero]; decide⟩ ?_ ?_⟩
    · rintro i σ H7 hi ⟨g, v6, v7, v8, wg, rfl, bt7, pp7, hg7, fg, tg⟩
      have hi3 : i < 3 := hi
      refine ⟨_, rfl, _, rfl, _, rfl, p, e, u, B, E, L, rfl, pp7, bt7.pairs pp5 hE5, bt7.strs pp5 hu5, good, okB.nm, LB, Lnd, fun H8 r row bt8 pp8 hrow rings rowB len => ?_⟩
      have bt58 := bt7.trans bt8
      have web8 := bt58.web pp5 web5
      have hz8 := bt58.strZ pp5 hz5
      have hE8 := bt58.pairs pp5 hE5
      have hu8 := bt58.strs pp5 hu5
      have hg8 : NumT H8 g B wg := bt8.tup pp7 hg7
      have fr := feas_row (B := B) rings rowB
      have tr := tot_count good.nd rowB
      obtain ⟨ob, ob1, ob2, hrow0⟩ := id hrow
      have few : tot (cnt row) B ≤ 400 := by omega
      have sm := small_of fr few
      have ft := fg.top fr
      have tt := tot_top (w := wg) (v := cnt row) (B := B) (fun b _ => fg.nn b) (fun b _ => fr.nn b)
      have fewt : tot (top wg (cnt row)) B ≤ 400 := by omega
      have smt := small_of ft fewt
      refine ⟨_, rfl, t, rfl, ⟨_, hz8.t.sq⟩, fun D hD => lc_each (xs := B) (v := V.str) walk_tup (fun x => .int (cnt row x)) hD (small1000 good.k) (fun H9 s9 => (hz8.same s9).t.sq) (fun i9 z H9 hz9 s9 Rt kt => ?_) (gName_mono 9) fun H9 s9 e9 => ⟨D, _, rfl, .inl ⟨SqL.of e9, fun c hc => ?_⟩⟩⟩
      · exact ⟨rfl, _, rfl, ⟨r, ob, _, rfl, s9 _ _ hrow0, ob1, ob2⟩, _, rfl, r, row, z, rfl, rfl, sqT (s9 _ _ hrow0), kt _ (Same.refl _)⟩
      have s10 := s9.trans (Same.new hc (o := .tup (B.map fun x => V.int (cnt row x))))
      have hc10 : NumT (upd H9 c (.tup (B.map fun x => V.int (cnt row x)))) c B (cnt row) := upd_same
      generalize upd H9 c (.tup (B.map fun x => V.int (cnt row x))) = H10 at s10 hc10 ⊢
      refine ⟨_, rfl, _, rfl, _, rfl, rfl, rfl, x, t, c, u, .ref u, B, E, L, cnt row, rfl, web8.same s10, good, hc10, sm, hu8.same s10, .inr ⟨rfl, LB, up, by omega⟩, .inl ⟨fr, fun H11 s11 => ⟨rfl, _, rfl, iteF ?_⟩⟩⟩
      have s811 := s10.trans s11
      refine ⟨_, rfl, _, rfl, x, t, c, t, .non, B, E, B, cnt row, rfl, web8.same s811, good, s11 _ _ hc10, sm, (hz8.same s811).t, .inl ⟨rfl, rfl, rfl⟩, .inl ⟨fr.more fun b hb _ => decide_eq_true hb, fun H12 s12 => ⟨rfl, _, rfl, iteF ?_⟩⟩⟩
      have s812 := s811.trans s12
      have s1012 := s11.trans s12
      refine ⟨_, rfl, _, rfl, _, rfl, _, rfl, _, rfl, _, rfl, _, rfl, rfl, rfl, x, t, c, u, .ref u, B, E, L, cnt row, rfl, web8.same s812, good, s1012 _ _ hc10, sm, hu8.same s812, .inr ⟨rfl, LB, up, by omega⟩, fr, few, fun H13 pl row2 s13 hpl ok2 => ?_⟩
      have s813 := s812.trans s13
      have s1013 := s1012.trans s13
      refine ⟨t, e, c, u, pl, B, E, L, cnt row, row2, rfl, (hz8.same s813).t, hE8.same s813, s1013 _ _ hc10, hu8.same s813, hpl, good, LB, Lnd, ok2, few, fun H14 s14 => ⟨_, rfl, iteF ?_⟩⟩
      have s814 := s813.trans s14
      have s1014 := s1013.trans s14
      refine ⟨_, rfl, _, rfl, _, rfl, _, rfl, _, rfl, x, t, t, e, c, u, B, E, L, cnt row, rfl, web8.same s814, hz8.same s814, hE8.same s814, s1014 _ _ hc10, hu8.same s814, good, okB.nm, LB, up, L8, fr, few, fun H15 s15 => ⟨_, rfl, iteF ?_⟩⟩
      have s815 := s814.trans s15
      have hc15 : NumT H15 c B (cnt row) := s15 _ _ (s1014 _ _ hc10)
      have hg15 : NumT H15 g B wg := s815 _ _ hg8
      refine ⟨_, rfl, _, rfl, g, c, _, _, rfl, .inr ⟨SqT.of hg15, SqT.of hc15, fun D2 hD2 => lc_it (walk_zipT (n := B.length) (List.length_map ..) (List.length_map ..)) (fun i H16 => Same H15 H16 ∧ H16 D2 = some (.lst ((B.take i).map fun b => V.int (top wg (cnt row) b)))) ⟨Same.new hD2, upd_same⟩ (fun i H16 _ h => ⟨SqT.of (h.1 _ _ hg15), SqT.of (h.1 _ _ hc15)⟩) (fun i16 v H16 H17 hi16 ⟨s16, h16⟩ ⟨T2, a1, a2, ev, hT2, eH, ha1, ha2⟩ => ?_) fun H16 ⟨s16, h16⟩ => ⟨D2, _, rfl, .inl ⟨SqL.of h16, fun g2 hg2 => ?_⟩⟩⟩⟩
      · subst ev eH
        obtain ⟨y, hy⟩ : ∃ y, B[i16]? = some y := ⟨_, List.getElem?_eq_getElem hi16⟩
        have e1 : a1 = .int (wg y) := by
          have h1 : (B.map fun b => V.int (wg b))[i16]? = some a1 := ha1
          rw [List.getElem?_map, hy] at h1
          exact (Option.some.inj h1).symm
        have e2 : a2 = .int (cnt row y) := by
          have h1 : (B.map fun b => V.int (cnt row b))[i16]? = some a2 := ha2
          rw [List.getElem?_map, hy] at h1
          exact (Option.some.inj h1).symm
        subst e1 e2
        have s17 := Same.new hT2 (o := .tup [.int (wg y), .int (cnt row y)])
        refine ⟨T2, _, rfl, SqT.of upd_same, rfl, _, _, rfl, _, _, rfl, rfl, rfl, yesT ⟨_, rfl, _, rfl, _, _, rfl, _, s17 _ _ h16, small1000 ?_, (s16.trans s17).set hD2, ?_⟩⟩
        · rw [List.length_map]
          have h12 := good.few
          have := List.length_take_le' i16 B
          omega
        · rw [upd_same, take_one hy, List.map_append]
          rfl
      rw [List.take_length] at h16
      have s18 := s16.trans (Same.new hg2 (o := .tup ((B.take B.length).map fun b => V.int (top wg (cnt row) b))))
      have hg18 : NumT (upd H16 g2 (.tup ((B.take B.length).map fun b => V.int (top wg (cnt row) b)))) g2 B (top wg (cnt row)) := by
        show (upd _ _ _) _ = _
        rw [upd_same, List.take_length]
      generalize upd H16 g2 (.tup ((B.take B.length).map fun b => V.int (top wg (cnt row) b))) = H18 at s18 hg18 ⊢
      have s818 := s815.trans s18
      refine ⟨_, rfl, _, rfl, _, rfl, rfl, rfl, x, t, g2, u, .ref u, B, E, L, top wg (cnt row), rfl, web8.same s818, good, hg18, smt, hu8.same s818, .inr ⟨rfl, LB, up, by omega⟩, .inl ⟨ft, fun H19 s19 => ⟨rfl, _, rfl, iteF ?_⟩⟩⟩
      have s819 := s818.trans s19
      have hg19 : NumT H19 g2 B (top wg (cnt row)) := s19 _ _ hg18
      refine ⟨_, rfl, _, rfl, _, rfl, _, rfl, _, rfl, _, rfl, _, rfl, rfl, rfl, x, t, g2, u, .ref u, B, E, L, top wg (cnt row), rfl, web8.same s819, good, hg19, smt, hu8.same s819, .inr ⟨rfl, LB, up, by omega⟩, ft, fewt, fun H20 pl2 row3 s20 hpl2 ok3 => ?_⟩
      have s820 := s819.trans s20
      refine ⟨t, e, g2, u, pl2, B, E, L, top wg (cnt row), row3, rfl, (hz8.same s820).t, hE8.same s820, s20 _ _ hg19, hu8.same s820, hpl2, good, LB, Lnd, ok3, fewt, fun H21 s21 => ⟨_, rfl, iteF ?_⟩⟩
      exact ⟨g2, _, _, _, top wg (cnt row), rfl, bt58.trans (But.of (s820.trans s21)), pp8.same (s820.trans s21), s21 _ _ (s20 _ _ hg19), ft, by omega⟩
    · rintro σ H7 ⟨g, v6, v7, v8, wg, rfl, bt7, pp7, hg7, fg, tg⟩
      exact k _ (bt05.trans bt7)
end
end Wk
set_option Elab.async false
set_option linter.all false
set_option maxRecDepth 100000
set_option maxHeartbeats 8000000
/-! the law itself -/
namespace Wk
open PySem PySem.Spec PyProof.Rows L2
section
variable {P : Program} {w : World} {K : PySem.W.Frag} {mg : Str → Option Value} {base : Heap} {C : Addr}
def sp_law (K : PySem.W.Frag) : Sp := fun vs H Q _ => ∃ (a : Addr) (ns : List Int), vs = [.ref a] ∧ SqL K H a (ns.map V.int) ∧ ns.length ≤ 63 ∧ ∀ H', Q (.bl true) H'
theorem sc_law : FnScope ["_law_script", "_law_k"] ["_law_script"] (defScope st_law) := ⟨rfl, rfl, rfl, by decide +kernel, rfl, by decide +kernel, by decide +kernel⟩
theorem ok_law (T : Txt K mg) (W : WebT K mg C) {f : Addr} {fd : FuncData} (F : FnP K "law" st_law f fd) : FnOk P w K mg base CX0 7 f fd ["_law_script"] (sp_law K) := by
  obtain ⟨f1, fd1, g1, k1, b1, G1⟩ := ok_cell (P := P) (w := w) (base := base) T
  obtain ⟨f2, fd2, g2, k2, b2, G2⟩ := ok_purse (P := P) (w := w) (base := base) T
  obtain ⟨f3, fd3, g3, k3, b3, G3⟩ := ok_right (P := P) (w := w) (base := base) T W
  refine F.ok sc_law (fun vs H Q E h => ?_) fun cdv A outer s H vs Q E' hr h => ?_
  · obtain ⟨a, ns, rfl, _⟩ := h
    rfl
  · obtain ⟨a, ns, rfl, ha, hl, k⟩ := h
    have nd := sc_law.nd
    have hr1 : Room 1 _ := hr.mono (by decide)
    refine ⟨_, PSs.nox (pss_one (ps_ret (pe_callB (cr_all rfl) rfl T.b_all (by decide +kernel) (pa_cons (pe_lc (own := [("_law_k", 1)]) (g := gName 1) (tt := tYes) rfl nd
      (pi_range1 rfl T.b_range (pa_cons (pe_callB (call_max2 rfl) rfl T.b_max (by decide +kernel) (pa_cons pe_int (pa_cons (pe_callB (call_min2 rfl) rfl T.b_min (by decide +kernel) (pa_cons (pe_callB call_len rfl T.b_len PySem.boot_len (pa_cons (pv 0) pa_nil)) (pa_cons pe_int pa_nil))) pa_nil))) pa_nil))
      (blkOk_by (N := ["_law_script", "_law_k"]) (sc := defScope st_law) (by decide +kernel))
      (fun _ _ _ _ _ => pg_name (i := 1) nd rfl (Or.inl rfl)) (fun _ _ _ _ _ => pts_nil) (fun _ _ _ _ _ => pe_call G3 hr rfl g3 k3 b3 .nil pass0 (pa_cons (pe_call G2 hr1 rfl g2 k2 b2 .nil pass0 (pa_cons (pe_call G1 hr1 rfl g1 k1 b1 .nil pass0 (pa_cons (pv 0) (pa_cons (pv 1) pa_nil))) pa_nil)) pa_nil))) pa_nil)))), ?_⟩
    refine ⟨_, rfl, _, ns.length, rfl, .inl ⟨_, ha, (List.length_map ..).symm⟩, _, _, rfl, _, _, rfl, ?_⟩
    generalize hm : (if (if (8 : Int) < (ns.length : Int) then (8 : Int) else (ns.length : Int)) > 2 then (if (8 : Int) < (ns.length : Int) then (8 : Int) else (ns.length : Int)) else 2) = m
    have m8 : m ≤ 8 := by
      rw [← hm]
      split <;> (try split) <;> omega
    have m2 : 2 ≤ m := by
      rw [← hm]
      split <;> (try split) <;> omega
    refine ⟨_, rfl, by omega, by omega, fun D hD => lc_range (n := m.toNat) (fun i H1 => Same H H1 ∧ H1 D = some (.lst (List.replicate i (.bl true)))) ⟨Same.new hD, upd_same⟩ (fun i H1 hi ⟨s1, h1⟩ => ?_) fun H1 ⟨s1, h1⟩ => ?_⟩
    · refine ⟨rfl, yesT ⟨_, rfl, _, rfl, a, ns, i, ?_, ?_, hl, by omega, fun H2 n s2 => ⟨n, rfl, fun H3 p s3 hp pp => ⟨p, rfl, pp, fun H4 bt => ⟨List.replicate i (.bl true), ?_, small1000 ?_, Same.set (fun c o hc => ?_) hD, ?_⟩⟩⟩⟩⟩
      · rw [Int.zero_add]
        rfl
      · exact ha.keep s1
      · exact bt _ _ (s3 _ _ (s2 _ _ h1)) (some_ne (s2 _ _ h1) hp)
      · rw [List.length_replicate]
        omega
      · have h5 := s2 _ _ (s1 _ _ hc)
        exact bt _ _ (s3 _ _ h5) (some_ne h5 hp)
      · rw [upd_same, List.replicate_succ']
    · refine ⟨D, List.replicate m.toNat true, rfl, SqL.of (by rw [h1, List.map_replicate]), ?_⟩
      rw [List.all_replicate]
      have e : (if m.toNat = 0 then true else id true) = true := by split <;> rfl
      rw [e]
      exact k _
end
end Wk
set_option Elab.async false
set_option linter.all false
set_option maxRecDepth 100000
set_option maxHeartbeats 0
/-! The end. Printed by gen_kz.py. -/
namespace Wk
open PySem PySem.Spec PyProof.Rows L2
section
variable {P : Program} {w : World} {K : PySem.W.Frag} {h : Heap} {mg : Str → Option Value}
theorem txt (X : K.In h) (G : h.Ns mainGlobals mg) (c : He.SaysD fa fn K) : Txt K mg where
  d_is_whole := let ⟨fd, F⟩ := c.def_ 0 (d := dd_is_whole) rfl; ⟨_, fd, He.glo_ok X G (c.fact 0 (f := .glo "is_whole") rfl), F⟩
  d_is_within := let ⟨fd, F⟩ := c.def_ 1 (d := dd_is_within) rfl; ⟨_, fd, He.glo_ok X G (c.fact 1 (f := .glo "is_within") rfl), F⟩
  d_is_lot := let ⟨fd, F⟩ := c.def_ 2 (d := dd_is_lot) rfl; ⟨_, fd, He.glo_ok X G (c.fact 2 (f := .glo "is_lot") rfl), F⟩
  d_stand_of := let ⟨fd, F⟩ := c.def_ 3 (d := dd_stand_of) rfl; ⟨_, fd, He.glo_ok X G (c.fact 3 (f := .glo "stand_of") rfl), F⟩
  d_check_counts := let ⟨fd, F⟩ := c.def_ 4 (d := dd_check_counts) rfl; ⟨_, fd, He.glo_ok X G (c.fact 4 (f := .glo "check_counts") rfl), F⟩
  d_in_order := let ⟨fd, F⟩ := c.def_ 5 (d := dd_in_order) rfl; ⟨_, fd, He.glo_ok X G (c.fact 5 (f := .glo "in_order") rfl), F⟩
  d_is_name := let ⟨fd, F⟩ := c.def_ 6 (d := dd_is_name) rfl; ⟨_, fd, He.glo_ok X G (c.fact 6 (f := .glo "is_name") rfl), F⟩
  d_check_bells := let ⟨fd, F⟩ := c.def_ 7 (d := dd_check_bells) rfl; ⟨_, fd, He.glo_ok X G (c.fact 7 (f := .glo "check_bells") rfl), F⟩
  d_is_wake := let ⟨fd, F⟩ := c.def_ 8 (d := dd_is_wake) rfl; ⟨_, fd, He.glo_ok X G (c.fact 8 (f := .glo "is_wake") rfl), F⟩
  d_check_wakes := let ⟨fd, F⟩ := c.def_ 9 (d := dd_check_wakes) rfl; ⟨_, fd, He.glo_ok X G (c.fact 9 (f := .glo "check_wakes") rfl), F⟩
  d_check_web := let ⟨fd, F⟩ := c.def_ 10 (d := dd_check_web) rfl; ⟨_, fd, He.glo_ok X G (c.fact 10 (f := .glo "check_web") rfl), F⟩
  d_wakes_of := let ⟨fd, F⟩ := c.def_ 11 (d := dd_wakes_of) rfl; ⟨_, fd, He.glo_ok X G (c.fact 11 (f := .glo "wakes_of") rfl), F⟩
  d_rung := let ⟨fd, F⟩ := c.def_ 12 (d := dd_rung) rfl; ⟨_, fd, He.glo_ok X G (c.fact 12 (f := .glo "rung") rfl), F⟩
  d_wakers_of := let ⟨fd, F⟩ := c.def_ 13 (d := dd_wakers_of) rfl; ⟨_, fd, He.glo_ok X G (c.fact 13 (f := .glo "wakers_of") rfl), F⟩
  d_let_ := let ⟨fd, F⟩ := c.def_ 14 (d := dd_let_) rfl; ⟨_, fd, He.glo_ok X G (c.fact 14 (f := .glo "let") rfl), F⟩
  d_come_by := let ⟨fd, F⟩ := c.def_ 15 (d := dd_come_by) rfl; ⟨_, fd, He.glo_ok X G (c.fact 15 (f := .glo "come_by") rfl), F⟩
  d_why_not := let ⟨fd, F⟩ := c.def_ 16 (d := dd_why_not) rfl; ⟨_, fd, He.glo_ok X G (c.fact 16 (f := .glo "why_not") rfl), F⟩
  d_bars := let ⟨fd, F⟩ := c.def_ 17 (d := dd_bars) rfl; ⟨_, fd, He.glo_ok X G (c.fact 17 (f := .glo "bars") rfl), F⟩
  d_free_one := let ⟨fd, F⟩ := c.def_ 18 (d := dd_free_one) rfl; ⟨_, fd, He.glo_ok X G (c.fact 18 (f := .glo "free_one") rfl), F⟩
  d_rung_out := let ⟨fd, F⟩ := c.def_ 19 (d := dd_rung_out) rfl; ⟨_, fd, He.glo_ok X G (c.fact 19 (f := .glo "rung_out") rfl), F⟩
  d_ringing := let ⟨fd, F⟩ := c.def_ 20 (d := dd_ringing) rfl; ⟨_, fd, He.glo_ok X G (c.fact 20 (f := .glo "ringing") rfl), F⟩
  d_law_cell := let ⟨fd, F⟩ := c.def_ 21 (d := dd_law_cell) rfl; ⟨_, fd, He.glo_ok X G (c.fact 21 (f := .glo "_law_cell") rfl), F⟩
  d_law_purse := let ⟨fd, F⟩ := c.def_ 22 (d := dd_law_purse) rfl; ⟨_, fd, He.glo_ok X G (c.fact 22 (f := .glo "_law_purse") rfl), F⟩
  d_law_draw := let ⟨fd, F⟩ := c.def_ 23 (d := dd_law_draw) rfl; ⟨_, fd, He.glo_ok X G (c.fact 23 (f := .glo "_law_draw") rfl), F⟩
  d_law_names := let ⟨fd, F⟩ := c.def_ 24 (d := dd_law_names) rfl; ⟨_, fd, He.glo_ok X G (c.fact 24 (f := .glo "_law_names") rfl), F⟩
  d_law_links := let ⟨fd, F⟩ := c.def_ 25 (d := dd_law_links) rfl; ⟨_, fd, He.glo_ok X G (c.fact 25 (f := .glo "_law_links") rfl), F⟩
  d_law_walk := let ⟨fd, F⟩ := c.def_ 26 (d := dd_law_walk) rfl; ⟨_, fd, He.glo_ok X G (c.fact 26 (f := .glo "_law_walk") rfl), F⟩
  d_law_stand := let ⟨fd, F⟩ := c.def_ 27 (d := dd_law_stand) rfl; ⟨_, fd, He.glo_ok X G (c.fact 27 (f := .glo "_law_stand") rfl), F⟩
  d_law_let := let ⟨fd, F⟩ := c.def_ 28 (d := dd_law_let) rfl; ⟨_, fd, He.glo_ok X G (c.fact 28 (f := .glo "_law_let") rfl), F⟩
  d_law_rung := let ⟨fd, F⟩ := c.def_ 29 (d := dd_law_rung) rfl; ⟨_, fd, He.glo_ok X G (c.fact 29 (f := .glo "_law_rung") rfl), F⟩
  d_law_rings := let ⟨fd, F⟩ := c.def_ 30 (d := dd_law_rings) rfl; ⟨_, fd, He.glo_ok X G (c.fact 30 (f := .glo "_law_rings") rfl), F⟩
  d_law_full_right := let ⟨fd, F⟩ := c.def_ 31 (d := dd_law_full_right) rfl; ⟨_, fd, He.glo_ok X G (c.fact 31 (f := .glo "_law_full_right") rfl), F⟩
  d_law_right := let ⟨fd, F⟩ := c.def_ 32 (d := dd_law_right) rfl; ⟨_, fd, He.glo_ok X G (c.fact 32 (f := .glo "_law_right") rfl), F⟩
  b_isinstance := He.free_ok X G (c.fact 35 (f := .free "isinstance") rfl)
  b_int_ := He.free_ok X G (c.fact 36 (f := .free "int") rfl)
  b_bool := He.free_ok X G (c.fact 37 (f := .free "bool") rfl)
  b_tuple := He.free_ok X G (c.fact 38 (f := .free "tuple") rfl)
  b_str := He.free_ok X G (c.fact 39 (f := .free "str") rfl)
  b_len := He.free_ok X G (c.fact 40 (f := .free "len") rfl)
  b_all := He.free_ok X G (c.fact 41 (f := .free "all") rfl)
  b_any := He.free_ok X G (c.fact 42 (f := .free "any") rfl)
  b_range := He.free_ok X G (c.fact 43 (f := .free "range") rfl)
  b_enumerate := He.free_ok X G (c.fact 44 (f := .free "enumerate") rfl)
  b_sum := He.free_ok X G (c.fact 45 (f := .free "sum") rfl)
  b_dict := He.free_ok X G (c.fact 46 (f := .free "dict") rfl)
  b_zip := He.free_ok X G (c.fact 47 (f := .free "zip") rfl)
  b_abs := He.free_ok X G (c.fact 48 (f := .free "abs") rfl)
  b_divmod := He.free_ok X G (c.fact 49 (f := .free "divmod") rfl)
  b_sorted := He.free_ok X G (c.fact 50 (f := .free "sorted") rfl)
  b_list := He.free_ok X G (c.fact 51 (f := .free "list") rfl)
  b_max := He.free_ok X G (c.fact 52 (f := .free "max") rfl)
  b_min := He.free_ok X G (c.fact 53 (f := .free "min") rfl)
  c_BIG := He.int_ok X G (c.fact 54 (f := .int "BIG" 1000000000000000000000000000000) rfl)
  c_MOST_PULLS := He.int_ok X G (c.fact 55 (f := .int "MOST_PULLS" 400) rfl)
  c_MOST_BELLS := He.int_ok X G (c.fact 56 (f := .int "MOST_BELLS" 12) rfl)
  c_MOST_LETTERS := He.int_ok X G (c.fact 57 (f := .int "MOST_LETTERS" 8) rfl)
  c_LETTERS := He.str_ok X G (c.fact 58 (f := .str "LETTERS" "abcdefghijklmnopqrstuvwxyz") rfl)
theorem webT (X : K.In h) (G : h.Ns mainGlobals mg) (c : He.SaysD fa fn K) (e : exW K = true) : WebT K mg (He.ga K "Web") := by
  obtain ⟨fd, F⟩ := c.def_ 34 (d := dd_init) rfl
  obtain ⟨e1, e⟩ := He.ba e
  obtain ⟨e2, e⟩ := He.ba e
  obtain ⟨e3, e⟩ := He.ba e
  obtain ⟨e4, e5⟩ := He.ba e
  exact ⟨He.glo_ok X G (c.fact 34 (f := .glo "Web") rfl), ⟨_, fd, He.mkr_ok (c.fact 62 (f := .mkr "Web") rfl), F⟩, He.cls_ok (c.fact 59 (f := .cls "Web") rfl), He.noat_ok (c.fact 60 (f := .noat "Web" "bells") rfl), He.noat_ok (c.fact 61 (f := .noat "Web" "wakes") rfl),
    He.eqO_ok e1, He.eqO_ok e2, of_decide_eq_true e3, of_decide_eq_true e4, of_decide_eq_true e5⟩
theorem facts {f : Addr} (X : K.In h) (G : h.Ns mainGlobals mg) (hfa : mg ("law" : Str) = some (.ref f)) (c : He.SaysX fa fn [] [] exW w h K) :
    ∃ fd : FuncData, (∀ (s : Shared) (v : Value), BindsTo s fd ⟨[v], []⟩ [("_law_script", v)]) ∧ ∀ base : Heap, K.In base → base.Ns mainGlobals mg → FnOk P w K mg base CX0 7 f fd ["_law_script"] (sp_law K) := by
  have cd := c.t.d
  obtain ⟨fd, F⟩ := cd.def_ 33 (d := dd_law) rfl
  have e := hfa.symm.trans (He.glo_ok X G (cd.fact 33 (f := .glo "law") rfl))
  cases e
  have b := FunD.bindsA (ps := ["_law_script"]) F fun _ _ _ _ _ _ us hl => match us, hl with | [_], _ => rfl
  exact ⟨fd, fun s v => b s [v] rfl, fun base _ _ => ok_law (txt X G cd) (webT X G cd c.more) F⟩
end
end Wk
open PySem PySem.W PySem.Calls PyProof.Rows
theorem PySem.Challenge.cw_wakebells_k29_whole_numbers_of_rows_holds : PySem.Challenge.rw_wakebells_k29_whole_numbers_of_rows.Holds := by
  w_on; o_law
  refine HandSHeadRun.head_any (r := OpenLaw.row PySem.Challenge.rw_wakebells_k29_whole_numbers_of_rows) (q := view (OpenLaw.row PySem.Challenge.rw_wakebells_k29_whole_numbers_of_rows).prog [59]) (H := Wk.hk) (ob := Wk.ob) (M := 12000) (loose := Wk.loose) (d := HandSHeadRun.topDef (OpenLaw.row PySem.Challenge.rw_wakebells_k29_whole_numbers_of_rows).prog 59) (kwd := []) Wk.ob_eq
    (by kernel_rfl) (fun s => by kernel_rfl) Wk.run (by kernel_rfl) (by kernel_rfl) (by kernel_rfl) (by rfl) (by first | assumption | decide +kernel) (by decide +kernel) ⟨rfl, rfl, rfl, rfl, rfl, by decide +kernel⟩ ?hw ?hc
  case hw => w_witness2
  case hc =>
    refine L2.walk_ofE (l := PySem.Challenge.rw_wakebells_k29_whole_numbers_of_rows) (n := 63) (k := 7) (x := "_law_script") (CX := L2.CX0) rfl (by decide) (by kernel_rfl) ⟨rfl, by decide, by decide⟩ ?F (fun _ _ _ _ z => z)
    intro w mg fa h Y G hmg0
    obtain ⟨K, KX, c⟩ := Y
    have hmg : mg ("law" : PySem.Str) = some (.ref fa) := by
      have e : (HandSHeadRun.topDef (OpenLaw.row PySem.Challenge.rw_wakebells_k29_whole_numbers_of_rows).prog 59).name = ("law" : PySem.Str) := by kernel_rfl
      rw [← e]
      exact hmg0
    obtain ⟨fd, hb, hF⟩ := Wk.facts (P := (PySem.Challenge.rw_wakebells_k29_whole_numbers_of_rows).prog) (w := w) KX G hmg c
    exact ⟨K, fd, Wk.sp_law K, KX, hb, fun H a ns hl _ hS => ⟨a, ns, rfl, hS, hl, fun _ => rfl⟩, hF⟩
