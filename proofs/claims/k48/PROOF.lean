import PyProof.Rows.All
import Wide.All
import OpenK.AllK
import Wide.FinOn
import PyProof.ReprLen
import HandS.ForMost
import HandS.Deep
import HandS.TupAny
import HandS.Zip
import HandS.Strs
import HandS.SetFor
import HandS.SetBool
import KE.KLam
import KE.DataMinKey
import HandS.Lambda
import HandS.SortKw
import HandS.IsInst
import HandS.NoneIn
import HandS.Style
import HandS.Flow
import HandS.Wide
import HandS.EndTab
import PySem.Challenge.RW_backmaps_k48_whole_rounds_by_all_runs
/-! Plain mathematics of law k48: trails, the best way, closures of states, rounds. No program in sight. -/
namespace K48
/-- a transfer: name, source, target -/
abbrev Tr := Int × Int × Int
/-- a state: area, used names, ascending -/
abbrev Stt := Int × List Int

def pos (line : List Int) (a : Int) : Nat := line.idxOf a
def agB (line : List Int) (t : Tr) : Bool := decide (pos line t.2.2 < pos line t.2.1)
def agN (line : List Int) (t : Tr) : Nat := if agB line t = true then 1 else 0

def Trail (ts : List Tr) : Int → List Int → List Tr → Prop
  | _, _, [] => True
  | a, u, e :: w => e ∈ ts ∧ e.2.1 = a ∧ e.1 ∉ u ∧ Trail ts e.2.2 (u ++ [e.1]) w

def cnt (line : List Int) : List Tr → Nat
  | [] => 0
  | e :: w => agN line e + cnt line w

theorem Trail.congr {ts : List Tr} : ∀ {w : List Tr} {a : Int} {u u' : List Int}, (∀ x, x ∈ u ↔ x ∈ u') → Trail ts a u w → Trail ts a u' w
  | [], _, _, _, _, _ => trivial
  | e :: w, a, u, u', h, ⟨h1, h2, h3, h4⟩ => ⟨h1, h2, fun q => h3 ((h _).mpr q), Trail.congr (fun x => by simp [h x]) h4⟩

def rem (ts : List Tr) (u : List Int) : Nat := ts.countP fun e => decide (e.1 ∉ u)

theorem rem_le (ts : List Tr) (u : List Int) : rem ts u ≤ ts.length := List.countP_le_length

theorem rem_mono {u u' : List Int} (h : ∀ x, x ∈ u → x ∈ u') : ∀ ts : List Tr, rem ts u' ≤ rem ts u := fun ts => by
  refine List.countP_mono_left fun e _ he => ?_
  have he' : e.1 ∉ u' := of_decide_eq_true he
  exact decide_eq_true fun q => he' (h _ q)

theorem rem_lt {u : List Int} {e : Tr} (hu : e.1 ∉ u) : ∀ {ts : List Tr}, e ∈ ts → rem ts (u ++ [e.1]) < rem ts u
  | d :: ts, hm => by
    have mono : rem ts (u ++ [e.1]) ≤ rem ts u := rem_mono (fun x hx => List.mem_append_left _ hx) ts
    unfold rem at mono ⊢
    rw [List.countP_cons, List.countP_cons]
    rcases List.mem_cons.mp hm with q | q
    · subst q
      have c1 : decide (e.1 ∉ u ++ [e.1]) = false := decide_eq_false (by simp)
      have c2 : decide (e.1 ∉ u) = true := decide_eq_true hu
      simp only [c1, c2, Bool.false_eq_true, if_false, if_true]
      omega
    · have ih := rem_lt hu q
      unfold rem at ih
      have c : (if decide (d.1 ∉ u ++ [e.1]) = true then 1 else 0) ≤ (if decide (d.1 ∉ u) = true then 1 else 0) := by
        by_cases hd : d.1 ∉ u
        · rw [if_pos (show decide (d.1 ∉ u) = true from decide_eq_true hd)]
          split <;> omega
        · have hd2 : ¬ (d.1 ∉ u ++ [e.1]) := fun z => z (List.mem_append_left _ (Classical.not_not.mp hd))
          rw [if_neg (show ¬ decide (d.1 ∉ u ++ [e.1]) = true from fun z => hd2 (of_decide_eq_true z))]
          omega
      omega

/-! ### the best way -/
def bwStep (line : List Int) (rc : Int → List Int → Nat × List Int) (a : Int) (u : List Int) (best : Nat × List Int) (e : Tr) : Nat × List Int :=
  if e.2.1 = a ∧ e.1 ∉ u then
    (if (rc e.2.2 (u ++ [e.1])).1 + agN line e > best.1 then ((rc e.2.2 (u ++ [e.1])).1 + agN line e, e.1 :: (rc e.2.2 (u ++ [e.1])).2) else best)
  else best
def bw (line : List Int) (ts : List Tr) : Nat → Int → List Int → Nat × List Int
  | 0, _, _ => (0, [])
  | n + 1, a, u => ts.foldl (bwStep line (bw line ts n) a u) (0, [])

structure IsBest (line : List Int) (ts : List Tr) (a : Int) (u : List Int) (r : Nat × List Int) : Prop where
  way : ∃ w, Trail ts a u w ∧ cnt line w = r.1 ∧ w.map (·.1) = r.2
  most : ∀ w, Trail ts a u w → cnt line w ≤ r.1
  none : r.1 = 0 → r.2 = []

theorem bw_best {line : List Int} {ts : List Tr} : ∀ (n : Nat) (a : Int) (u : List Int), rem ts u ≤ n → IsBest line ts a u (bw line ts n a u)
  | 0, a, u, h => by
    refine ⟨⟨[], trivial, rfl, rfl⟩, fun w hw => ?_, fun _ => rfl⟩
    cases w with
    | nil => exact Nat.le_refl 0
    | cons e w =>
      obtain ⟨h1, _, h3, _⟩ := hw
      have := rem_lt h3 h1
      omega
  | n + 1, a, u, h => by
    -- over a piece of the transfers
    have go : ∀ (l : List Tr) (best : Nat × List Int), (∀ e ∈ l, e ∈ ts) →
        (∃ w, Trail ts a u w ∧ cnt line w = best.1 ∧ w.map (·.1) = best.2) → (best.1 = 0 → best.2 = []) →
        (∃ w, Trail ts a u w ∧ cnt line w = (l.foldl (bwStep line (bw line ts n) a u) best).1 ∧ w.map (·.1) = (l.foldl (bwStep line (bw line ts n) a u) best).2) ∧
        ((l.foldl (bwStep line (bw line ts n) a u) best).1 = 0 → (l.foldl (bwStep line (bw line ts n) a u) best).2 = []) ∧
        best.1 ≤ (l.foldl (bwStep line (bw line ts n) a u) best).1 ∧
        ∀ e w, e ∈ l → Trail ts a u (e :: w) → cnt line (e :: w) ≤ (l.foldl (bwStep line (bw line ts n) a u) best).1 := by
      intro l
      induction l with
      | nil => intro best _ h1 h2; exact ⟨h1, h2, Nat.le_refl _, fun e w he => nomatch he⟩
      | cons d l ih =>
        intro best hl h1 h2
        have hd := hl d List.mem_cons_self
        have hl' : ∀ e ∈ l, e ∈ ts := fun e he => hl e (List.mem_cons_of_mem _ he)
        rw [List.foldl_cons]
        by_cases c : d.2.1 = a ∧ d.1 ∉ u
        · have lt := rem_lt c.2 hd
          have ihb := bw_best (line := line) (ts := ts) n d.2.2 (u ++ [d.1]) (by omega)
          obtain ⟨w, hw1, hw2, hw3⟩ := ihb.way
          by_cases g : (bw line ts n d.2.2 (u ++ [d.1])).1 + agN line d > best.1
          · have ee : bwStep line (bw line ts n) a u best d = ((bw line ts n d.2.2 (u ++ [d.1])).1 + agN line d, d.1 :: (bw line ts n d.2.2 (u ++ [d.1])).2) := by
              unfold bwStep; rw [if_pos c, if_pos g]
            rw [ee]
            obtain ⟨q1, q2, q3, q4⟩ := ih ((bw line ts n d.2.2 (u ++ [d.1])).1 + agN line d, d.1 :: (bw line ts n d.2.2 (u ++ [d.1])).2) hl'
              ⟨d :: w, ⟨hd, c.1, c.2, hw1⟩, by show agN line d + cnt line w = _; rw [hw2]; exact Nat.add_comm _ _, by rw [List.map_cons, hw3]⟩ (fun z => by have z' : (bw line ts n d.2.2 (u ++ [d.1])).1 + agN line d = 0 := z; omega)
            have q3' : (bw line ts n d.2.2 (u ++ [d.1])).1 + agN line d ≤ _ := q3
            refine ⟨q1, q2, by omega, fun e v he ht => ?_⟩
            rcases List.mem_cons.mp he with z | z
            · subst z
              have := ihb.most v ht.2.2.2
              have e2 : cnt line (e :: v) = agN line e + cnt line v := rfl
              omega
            · exact q4 e v z ht
          · have ee : bwStep line (bw line ts n) a u best d = best := by unfold bwStep; rw [if_pos c, if_neg g]
            rw [ee]
            obtain ⟨q1, q2, q3, q4⟩ := ih best hl' h1 h2
            refine ⟨q1, q2, q3, fun e v he ht => ?_⟩
            rcases List.mem_cons.mp he with z | z
            · subst z
              have := ihb.most v ht.2.2.2
              have e2 : cnt line (e :: v) = agN line e + cnt line v := rfl
              omega
            · exact q4 e v z ht
        · have ee : bwStep line (bw line ts n) a u best d = best := by unfold bwStep; rw [if_neg c]
          rw [ee]
          obtain ⟨q1, q2, q3, q4⟩ := ih best hl' h1 h2
          refine ⟨q1, q2, q3, fun e v he ht => ?_⟩
          rcases List.mem_cons.mp he with z | z
          · subst z
            exact absurd ⟨ht.2.1, ht.2.2.1⟩ c
          · exact q4 e v z ht
    obtain ⟨q1, q2, _, q4⟩ := go ts (0, []) (fun _ z => z) ⟨[], trivial, rfl, rfl⟩ (fun _ => rfl)
    refine ⟨q1, fun w hw => ?_, q2⟩
    cases w with
    | nil => exact Nat.zero_le _
    | cons e w => exact q4 e w hw.1 hw

/-! ### sorting -/
def srt (l : List Int) : List Int := l.mergeSort (fun a b => decide (a ≤ b))
theorem srt_perm (l : List Int) : (srt l).Perm l := List.mergeSort_perm l _
theorem srt_mem (l : List Int) (x : Int) : x ∈ srt l ↔ x ∈ l := (srt_perm l).mem_iff
theorem srt_le (l : List Int) : (srt l).Pairwise (· ≤ ·) := by
  have h := List.pairwise_mergeSort (le := fun a b : Int => decide (a ≤ b)) (by intro a b c h1 h2; simp at *; omega) (by intro a b; simp; omega) l
  exact h.imp fun hh => of_decide_eq_true hh
theorem sorted_eq : ∀ {l l' : List Int}, l.Perm l' → l.Pairwise (· ≤ ·) → l'.Pairwise (· ≤ ·) → l = l'
  | [], l', p, _, _ => (List.nil_perm.mp p).symm
  | x :: l, [], p, _, _ => absurd p.length_eq (by simp)
  | x :: l, y :: l', p, h, h' => by
    have hx := List.pairwise_cons.mp h
    have hy := List.pairwise_cons.mp h'
    have e : x = y := by
      have m1 : y ∈ x :: l := p.mem_iff.mpr List.mem_cons_self
      have m2 : x ∈ y :: l' := p.mem_iff.mp List.mem_cons_self
      have a1 : x ≤ y := by
        rcases List.mem_cons.mp m1 with z | z
        · omega
        · exact hx.1 _ z
      have a2 : y ≤ x := by
        rcases List.mem_cons.mp m2 with z | z
        · omega
        · exact hy.1 _ z
      omega
    subst e
    rw [sorted_eq (List.Perm.cons_inv p) hx.2 hy.2]
theorem srt_of {l l' : List Int} (p : l'.Perm l) (h : l'.Pairwise (· ≤ ·)) : l' = srt l :=
  sorted_eq (p.trans (srt_perm l).symm) h (srt_le l)

/-! ### states -/
def StepOk (ts : List Tr) (s : Stt) (e : Tr) : Prop := e ∈ ts ∧ e.2.1 = s.1 ∧ e.1 ∉ s.2
def after (s : Stt) (e : Tr) : Stt := (e.2.2, srt (s.2 ++ [e.1]))
inductive Reach (ts : List Tr) (s : Stt) : Stt → Prop
  | refl : Reach ts s s
  | step {t : Stt} {e : Tr} : Reach ts s t → StepOk ts t e → Reach ts s (after t e)
def Closed (ts : List Tr) (S : List Stt) : Prop := ∀ s ∈ S, ∀ e, StepOk ts s e → after s e ∈ S
theorem Closed.reach {ts : List Tr} {S : List Stt} (c : Closed ts S) {s t : Stt} (hs : s ∈ S) (r : Reach ts s t) : t ∈ S := by
  induction r with
  | refl => exact hs
  | step _ ok ih => exact c _ ih _ ok

structure Val (line : List Int) (ts : List Tr) (s : Stt) : Prop where
  area : s.1 ∈ line
  asc : s.2.Pairwise (· < ·)
  nam : ∀ x ∈ s.2, x ∈ ts.map (·.1)
/-- the transfers lead from areas of the order to areas of the order -/
def Inside (line : List Int) (ts : List Tr) : Prop := ∀ e ∈ ts, e.2.1 ∈ line ∧ e.2.2 ∈ line
theorem Val.after {line : List Int} {ts : List Tr} (hi : Inside line ts) {s : Stt} {e : Tr} (v : Val line ts s) (ok : StepOk ts s e) : Val line ts (after s e) := by
  refine ⟨(hi e ok.1).2, ?_, fun x hx => ?_⟩
  · have nd : (s.2 ++ [e.1]).Nodup := by
      rw [List.nodup_append]
      refine ⟨v.asc.imp fun h => by omega, by simp, fun a ha b hb => ?_⟩
      have : b = e.1 := by simpa using hb
      subst this
      rintro rfl
      exact ok.2.2 ha
    have nd2 : (srt (s.2 ++ [e.1])).Nodup := (srt_perm _).nodup_iff.mpr nd
    have le := srt_le (s.2 ++ [e.1])
    show (srt (s.2 ++ [e.1])).Pairwise (· < ·)
    have both : (srt (s.2 ++ [e.1])).Pairwise (fun a b => a ≤ b ∧ a ≠ b) := List.Pairwise.and le nd2
    exact both.imp fun h => by omega
  · have hx' : x ∈ s.2 ++ [e.1] := (srt_mem _ x).mp hx
    rcases List.mem_append.mp hx' with z | z
    · exact v.nam x z
    · have : x = e.1 := by simpa using z
      subst this
      exact List.mem_map.mpr ⟨e, ok.1, rfl⟩
theorem Val.reach {line : List Int} {ts : List Tr} (hi : Inside line ts) {s t : Stt} (v : Val line ts s) (r : Reach ts s t) : Val line ts t := by
  induction r with
  | refl => exact v
  | step _ ok ih => exact ih.after hi ok

/-! ### how many states there are -/
def subs : List Int → List (List Int)
  | [] => [[]]
  | x :: l => subs l ++ (subs l).map (x :: ·)
theorem subs_length : ∀ l : List Int, (subs l).length = 2 ^ l.length
  | [] => rfl
  | x :: l => by
    show (subs l ++ (subs l).map (x :: ·)).length = _
    rw [List.length_append, List.length_map, subs_length l, List.length_cons, Nat.pow_succ]
    omega
theorem filter_subs (p : Int → Bool) : ∀ l : List Int, l.filter p ∈ subs l
  | [] => by simp [subs]
  | x :: l => by
    have ih := filter_subs p l
    show (x :: l).filter p ∈ subs l ++ (subs l).map (x :: ·)
    rw [List.filter_cons, List.mem_append]
    split
    · exact .inr (List.mem_map.mpr ⟨_, ih, rfl⟩)
    · exact .inl ih
theorem nodup_le {α : Type} [DecidableEq α] : ∀ {l k : List α}, l.Nodup → (∀ x ∈ l, x ∈ k) → l.length ≤ k.length
  | [], _, _, _ => Nat.zero_le _
  | x :: l, k, nd, h => by
    have nd' := List.nodup_cons.mp nd
    have hx := h x List.mem_cons_self
    have ih := nodup_le (l := l) (k := k.erase x) nd'.2 fun y hy => by
      refine (List.mem_erase_of_ne ?_).mpr (h y (List.mem_cons_of_mem _ hy))
      rintro rfl
      exact nd'.1 hy
    have e := List.length_erase_of_mem hx
    have pos : 0 < k.length := List.length_pos_of_mem hx
    rw [List.length_cons]
    omega
def univ (line : List Int) (ts : List Tr) : List Stt := line.flatMap fun a => (subs (ts.map (·.1))).map fun q => (a, srt q)
theorem univ_length (line : List Int) (ts : List Tr) : (univ line ts).length = line.length * 2 ^ ts.length := by
  unfold univ
  induction line with
  | nil => simp
  | cons a line ih =>
    rw [List.flatMap_cons, List.length_append, ih, List.length_map, subs_length, List.length_map, List.length_cons, Nat.succ_mul]
    omega
theorem val_univ {line : List Int} {ts : List Tr} (nd : (ts.map (·.1)).Nodup) {s : Stt} (v : Val line ts s) : s ∈ univ line ts := by
  unfold univ
  refine List.mem_flatMap.mpr ⟨s.1, v.area, List.mem_map.mpr ⟨(ts.map (·.1)).filter (fun x => decide (x ∈ s.2)), filter_subs _ _, ?_⟩⟩
  have p : s.2.Perm ((ts.map (·.1)).filter (fun x => decide (x ∈ s.2))) := by
    refine (List.perm_ext_iff_of_nodup (v.asc.imp fun h => by omega) (nd.sublist List.filter_sublist)).mpr fun x => ?_
    rw [List.mem_filter, decide_eq_true_eq]
    exact ⟨fun h => ⟨v.nam x h, h⟩, fun h => h.2⟩
  have e := srt_of p (v.asc.imp fun h => by omega)
  rw [← e]
theorem val_le {line : List Int} {ts : List Tr} (nd : (ts.map (·.1)).Nodup) {F : List Stt} (h : F.Nodup) (v : ∀ s ∈ F, Val line ts s) : F.length ≤ line.length * 2 ^ ts.length := by
  rw [← univ_length]
  exact nodup_le h fun s hs => val_univ nd (v s hs)

/-! ### onward: the closure -/
/-- what _law_onward gives -/
structure OnRes (line : List Int) (ts : List Tr) (S F : List Stt) : Prop where
  nd : F.Nodup
  val : ∀ s ∈ F, Val line ts s
  mem : ∀ t, t ∈ F ↔ ∃ s ∈ S, Reach ts s t
theorem OnRes.closed {line : List Int} {ts : List Tr} {S F : List Stt} (h : OnRes line ts S F) : Closed ts F := fun t ht e ok => by
  obtain ⟨s, hs, r⟩ := (h.mem t).mp ht
  exact (h.mem _).mpr ⟨s, hs, .step r ok⟩
/-- between two turns of the while loop: F found, W waiting -/
structure OnInv (line : List Int) (ts : List Tr) (S F W : List Stt) : Prop where
  sub : ∀ s ∈ S, s ∈ F
  from_ : ∀ t ∈ F, ∃ s ∈ S, Reach ts s t
  nd : F.Nodup
  val : ∀ s ∈ F, Val line ts s
  wait : ∀ t ∈ W, t ∈ F
  done : ∀ s ∈ F, s ∉ W → ∀ e, StepOk ts s e → after s e ∈ F
  len : W.length ≤ F.length
theorem OnInv.start {line : List Int} {ts : List Tr} {S : List Stt} (nd : S.Nodup) (v : ∀ s ∈ S, Val line ts s) : OnInv line ts S S S :=
  ⟨fun _ h => h, fun t h => ⟨t, h, .refl⟩, nd, v, fun _ h => h, fun s h n => absurd h n, Nat.le_refl _⟩
theorem OnInv.fin {line : List Int} {ts : List Tr} {S F : List Stt} (h : OnInv line ts S F []) : OnRes line ts S F := by
  have c : Closed ts F := fun s hs e ok => h.done s hs (by simp) e ok
  exact ⟨h.nd, h.val, fun t => ⟨h.from_ t, fun ⟨s, hs, r⟩ => c.reach (h.sub s hs) r⟩⟩
/-- between two turns of the for loop: s is being worked at, the first i transfers are done -/
structure ForInv (line : List Int) (ts : List Tr) (S : List Stt) (s : Stt) (i : Nat) (F W : List Stt) : Prop where
  sub : ∀ s ∈ S, s ∈ F
  from_ : ∀ t ∈ F, ∃ s ∈ S, Reach ts s t
  nd : F.Nodup
  val : ∀ s ∈ F, Val line ts s
  wait : ∀ t ∈ W, t ∈ F
  done : ∀ t ∈ F, t ∉ W → t ≠ s → ∀ e, StepOk ts t e → after t e ∈ F
  now : ∀ e ∈ ts.take i, StepOk ts s e → after s e ∈ F
  here : s ∈ F
  len : W.length ≤ F.length
theorem ForInv.start {line : List Int} {ts : List Tr} {S F W : List Stt} {s : Stt} (h : OnInv line ts S F (W ++ [s])) : ForInv line ts S s 0 F W :=
  ⟨h.sub, h.from_, h.nd, h.val, fun t ht => h.wait t (List.mem_append_left _ ht), fun t ht hw hn e ok => h.done t ht (fun z => by
    rcases List.mem_append.mp z with z | z
    · exact hw z
    · exact hn (by simpa using z)) e ok, fun e he => by simp at he, h.wait s (by simp), by have := h.len; rw [List.length_append] at this; omega⟩
theorem ForInv.fin {line : List Int} {ts : List Tr} {S F W : List Stt} {s : Stt} (h : ForInv line ts S s ts.length F W) : OnInv line ts S F W :=
  ⟨h.sub, h.from_, h.nd, h.val, h.wait, fun t ht hw e ok => by
    by_cases q : t = s
    · subst q
      exact h.now e (by rw [List.take_length]; exact ok.1) ok
    · exact h.done t ht hw q e ok, h.len⟩
theorem ForInv.skip {line : List Int} {ts : List Tr} {S F W : List Stt} {s : Stt} {i : Nat} {e : Tr} (he : ts[i]? = some e) (h : ForInv line ts S s i F W)
    (c : StepOk ts s e → after s e ∈ F) : ForInv line ts S s (i + 1) F W :=
  ⟨h.sub, h.from_, h.nd, h.val, h.wait, h.done, fun d hd ok => by
    rw [List.take_add_one, he] at hd
    rcases List.mem_append.mp hd with z | z
    · exact h.now d z ok
    · have : d = e := by simpa using z
      subst this
      exact c ok, h.here, h.len⟩
theorem ForInv.push {line : List Int} {ts : List Tr} (hi : Inside line ts) {S F W : List Stt} {s : Stt} {i : Nat} {e : Tr} (he : ts[i]? = some e) (h : ForInv line ts S s i F W)
    (ok : StepOk ts s e) (new : after s e ∉ F) : ForInv line ts S s (i + 1) (F ++ [after s e]) (W ++ [after s e]) := by
  obtain ⟨s0, hs0, r0⟩ := h.from_ s h.here
  have mem : ∀ {t}, t ∈ F → t ∈ F ++ [after s e] := fun ht => List.mem_append_left _ ht
  refine ⟨fun t ht => mem (h.sub t ht), fun t ht => ?_, ?_, fun t ht => ?_, fun t ht => ?_, fun t ht hw hn d okd => ?_, fun d hd okd => ?_, mem h.here, ?_⟩
  · rcases List.mem_append.mp ht with z | z
    · exact h.from_ t z
    · have : t = after s e := by simpa using z
      subst this
      exact ⟨s0, hs0, .step r0 ok⟩
  · rw [List.nodup_append]
    refine ⟨h.nd, by simp, fun a ha b hb => ?_⟩
    have : b = after s e := by simpa using hb
    subst this
    rintro rfl
    exact new ha
  · rcases List.mem_append.mp ht with z | z
    · exact h.val t z
    · have : t = after s e := by simpa using z
      subst this
      exact (h.val s h.here).after hi ok
  · rcases List.mem_append.mp ht with z | z
    · exact mem (h.wait t z)
    · exact List.mem_append_right _ z
  · rcases List.mem_append.mp ht with z | z
    · exact mem (h.done t z (fun q => hw (List.mem_append_left _ q)) hn d okd)
    · exact absurd (List.mem_append_right _ z) hw
  · rw [List.take_add_one, he] at hd
    rcases List.mem_append.mp hd with z | z
    · exact mem (h.now d z okd)
    · have : d = e := by simpa using z
      subst this
      simp
  · have := h.len
    rw [List.length_append, List.length_append]
    simp
    omega

/-! ### the greatest number of transfers against the order, from a state on -/
section
variable {line : List Int} {ts : List Tr} {N : Nat} (hN : ts.length ≤ N)
def B (line : List Int) (ts : List Tr) (N : Nat) (s : Stt) : Nat := (bw line ts N s.1 s.2).1
include hN in
theorem B_best (s : Stt) : IsBest line ts s.1 s.2 (bw line ts N s.1 s.2) := bw_best N s.1 s.2 (Nat.le_trans (rem_le ts s.2) hN)
include hN in
theorem B_step {s : Stt} {e : Tr} (ok : StepOk ts s e) : B line ts N (after s e) + agN line e ≤ B line ts N s := by
  obtain ⟨w, h1, h2, _⟩ := (B_best (line := line) hN (after s e)).way
  have t : Trail ts s.1 s.2 (e :: w) := ⟨ok.1, ok.2.1, ok.2.2, Trail.congr (u := srt (s.2 ++ [e.1])) (fun x => srt_mem _ x) h1⟩
  have m := (B_best (line := line) hN s).most _ t
  have c : cnt line (e :: w) = agN line e + cnt line w := rfl
  unfold B
  omega
include hN in
theorem B_reach {s t : Stt} (r : Reach ts s t) : B line ts N t ≤ B line ts N s := by
  induction r with
  | refl => exact Nat.le_refl _
  | step _ ok ih => have := B_step (line := line) hN ok; omega
include hN in
/-- a state from which m + 1 transfers against the order can be used: a state further on from which a first one leads to one with m -/
theorem B_succ : ∀ (w : List Tr) (s : Stt) (m : Nat), Trail ts s.1 s.2 w → cnt line w = m + 1 → ∃ t e, Reach ts s t ∧ StepOk ts t e ∧ agB line e = true ∧ m ≤ B line ts N (after t e)
  | [], s, m, _, c => by simp [cnt] at c
  | e :: w, s, m, h, c => by
    have ok : StepOk ts s e := ⟨h.1, h.2.1, h.2.2.1⟩
    have hw : Trail ts (after s e).1 (after s e).2 w := Trail.congr (fun x => (srt_mem _ x).symm) h.2.2.2
    have c' : agN line e + cnt line w = m + 1 := c
    by_cases g : agB line e = true
    · refine ⟨s, e, .refl, ok, g, ?_⟩
      have := (B_best (line := line) hN (after s e)).most w hw
      unfold agN at c'
      rw [if_pos g] at c'
      unfold B
      omega
    · unfold agN at c'
      rw [if_neg g] at c'
      obtain ⟨t, d, r, okd, g', hm⟩ := B_succ w (after s e) m hw (by omega)
      refine ⟨t, d, ?_, okd, g', hm⟩
      clear hm okd
      induction r with
      | refl => exact .step .refl ok
      | step _ ok' ih => exact .step ih ok'

/-! ### rounds -/
/-- what one round makes of states: for each area of the order the states there are dropped, then onward -/
def RoundRel (line : List Int) (ts : List Tr) : List Int → List Stt → List Stt → Prop
  | [], S, R => S = R
  | a :: l, S, R => ∃ F, OnRes line ts (S.filter fun s => decide (s.1 ≠ a)) F ∧ RoundRel line ts l F R
theorem pos_at {line : List Int} (nd : line.Nodup) {i : Nat} {a : Int} (h : line[i]? = some a) : pos line a = i := by
  obtain ⟨hi, e⟩ := List.getElem?_eq_some_iff.mp h
  subst e
  unfold pos
  exact nd.idxOf_getElem i hi
theorem pos_lt {line : List Int} {a : Int} (h : a ∈ line) : pos line a < line.length := List.idxOf_lt_length_of_mem h
theorem pos_inj {line : List Int} {a b : Int} (ha : a ∈ line) (hb : b ∈ line) (h : pos line a = pos line b) : a = b := by
  have h1 : line[pos line a]'(pos_lt ha) = a := List.getElem_idxOf _
  have h2 : line[pos line b]'(pos_lt hb) = b := List.getElem_idxOf _
  rw [← h1, ← h2]
  congr 1

/-- closed, and valid -/
structure Good (line : List Int) (ts : List Tr) (S : List Stt) : Prop where
  nd : S.Nodup
  val : ∀ s ∈ S, Val line ts s
  closed : Closed ts S
theorem OnRes.good {line : List Int} {ts : List Tr} {S F : List Stt} (h : OnRes line ts S F) : Good line ts F := ⟨h.nd, h.val, h.closed⟩
theorem RoundRel.good {line : List Int} {ts : List Tr} : ∀ {l : List Int} {S R : List Stt}, Good line ts S → RoundRel line ts l S R → Good line ts R
  | [], S, R, g, h => by have e : S = R := h; exact e ▸ g
  | a :: l, S, R, g, h => by
    obtain ⟨F, hF, hR⟩ := h
    exact RoundRel.good hF.good hR
include hN in
/-- behind the first i visits: who has passed the place has used one -/
theorem round_le (nd : line.Nodup) (hi : Inside line ts) {m : Nat} : ∀ (l : List Int) (i : Nat) (S R : List Stt), line.drop i = l →
    (∀ t ∈ S, Val line ts t ∧ B line ts N t + (if pos line t.1 < i then 1 else 0) ≤ m) → RoundRel line ts l S R → ∀ t ∈ R, Val line ts t ∧ B line ts N t + 1 ≤ m
  | [], i, S, R, hl, h, hr => by
    have e : S = R := hr
    subst e
    intro t ht
    obtain ⟨v, q⟩ := h t ht
    have : line.length ≤ i := List.drop_eq_nil_iff.mp hl
    rw [if_pos (Nat.lt_of_lt_of_le (pos_lt v.area) this)] at q
    exact ⟨v, q⟩
  | a :: l, i, S, R, hl, h, hr => by
    obtain ⟨F, hF, hR⟩ := hr
    have hia : line[i]? = some a := by
      have := congrArg (fun z => z[0]?) hl
      simpa using this
    have hl' : line.drop (i + 1) = l := by
      have := congrArg List.tail hl
      simpa using this
    have pa := pos_at nd hia
    refine round_le nd hi l (i + 1) F R hl' (fun t ht => ⟨hF.val t ht, ?_⟩) hR
    obtain ⟨s, hs, r⟩ := (hF.mem t).mp ht
    obtain ⟨hs1, hs2⟩ := List.mem_filter.mp hs
    have hne : s.1 ≠ a := of_decide_eq_true hs2
    obtain ⟨vs, qs⟩ := h s hs1
    have ps : pos line s.1 ≠ i := fun z => hne (pos_inj vs.area (List.mem_of_getElem? hia) (z.trans pa.symm))
    have qs' : B line ts N s + (if pos line s.1 < i + 1 then 1 else 0) ≤ m := by
      by_cases c : pos line s.1 < i
      · rw [if_pos c] at qs
        rw [if_pos (by omega)]
        exact qs
      · rw [if_neg c] at qs
        rw [if_neg (by omega)]
        exact qs
    clear ht hs
    induction r with
    | refl => exact qs'
    | @step t e r ok ih =>
      have b := B_step (line := line) hN ok
      have hst : e.2.1 = t.1 := ok.2.1
      by_cases c : pos line (after t e).1 < i + 1
      · rw [if_pos c]
        by_cases c2 : pos line t.1 < i + 1
        · rw [if_pos c2] at ih
          omega
        · have g : agN line e = 1 := by
            unfold agN agB
            rw [if_pos (decide_eq_true ?_)]
            rw [hst]
            have c' : pos line e.2.2 < i + 1 := c
            omega
          split at ih <;> omega
      · rw [if_neg c]
        split at ih <;> omega
include hN in
/-- a state that waits for its transfer against the order gets through -/
theorem round_ge (nd : line.Nodup) (hi : Inside line ts) {s : Stt} {e : Tr} (ok : StepOk ts s e) (g : agB line e = true) : ∀ (l : List Int) (i : Nat) (S R : List Stt), line.drop i = l →
    (∀ t ∈ S, Val line ts t) → (i ≤ pos line e.2.2 → s ∈ S) → (pos line e.2.2 < i → after s e ∈ S) → RoundRel line ts l S R → after s e ∈ R
  | [], i, S, R, hl, hv, h1, h2, hr => by
    have q : S = R := hr
    subst q
    have : line.length ≤ i := List.drop_eq_nil_iff.mp hl
    exact h2 (Nat.lt_of_lt_of_le (pos_lt (hi e ok.1).2) this)
  | a :: l, i, S, R, hl, hv, h1, h2, hr => by
    obtain ⟨F, hF, hR⟩ := hr
    have hia : line[i]? = some a := by
      have := congrArg (fun z => z[0]?) hl
      simpa using this
    have hl' : line.drop (i + 1) = l := by
      have := congrArg List.tail hl
      simpa using this
    have pa := pos_at nd hia
    have gg : pos line e.2.2 < pos line e.2.1 := of_decide_eq_true g
    have hst : e.2.1 = s.1 := ok.2.1
    have keep : ∀ t : Stt, t ∈ S → pos line t.1 ≠ i → t ∈ F := fun t ht hp => (hF.mem t).mpr ⟨t, List.mem_filter.mpr ⟨ht, decide_eq_true fun z => hp (z ▸ pa)⟩, .refl⟩
    refine round_ge nd hi ok g l (i + 1) F R hl' hF.val (fun q => ?_) (fun q => ?_) hR
    · exact keep s (h1 (by omega)) (by rw [← hst]; omega)
    · by_cases c : pos line e.2.2 < i
      · exact keep _ (h2 c) (by show pos line e.2.2 ≠ i; omega)
      · have hs : s ∈ F := keep s (h1 (by omega)) (by rw [← hst]; omega)
        exact hF.closed s hs e ok
def MaxB (line : List Int) (ts : List Tr) (N : Nat) (S : List Stt) (m : Nat) : Prop := (∃ s ∈ S, B line ts N s = m) ∧ ∀ s ∈ S, B line ts N s ≤ m
include hN in
theorem round_zero (nd : line.Nodup) (hi : Inside line ts) {S R : List Stt} (g : Good line ts S) (h : MaxB line ts N S 0) (r : RoundRel line ts line S R) : R = [] := by
  have q := round_le hN nd hi (m := 0) line 0 S R rfl (fun t ht => ⟨g.val t ht, by rw [if_neg (Nat.not_lt_zero _)]; exact h.2 t ht⟩) r
  cases R with
  | nil => rfl
  | cons t R => have := (q t List.mem_cons_self).2; omega
include hN in
theorem round_succ (nd : line.Nodup) (hi : Inside line ts) {S R : List Stt} {m : Nat} (g : Good line ts S) (h : MaxB line ts N S (m + 1)) (r : RoundRel line ts line S R) : MaxB line ts N R m := by
  have q := round_le hN nd hi (m := m + 1) line 0 S R rfl (fun t ht => ⟨g.val t ht, by rw [if_neg (Nat.not_lt_zero _)]; exact h.2 t ht⟩) r
  have q' : ∀ t ∈ R, B line ts N t ≤ m := fun t ht => by have := (q t ht).2; omega
  obtain ⟨s, hs, es⟩ := h.1
  obtain ⟨w, hw1, hw2, _⟩ := (B_best (line := line) hN s).way
  have es' : cnt line w = m + 1 := hw2.trans es
  obtain ⟨t, e, rt, ok, ga, hm⟩ := B_succ hN w s m hw1 es'
  have ht : t ∈ S := g.closed.reach hs rt
  have ha := round_ge hN nd hi ok ga line 0 S R rfl g.val (fun _ => ht) (fun z => absurd z (Nat.not_lt_zero _)) r
  exact ⟨⟨_, ha, Nat.le_antisymm (q' _ ha) hm⟩, q'⟩
end

/-! ### what is asked -/
/-- the first place of the greatest value among places 0 .. j -/
def amax (f : Nat → Nat) : Nat → Nat
  | 0 => 0
  | j + 1 => if f (j + 1) > f (amax f j) then j + 1 else amax f j
theorem amax_le (f : Nat → Nat) : ∀ j, amax f j ≤ j
  | 0 => Nat.le_refl 0
  | j + 1 => by
    have := amax_le f j
    unfold amax
    split <;> omega
theorem amax_ge (f : Nat → Nat) : ∀ j i, i ≤ j → f i ≤ f (amax f j)
  | 0, i, h => by
    have : i = 0 := by omega
    subst this
    exact Nat.le_refl _
  | j + 1, i, h => by
    have ih := amax_ge f j
    unfold amax
    by_cases c : f (j + 1) > f (amax f j)
    · rw [if_pos c]
      by_cases q : i = j + 1
      · subst q; exact Nat.le_refl _
      · have := ih i (by omega)
        omega
    · rw [if_neg c]
      by_cases q : i = j + 1
      · subst q; omega
      · exact ih i (by omega)
/-- what the best ways from the areas of first are, by place -/
def bwAt (line : List Int) (ts : List Tr) (N : Nat) (first : List Int) (i : Nat) : Nat × List Int := bw line ts N (first.getD i 0) []
/-- what rounds returns -/
def roundsM (line : List Int) (ts : List Tr) (N : Nat) (first : List Int) : Nat × List Int :=
  if first.length = 0 then (0, []) else
    let r := bwAt line ts N first (amax (fun i => (bwAt line ts N first i).1) (first.length - 1))
    (r.1 + 1, r.2)
/-- the states at the begin -/
def starts (origin : List Int) : List Stt := origin.map fun a => (a, [])
theorem starts_nodup {origin : List Int} (nd : origin.Nodup) : (starts origin).Nodup := by
  unfold starts
  exact List.Pairwise.map _ (fun a b h z => h (congrArg Prod.fst z)) nd
theorem starts_val {line origin : List Int} {ts : List Tr} (h : ∀ a ∈ origin, a ∈ line) : ∀ s ∈ starts origin, Val line ts s := fun s hs => by
  obtain ⟨a, ha, rfl⟩ := List.mem_map.mp hs
  exact ⟨h a ha, .nil, fun x hx => nomatch hx⟩
/-- the greatest value at the begin is what rounds finds -/
theorem start_max {line origin : List Int} {ts : List Tr} {N : Nat} (hN : ts.length ≤ N) {F : List Stt} (h : OnRes line ts (starts origin) F) (ho : origin ≠ []) :
    MaxB line ts N F (roundsM line ts N origin).1.pred ∧ (roundsM line ts N origin).1 = (roundsM line ts N origin).1.pred + 1 := by
  have hl : origin.length ≠ 0 := fun z => ho (List.length_eq_zero_iff.mp z)
  have e : (roundsM line ts N origin).1 = (bwAt line ts N origin (amax (fun i => (bwAt line ts N origin i).1) (origin.length - 1))).1 + 1 := by
    unfold roundsM
    rw [if_neg hl]
  have hj : amax (fun i => (bwAt line ts N origin i).1) (origin.length - 1) < origin.length := by
    have := amax_le (fun i => (bwAt line ts N origin i).1) (origin.length - 1)
    omega
  rw [e]
  refine ⟨⟨⟨(origin.getD (amax (fun i => (bwAt line ts N origin i).1) (origin.length - 1)) 0, []), (h.mem _).mpr ⟨_, ?_, .refl⟩, rfl⟩, fun s hs => ?_⟩, rfl⟩
  · unfold starts
    refine List.mem_map.mpr ⟨_, ?_, rfl⟩
    rw [List.getD_eq_getElem?_getD, List.getElem?_eq_getElem hj]
    exact List.getElem_mem hj
  · obtain ⟨t, ht, r⟩ := (h.mem s).mp hs
    obtain ⟨a, ha, rfl⟩ := List.mem_map.mp ht
    refine Nat.le_trans (B_reach hN r) ?_
    obtain ⟨i, hi, rfl⟩ := List.mem_iff_getElem.mp ha
    have q := amax_ge (fun i => (bwAt line ts N origin i).1) (origin.length - 1) i (by omega)
    have q' : (bwAt line ts N origin i).1 = B line ts N (origin[i], []) := by
      unfold bwAt B
      rw [List.getD_eq_getElem?_getD, List.getElem?_eq_getElem hi]
      rfl
    show B line ts N (origin[i], []) ≤ _
    rw [← q']
    exact q
/-- between two turns of the loop of _law_needed -/
def NeedInv (line : List Int) (ts : List Tr) (N due : Nat) (S : List Stt) (many : Nat) : Prop :=
  Good line ts S ∧ ((S = [] ∧ many = due) ∨ ∃ m, MaxB line ts N S m ∧ many + m + 1 = due)
theorem need_start {line origin : List Int} {ts : List Tr} {N : Nat} (hN : ts.length ≤ N) {F : List Stt} (h : OnRes line ts (starts origin) F) : NeedInv line ts N (roundsM line ts N origin).1 F 0 := by
  refine ⟨h.good, ?_⟩
  by_cases ho : origin = []
  · subst ho
    refine .inl ⟨?_, rfl⟩
    cases F with
    | nil => rfl
    | cons t F =>
      obtain ⟨s, hs, _⟩ := (h.mem t).mp List.mem_cons_self
      exact absurd hs (by simp [starts])
  · obtain ⟨q1, q2⟩ := start_max hN h ho
    exact .inr ⟨_, q1, by omega⟩
theorem need_turn {line : List Int} {ts : List Tr} {N due many : Nat} (hN : ts.length ≤ N) (nd : line.Nodup) (hi : Inside line ts) {S R : List Stt} (h : NeedInv line ts N due S many) (hS : S ≠ []) (r : RoundRel line ts line S R) :
    NeedInv line ts N due R (many + 1) ∧ many < due := by
  obtain ⟨g, h⟩ := h
  rcases h with ⟨z, _⟩ | ⟨m, hm, e⟩
  · exact absurd z hS
  · refine ⟨⟨g_of g r, ?_⟩, by omega⟩
    cases m with
    | zero => exact .inl ⟨round_zero hN nd hi g hm r, by omega⟩
    | succ m => exact .inr ⟨m, round_succ hN nd hi g hm r, by omega⟩
where
  g_of {line : List Int} {ts : List Tr} {l : List Int} {S R : List Stt} (g : Good line ts S) (r : RoundRel line ts l S R) : Good line ts R := r.good g
theorem need_end {line : List Int} {ts : List Tr} {N due many : Nat} (h : NeedInv line ts N due [] many) : many = due := by
  obtain ⟨_, h⟩ := h
  rcases h with ⟨_, e⟩ | ⟨m, ⟨⟨s, hs, _⟩, _⟩, _⟩
  · exact e
  · exact nomatch hs

/-! ### the way -/
/-- the way that rounds returns: names of a trail from an area of origin -/
theorem rounds_way {line origin : List Int} {ts : List Tr} {N : Nat} (hN : ts.length ≤ N) : ∃ w, w.map (·.1) = (roundsM line ts N origin).2 ∧ cnt line w = (roundsM line ts N origin).1 - 1 ∧
    (w = [] ∨ ∃ a ∈ origin, Trail ts a [] w) ∧ ((roundsM line ts N origin).1 < 2 → w = []) := by
  by_cases hl : origin.length = 0
  · refine ⟨[], ?_, ?_, .inl rfl, fun _ => rfl⟩
    · unfold roundsM; rw [if_pos hl]; rfl
    · unfold roundsM; rw [if_pos hl]; rfl
  · have hj : amax (fun i => (bwAt line ts N origin i).1) (origin.length - 1) < origin.length := by
      have := amax_le (fun i => (bwAt line ts N origin i).1) (origin.length - 1)
      omega
    have e : roundsM line ts N origin = ((bwAt line ts N origin (amax (fun i => (bwAt line ts N origin i).1) (origin.length - 1))).1 + 1, (bwAt line ts N origin (amax (fun i => (bwAt line ts N origin i).1) (origin.length - 1))).2) := by
      unfold roundsM
      rw [if_neg hl]
    rw [e]
    generalize amax (fun i => (bwAt line ts N origin i).1) (origin.length - 1) = j at hj
    have b := bw_best (line := line) (ts := ts) N (origin.getD j 0) [] (Nat.le_trans (rem_le ts []) hN)
    obtain ⟨w, h1, h2, h3⟩ := b.way
    refine ⟨w, h3, h2, .inr ⟨origin.getD j 0, ?_, h1⟩, fun z => ?_⟩
    · rw [List.getD_eq_getElem?_getD, List.getElem?_eq_getElem hj]
      exact List.getElem_mem hj
    · have z' : (bwAt line ts N origin j).1 + 1 < 2 := z
      have q : (bw line ts N (origin.getD j 0) []).2 = [] := b.none (by
        have : (bw line ts N (origin.getD j 0) []).1 + 1 < 2 := z'
        omega)
      rw [← h3] at q
      exact List.map_eq_nil_iff.mp q
theorem trail_names {ts : List Tr} : ∀ {w : List Tr} {a : Int} {u : List Int}, Trail ts a u w → (w.map (·.1)).Nodup ∧ (∀ e ∈ w, e.1 ∉ u) ∧ ∀ e ∈ w, e ∈ ts
  | [], _, _, _ => ⟨.nil, fun _ h => (nomatch h), fun _ h => (nomatch h)⟩
  | e :: w, a, u, h => by
    obtain ⟨q1, q2, q3⟩ := trail_names h.2.2.2
    refine ⟨?_, fun d hd => ?_, fun d hd => ?_⟩
    · rw [List.map_cons, List.nodup_cons]
      refine ⟨fun z => ?_, q1⟩
      obtain ⟨d, hd, ed⟩ := List.mem_map.mp z
      exact q2 d hd (by rw [ed]; simp)
    · rcases List.mem_cons.mp hd with z | z
      · subst z; exact h.2.2.1
      · exact fun q => q2 d z (List.mem_append_left _ q)
    · rcases List.mem_cons.mp hd with z | z
      · subst z; exact h.1
      · exact q3 d z
end K48

set_option Elab.async false
set_option maxRecDepth 100000
set_option maxHeartbeats 4000000
/-! Rules that the hand layer lacks: either of two readings; repr of nested data; sorted of a tuple; len(set(tuple)). -/
namespace K48
open PySem PySem.Spec PyProof.Rows L2
section
variable {X : Cx}
/-- an expression with two derivations: either reading will do -/
theorem pe_or {e : Expr} {t u : TE} (h : PE X e t) (k : PE X e u) : PE X e (fun σ H Q => t σ H Q ∨ u σ H Q) :=
  ⟨fun pins s σ H Q I q => q.elim (h.run pins s σ H Q I) (k.run pins s σ H Q I)⟩
theorem pi_or {tg it : Expr} {t u : TI} (h : PI X tg it t) (k : PI X tg it u) : PI X tg it (fun σ H R => t σ H R ∨ u σ H R) :=
  ⟨fun pins s σ H R I q => q.elim (h.run pins s σ H R I) (k.run pins s σ H R I)⟩

/-! ### repr -/
def rRepr (K : PySem.W.Frag) : List V → Hp → VK → Prop := fun xs H Q => ∃ (a : Addr) (d : PyData), xs = [.ref a] ∧ Dp K H (.ref a) d ∧ d.showable = true ∧ d.hasDict = false ∧ d.depth ≤ 60 ∧ d.shown.length ≤ sizeLine ∧ Q (.str d.shown) H
theorem call_repr (hg : X.A.guards = some []) (hu : X.A.units + 64 < cLine) : CallR X (.builtin "repr") (rRepr X.K) := by
  intro pins s σ H xs us Q I r h
  obtain ⟨a, d, rfl, hd, hs, hn, hdp, hz, q⟩ := h
  obtain ⟨u, rfl, rx⟩ := vals1 r
  obtain ⟨as, rd⟩ := Dp.reads I d _ _ hd rx
  cases rx
  exact repr_of_reads' rd hs (PyData.noDict_hsm hn) hg (by omega) (fun _ _ e => e) (fun h' u tk hk => ⟨.str d.shown, H, I.kept hk, ⟨u, rfl⟩, q⟩) hz
end

/-! ### sorted of a tuple of ints -/
section
variable {prog : Program} {w : World} {A : Around} {E : Value → Shared → Prop} {s : Shared}
/-- all that a tuple holds, in a list of its own -/
theorem collect_tup {t : Addr} {vs : List Value} {Q : List Value → Shared → Prop} (ht : IsTup s.heap t vs.toArray) (hz : vs.length ≤ sizeLine)
    (h : Q vs { s with heap := (s.heap.push (seqObj "list" #[] 0)).update s.heap.objs.size (Obj.mapSeq (· ++ vs.toArray)) }) : wpAny (model prog w) A (collect (.ref t)) Q E s := by
  obtain ⟨o, ho, hc, n, hd⟩ := id ht
  have hold : (s.heap.push (seqObj "list" #[] 0)).get? t = some o := Heap.get?_push_of_some _ ho
  have hnew : (s.heap.push (seqObj "list" #[] 0)).get? s.heap.objs.size = some (seqObj "list" #[] 0) := Heap.get?_push_size _ rfl
  unfold collect
  refine wpAny_bind (wpAny_runValue (codeAny_builtin entry_proto_collect' ?_))
  show wpAny _ _ (do again (.builtin "list.__iadd__" ⟨[← newList [], .ref t], []⟩)) _ _ s
  refine wpAny_bind (wpAny_newList (wpAny_pure ⟨Code.quiet_builtin _ (by decide +kernel), codeAny_builtin entry_list_iadd' ?_⟩))
  show wpAny _ _ (Builtin.List.listExtendWith (.ref s.heap.objs.size) (.ref t) (.ref s.heap.objs.size)) _ _ { s with heap := s.heap.push (seqObj "list" #[] 0) }
  unfold Builtin.List.listExtendWith
  refine wpAny_bind (wpAny_typeOf (T := "tuple") ⟨o, hold, hc⟩ ?_)
  have e3 : (Value.type "tuple" == Value.type "tuple") = true := by rfl
  rw [if_pos (by rw [e3]; simp)]
  refine wpAny_bind (listItems_at hold hd ?_)
  refine wpAny_bind (listItems_at (xs := #[]) (n := 0) hnew rfl ?_)
  rw [if_neg (by simp)]
  refine wpAny_bind (listUpdate_at (xs := #[]) (n := 0) hnew rfl ?_ (Nat.zero_le _) (by show (#[] ++ vs.toArray).size ≤ sizeLine + 1; simp only [Array.size_append, List.size_toArray, List.length_nil]; omega))
  refine wpAny_pure ?_
  show wpAny (model prog w) A (do
      let o ← load s.heap.objs.size
      match o.data with
      | .seq xs _ => pure xs.toList
      | _ => unsupported "internal:collect") Q E { s with heap := (s.heap.push (seqObj "list" #[] 0)).update s.heap.objs.size (Obj.mapSeq (· ++ vs.toArray)) }
  refine wpAny_bind (wpAny_load (get?_update_seq hnew _) ?_)
  show wpAny _ _ (pure ((#[] : Array Value) ++ vs.toArray).toList) Q E _
  refine wpAny_pure ?_
  have e4 : ((#[] : Array Value) ++ vs.toArray).toList = vs := by simp
  rw [e4]
  exact h
theorem sorted_tup {t : Addr} {vs : List Value} {ns : List Int} {Q : Value → Shared → Prop} (ht : IsTup s.heap t vs.toArray) (hI : IntsAre vs ns) (h64 : ns.length < 64)
    (h : ∀ (h' : Heap) (p : Addr) (out : Array Value) (c : Nat) (ns' : List Int), (∀ b o, s.heap.get? b = some o → h'.get? b = some o) → s.heap.objs.size ≤ p → h'.get? p = some (seqObj "list" out c) →
      IntsAre out.toList ns' → ns'.Perm ns → ns'.Pairwise (· ≤ ·) → Q (.ref p) { s with heap := h' }) : wpAny (model prog w) A (call (.builtin "sorted") [.ref t]) Q E s := by
  have hl : vs.length = ns.length := hI.length
  refine Calls.call_function_entry kind_sorted plain_sorted entry_sorted (args_sorted1 _) ?_
  unfold Builtin.«sorted»
  refine wpAny_bind (m := checkCount "sorted" 1 1 _) (wpAny_pure ?_)
  refine wpAny_bind (collect_tup (A := A.in1) ht (by rw [sizeLine_eq]; omega) ?_)
  refine wpAny_bind (wpAny_newList ?_ (by rw [sizeLine_eq]; omega))
  generalize hh1 : (s.heap.push (seqObj "list" #[] 0)).update s.heap.objs.size (Obj.mapSeq (· ++ vs.toArray)) = h1
  have hsz : h1.objs.size = s.heap.objs.size + 1 := by rw [← hh1, Heap.size_update, size_push']
  have k1 : ∀ b o, s.heap.get? b = some o → h1.get? b = some o := fun b o e => by
    rw [← hh1, Heap.get?_update_ne _ _ _ _ (Nat.ne_of_lt (Heap.lt_size e))]
    exact Heap.get?_push_of_some _ e
  have hoL : (h1.push (seqObj "list" vs.toArray 0)).get? h1.objs.size = some (seqObj "list" vs.toArray 0) := Heap.get?_push_size _ rfl
  show wpAny _ _ _ _ _ { s with heap := h1.push (seqObj "list" vs.toArray 0) }
  refine wpAny_bind (wpAny_holding (wpAny_call_entry slot_list_sort ⟨_, hoL, rfl⟩ entry_list_sort (list_sort_tree hoL hI (by omega) fun out ns' a1 a2 a3 => ⟨_, rfl, ?_⟩) (args_list_sort _)))
  obtain ⟨c, hc⟩ := sortedHeap_at (vs := vs) (out := out) hoL
  refine wpAny_pure ⟨_, rfl, h _ _ out c ns' (fun b u e => ?_) (by rw [hsz]; omega) hc a1 a2 a3⟩
  have q := k1 b u e
  have hlt := Heap.lt_size q
  show (sortedHeap (h1.push (seqObj "list" vs.toArray 0)) h1.objs.size vs out).get? b = some u
  rw [sortedHeap_old (Nat.ne_of_lt hlt) (by rw [size_push']; exact Nat.lt_succ_of_lt hlt)]
  exact Heap.get?_push_of_some _ q
end
section
variable {X : Cx}
theorem one_ref {a : Addr} {us : List Value} (r : Vals [V.ref a] us) : us = [Value.ref a] := by
  obtain ⟨u, rfl, e⟩ := vals1 r
  cases e
  rfl
theorem vals_of_intsAre : ∀ {vs : List Value} {ns : List Int}, IntsAre vs ns → Vals (ns.map V.int) vs
  | _, _, .nil => .nil
  | _, _, .cons _ k h => .cons ⟨k, rfl⟩ (vals_of_intsAre h)
def rSortedT (K : PySem.W.Frag) : List V → Hp → VK → Prop := fun xs H Q => ∃ (a : Addr) (ns : List Int), xs = [.ref a] ∧ SqT K H a (ns.map V.int) ∧ ns.length < 64 ∧
  ∀ (ns' : List Int) (p : Addr), ns'.Perm ns → ns'.Pairwise (· ≤ ·) → H p = none → Q (.ref p) (upd H p (.lst (ns'.map V.int)))
theorem cr_sortedT : CallR X (.builtin "sorted") (rSortedT X.K) := by
  intro pins s σ H xs us Q I r h
  obtain ⟨a, ns, rfl, hs, h64, q⟩ := h
  rw [one_ref r]
  obtain ⟨its, rv, ht, _⟩ := I.tuple hs
  refine sorted_tup ht (intsAre_of rv) h64 fun h' p out c ns' k1 hp ho hi hperm hsort => ?_
  have hlen : (ns'.map V.int).length ≤ sizeLine := by rw [List.length_map, hperm.length_eq, sizeLine_eq]; omega
  have hv : Vals (ns'.map V.int) out.toList := vals_of_intsAre hi
  refine ⟨.ref p, upd H p (.lst (ns'.map V.int)), I.laid (t' := s.toks) k1 hp ⟨hlen, out.toList, c, hv, ?_⟩, rfl, q ns' p hperm hsort (I.hok.fresh hp)⟩
  rw [Array.toArray_toList]
  exact ho
end
end K48

set_option Elab.async false
set_option maxRecDepth 100000
set_option maxHeartbeats 4000000
/-! More rules: index of a tuple of ints; len(set(tuple of ints)); a set comprehension of ints; len of a tracked set. -/
namespace K48
open PySem PySem.Spec PyProof.Rows L2
section
variable {X : Cx}
/-! ### tuple.index, ints -/
theorem flat_ints (ns : List Int) : (ns.map V.int).all flatV = true := by
  rw [List.all_map]
  exact List.all_eq_true.mpr fun _ _ => rfl
def rTIndexI (K : PySem.W.Frag) : V → List V → Hp → VK → Prop := fun x xs H Q => ∃ (p : Addr) (ns : List Int) (z : Int) (j : Nat), x = .ref p ∧ xs = [.int z] ∧ SqT K H p (ns.map V.int) ∧ ns[j]? = some z ∧ (∀ m, m < j → ns[m]? ≠ some z) ∧ Q (.int (j : Nat)) H
theorem mt_tindexI : MtR X "tuple.index" (rTIndexI X.K) := by
  intro pins s σ H x xs v us Q I rx rs h
  obtain ⟨p, ns, z, j, rfl, rfl, hq, hy, hno, q⟩ := h
  cases rx
  obtain ⟨u, rfl, t, rfl⟩ := vals1 rs
  obtain ⟨its, r, pl, hz⟩ := I.tuple hq
  obtain ⟨⟨cls, dd, dt, sl⟩, ho, hc, n, hd⟩ := pl
  simp only at hc hd
  subst hc
  subst hd
  have hl : its.toArray.size = ns.length := by rw [List.size_toArray, ← r.length, List.length_map]
  have hj : j < its.toArray.size := by rw [hl]; exact (List.getElem?_eq_some_iff.mp hy).1
  have look : ∀ (m : Nat) (hm : m < its.toArray.size), ∃ y t', ns[m]? = some y ∧ its.toArray[m] = Value.int y t' := fun m hm => by
    have hm' : m < ns.length := by rw [← hl]; exact hm
    obtain ⟨w, hw, t', hw'⟩ := r.get (i := m) (x := .int ns[m]) (by simp [hm'])
    refine ⟨ns[m], t', List.getElem?_eq_getElem hm', ?_⟩
    have e := (List.getElem?_eq_some_iff.mp hw).2
    rw [← hw', ← e]
    simp
  refine call_meets PySem.F.slot_tuple_index ⟨_, ho, rfl⟩ PySem.F.entry_tuple_index (PySem.F.args_tuple_index_2 _ _) (TI.tuple_indexAt p its.toArray n dd sl (.int z t) (eqU (.int z)) j hj ?_ ?_)
    ⟨ho, fun w hw => mem_eqAt (x := .int z) ⟨t, rfl⟩ rfl r (flat_ints ns) w (by simpa using hw), ⟨.int (j : Nat), H, I.tok _, ⟨_, rfl⟩, q⟩⟩
  · obtain ⟨y, t', h1, h2⟩ := look j hj
    rw [hy] at h1
    cases h1
    rw [h2]
    show (z == z) = true
    exact beq_self_eq_true z
  · intro m hm hmj
    obtain ⟨y, t', h1, h2⟩ := look m hm
    rw [h2]
    show (y == z) = false
    exact beq_eq_false_iff_ne.mpr fun e => hno m hmj (e ▸ h1)

/-! ### len(set(t)), t a tuple of different ints -/
def tLenSetT (K : PySem.W.Frag) (ta : TE) : TE := fun σ H Q => ta σ H fun x H1 => ∃ (l : Addr) (ns : List Int), x = .ref l ∧ SqT K H1 l (ns.map V.int) ∧ ns.Nodup ∧ ns.length ≤ 4000 ∧ Q (.int (ns.length : Nat)) H1
theorem pe_lenSetT {a : Expr} {ta : TE} {p p2 q pos : Pos} (hg : Gl X "len") (hm : X.mg "len" = none) (hg2 : Gl X "set") (hm2 : X.mg "set" = none) (ha : PE X a ta) (hc : X.calm = true := by rfl)
    (na : starEach [a] X.env = (false, eval a X.env) :: starEach [] X.env := by rfl) : PE X (.Call (.Name "len" p) [.Call (.Name "set" p2) [a] [] q] [] pos) (tLenSetT X.K ta) := by
  refine ⟨fun pins s σ H Q I h => ?_⟩
  refine Call_ (ld_blt I hg hm boot_len ?_)
  refine PyProof.Rows.callWith_builtin1 (PyProof.Rows.args_cons ?_ rfl) rfl rfl
  refine Call_ (ld_blt I hg2 hm2 boot_set ?_)
  refine PyProof.Rows.callWith_type1 (PyProof.Rows.args_cons (thn (ha.run pins s σ H _ I h) fun v s1 ⟨x, H1, I1, r1, q1⟩ => PyProof.Rows.args_nil ?_) na) na rfl
  obtain ⟨l, ns, rfl, hq, hnd, hl, q1⟩ := q1
  cases r1
  obtain ⟨its, r, pl, hz⟩ := I1.tuple hq
  refine call_set_tupI ns (I1.ok.hd hc) (show s1.heap.IsTuple l its.toArray from pl) (by simpa using intsAre_of r) (by unfold scanBound; omega) fun h' tk c hS hcl hk => ?_
  refine PyProof.Rows.args_nil ?_
  obtain ⟨o, es, ep, t, ho, hex, hd, hge, hkn, hkm, hb, hf, hn, hr, hle⟩ := hS
  have hcn : c = ns.length := by
    have pm : (es.toList.map keyOf).Perm ns := (List.perm_ext_iff_of_nodup hkn hnd).mpr fun k => by
      rw [← hkm k]
      exact decide_eq_true_iff
    have e1 := pm.length_eq
    rw [List.length_map, Array.length_toList, hn] at e1
    exact e1
  have I2 : Inv X pins σ H1 { s1 with heap := h', toks := tk } := I1.kept hk
  exact call_len_set ho hex hd hf (by rw [hn]; omega) ⟨.int ns.length, H1, I2.tok _, ⟨_, by rw [hn, hcn]⟩, q1⟩

/-! ### len of a tracked set of ints -/
theorem call_lenS : CallR X (.builtin "len") (fun xs H Q => ∃ p S n, xs = [.ref p] ∧ H p = some (.set S n) ∧ n < 2 ^ 62 ∧ Q (.int (n : Nat)) H) := by
  intro pins s σ H xs us Q I r h
  obtain ⟨p, S, n, rfl, hp, hn, q⟩ := h
  obtain rfl := one_ref r
  obtain ⟨o, es, ep, t, ho, hex, hd, _, _, _, hf, hsz⟩ := I.hok p _ hp
  exact call_len_set ho hex hd hf (by omega) ⟨.int (n : Nat), H, I.tok _, ⟨_, by rw [hsz]⟩, q⟩

/-! ### {elt for target in iter}, elt an int -/
/-- k joins the tracked set at D -/
theorem addI_ok {pins : List (Addr × Obj)} {σ : L2.St} {H : Hp} {s : Shared} {E : Value → Shared → Prop} {D : Addr} {S : Int → Bool} {n : Nat} {k : Int} {tk : Tok} {Q : Value → Shared → Prop} (I : Inv X pins σ H s)
    (hD : H D = some (.set S n)) (room : n + 1 < scanBound) (h : ∀ s', Inv X pins σ (upd H D (.set (fun j => S j || decide (j = k)) (if S k = true then n else n + 1))) s' → Q .none s') :
    wpAny (model X.prog X.w) X.A (call (.builtin "set.add") [.ref D, .int k tk]) Q E s := by
  have R : s.heap.SetOf (intKind X.prog X.w) D S n := I.hok D _ hD
  refine call_set_add (knd := intKind X.prog X.w) (intKind_is X.prog X.w k tk) rfl R room fun h' sb new => ?_
  obtain ⟨o, _, _, _, ho, _⟩ := id new
  exact h _ (I.write (e := D) (t' := s.toks + 1) (by rw [hD]; trivial) (.inl rfl) (fun b u hb hu => (sb.2 b hb).trans hu) ⟨o, ho⟩ new)
/-- the reading: D the new set; W by the turn and a measure -/
def tScI (wi : TI) (g : TG) (te : TE) (vs : List Nat) : TE := fun σ H Q => wi σ H fun J H1 => ∀ D, H1 D = none → ∃ W : Nat → Nat → Hp → Prop, (∃ m, W 0 m (upd H1 D (.set (fun _ => false) 0))) ∧ ∀ i m H, W i m H →
  (J.stop i H ∧ Q (.ref D) H) ∨ (J.go i H ∧ ∃ Nx : Hp → Prop, (∀ H', Nx H' → ∃ m', m' < m ∧ W (i + 1) m' H') ∧ ∀ x H', J.yld i H x H' → g x (wipe σ vs) H' fun σ2 H2 => wipe σ2 vs = wipe σ vs ∧
    te σ2 H2 fun y H4 => ∃ (c : Int) (S : Int → Bool) (n : Nat), y = .int c ∧ H4 D = some (.set S n) ∧ n + 1 < scanBound ∧ Nx (upd H4 D (.set (fun j => S j || decide (j = c)) (if S c = true then n else n + 1))))
theorem pe_scI {elt tg iter : Expr} {scope : Scope} {own : List (PySem.Str × Nat)} {pos : Pos} {wi : TI} {g : TG} {te : TE} (hc : X.calm = true) (hN : X.N.Nodup) (hi : PI X tg iter wi) (ok : BlkOk X.N X.env.scope scope own)
    (hg : ∀ (s : Shared) (H : Hp) (C : Addr) (cl : List (PySem.Str × Addr)) (fp : List Addr), PG (X.blk s H scope (compEnvC scope cl C X.env) fp) tg g)
    (he : ∀ (s : Shared) (H : Hp) (C : Addr) (cl : List (PySem.Str × Addr)) (fp : List Addr), PE (X.blk s H scope (compEnvC scope cl C X.env) fp) elt te) (hs : ∀ x, foldedSetIterable iter X.env x = pure x := by intro _; rfl) :
    PE X (.SetComp elt [⟨tg, iter, [], 0⟩] scope pos) (tScI wi g te (own.map (·.2))) := by
  refine ⟨fun pins s σ H Q I h => ?_⟩
  rw [PpSet.eval_SetComp]
  have hfree : ∀ y ∈ scope.names, y.2 = .free → ∃ c, X.env.cells.lookup y.1 = some c := fun y hy e => (ok.free y hy e).elim (fun k => I.ok.has _ (.inl k)) fun k => I.ok.has _ (.inr k)
  refine wpAny_comprehension_free (use := none) rfl hs (closure_ok hfree) ok.kind (fun y hy e => by rw [ok.uniq y hy, e]) (thn (hi.run pins s σ H _ I h) fun xv s1 hx => thn hx fun itv s2 h2 => ?_)
  obtain ⟨it, fp, tn, J, H2, rfl, I2, T, st2, f2, q⟩ := h2
  refine PpSet.newSet_ok (newEnv_comp ?_)
  generalize hD : s2.heap.objs.size = D
  have new2 : H2 D = none := I2.hok.fresh (Nat.le_of_eq hD)
  obtain ⟨W, ⟨m0, w0⟩, turn⟩ := q D new2
  -- the empty set stands at D, tracked
  generalize hs3 : ({ s2 with heap := s2.heap.push { cls := .type "set", dict := none, data := .set #[] 0 (.fresh 0 0 (!X.w.params.followText "set-order")) } } : Shared) = s3
  have h3 : s3.heap = s2.heap.push { cls := .type "set", dict := none, data := .set #[] 0 (.fresh 0 0 (!X.w.params.followText "set-order")) } := by rw [← hs3]
  have old3 : ∀ b o, s2.heap.get? b = some o → s3.heap.get? b = some o := fun b o e => by rw [h3]; exact Heap.get?_push_of_some _ e
  generalize hH3 : upd H2 D (.set (fun _ => false) 0) = H3 at w0
  have I3 : Inv X pins σ H3 s3 := by
    rw [← hH3, ← hs3]
    refine I2.laid (t' := s2.toks) (fun b o e => Heap.get?_push_of_some _ e) (Nat.le_of_eq hD) ?_
    rw [← hD]
    exact (setR_fresh X.w).setOf
  have at3 : ∀ b ∈ fp, FpOk X pins H3 b ∧ b < s3.heap.objs.size := fun b hb => by
    obtain ⟨o, e, _⟩ := T.obj _ _ st2 b hb
    have hlt := Heap.lt_size e
    refine ⟨⟨?_, (f2 b hb).2⟩, by rw [h3, Heap.size_push]; exact Nat.lt_succ_of_lt hlt⟩
    rw [← hH3, upd_ne (by rw [← hD]; exact Nat.ne_of_lt hlt)]
    exact (f2 b hb).1
  have st3 : tn 0 s3.heap := T.keep _ _ _ st2 fun b _ o e => old3 b o e
  have I4 := block_start I3 ok hN at3
  -- the block's own environment
  generalize hcl : cellsFrom (s3.heap.objs.size + 1) scope.names (cloFrom X.env.cells scope.names []) = cl at I4
  have pg := hg s3 H3 s3.heap.objs.size cl fp
  have pe := he s3 H3 s3.heap.objs.size cl fp
  generalize hce : compEnvC scope cl s3.heap.objs.size X.env = ce at I4 pg pe
  have cL : ce.locals = s3.heap.objs.size := by rw [← hce]; rfl
  generalize hs4 : ({ s3 with heap := pushCells (s3.heap.push { cls := .type "dict", data := .dict #[] }) scope.names } : Shared) = s4 at I4
  have st4 : tn 0 s4.heap := T.keep _ _ _ st3 fun b _ o e => by rw [← hs4]; exact pushCells_keeps _ _ _ _ (Heap.get?_push_of_some _ e)
  have own_fp : ∀ {σ' : L2.St} {H' : Hp} {s' : Shared}, Inv (X.blk s3 H3 scope ce fp) [] σ' H' s' → (∀ b ∈ fp, H' b = none) → ∀ b ∈ fp, FpOk (X.blk s3 H3 scope ce fp) [] H' b := fun {σ' H' s'} J' hn b hb =>
    ⟨hn b hb, (J'.ok.exf b hb).1, J'.ok.exfs b hb, .inl hb, fun x c e => (J'.ok.exf b hb).2 x c e, fun p hp => absurd (show p ∈ ([] : List (Addr × Obj)) ++ [] from hp) (by simp)⟩
  generalize hpost : compPost (model X.prog X.w) X.A X.xe none (fun v s' => EP X pins σ Q v s') (.ref D) s3.heap.objs.size = post
  have loop : codeAny (model X.prog X.w) X.A (.compLoop (.SetComp elt [⟨tg, iter, [], 0⟩] scope pos) 0 (.ref it) (.ref D) ce) post s4 := by
    refine PpSet.compLoopS_any (fun n s' => ∃ i H', Inv (X.blk s3 H3 scope ce fp) [] (wipe σ (own.map (·.2))) H' s' ∧ tn i s'.heap ∧ (∀ b ∈ fp, H' b = none) ∧ W i n H') ?_ m0 ⟨0, H3, I4, st4, fun b hb => (at3 b hb).1.1, w0⟩
    rintro n s5 ⟨i, H5, I5, st5, n5, w5⟩
    rcases turn i n H5 w5 with ⟨stop, qq⟩ | ⟨go, Nx, hNx, step⟩
    · refine thnF (T.done (X.blk s3 H3 scope ce fp) rfl rfl rfl hc i [] s5 _ H5 (fun _ _ => False) I5 (own_fp I5 n5) st5 stop) fun r s6 ⟨hr, I6⟩ => ?_
      subst hr
      have I7 : Inv X pins σ H5 s6 := I3.call' (ch := fp) I6.os I6.base I6.hok I6.bare fun b hb => ⟨(at3 b hb).1.2.2.2.1, (at3 b hb).1.2.1, (at3 b hb).1.2.2.2.2.1, (at3 b hb).1.2.2.2.2.2⟩
      have nC : H5 s3.heap.objs.size = none := by
        have z : H5 ce.locals = none := I6.free
        rwa [cL] at z
      obtain ⟨m, hn, _⟩ := I6.loc
      have hn' : s6.heap.Ns s3.heap.objs.size m := by
        have z : s6.heap.Ns ce.locals m := hn
        rwa [cL] at z
      obtain ⟨f0, f1, f2', f3, f4, f5⟩ := I3.fpOk (Nat.le_refl _) nC
      rw [← hpost]
      exact ⟨m, hn', fun h'' sb => ⟨.ref D, H5, I7.turned (t' := s6.toks) (fun b o hb e => (sb.2 b hb).trans e) f0 f1 f3 f4 f5, rfl, qq⟩⟩
    · refine thnF (T.item (X.blk s3 H3 scope ce fp) rfl rfl rfl hc i [] s5 _ H5 (fun _ _ => False) I5 (own_fp I5 n5) st5 go) fun r s6 ⟨u, hr, h6⟩ => ?_
      subst hr
      refine thnF h6 fun _ s7 ⟨x, H7, I7, r7, y7, st7, n7⟩ => ?_
      refine thnF (pg.run _ s7 _ H7 x u _ (I7.pinned (own_fp I7 n7) (T.obj _ _ st7)) r7 (step x H7 y7)) fun _ s8 ⟨σ8, H8, I8, hw8, q8⟩ => ?_
      refine wpAny_tests_nil ?_
      simp only [if_true]
      refine thnF (pe.run _ s8 σ8 H8 _ I8 q8) fun z s10 ⟨yv, H10, I10, r10, k, S0, n0, ey, hD10, hz10, nx⟩ => ?_
      subst ey
      obtain ⟨tk, rfl⟩ := r10
      refine addI_ok (X := X.blk s3 H3 scope ce fp) I10 hD10 hz10 fun s' I' => ?_
      obtain ⟨m', hm, w'⟩ := hNx _ nx
      have keep' : ∀ b ∈ fp, ∀ o, s7.heap.get? b = some o → s'.heap.get? b = some o ∧ _ = none := fun b hb o e =>
        let y := I'.pin (b, o) (List.mem_append_right _ (List.mem_append_right _ (mem_pinsAt hb e)))
        ⟨y.1, y.2.1⟩
      refine ⟨m', hm, i + 1, _, (I'.unpinned (pins := [])).weak (by rw [← hw8, wipe_length]) (fun j v e => ?_), T.keep _ _ _ st7 fun b hb o e => (keep' b hb o e).1, fun b hb => ?_, w'⟩
      · rw [← hw8] at e
        exact (wipe_some e).1
      · obtain ⟨o, e, _⟩ := T.obj _ _ st7 b hb
        exact (keep' b hb o e).2
  rw [← hpost] at loop
  have fin := PpSet.codeAny_compStart_set loop (T.self X.A 0 _ _ _ st4 loop)
  subst hs4
  subst hcl
  subst hce
  exact fin
end
end K48

set_option Elab.async false
set_option maxRecDepth 100000
set_option maxHeartbeats 4000000
/-! max(xs, key=lambda a: ..) over a list. -/
namespace K48
open PySem PySem.Spec PyProof.Rows L2
section
variable {X : Cx} {pins : List (Addr × Obj)} {σ : L2.St} {H : Hp} {s s' : Shared}
theorem notStk (I : Inv X pins σ H s) {b : Addr} (hb : s.heap.objs.size ≤ b) : b ∉ frs X.stack := fun z => by
  rcases List.mem_cons.mp (I.stkSub _ z) with e | e
  · have h1 := I.lt
    rw [← e] at h1
    exact Nat.lt_irrefl _ (Nat.lt_of_lt_of_le h1 hb)
  · exact I.nofs hb e
/-- records of ours have turned, all else stands -/
theorem inv_moved {wr : List Addr} (I : Inv X pins σ H s) (hf : ∀ b ∈ wr, FpOk X pins H b) (hm : Moved wr (fun a b => b = a) s s') : Inv X pins σ H s' := by
  obtain ⟨h', g', d', t', o'⟩ := s'
  obtain ⟨m1, m2, m3, m4, m5⟩ := hm
  have e4 : o' = s.os := m4
  subst e4
  have e2 : g' = s.gens := m2
  have m1' : ∀ b o, b ∉ wr → s.heap.get? b = some o → h'.get? b = some o := m1
  have nw : ∀ b u, H b = some u → b ∉ wr := fun b u e z => by
    have q := (hf b z).1
    rw [e] at q
    cases q
  refine I.step (g' := g') (d' := d') (ch := wr) (fun b hb => ⟨(hf b hb).2.2.2.1, (hf b hb).2.1, (hf b hb).2.2.2.2.1, (hf b hb).2.2.2.2.2⟩) (fun b o _ _ hc e _ => m1' b o hc e) (fun b o _ _ hc e _ => ⟨o.slots, m1' b o hc e⟩) (fun _ _ _ _ n => n)
    (fun b o hc e => ⟨o, m1' b o hc e⟩) (fun _ _ e => e) (fun _ _ _ e => e) (fun b ps e => ⟨#[], by rw [e]; simp⟩) (fun m hn => ?_) (fun b u e => ?_) (by rw [e2]; exact I.bare)
  · obtain ⟨o, es, ep, ho, r⟩ := hn
    exact ⟨o, es, ep, m1' _ o (fun z => (hf _ z).2.1 rfl) ho, r⟩
  · refine (I.hok b u e).stay (fun c v hc q => m1' c v ?_ q) (fun _ q => q) fun _ _ q => q
    rcases hc with z | z
    · rw [z]; exact nw b u e
    · exact nw c _ z
end
/-! ### a lambda without captured names, called -/
section
variable {P : Program} {w : World} {K : PySem.W.Frag} {mg : PySem.Str → Option Value} {base : Heap} {A : Around} {outer : List Env} {s : Shared} {H : Hp}
theorem run_lam {k : Nat} {f c' : Addr} {qual : PySem.Str} {params : Arguments} {body : Expr} {scope : Scope} {pm ctv : Value} {N ps : List PySem.Str} {us : List Value} {vs : List V} {Q : VK} {t : TE}
    (of : s.heap.get? f = some (PySem.W.kla_obj "<lambda>" qual params body scope [] pm c' ctv)) (hc : s.heap.CodeRec (.ref c') qual) (S : FnScope N ps scope) (hr : Room (k + 1) A) (e0 : Env0 P w K mg base A outer s H)
    (hb : bindArgs (PySem.W.kla_fn "<lambda>" qual params body scope [] pm (.ref c') ctv) ⟨us, []⟩ = pure (ps.zip us)) (r : Vals vs us) (hl : vs.length = ps.length)
    (hbody : PE (cxOf CX0 P w K mg base N qual scope f (.ref c') A outer s H E0).nox body t) (hq : t (L2.start N vs) H Q) :
    codeAny (model P w) A (.call (.ref f) ⟨us, []⟩) (CR CX0 outer P w H s Q E0) s := by
  have lim : s.heap.NoLimit := e0.mod.nolimit.keeps fun b o e => (e0.bs b o e).1
  have hkind : ∀ y ∈ ps.zip us, scope.names.lookup y.1 = some .local ∨ (scope.names.lookup y.1 = some .cell ∧ ((cellsFrom (s.heap.objs.size + 1) scope.names []).lookup y.1).isSome = true) := fun ⟨n, v⟩ hy =>
    (S.par n (List.of_mem_zip hy).1).elim .inl fun q => .inr ⟨q, PySem.W.cellsFrom_some _ _ _ (.inl q)⟩
  refine PySem.W.kla_callFunE hr.depth of rfl S.co S.gen rfl hc ?_
  rw [hb]
  refine wpAny_pure (wpAny_newFunctionEnv_cells S.kind hkind fun env he s1 x => ?_)
  subst he
  refine ⟨lim.keeps x.toInCall.keep, ?_⟩
  have I : Inv (cxOf CX0 P w K mg base N qual scope f (.ref c') A outer s H E0) [] (L2.start N vs) H s1 := inv_start S hr.hd e0 hl r x
  refine PySem.W.kla_codeExpr (wpAny_mono (hbody.nox.run [] s1 (L2.start N vs) H Q I hq) (fun v s' hs => ?_) fun e s' hs => hs)
  obtain ⟨v', H', J, rv, q⟩ := hs
  exact ⟨v', H', J.os, J.bare, J.base, J.hok, rv, q⟩
end

theorem arg_amax {bt : Nat → Nat → Bool} {f : Nat → Nat} (h : ∀ i j, bt i j = decide (f i > f j)) : ∀ j, argBest bt j = amax f j
  | 0 => rfl
  | j + 1 => by
    have ih := arg_amax h j
    show (if bt (j + 1) (argBest bt j) = true then j + 1 else argBest bt j) = if f (j + 1) > f (amax f j) then j + 1 else amax f j
    rw [ih, h]
    by_cases c : f (j + 1) > f (amax f j)
    · rw [if_pos c, if_pos (decide_eq_true c)]
    · rw [if_neg c, if_neg (by rw [decide_eq_false c]; exact Bool.false_ne_true)]
theorem refs_of : ∀ {ts : List Addr} {us : List Value}, Vals (ts.map V.ref) us → us = ts.map Value.ref
  | [], _, .nil => rfl
  | t :: ts, _, .cons r h => by
    have e := refs_of h
    rw [List.map_cons, e]
    exact congrArg (· :: _) r

/-- the reading: the list's places have keys f i; the first of the greatest is handed back -/
def tMaxKey (K : PySem.W.Frag) (T : List (Addr × PySem.Str)) (ta t : TE) : TE := fun σ H Q => ta σ H fun x H1 => LamX.Tabs T H1 ∧ ∀ H2, LamX.ExtN H1 H2 → LamX.Tabs T H2 →
  ∃ (l : Addr) (ts : List Addr) (f : Nat → Nat), x = .ref l ∧ SqL K H2 l (ts.map V.ref) ∧ 0 < ts.length ∧ (∀ (i : Nat) (z : Addr), ts[i]? = some z → ∀ Q' : VK, Q' (.int (f i)) H2 → t [some (.ref z)] H2 Q') ∧ Q (.ref (ts.getD (amax f (ts.length - 1)) 0)) H2
section
variable {X : Cx}
theorem pe_maxKey {T : List (Addr × PySem.Str)} {c P : Addr} {k : Nat} {e : Expr} {ta t : TE} {a : PySem.Str} {params : Arguments} {body : Expr} {scope : Scope} {lpos p pos kpos : Pos}
    (hg : Gl X "max") (hm : X.mg "max" = none) (ha : PE X e ta) (TB : LamX.TabB X.base X.mg c P) (hcode : X.env.code = .ref c) (hmT : (P, X.env.qual ++ "<lambda>") ∈ T) (hu : ∀ p ∈ T, p.1 = P → p.2 = X.env.qual ++ "<lambda>") (hr : Room (k + 2) X.A)
    (S : FnScope [a] [a] scope) (hcl : cloFrom X.env.cells scope.names [] = []) (hdef : defaultsOf params X.env = ([], []))
    (hbind : ∀ (q : PySem.Str) (pm cv ctv u : Value), bindArgs (PySem.W.kla_fn "<lambda>" q params body scope [] pm cv ctv) ⟨[u], []⟩ = pure [(a, u)])
    (hbody : ∀ (f c' : Addr) (A : Around) (outer : List Env) (s : Shared) (H : Hp), PE (cxOf CX0 X.prog X.w X.K X.mg X.base [a] (X.env.qual ++ "<lambda>") scope f (.ref c') A outer s H E0).nox body t)
    (he : backTo pos (starEach [e] X.env) = (false, eval e X.env) :: backTo pos (starEach [] X.env) := by rfl) (hpl : (backTo pos (starEach [e] X.env)).any (·.1) = false := by rfl)
    (ha1 : starEach [e] X.env = (false, eval e X.env) :: starEach [] X.env := by rfl) :
    PE X (.Call (.Name "max" p) [e] [⟨some "key", .Lambda params body scope lpos, kpos⟩] pos) (tMaxKey X.K T ta t) := by
  refine ⟨fun pins s σ H Q I h => ?_⟩
  refine wpAny_Call_Name_kw (ld_blt I hg hm (by decide +kernel : bootBuiltins "max" = some (.builtin "max")) ?_)
  have hpa : PA X [e] (tCons ta tNil) := pa_cons ha pa_nil ha1
  refine PyProof.Rows.callWith_kw (thn (hpa.run pos pins s σ H (fun vs H1 => match vs with
    | [x] => LamX.Tabs T H1 ∧ ∀ H2, LamX.ExtN H1 H2 → LamX.Tabs T H2 → ∃ (l : Addr) (ts : List Addr) (f : Nat → Nat), x = .ref l ∧ SqL X.K H2 l (ts.map V.ref) ∧ 0 < ts.length ∧
        (∀ (i : Nat) (z : Addr), ts[i]? = some z → ∀ Q' : VK, Q' (.int (f i)) H2 → t [some (.ref z)] H2 Q') ∧ Q (.ref (ts.getD (amax f (ts.length - 1)) 0)) H2
    | _ => False) I h) fun us s1 ⟨vs, H1, I1, r1, q1⟩ => ?_) he hpl rfl rfl
  match vs, r1, q1 with
  | [x], r1, ⟨hT, q1⟩ =>
  -- the lambda is made
  show wpAny _ _ (evalAll [do let v ← eval (.Lambda params body scope lpos) X.env; standAt pos; pure v]) _ _ s1
  have hfree : ∀ y ∈ scope.names, y.2 = .free → ∃ c, X.env.cells.lookup y.1 = some c := fun y hy e => absurd e (S.nofree y hy)
  refine wpAny_evalAll_cons (wpAny_bind (LamX.lam_make2 I1 TB hcode hmT hu hT hdef hfree fun f c' pm ctv H2 s2 I2 hE T2 hof hfn hfr hco => wpAny_bind (wpAny_standAt (wpAny_pure ?_))))
  refine wpAny_evalAll_nil ?_
  obtain ⟨l, ts, fc, rfl, hS, hpos, hkey, q⟩ := q1 H2 hE T2
  obtain rfl := one_ref r1
  rw [hcl] at hof
  show wpAny _ _ (call (.builtin "max") [.ref l] [(Str.ofString "key", .ref f)]) _ _ s2
  obtain ⟨its, rv, pl, hz⟩ := I2.list hS
  have eits := refs_of rv
  subst eits
  have hcr : ∀ {s' : Shared}, Inv X pins σ H2 s' → s'.heap.CodeRec (.ref c') (X.env.qual ++ "<lambda>") := fun {s'} I' => by
    obtain ⟨⟨oc, vs, t, a1, a2, a3⟩, _⟩ := I'.hok c' _ hco
    exact ⟨c', oc, vs, t, rfl, a1, a2, a3⟩
  refine call_max_walkK (wpAny_pyIter_list pl.isList ?_)
  have hltl : l < s2.heap.objs.size := by
    obtain ⟨o, n, e, _⟩ := pl
    exact Heap.lt_size e
  -- the iterator stands at the heap's end, the list of max behind it
  generalize hI0 : s2.heap.objs.size = I0 at hltl
  -- what stays: the lambda's own object is pinned
  have fobj : ∀ p ∈ pins ++ [(f, PySem.W.kla_obj "<lambda>" (X.env.qual ++ "<lambda>") params body scope [] pm c' ctv)],
      s2.heap.get? p.1 = some p.2 ∧ H2 p.1 = none ∧ p.1 ≠ X.env.locals ∧ p.1 ∉ X.fs ∧ ∀ v, p.2.data ≠ .cell v := fun p hp => by
    rcases List.mem_append.mp hp with z | z
    · exact I2.pin p (List.mem_append_right _ z)
    · rw [List.mem_singleton.mp z]
      refine ⟨hof, hfn, fun z => ?_, fun z => hfr ?_, fun v z => nomatch z⟩
      · obtain ⟨m, ⟨o, es, ep, ho, hd, _⟩, _⟩ := I2.loc
        rw [← z, hof] at ho
        cases ho
        cases hd
      · rcases I2.ok.stk with e | ⟨e, hf⟩
        · rw [e]; exact z
        · rw [e]
          unfold frs
          rw [List.filterMap_cons, hf]
          exact List.mem_cons_of_mem _ z
  have I2p : Inv X (pins ++ [(f, PySem.W.kla_obj "<lambda>" (X.env.qual ++ "<lambda>") params body scope [] pm c' ctv)]) σ H2 s2 := I2.pins_of fobj
  generalize hpins : pins ++ [(f, PySem.W.kla_obj "<lambda>" (X.env.qual ++ "<lambda>") params body scope [] pm c' ctv)] = pins' at I2p
  have hpf : (f, PySem.W.kla_obj "<lambda>" (X.env.qual ++ "<lambda>") params body scope [] pm c' ctv) ∈ pins' := by rw [← hpins]; simp
  have hps : ∀ p ∈ pins, p ∈ pins' := fun p hp => by rw [← hpins]; exact List.mem_append_left _ hp
  have hS1 : (s2.heap.push ({ cls := .type "list_iterator", data := .fields #[.ref l, .int 0 0] } : Obj)).objs.size = I0 + 1 := by rw [Heap.size_push, hI0]
  have nI : H2 I0 = none := I2.hok.fresh (Nat.le_of_eq hI0)
  have nS : H2 (I0 + 1) = none := I2.hok.fresh (by rw [hI0]; exact Nat.le_succ _)
  have fp : ∀ b ∈ [I0 + 1, I0], FpOk X pins' H2 b := fun b hb => by
    rcases List.mem_cons.mp hb with z | z
    · subst z; exact I2p.fpOk (by rw [hI0]; exact Nat.le_succ _) nS
    · have e : b = I0 := by simpa using z
      subst e
      exact I2p.fpOk (Nat.le_of_eq hI0) nI
  have fr0 : I0 ∉ frs X.stack := notStk I2 (Nat.le_of_eq hI0)
  have fr1 : I0 + 1 ∉ frs X.stack := notStk I2 (by rw [hI0]; exact Nat.le_succ _)
  have hlen : (ts.map Value.ref).toArray.size = ts.length := by simp
  have sameL : ∀ {s' : Shared}, Inv X pins' σ H2 s' → s'.heap.IsList l (ts.map Value.ref).toArray := fun {s'} I' => by
    obtain ⟨its, rv', pl', _⟩ := I'.list hS
    rw [refs_of rv'] at pl'
    exact pl'.isList
  have W := (Walks.list (prog := X.prog) (w := X.w) (A := X.A.in1) hr.hd I0 l (Nat.ne_of_lt hltl) (ts.map Value.ref).toArray).toS
  rw [hS1]
  refine ⟨I0, [I0, l], [I0], _, _, _, _, fun s' => Inv X pins' σ H2 s', fun i v _ => ∃ t, v = .int (fc i : Int) t, fun i j => decide ((fc i : Int) > fc j), rfl, W, ⟨?_, ?_⟩, fun b hb => ?_, by rw [hlen]; exact hpos,
    ⟨fun s' s'' hJ hmv => inv_moved hJ fp hmv, fun i k s' s'' hv _ => hv, fun i v s' o Q' E' hi hP hJ hst hSo hcont => ?_, fun i j ki kj s' Q' E' hJ ⟨t1, e1⟩ ⟨t2, e2⟩ hq => ?_⟩, ?_, fun v s' hP hJ => ?_⟩
  · exact ⟨{ cls := .type "list_iterator", data := .fields #[.ref l, .int 0 0] }, by rw [← hI0]; exact Heap.get?_push_size _ rfl, rfl, rfl⟩
  · obtain ⟨o, e, c1, n, d1⟩ := pl.isList
    exact ⟨o, Heap.get?_push_of_some _ e, c1, n, d1⟩
  · show b < I0 + 1
    rcases List.mem_cons.mp hb with z | z
    · rw [z]; exact Nat.lt_succ_self I0
    · have e : b = l := by simpa using z
      rw [e]; exact Nat.lt_succ_of_lt hltl
  · -- the lambda at one item
    have hz : ∃ z, ts[i]? = some z ∧ v = .ref z := by
      have hP' : (ts.map Value.ref).toArray[i]? = some v := hP
      rw [List.getElem?_toArray, List.getElem?_map] at hP'
      cases e : ts[i]? with
      | none => rw [e] at hP'; cases hP'
      | some z => rw [e] at hP'; cases hP'; exact ⟨z, rfl, rfl⟩
    obtain ⟨z, hz, rfl⟩ := hz
    have hof' : s'.heap.get? f = _ := (hJ.pin _ (List.mem_append_right _ hpf)).1
    have hcr' : s'.heap.CodeRec (.ref c') (X.env.qual ++ "<lambda>") := by
      obtain ⟨⟨oc, vs, t, a1, a2, a3⟩, _⟩ := hJ.hok c' _ hco
      exact ⟨c', oc, vs, t, rfl, a1, a2, a3⟩
    refine wpAny_call (codeAny_mono (run_lam (k := k) (N := [a]) (ps := [a]) (vs := [.ref z]) (Q := fun v H' => v = .int (fc i : Int) ∧ H' = H2) hof' hcr' S hr.in1 hJ.env0.in1 (hbind _ _ _ _ _) (.cons rfl .nil) rfl
      (hbody f c' X.A.in1 X.stack s' H2) (hkey i z hz _ ⟨rfl, rfl⟩)) fun r s'' hq => ?_)
    cases r with
    | error e => exact False.elim hq
    | ok fl =>
      cases fl with
      | ret u =>
        obtain ⟨v', H', os, bare, un, hok, rv', hv', hH⟩ := id hq
        subst hH
        subst hv'
        have J' : Inv X pins' σ H' s'' := by
          obtain ⟨v2, H2', I', rv2, q2⟩ := hJ.after hq
          rw [q2.2] at I'
          exact I'
        refine hcont u s'' J' ⟨hst.1.at fun o e => un.keep I0 o e nI fr0 (by simp), sameL J'⟩ (un.keep _ o hSo nS fr1 (by simp)) rv' fun _ _ h => h
      | next => exact False.elim hq
      | brk => exact False.elim hq
      | cont => exact False.elim hq
  · subst e1 e2
    exact CmpOf.ints_gt (prog := X.prog) (w := X.w) (A := X.A.in1) (P := fun i v => ∃ t, v = .int (fc i : Int) t) (fun i => (fc i : Int)) (fun i v h => h) i j _ _ _ _ _ ⟨t1, rfl⟩ ⟨t2, rfl⟩ hq
  · exact I2p.kept (t' := s2.toks) fun b o e => Heap.get?_push_of_some _ e
  · rw [hlen, arg_amax (f := fc) (fun i j => by simp)] at hP
    have hlt : amax fc (ts.length - 1) < ts.length := by
      have := amax_le fc (ts.length - 1)
      omega
    have hP' : (ts.map Value.ref).toArray[amax fc (ts.length - 1)]? = some v := hP
    rw [List.getElem?_toArray, List.getElem?_map, List.getElem?_eq_getElem hlt] at hP'
    have e1 : v = .ref ts[amax fc (ts.length - 1)] := (Option.some.inj hP').symm
    subst e1
    refine ⟨_, H2, hJ.pins_of fun p hp => hJ.pin p (List.mem_append_right _ (hps p hp)), ?_, q⟩
    rw [List.getD_eq_getElem?_getD, List.getElem?_eq_getElem hlt]
    rfl
  | [], _, q1 => exact q1.elim
  | _ :: _ :: _, _, q1 => exact q1.elim
end
end K48

set_option Elab.async false
set_option maxRecDepth 100000
set_option maxHeartbeats 4000000
set_option linter.all false
/-! The text by places; lists and tuples under one word; loops over either; index of either. -/
namespace K48
open PySem PySem.Spec PyProof.Rows L2
def top (i : Nat) : Stmt := PySem.Challenge.pw_backmaps_k48_whole_rounds_by_all_runs.main.body.getD i (.Pass ⟨0, 0, 0, 0⟩)
abbrev sIsInt : Stmt := top 4
abbrev sDiff : Stmt := top 5
abbrev sTriple : Stmt := top 7
abbrev sNeedT : Stmt := top 8
abbrev sNeedN : Stmt := top 9
abbrev sAg : Stmt := top 10
abbrev sAgainst : Stmt := top 11
abbrev sBest : Stmt := top 12
abbrev sRounds : Stmt := top 13
abbrev sBegun : Stmt := top 15
abbrev sDraw : Stmt := top 16
abbrev sShuf : Stmt := top 18
abbrev sAreas : Stmt := top 19
abbrev sTriples : Stmt := top 20
abbrev sSome : Stmt := top 21
abbrev sOn : Stmt := top 22
abbrev sRound : Stmt := top 23
abbrev sNeeded : Stmt := top 24
abbrev sTurned : Stmt := top 25
abbrev sWay : Stmt := top 26
abbrev sLaw : Stmt := top 27

/-! ### a list or a tuple -/
/-- a tuple without a dict of its own -/
def Tz (H : Hp) (a : Addr) (xs : List V) : Prop := ∃ o : Obj, o.dict = none ∧ H a = some (.frz o (.tup xs))
def Sq (H : Hp) (a : Addr) (xs : List V) : Prop := H a = some (.lst xs) ∨ Tz H a xs
theorem Tz.seqT {K : PySem.W.Frag} {H : Hp} {a : Addr} {xs : List V} (h : Tz H a xs) : SqT K H a xs := by
  obtain ⟨o, _, e⟩ := h
  exact .inl (.inr ⟨o, e⟩)
theorem Sq.both {K : PySem.W.Frag} {H : Hp} {a : Addr} {xs : List V} (h : Sq H a xs) : SqL K H a xs ∨ SqT K H a xs := h.imp SqL.of Tz.seqT
theorem Tz.same {H H' : Hp} {a : Addr} {xs : List V} (e : Same H H') (h : Tz H a xs) : Tz H' a xs := by
  obtain ⟨o, d, q⟩ := h
  exact ⟨o, d, e _ _ q⟩
theorem Sq.same {H H' : Hp} {a : Addr} {xs : List V} (e : Same H H') (h : Sq H a xs) : Sq H' a xs := h.imp (e _ _) (Tz.same e)
theorem same_new {H : Hp} {p : Addr} (h : H p = none) (o : HO) : Same H (upd H p o) := fun b u q => by rw [upd_ne (ne_of_none q h)]; exact q
theorem same_upd {H H' : Hp} {p : Addr} (e : Same H H') (h : H p = none) (o : HO) : Same H (upd H' p o) := fun b u q => by rw [upd_ne (ne_of_none q h)]; exact e _ _ q
theorem ext_of {H H' : Hp} (e : Same H H') : LamX.ExtN H H' := fun b o h _ => e b o h
theorem Sq.ext {H H' : Hp} {a : Addr} {xs : List V} (e : LamX.ExtN H H') (h : Sq H a xs) : Sq H' a xs := by
  rcases h with h | ⟨o, d, q⟩
  · exact .inl (e _ _ h fun ps z => nomatch z)
  · exact .inr ⟨o, d, e _ _ q fun ps z => nomatch z⟩

/-- what a loop may walk: a list, a tuple of either kind -/
def Sw (H : Hp) (a : Addr) (xs : List V) : Prop := H a = some (.lst xs) ∨ Rd H a (.tup xs)
theorem Sq.sw {H : Hp} {a : Addr} {xs : List V} (h : Sq H a xs) : Sw H a xs := h.imp id fun ⟨o, _, e⟩ => .inr ⟨o, e⟩
theorem Sw.same {H H' : Hp} {a : Addr} {xs : List V} (e : Same H H') (h : Sw H a xs) : Sw H' a xs := h.imp (e _ _) fun h => h.imp (e _ _) fun ⟨o, q⟩ => ⟨o, e _ _ q⟩

/-! ### loops and comprehensions over the value of a name -/
/-- a reading that may be weakened at its end -/
def tM (te : TE) : TE := fun σ H Q => ∃ Q0, te σ H Q0 ∧ ∀ v H', Q0 v H' → Q v H'
theorem pe_mono {X : Cx} {e : Expr} {te : TE} (h : PE X e te) : PE X e (tM te) := ⟨fun pins s σ H Q I ⟨Q0, q, w⟩ => thn (h.run pins s σ H Q0 I q) fun v s' ⟨x, H', I', r, q'⟩ => ⟨x, H', I', r, w _ _ q'⟩⟩
def tMT (tt : TT) : TT := fun σ H Q => ∃ Q0, tt σ H Q0 ∧ ∀ b H', Q0 b H' → Q b H'
theorem pts_mono {X : Cx} {c : Expr} {tt : TT} (h : PT X c tt) : PTs X [c] (tMT tt) := pts_one ⟨fun pins s σ H Q I ⟨Q0, q, w⟩ => thn (h.run pins s σ H Q0 I q) fun b s' ⟨H', I', q'⟩ => ⟨H', I', w _ _ q'⟩⟩
section
variable {K : PySem.W.Frag} {i : Nat} {a : Addr} {xs : List V} {σ : L2.St} {H : Hp}
def iVar (K : PySem.W.Frag) (i : Nat) : TI := fun σ H R => iList K (tVar i) σ H R ∨ iTup K (tVar i) σ H R
theorem pi_var {X : Cx} {tg : Expr} (i : Nat) {x : PySem.Str} {pos : Pos} (hN : X.N[i]? = some x := by rfl) (hv : Vis X.env.scope x := by first | exact Or.inl rfl | exact Or.inr (Or.inl rfl) | exact Or.inr (Or.inr rfl)) (hd : (x == ("__debug__" : PySem.Str)) = false := by decide)
    (hcd : (x == ("__classdict__" : PySem.Str)) = false := by decide) : PI X tg (.Name x pos) (iVar X.K i) := pi_or (pi_list (pv i hN hv hd hcd)) (pi_tup (pv i hN hv hd hcd))
theorem Sw.cases {P : Prop} (h : Sw H a xs) (h1 : (∀ H', Same H H' → SqL K H' a xs) → P) (h2 : (∀ H', Same H H' → SqT K H' a xs) → P) : P := by
  rcases h with h | h | ⟨o, h⟩
  · exact h1 fun H' e => SqL.of (e _ _ h)
  · exact h2 fun H' e => SqT.of (e _ _ h)
  · exact h2 fun H' e => .inl (.inr ⟨o, e _ _ h⟩)
theorem for_var {g : TG} {tb : TS} {D : Ends} (hv : σ[i]? = some (some (.ref a))) (hs : Sw H a xs) (Pv : Nat → L2.St → Hp → Prop) (h0 : Pv 0 σ H) (hk : ∀ n σ' H', Pv n σ' H' → Same H H')
    (ht : ∀ n x σ' H', xs[n]? = some x → Pv n σ' H' → g x σ' H' fun σ2 H2 => tb { D with nx := Pv (n + 1), ct := Pv (n + 1), bk := D.nx } σ2 H2) (hd : ∀ σ' H', Pv xs.length σ' H' → D.nx σ' H') : tFor (iVar K i) g tb D σ H :=
  Sw.cases (K := K) hs (fun q => .inl ⟨_, hv, a, rfl, ⟨xs, q H (Same.refl H)⟩, for_list (K := K) (a := a) (xs := xs) Pv h0 (fun n σ' H' _ p => q _ (hk n σ' H' p)) ht hd⟩)
    fun q => .inr ⟨_, hv, a, rfl, ⟨xs, q H (Same.refl H)⟩, for_tup (K := K) (a := a) (xs := xs) Pv h0 (fun n σ' H' _ p => q _ (hk n σ' H' p)) ht hd⟩
theorem lc_var {g : TG} {tt : TT} {te : TE} {vs : List Nat} {Q : VK} (hv : σ[i]? = some (some (.ref a))) (hs : Sw H a xs) (Pv : Addr → Nat → Hp → Prop) (h0 : ∀ D, H D = none → Pv D 0 (upd H D (.lst []))) (hk : ∀ D n H', H D = none → Pv D n H' → Same H H')
    (ht : ∀ D n x H', H D = none → xs[n]? = some x → Pv D n H' → g x (wipe σ vs) H' fun σ2 H2 => wipe σ2 vs = wipe σ vs ∧ tt σ2 H2 fun b H3 =>
      if b = true then te σ2 H3 fun y H4 => ∃ acc, H4 D = some (.lst acc) ∧ acc.length < sizeLine ∧ Pv D (n + 1) (upd H4 D (.lst (acc ++ [y]))) else Pv D (n + 1) H3)
    (hd : ∀ D H', H D = none → Pv D xs.length H' → Q (.ref D) H') : tLc (iVar K i) g tt te vs σ H Q :=
  Sw.cases (K := K) hs (fun q => .inl ⟨_, hv, a, rfl, ⟨xs, q H (Same.refl H)⟩, fun D nD => lc_list (K := K) (a := a) (xs := xs) (Pv D) (h0 D nD) (fun n H' _ p => q _ (hk D n H' nD p)) (fun n x H' => ht D n x H' nD) fun H' p => hd D H' nD p⟩)
    fun q => .inr ⟨_, hv, a, rfl, ⟨xs, q H (Same.refl H)⟩, fun D nD => lc_tup (K := K) (a := a) (xs := xs) (Pv D) (h0 D nD) (fun n H' _ p => q _ (hk D n H' nD p)) (fun n x H' => ht D n x H' nD) fun H' p => hd D H' nD p⟩
/-- the same for a set of ints -/
theorem sc_var {g : TG} {te : TE} {vs : List Nat} {Q : VK} (hv : σ[i]? = some (some (.ref a))) (hs : Sw H a xs) (Pv : Addr → Nat → Hp → Prop) (h0 : ∀ D, H D = none → Pv D 0 (upd H D (.set (fun _ => false) 0))) (hk : ∀ D n H', H D = none → Pv D n H' → Same H H')
    (ht : ∀ D n x H', H D = none → xs[n]? = some x → Pv D n H' → g x (wipe σ vs) H' fun σ2 H2 => wipe σ2 vs = wipe σ vs ∧
      te σ2 H2 fun y H4 => ∃ (c : Int) (S : Int → Bool) (m : Nat), y = .int c ∧ H4 D = some (.set S m) ∧ m + 1 < scanBound ∧ Pv D (n + 1) (upd H4 D (.set (fun j => S j || decide (j = c)) (if S c = true then m else m + 1))))
    (hd : ∀ D H', H D = none → Pv D xs.length H' → Q (.ref D) H') : tScI (iVar K i) g te vs σ H Q := by
  have turns : ∀ (D : Addr) (nD : H D = none) (J : It), (∀ n H', Pv D n H' → n < xs.length → J.go n H') → (∀ n H', Pv D n H' → n = xs.length → J.stop n H') → (∀ n H' x H2, Pv D n H' → J.yld n H' x H2 → H2 = H' ∧ xs[n]? = some x) →
      ∃ W : Nat → Nat → Hp → Prop, (∃ m, W 0 m (upd H D (.set (fun _ => false) 0))) ∧ ∀ n m H', W n m H' → (J.stop n H' ∧ Q (.ref D) H') ∨ (J.go n H' ∧ ∃ Nx : Hp → Prop, (∀ H2, Nx H2 → ∃ m', m' < m ∧ W (n + 1) m' H2) ∧ ∀ x H2, J.yld n H' x H2 → g x (wipe σ vs) H2 fun σ2 H2 => wipe σ2 vs = wipe σ vs ∧
        te σ2 H2 fun y H4 => ∃ (c : Int) (S : Int → Bool) (k : Nat), y = .int c ∧ H4 D = some (.set S k) ∧ k + 1 < scanBound ∧ Nx (upd H4 D (.set (fun j => S j || decide (j = c)) (if S c = true then k else k + 1)))) := by
    intro D nD J go stop yld
    refine ⟨fun n m H' => m = xs.length - n ∧ n ≤ xs.length ∧ Pv D n H', ⟨xs.length, by simp, Nat.zero_le _, h0 D nD⟩, ?_⟩
    rintro n m H' ⟨rfl, hn, p⟩
    by_cases hlt : n < xs.length
    · refine .inr ⟨go n H' p hlt, Pv D (n + 1), fun H2 p' => ⟨xs.length - (n + 1), by omega, rfl, hlt, p'⟩, fun x H2 y => ?_⟩
      obtain ⟨e, hx⟩ := yld n H' x H2 p y
      subst e
      exact ht D n x _ nD hx p
    · have e : n = xs.length := by omega
      subst e
      exact .inl ⟨stop _ H' p rfl, hd D H' nD p⟩
  exact Sw.cases (K := K) hs (fun q => .inl ⟨_, hv, a, rfl, ⟨xs, q H (Same.refl H)⟩, fun D nD => turns D nD (Itl K a) (fun n H' p hlt => ⟨xs, xs[n], q _ (hk D n H' nD p), by simp [hlt]⟩) (fun n H' p e => ⟨xs, q _ (hk D n H' nD p), by omega⟩) fun n H' x H2 p y => ⟨y.1, y.2 xs (q _ (hk D n H' nD p))⟩⟩)
    fun q => .inr ⟨_, hv, a, rfl, ⟨xs, q H (Same.refl H)⟩, fun D nD => turns D nD (Itt K a) (fun n H' p hlt => ⟨xs, xs[n], q _ (hk D n H' nD p), by simp [hlt]⟩) (fun n H' p e => ⟨xs, q _ (hk D n H' nD p), by omega⟩) fun n H' x H2 p y => ⟨y.1, y.2 xs (q _ (hk D n H' nD p))⟩⟩
/-- the frame within a comprehension whose own name is slot j -/
def inBlk (σ : L2.St) (j : Nat) (x : V) : L2.St := (wipe σ [j]).set j (some x)
theorem inBlk_wipe (σ : L2.St) (j : Nat) (x : V) : wipe (inBlk σ j x) [j] = wipe σ [j] := by
  unfold inBlk
  show ((σ.set j none).set j (some x)).set j none = σ.set j none
  rw [List.set_set, List.set_set]
/-- [elt for x in xs if ..]: of the n-th item the value f n, or nothing; only new objects are made -/
theorem lc_filt {j : Nat} {tt0 : TT} {te0 : TE} {Q : VK} (f : Nat → Option V) (hv : σ[i]? = some (some (.ref a))) (hs : Sw H a xs) (hl : xs.length ≤ 1000000)
    (ht : ∀ n x H', xs[n]? = some x → Same H H' → tt0 (inBlk σ j x) H' fun b H3 => Same H' H3 ∧ b = (f n).isSome ∧ ∀ z, f n = some z → te0 (inBlk σ j x) H3 fun y H4 => y = z ∧ Same H3 H4)
    (hd : ∀ D H', H D = none → Same H H' → H' D = some (.lst ((List.range xs.length).filterMap f)) → Q (.ref D) H') : tLc (iVar K i) (gName j) (tMT tt0) (tM te0) [j] σ H Q := by
  have hz : (sizeLine : Nat) = 16777216 := sizeLine_eq
  refine lc_var hv hs (fun D n H' => Same H H' ∧ n ≤ xs.length ∧ H' D = some (.lst ((List.range n).filterMap f))) (fun D nD => ⟨same_new nD _, Nat.zero_le _, upd_same⟩) (fun D n H' _ p => p.1) (fun D n x H' nD hx p => ?_) fun D H' nD p => hd D H' nD p.1 p.2.2
  obtain ⟨s1, hn, e1⟩ := p
  have hlt : n < xs.length := (List.getElem?_eq_some_iff.mp hx).1
  refine ⟨inBlk_wipe σ j x, _, ht n x H' hx s1, fun b H3 ⟨s2, hb, hte⟩ => ?_⟩
  cases hf : f n with
  | none =>
    rw [hf] at hb
    subst hb
    refine iteF ⟨s1.trans s2, hlt, ?_⟩
    rw [List.range_succ, List.filterMap_append]
    have e2 : [n].filterMap f = [] := by simp [hf]
    rw [e2, List.append_nil]
    exact s2 _ _ e1
  | some z =>
    rw [hf] at hb
    subst hb
    refine iteT ⟨_, hte z hf, fun y H4 ⟨ey, s3⟩ => ?_⟩
    subst ey
    refine ⟨_, s3 _ _ (s2 _ _ e1), ?_, same_upd (s1.trans (s2.trans s3)) nD _, hlt, ?_⟩
    · have := List.length_filterMap_le f (List.range n)
      rw [List.length_range] at this
      omega
    · rw [upd_same, List.range_succ, List.filterMap_append]
      have e2 : [n].filterMap f = [y] := by simp [hf]
      rw [e2]
theorem yes_read {σ : L2.St} {H : Hp} {P R : Hp → Prop} (h : P H) : tYes σ H fun b H3 => if b = true then P H3 else R H3 := by
  unfold tYes
  dsimp only
  rw [if_pos rfl]
  exact h
/-- the same without a test -/
theorem lc_map {j : Nat} {te0 : TE} {Q : VK} (f : Nat → V) (hv : σ[i]? = some (some (.ref a))) (hs : Sw H a xs) (hl : xs.length ≤ 1000000)
    (ht : ∀ n x H', xs[n]? = some x → Same H H' → te0 (inBlk σ j x) H' fun y H4 => y = f n ∧ Same H' H4)
    (hd : ∀ D H', H D = none → Same H H' → H' D = some (.lst ((List.range xs.length).map f)) → Q (.ref D) H') : tLc (iVar K i) (gName j) tYes (tM te0) [j] σ H Q := by
  have hz : (sizeLine : Nat) = 16777216 := sizeLine_eq
  refine lc_var hv hs (fun D n H' => Same H H' ∧ n ≤ xs.length ∧ H' D = some (.lst ((List.range n).map f))) (fun D nD => ⟨same_new nD _, Nat.zero_le _, upd_same⟩) (fun D n H' _ p => p.1) (fun D n x H' nD hx p => ?_) fun D H' nD p => hd D H' nD p.1 p.2.2
  obtain ⟨s1, hn, e1⟩ := p
  have hlt : n < xs.length := (List.getElem?_eq_some_iff.mp hx).1
  refine ⟨inBlk_wipe σ j x, yes_read ?_⟩
  refine ⟨_, ht n x H' hx s1, fun y H4 ⟨ey, s3⟩ => ?_⟩
  subst ey
  refine ⟨_, s3 _ _ e1, by rw [List.length_map, List.length_range]; omega, same_upd (s1.trans s3) nD _, hlt, ?_⟩
  rw [upd_same, List.range_succ, List.map_append]
  rfl
end

/-! ### index, of either -/
section
variable {X : Cx}
theorem pos_get {ns : List Int} {z : Int} (h : z ∈ ns) : ns[pos ns z]? = some z := by
  have hl : pos ns z < ns.length := pos_lt h
  rw [List.getElem?_eq_getElem hl]
  exact congrArg some (List.getElem_idxOf hl)
theorem idx_first : ∀ {ns : List Int} {z : Int} {m : Nat}, m < ns.idxOf z → ns[m]? ≠ some z
  | [], _, _, h => by simp at h
  | a :: l, z, m, h => by
    rw [List.idxOf_cons] at h
    by_cases c : a = z
    · subst c
      simp at h
    · have c' : (a == z) = false := beq_eq_false_iff_ne.mpr c
      rw [c'] at h
      cases m with
      | zero => intro e; exact c (Option.some.inj e)
      | succ m =>
        have h' : m < l.idxOf z := by simpa using h
        intro e
        exact idx_first (ns := l) (z := z) (m := m) h' (by simpa using e)
theorem pos_first {ns : List Int} {z : Int} {m : Nat} (h : m < pos ns z) : ns[m]? ≠ some z := idx_first h
def tIndexV (i : Nat) (te : TE) : TE := fun σ H Q => ∃ (o : Addr) (ns : List Int), σ[i]? = some (some (.ref o)) ∧ Sq H o (ns.map V.int) ∧ te σ H fun y H2 => ∃ z, y = .int z ∧ Same H H2 ∧ z ∈ ns ∧ Q (.int (pos ns z : Nat)) H2
theorem pe_index {e : Expr} {te : TE} {x : PySem.Str} {p apos cpos : Pos} (i : Nat) (he : PE X e te) (hN : X.N[i]? = some x := by rfl) (hv : Vis X.env.scope x := by first | exact Or.inl rfl | exact Or.inr (Or.inl rfl) | exact Or.inr (Or.inr rfl)) (hd : (x == ("__debug__" : PySem.Str)) = false := by decide)
    (hcd : (x == ("__classdict__" : PySem.Str)) = false := by decide)
    (hbase : attributeBase (.Name x p) "index" X.env (eval (.Name x p) X.env) = eval (.Name x p) X.env := by rfl)
    (hfew : ((backTo cpos (starEach [e] X.env)).all (fun x => !x.1) && (backToKw cpos (keywordEach [] X.env)).all (fun x => x.1.isSome)
      && decide ([e].length + ([] : List Keyword).length + (if ([] : List Keyword).isEmpty then 0 else 1) < 30)) = true := by rfl)
    (hline : (apos.endLine == cpos.line) = true := by rfl) (hs : starEach [e] X.env = (false, eval e X.env) :: starEach [] X.env := by rfl) :
    PE X (.Call (.Attribute (.Name x p) "index" apos) [e] [] cpos) (tIndexV i te) := by
  refine ⟨fun pins s σ H Q I h => ?_⟩
  obtain ⟨o, ns, ho, hq, h⟩ := h
  have hm := pe_mono he
  rcases hq with hq | ⟨ob, hdn, hq⟩
  · refine (pe_bm PySem.F.plainAttrs_list PySem.F.slot_list_index PySem.F.type_list_index mt_index (pv i hN hv hd hcd) (pa_cons hm pa_nil hs) hbase hfew hline hs rfl).run pins s σ H Q I ⟨_, ho, .inl ⟨rfl, _, SqL.of hq⟩, _, h, ?_⟩
    rintro y H2 ⟨z, rfl, sm, hz, q⟩
    refine ⟨o, ns.map V.int, .int z, pos ns z, .int z, rfl, rfl, SqL.of (sm _ _ hq), rfl, flat_ints ns, ?_, beq_self_eq_true z, fun m z' hmz e => ?_, q⟩
    · rw [List.getElem?_map, pos_get hz]
      rfl
    · rw [List.getElem?_map] at e
      cases e2 : ns[m]? with
      | none => rw [e2] at e; cases e
      | some y =>
        rw [e2] at e
        cases e
        have hne : y ≠ z := fun q => pos_first hmz (q ▸ e2)
        show (y == z) = false
        exact beq_eq_false_iff_ne.mpr hne
  · refine wpAny_Call_method_late hbase hfew hline rfl (thn ((pv (pos := p) i hN hv hd hcd).run pins s σ H (fun v H1 => v = .ref o ∧ H1 = H) I ⟨_, ho, rfl, rfl⟩) fun v s1 ⟨x1, H1, I1, r1, e1, e2⟩ => ?_)
    subst e1 e2
    cases r1
    obtain ⟨hob, _, _, _, o2, ho2, hc2, _⟩ := (show ObjOk X.prog X.w H1 s1.heap o (.frz ob (.tup (ns.map V.int))) from I1.hok o _ hq)
    rw [hob] at ho2
    cases ho2
    refine ⟨"tuple", "tuple.index", PySem.F.plainAttrs_tuple, PySem.F.slot_tuple_index, PySem.F.type_tuple_index, ⟨ob, hob, hc2⟩, fun a e => ?_, ?_⟩
    · cases e
      exact ⟨ob, hob, hdn⟩
    · have hA := (pa_cons hm pa_nil hs).run cpos pins s1 σ H1 (fun ys H2 => ∃ z, ys = [.int z] ∧ Same H1 H2 ∧ z ∈ ns ∧ Q (.int (pos ns z : Nat)) H2) I1 ⟨_, h, ?_⟩
      · rw [hs] at hA ⊢
        refine Calls.callWith_builtin (by rfl) (Calls.evalArgs_plain ?_)
        refine thn hA fun us s2 ⟨ys, H2, I2, r2, z, ez, sm, hz, q⟩ => ?_
        subst ez
        exact mt_tindexI pins s2 σ H2 (.ref o) [.int z] (.ref o) us Q I2 rfl r2 ⟨o, ns, z, pos ns z, rfl, rfl, .inl (.inr ⟨ob, sm _ _ hq⟩), pos_get hz, fun m hmz => pos_first hmz, q⟩
      · rintro y H2 ⟨z, rfl, sm, hz, q⟩
        exact ⟨z, rfl, sm, hz, q⟩
/-- tuple(xs), xs a list: the new tuple, known to have no dict -/
theorem call_tupleZ : CallR X (.type "tuple") (fun xs H Q => ∃ p ys, xs = [.ref p] ∧ SqL X.K H p ys ∧ ∀ l o, H l = none → o.dict = none → Q (.ref l) (upd H l (.frz o (.tup ys)))) := by
  intro pins s σ H xs us Q I r h
  obtain ⟨p, ys, rfl, hq, q⟩ := h
  obtain rfl := one_ref r
  obtain ⟨its, r', pl, hz⟩ := I.list hq
  have hlen := r'.length
  refine call_tuple_list pl.isList (fun h' kp => ?_) (by simp only [List.size_toArray]; omega)
  have I1 : Inv X pins σ H { s with heap := h' } := I.kept (t' := s.toks) kp
  refine ⟨.ref h'.objs.size, _, I1.laid (t' := s.toks) (o := .frz { cls := .type "tuple", data := .seq its.toArray } (.tup ys)) (fun b o e => Heap.get?_push_of_some _ e) (Nat.le_refl _) ⟨Heap.get?_push_size _ rfl, ?_⟩, rfl, q _ _ (I1.hok.fresh (Nat.le_refl _)) rfl⟩
  exact (show ObjOk X.prog X.w _ _ _ (.tup ys) from ⟨hz, its, r', IsTup.new _ _⟩)
end
end K48

set_option Elab.async false
set_option maxRecDepth 100000
set_option maxHeartbeats 4000000
set_option linter.all false
namespace K48
open PySem PySem.Spec PyProof.Rows L2
/-- the built-in names are still the built-ins -/
structure Bl (mg : PySem.Str → Option Value) : Prop where
  isi : mg "isinstance" = none
  int : mg "int" = none
  bool : mg "bool" = none
  list : mg "list" = none
  tuple : mg "tuple" = none
  all : mg "all" = none
  len : mg "len" = none
  set : mg "set" = none
  max : mg "max" = none
  abs : mg "abs" = none
  range : mg "range" = none
  sorted : mg "sorted" = none
  dict : mg "dict" = none
  repr : mg "repr" = none
/-- a def that stands at f and binds the parameters ps -/
structure Df (K : PySem.W.Frag) (mg : PySem.Str → Option Value) (x : PySem.Str) (st : Stmt) (ps : List PySem.Str) (f : Addr) (fd : FuncData) : Prop where
  F : Fun K x x st f fd
  b : Binds K fd ps []
  m : mg x = some (.ref f)

/-! ### promises -/
def spIsInt : Sp := fun vs H Q _ => ∃ i : Int, vs = [.int i] ∧ Q (.bl true) H
def spDiff : Sp := fun vs H Q _ => ∃ (a : Addr) (ns : List Int), vs = [.ref a] ∧ Sq H a (ns.map V.int) ∧ ns.Nodup ∧ ns.length ≤ 1000 ∧ ∀ H', Same H H' → Q (.bl true) H'
theorem inV_ints (z : Int) : ∀ ns : List Int, inV (.int z) (ns.map V.int) = decide (z ∈ ns)
  | [] => rfl
  | y :: ns => by
    have ih := inV_ints z ns
    show (eqV (.int y) (.int z) || inV (.int z) (ns.map V.int)) = _
    rw [ih]
    show ((y == z) || decide (z ∈ ns)) = _
    by_cases c : y = z
    · subst c; simp
    · have c1 : (y == z) = false := beq_eq_false_iff_ne.mpr c
      have c2 : (z ∈ y :: ns) = (z ∈ ns) := by
        apply propext
        rw [List.mem_cons]
        exact ⟨fun h => h.resolve_left fun q => c q.symm, .inr⟩
      rw [c1, Bool.false_or]
      simp only [c2]
theorem kitAny_list {K : PySem.W.Frag} : PySem.W.kitAny K (.type "list") [.type "list", .type "tuple"] = some true := kitAny_cons (b := true) (kit_ty (by decide +kernel)) (fun h => nomatch h) fun _ => rfl
theorem kitAny_tuple {K : PySem.W.Frag} : PySem.W.kitAny K (.type "tuple") [.type "list", .type "tuple"] = some true :=
  kitAny_cons (b := false) (kit_ty (by decide +kernel)) (fun _ => kitAny_cons (b := true) (kit_ty (by decide +kernel)) (fun h => nomatch h) fun _ => rfl) fun h => nomatch h
/-- isinstance(x, (list, tuple)) of a list or a tuple -/
theorem sq_isT {K : PySem.W.Frag} {H : Hp} {a : Addr} {xs : List V} (h : Sq H a xs) : ∃ t, TyX K H (.ref a) (.type t) ∧ PySem.W.kitAny K (.type t) [.type "list", .type "tuple"] = some true := by
  rcases h with h | ⟨o, _, h⟩
  · exact ⟨_, .base (.lst h), kitAny_list⟩
  · exact ⟨_, .fTuple h, kitAny_tuple⟩
theorem int_at {ns : List Int} {n : Nat} {x : V} (h : (ns.map V.int)[n]? = some x) : ∃ z, x = .int z := by
  rw [List.getElem?_map] at h
  cases e : ns[n]? with
  | none => rw [e] at h; cases h
  | some z => rw [e] at h; cases h; exact ⟨z, rfl⟩
theorem all_true {K : PySem.W.Frag} {H : Hp} {D : Addr} {n : Nat} (h : H D = some (.lst ((List.range n).map fun _ => V.bl true))) : ∃ bs : List Bool, SqL K H D (bs.map V.bl) ∧ bs.all id = true := by
  refine ⟨List.replicate n true, SqL.of ?_, by simp⟩
  rw [h]
  congr 2
  rw [List.map_replicate]
  exact List.eq_replicate_iff.mpr ⟨by simp, fun b hb => by obtain ⟨_, _, e⟩ := List.mem_map.mp hb; exact e.symm⟩
section
variable {P : Program} {w : World} {K : PySem.W.Frag} {mg : PySem.Str → Option Value} {base : Heap}
theorem scIsInt : FnScope ["value"] ["value"] (defScope sIsInt) := ⟨rfl, rfl, rfl, by decide +kernel, rfl, by decide +kernel, by decide +kernel⟩
theorem ok_isInt {f : Addr} {fd : FuncData} (D : Df K mg "is_integer" sIsInt ["value"] f fd) (B : Bl mg) : FnOk P w K mg base CX0 1 f fd ["value"] spIsInt := by
  refine D.F.ok scIsInt (fun vs H Q E h => ?_) (fun cdv A outer s H vs Q E hr h => ?_)
  · obtain ⟨i, rfl, _⟩ := h
    rfl
  obtain ⟨i, rfl, q⟩ := h
  refine ⟨_, pss_one (ps_ret (pe_and (pe_callB call_isi (by rfl) B.isi (by decide +kernel) (pa_cons (pv 0) (pa_cons (pe_bltn (v := .ty "int") (by rfl) B.int (by decide +kernel) rfl) pa_nil)))
    (pe_one (pe_not (pe_callB call_isi (by rfl) B.isi (by decide +kernel) (pa_cons (pv 0) (pa_cons (pe_bltn (v := .ty "bool") (by rfl) B.bool (by decide +kernel) rfl) pa_nil))))))), ?_⟩
  refine ⟨_, rfl, _, _, _, _, true, rfl, .ty "int", .base (.int i), kit_ty (by decide +kernel), true, rfl, ?_⟩
  refine iteT ⟨_, rfl, _, _, _, _, false, rfl, .ty "bool", .base (.int i), kit_ty (by decide +kernel), false, rfl, q⟩
theorem scDiff : FnScope ["value", "item"] ["value"] (defScope sDiff) := ⟨rfl, rfl, rfl, by decide +kernel, rfl, by decide +kernel, by decide +kernel⟩
theorem ok_diff {f fi : Addr} {fd fdi : FuncData} (D : Df K mg "are_different" sDiff ["value"] f fd) (B : Bl mg) (DI : Df K mg "is_integer" sIsInt ["value"] fi fdi) : FnOk P w K mg base CX0 2 f fd ["value"] spDiff := by
  have GI : FnOk P w K mg base CX0 1 fi fdi ["value"] spIsInt := ok_isInt DI B
  refine D.F.ok scDiff (fun vs H Q E h => ?_) (fun cdv A outer s H vs Q E hr h => ?_)
  · obtain ⟨a, ns, rfl, _⟩ := h
    rfl
  obtain ⟨a, ns, rfl, hs, nd, hl, q⟩ := h
  refine ⟨_, pss_cons (ps_if (PW.pt (pw_or (pt_not (pt_val (pe_callB call_isiT (by rfl) B.isi (by decide +kernel) (pa_cons (pv 0) (pa_cons (pe_tup (pa_cons (pe_bltn (v := .ty "list") (by rfl) B.list (by decide +kernel) rfl)
      (pa_cons (pe_bltn (v := .ty "tuple") (by rfl) B.tuple (by decide +kernel) rfl) pa_nil))) pa_nil)))))
    (pw_or1 (pt_not (pt_val (pe_callB (cr_all rfl) (by rfl) B.all (by decide +kernel) (pa_cons (pe_lc (own := [("item", 1)]) (g := gName 1) (tt := tYes) rfl scDiff.nd (pi_var 0) (blkOk_by (own := [("item", 1)]) (N := ["value", "item"]) (sc := defScope sDiff) (by decide +kernel))
      (fun _ _ _ _ _ => pg_name (i := 1) scDiff.nd rfl (Or.inl rfl)) (fun _ _ _ _ _ => pts_nil) (fun _ _ _ _ _ => pe_mono (pe_call GI hr rfl DI.m DI.F.kp DI.b .nil pass0 (pa_cons (pv 1) pa_nil)))) pa_nil))))))) (pss_one (ps_ret pe_bl)) pss_nil)
    (pss_one (ps_ret (pe_cmpR op_eq (pe_or (RZ.pe_lenSetI (by rfl) B.len (by rfl) B.set (pv 0)) (pe_lenSetT (by rfl) B.len (by rfl) B.set (pv 0))) (pe_callB call_len_seq (by rfl) B.len PySem.boot_len (pa_cons (pv 0) pa_nil)) (nomark _)))), ?_⟩
  refine ⟨_, rfl, (by show 2 ≤ sizeLine; decide), fun p hp => ?_⟩
  have s1 : Same H (upd H p (.tup [.ty "list", .ty "tuple"])) := same_new hp _
  obtain ⟨ty, hty, hk⟩ := sq_isT (K := K) (hs.same s1)
  refine ⟨_, p, _, _, _, true, rfl, upd_same, .cons (.ty _) (.cons (.ty _) .nil), hty, hk, true, rfl, ?_⟩
  refine iteF ?_
  dsimp only [tNot, tB, tCB, tCons, tNil]
  refine lc_map (fun _ => .bl true) (show ([some (V.ref a), none] : L2.St)[0]? = some (some (.ref a)) from rfl) (hs.same s1).sw (by rw [List.length_map]; omega) (fun n x H' hx s2 => ?_) fun D H' nD s2 e => ?_
  · obtain ⟨z, rfl⟩ := int_at hx
    exact ⟨_, rfl, z, rfl, rfl, Same.refl _⟩
  · obtain ⟨bs, hS, hb⟩ := all_true (K := K) e
    refine ⟨D, _, rfl, hS, true, congrArg V.bl hb, ?_⟩
    refine iteF ?_
    have s3 := s1.trans s2
    have fin : Q (.bl (decide (V.int ((ns.length : Nat) : Int) = V.int (((ns.map V.int).length : Nat) : Int)))) H' := by
      rw [List.length_map, decide_eq_true rfl]
      exact q H' s3
    rcases hs.same s3 with h | h
    · exact .inl ⟨_, rfl, a, ns, rfl, SqL.of h, nd, by omega, _, rfl, a, _, rfl, .inl (SqL.of h), rfl, fin⟩
    · exact .inr ⟨_, rfl, a, ns, rfl, h.seqT, nd, by omega, _, rfl, a, _, rfl, .inr h.seqT, rfl, fin⟩
end
end K48

set_option Elab.async false
set_option maxRecDepth 100000
set_option maxHeartbeats 4000000
set_option linter.all false
namespace K48
open PySem PySem.Spec PyProof.Rows L2
/-- the tuple of a transfer stands at p -/
def TrAt (H : Hp) (p : Addr) (e : Tr) : Prop := H p = some (.tup [.int e.1, .int e.2.1, .int e.2.2])
theorem TrAt.same {H H' : Hp} {p : Addr} {e : Tr} (s : Same H H') (h : TrAt H p e) : TrAt H' p e := s _ _ h
/-- addresses of the transfers' tuples -/
structure TrsAt (H : Hp) (ps : List Addr) (ts : List Tr) : Prop where
  len : ps.length = ts.length
  at_ : ∀ (n : Nat) (p : Addr) (e : Tr), ps[n]? = some p → ts[n]? = some e → TrAt H p e
theorem TrsAt.same {H H' : Hp} {ps : List Addr} {ts : List Tr} (s : Same H H') (h : TrsAt H ps ts) : TrsAt H' ps ts := ⟨h.len, fun n p e h1 h2 => (h.at_ n p e h1 h2).same s⟩
theorem TrsAt.get {H : Hp} {ps : List Addr} {ts : List Tr} (h : TrsAt H ps ts) {n : Nat} {x : V} (hx : (ps.map V.ref)[n]? = some x) : ∃ p e, x = .ref p ∧ ps[n]? = some p ∧ ts[n]? = some e ∧ TrAt H p e := by
  rw [List.getElem?_map] at hx
  cases e1 : ps[n]? with
  | none => rw [e1] at hx; cases hx
  | some p =>
    rw [e1] at hx
    cases hx
    have hn : n < ts.length := by rw [← h.len]; exact (List.getElem?_eq_some_iff.mp e1).1
    exact ⟨p, ts[n], rfl, rfl, List.getElem?_eq_getElem hn, h.at_ n p _ e1 (List.getElem?_eq_getElem hn)⟩
/-- the transfers lead between different areas of the order; their numbers differ -/
structure Net (line : List Int) (ts : List Tr) : Prop where
  nd : line.Nodup
  ll : line.length ≤ 1000
  inn : ∀ e ∈ ts, e.2.1 ∈ line ∧ e.2.2 ∈ line ∧ e.2.1 ≠ e.2.2
  nm : (ts.map (·.1)).Nodup
  tl : ts.length ≤ 1000
theorem Net.inside {line : List Int} {ts : List Tr} (h : Net line ts) : Inside line ts := fun e he => ⟨(h.inn e he).1, (h.inn e he).2.1⟩

def spTriple : Sp := fun vs H Q _ => ∃ (p o : Addr) (e : Tr) (line : List Int), vs = [.ref p, .ref o] ∧ TrAt H p e ∧ Sq H o (line.map V.int) ∧ e.2.1 ∈ line ∧ e.2.2 ∈ line ∧ e.2.1 ≠ e.2.2 ∧ ∀ H', Same H H' → Q (.bl true) H'
def spNeedT : Sp := fun vs H Q _ => ∃ (o t : Addr) (ps : List Addr) (line : List Int) (ts : List Tr), vs = [.ref o, .ref t] ∧ Sq H o (line.map V.int) ∧ Sq H t (ps.map V.ref) ∧ TrsAt H ps ts ∧ Net line ts ∧ ∀ H', Same H H' → Q .non H'
def spNeedN : Sp := fun vs H Q _ => ∃ (o t f : Addr) (ps : List Addr) (line first : List Int) (ts : List Tr), vs = [.ref o, .ref t, .ref f] ∧ Sq H o (line.map V.int) ∧ Sq H t (ps.map V.ref) ∧ TrsAt H ps ts ∧ Net line ts ∧
  Sq H f (first.map V.int) ∧ first.Nodup ∧ first.length ≤ 1000 ∧ (∀ a ∈ first, a ∈ line) ∧ ∀ H', Same H H' → Q .non H'
def spAg : Sp := fun vs H Q _ => ∃ (o p : Addr) (line : List Int) (e : Tr), vs = [.ref o, .ref p] ∧ Sq H o (line.map V.int) ∧ TrAt H p e ∧ e.2.1 ∈ line ∧ e.2.2 ∈ line ∧ Q (.bl (agB line e)) H
def spAgainst : Sp := fun vs H Q _ => ∃ (o t : Addr) (ps : List Addr) (line : List Int) (ts : List Tr), vs = [.ref o, .ref t] ∧ Sq H o (line.map V.int) ∧ Sq H t (ps.map V.ref) ∧ TrsAt H ps ts ∧ Net line ts ∧
  ∀ (r : Addr) H', H r = none → Same H H' → H' r = some (.lst (((ts.filter (agB line)).map (·.1)).map V.int)) → Q (.ref r) H'
theorem three_int {e : Tr} {n : Nat} {x : V} (h : ([.int e.1, .int e.2.1, .int e.2.2] : List V)[n]? = some x) : ∃ z, x = .int z := by
  have h' : ([e.1, e.2.1, e.2.2].map V.int)[n]? = some x := h
  exact int_at h'
/-! within a comprehension's block the written part is named -/
theorem ix_tupK {X : Cx} (K : PySem.W.Frag) (h : X.K = K := by rfl) : IxR X (rIxT K) := h ▸ ix_tup
theorem op_inK {X : Cx} (K : PySem.W.Frag) (h : X.K = K := by rfl) : OpR X (compareOp .In) (rIn K false) := h ▸ op_in_seq
theorem op_notInK {X : Cx} (K : PySem.W.Frag) (h : X.K = K := by rfl) : OpR X (compareOp .NotIn) (rIn K true) := h ▸ op_notIn_seq
section
variable {P : Program} {w : World} {K : PySem.W.Frag} {mg : PySem.Str → Option Value} {base : Heap}
theorem scTriple : FnScope ["value", "order", "part"] ["value", "order"] (defScope sTriple) := ⟨rfl, rfl, rfl, by decide +kernel, rfl, by decide +kernel, by decide +kernel⟩
theorem ok_triple {f fi : Addr} {fd fdi : FuncData} (D : Df K mg "is_triple" sTriple ["value", "order"] f fd) (B : Bl mg) (DI : Df K mg "is_integer" sIsInt ["value"] fi fdi) : FnOk P w K mg base CX0 2 f fd ["value", "order"] spTriple := by
  have GI : FnOk P w K mg base CX0 1 fi fdi ["value"] spIsInt := ok_isInt DI B
  refine D.F.ok scTriple (fun vs H Q E h => ?_) (fun cdv A outer s H vs Q E hr h => ?_)
  · obtain ⟨p, o, e, line, rfl, _⟩ := h
    rfl
  obtain ⟨p, o, e, line, rfl, hp, ho, h1, h2, h3, q⟩ := h
  refine ⟨_, pss_cons (ps_if (PW.pt (pw_or (pt_not (pt_val (pe_callB call_isi (by rfl) B.isi (by decide +kernel) (pa_cons (pv 0) (pa_cons (pe_bltn (v := .ty "tuple") (by rfl) B.tuple (by decide +kernel) rfl) pa_nil)))))
    (pw_or (pt_cmpR op_ne (pe_callB call_len_seq (by rfl) B.len PySem.boot_len (pa_cons (pv 0) pa_nil)) pe_int (nomark _))
    (pw_or1 (pt_not (pt_val (pe_callB (cr_all rfl) (by rfl) B.all (by decide +kernel) (pa_cons (pe_lc (own := [("part", 2)]) (g := gName 2) (tt := tYes) rfl scTriple.nd (pi_var 0) (blkOk_by (own := [("part", 2)]) (N := ["value", "order", "part"]) (sc := defScope sTriple) (by decide +kernel))
      (fun _ _ _ _ _ => pg_name (i := 2) scTriple.nd rfl (Or.inl rfl)) (fun _ _ _ _ _ => pts_nil) (fun _ _ _ _ _ => pe_mono (pe_call GI hr rfl DI.m DI.F.kp DI.b .nil pass0 (pa_cons (pv 2) pa_nil)))) pa_nil)))))))) (pss_one (ps_ret pe_bl)) pss_nil)
    (pss_one (ps_ret (pe_and (pe_cmpR op_in_seq (pe_ix ix_tup (pv 0) pe_int (fun _ _ => rfl)) (pv 1) (by rfl)) (pe_and (pe_cmpR op_in_seq (pe_ix ix_tup (pv 0) pe_int (fun _ _ => rfl)) (pv 1) (by rfl))
      (pe_one (pe_cmpR op_ne (pe_ix ix_tup (pv 0) pe_int (fun _ _ => rfl)) (pe_ix ix_tup (pv 0) pe_int (fun _ _ => rfl)) (nomark _))))))), ?_⟩
  refine ⟨_, rfl, _, _, _, _, true, rfl, .ty "tuple", .base (.tup hp), kit_ty (by decide +kernel), true, rfl, ?_⟩
  refine iteF ?_
  refine ⟨_, rfl, p, _, rfl, .inr (SqT.of hp), rfl, _, rfl, ?_⟩
  refine iteNS rfl ?_
  dsimp only [tNot, tB, tCB, tCons, tNil]
  refine lc_map (fun _ => .bl true) (show ([some (V.ref p), some (V.ref o), none] : L2.St)[0]? = some (some (.ref p)) from rfl) (.inr (.inl hp)) (by show 3 ≤ 1000000; decide) (fun n x H' hx s2 => ?_) fun D H' nD s2 eD => ?_
  · obtain ⟨z, rfl⟩ := three_int hx
    exact ⟨_, rfl, z, rfl, rfl, Same.refl _⟩
  · obtain ⟨bs, hS, hb⟩ := all_true (K := K) eD
    refine ⟨D, _, rfl, hS, true, congrArg V.bl hb, ?_⟩
    refine iteF ?_
    have hp' := s2 _ _ hp
    have ho' := (ho.same s2).both (K := K)
    refine ⟨_, rfl, p, _, 1, _, rfl, rfl, SqT.of hp', rfl, _, rfl, o, _, rfl, ho', rfl, flat_ints _, true, ?_, ?_⟩
    · show V.bl (inV (.int _) (line.map V.int)) = _
      rw [inV_ints, decide_eq_true h1]
    refine iteT ⟨_, rfl, p, _, 2, _, rfl, rfl, SqT.of hp', rfl, _, rfl, o, _, rfl, ho', rfl, flat_ints _, true, ?_, ?_⟩
    · show V.bl (inV (.int _) (line.map V.int)) = _
      rw [inV_ints, decide_eq_true h2]
    refine iteT ⟨_, rfl, p, _, 1, _, rfl, rfl, SqT.of hp', rfl, _, rfl, p, _, 2, _, rfl, rfl, SqT.of hp', rfl, rfl, ?_⟩
    have fin : Q (.bl (!decide (V.int e.2.1 = V.int e.2.2))) H' := by
      rw [decide_eq_false (fun z => h3 (V.int.inj z))]
      exact q H' s2
    exact fin
theorem name_new {ts : List Tr} (nd : (ts.map (·.1)).Nodup) {n : Nat} {e : Tr} (h : ts[n]? = some e) : e.1 ∉ (ts.take n).map (·.1) := fun z => by
  obtain ⟨hn, he⟩ := List.getElem?_eq_some_iff.mp h
  rw [List.map_take] at z
  obtain ⟨m, hm, em⟩ := List.mem_iff_getElem.mp z
  rw [List.length_take, List.length_map] at hm
  rw [List.getElem_take, List.getElem_map] at em
  have := (List.pairwise_iff_getElem.mp nd) m n (by rw [List.length_map]; omega) (by rw [List.length_map]; exact hn) (by omega)
  rw [List.getElem_map, List.getElem_map, em, he] at this
  exact this rfl
theorem scNeedT : FnScope ["order", "transfers", "one"] ["order", "transfers"] (defScope sNeedT) := ⟨rfl, rfl, rfl, by decide +kernel, rfl, by decide +kernel, by decide +kernel⟩
theorem ok_needT {f fi fd' ft : Addr} {fd fdi fdd fdt : FuncData} (D : Df K mg "need_transfers" sNeedT ["order", "transfers"] f fd) (B : Bl mg) (DI : Df K mg "is_integer" sIsInt ["value"] fi fdi) (DD : Df K mg "are_different" sDiff ["value"] fd' fdd)
    (DT : Df K mg "is_triple" sTriple ["value", "order"] ft fdt) : FnOk P w K mg base CX0 3 f fd ["order", "transfers"] spNeedT := by
  have GD : FnOk P w K mg base CX0 2 fd' fdd ["value"] spDiff := ok_diff DD B DI
  have GT : FnOk P w K mg base CX0 2 ft fdt ["value", "order"] spTriple := ok_triple DT B DI
  refine D.F.ok scNeedT (fun vs H Q E h => ?_) (fun cdv A outer s H vs Q E hr h => ?_)
  · obtain ⟨o, t, ps, line, ts, rfl, _⟩ := h
    rfl
  obtain ⟨o, t, ps, line, ts, rfl, ho, ht, hts, net, q⟩ := h
  have hll : ps.length ≤ 1000 := by rw [hts.len]; exact net.tl
  refine ⟨_, pss_cons (ps_if (pt_not (pt_val (pe_call GD hr rfl DD.m DD.F.kp DD.b .nil pass0 (pa_cons (pv 0) pa_nil)))) pss_never pss_nil)
    (pss_cons (ps_if (PW.pt (pw_or (pt_not (pt_val (pe_callB call_isiT (by rfl) B.isi (by decide +kernel) (pa_cons (pv 1) (pa_cons (pe_tup (pa_cons (pe_bltn (v := .ty "list") (by rfl) B.list (by decide +kernel) rfl)
      (pa_cons (pe_bltn (v := .ty "tuple") (by rfl) B.tuple (by decide +kernel) rfl) pa_nil))) pa_nil)))))
    (pw_or1 (pt_not (pt_val (pe_callB (cr_all rfl) (by rfl) B.all (by decide +kernel) (pa_cons (pe_lc (own := [("one", 2)]) (g := gName 2) (tt := tYes) rfl scNeedT.nd (pi_var 1) (blkOk_by (own := [("one", 2)]) (N := ["order", "transfers", "one"]) (sc := defScope sNeedT) (by decide +kernel))
      (fun _ _ _ _ _ => pg_name (i := 2) scNeedT.nd rfl (Or.inl rfl)) (fun _ _ _ _ _ => pts_nil) (fun _ _ _ _ _ => pe_mono (pe_call GT hr rfl DT.m DT.F.kp DT.b .nil pass0 (pa_cons (pv 2) (pa_cons (pv 0) pa_nil))))) pa_nil))))))) pss_never pss_nil)
    (pss_one (ps_if (pt_cmpR op_ne (pe_callB call_lenS (by rfl) B.len PySem.boot_len (pa_cons (pe_scI (own := [("one", 2)]) (g := gName 2) rfl scNeedT.nd (pi_var 1) (blkOk_by (own := [("one", 2)]) (N := ["order", "transfers", "one"]) (sc := defScope sNeedT) (by decide +kernel))
      (fun _ _ _ _ _ => pg_name (i := 2) scNeedT.nd rfl (Or.inl rfl)) (fun _ _ _ _ _ => pe_ix (ix_tupK K) (pv 2) pe_int (fun _ _ => rfl))) pa_nil)) (pe_callB call_len_seq (by rfl) B.len PySem.boot_len (pa_cons (pv 1) pa_nil)) (nomark _)) pss_never pss_nil))), ?_⟩
  refine ⟨_, rfl, o, line, rfl, ho, net.nd, net.ll, fun H1 s1 => ⟨true, rfl, ?_⟩⟩
  refine iteF ?_
  refine ⟨_, rfl, (by show 2 ≤ sizeLine; decide), fun p hp => ?_⟩
  have s2 : Same H (upd H1 p (.tup [.ty "list", .ty "tuple"])) := same_upd s1 (s1.free hp) _
  obtain ⟨ty, hty, hk⟩ := sq_isT (K := K) (ht.same s2)
  refine ⟨_, p, _, _, _, true, rfl, upd_same, .cons (.ty _) (.cons (.ty _) .nil), hty, hk, true, rfl, ?_⟩
  refine iteF ?_
  dsimp only [tNot, tB, tCB, tCons, tNil]
  refine lc_map (fun _ => .bl true) (show ([some (V.ref o), some (V.ref t), none] : L2.St)[1]? = some (some (.ref t)) from rfl) (ht.same s2).sw (by rw [List.length_map]; omega) (fun n x H' hx s3 => ?_) fun D' H' nD s3 eD => ?_
  · obtain ⟨p', e, rfl, hp1, he, hat⟩ := (hts.same (s2.trans s3)).get hx
    have hin := net.inn e (List.mem_of_getElem? he)
    exact ⟨_, rfl, _, rfl, p', o, e, line, rfl, hat, ho.same (s2.trans s3), hin.1, hin.2.1, hin.2.2, fun H'' s4 => ⟨rfl, s4⟩⟩
  obtain ⟨bs, hS, hb⟩ := all_true (K := K) eD
  refine ⟨D', _, rfl, hS, true, congrArg V.bl hb, ?_⟩
  refine iteF ?_
  have s4 := s2.trans s3
  dsimp only [tNext, tIfS, tTest, tOp, tCB, tCons, tNil]
  refine sc_var (show ([some (V.ref o), some (V.ref t), none] : L2.St)[1]? = some (some (.ref t)) from rfl) (ht.same s4).sw (fun D n H2 => Same H' H2 ∧ n ≤ ps.length ∧ ∃ S, H2 D = some (.set S n) ∧ ∀ z, S z = true ↔ z ∈ (ts.take n).map (·.1))
    (fun D nD => ⟨same_new nD _, Nat.zero_le _, _, upd_same, fun z => by simp⟩) (fun D n H2 _ p => p.1) (fun D n x H2 nD hx p => ?_) fun D H2 nD p => ?_
  · obtain ⟨s5, hn, S, hD, hSm⟩ := p
    obtain ⟨p', e, rfl, hp1, he, hat⟩ := (hts.same (s4.trans s5)).get hx
    refine ⟨inBlk_wipe _ 2 _, _, rfl, p', _, 0, _, rfl, rfl, SqT.of hat, rfl, e.1, S, n, rfl, hD, by unfold scanBound; omega, same_upd s5 nD _, by have := (List.getElem?_eq_some_iff.mp hp1).1; omega, fun j => S j || decide (j = e.1), ?_, fun z => ?_⟩
    · have hSe : S e.1 = false := by
        cases c : S e.1 with
        | false => rfl
        | true => exact absurd ((hSm e.1).mp c) (name_new net.nm he)
      rw [upd_same, hSe]
      rfl
    · show (S z || decide (z = e.1)) = true ↔ _
      rw [Bool.or_eq_true, hSm, decide_eq_true_eq, List.take_add_one, he]
      simp
  · obtain ⟨s5, hn, S, hD, hSm⟩ := p
    have ht' := (ht.same (s4.trans s5)).both (K := K)
    refine ⟨D, S, _, rfl, hD, by rw [List.length_map]; omega, _, rfl, t, _, rfl, ht', rfl, _, rfl, ?_⟩
    refine iteNS rfl ?_
    exact q H2 (s4.trans s5)
theorem scNeedN : FnScope ["order", "transfers", "first", "area"] ["order", "transfers", "first"] (defScope sNeedN) := ⟨rfl, rfl, rfl, by decide +kernel, rfl, by decide +kernel, by decide +kernel⟩
theorem ok_needN {f fi fd' ft fn : Addr} {fd fdi fdd fdt fdn : FuncData} (D : Df K mg "need_net" sNeedN ["order", "transfers", "first"] f fd) (B : Bl mg) (DI : Df K mg "is_integer" sIsInt ["value"] fi fdi) (DD : Df K mg "are_different" sDiff ["value"] fd' fdd)
    (DT : Df K mg "is_triple" sTriple ["value", "order"] ft fdt) (DN : Df K mg "need_transfers" sNeedT ["order", "transfers"] fn fdn) : FnOk P w K mg base CX0 4 f fd ["order", "transfers", "first"] spNeedN := by
  have GD : FnOk P w K mg base CX0 2 fd' fdd ["value"] spDiff := ok_diff DD B DI
  have GN : FnOk P w K mg base CX0 3 fn fdn ["order", "transfers"] spNeedT := ok_needT DN B DI DD DT
  refine D.F.ok scNeedN (fun vs H Q E h => ?_) (fun cdv A outer s H vs Q E hr h => ?_)
  · obtain ⟨o, t, f, ps, line, first, ts, rfl, _⟩ := h
    rfl
  obtain ⟨o, t, f, ps, line, first, ts, rfl, ho, ht, hts, net, hf, fnd, fl, fin, q⟩ := h
  refine ⟨_, pss_cons (ps_expr (pe_call GN hr rfl DN.m DN.F.kp DN.b .nil pass0 (pa_cons (pv 0) (pa_cons (pv 1) pa_nil))))
    (pss_one (ps_if (PW.pt (pw_or (pt_not (pt_val (pe_call GD (hr.mono (by decide)) rfl DD.m DD.F.kp DD.b .nil pass0 (pa_cons (pv 2) pa_nil))))
    (pw_or1 (pt_not (pt_val (pe_callB (cr_all rfl) (by rfl) B.all (by decide +kernel) (pa_cons (pe_lc (own := [("area", 3)]) (g := gName 3) (tt := tYes) rfl scNeedN.nd (pi_var 2) (blkOk_by (own := [("area", 3)]) (N := ["order", "transfers", "first", "area"]) (sc := defScope sNeedN) (by decide +kernel))
      (fun _ _ _ _ _ => pg_name (i := 3) scNeedN.nd rfl (Or.inl rfl)) (fun _ _ _ _ _ => pts_nil) (fun _ _ _ _ _ => pe_mono (pe_cmpR (op_inK K) (pv 3) (pv 0) (by rfl)))) pa_nil))))))) pss_never pss_nil)), ?_⟩
  refine ⟨_, rfl, _, rfl, o, t, ps, line, ts, rfl, ho, ht, hts, net, fun H1 s1 => ?_⟩
  refine ⟨_, rfl, f, first, rfl, hf.same s1, fnd, fl, fun H2 s2 => ⟨true, rfl, ?_⟩⟩
  refine iteF ?_
  have s3 := s1.trans s2
  dsimp only [tNot, tB, tCB, tCons, tNil]
  refine lc_map (fun _ => .bl true) (show ([some (V.ref o), some (V.ref t), some (V.ref f), none] : L2.St)[2]? = some (some (.ref f)) from rfl) (hf.same s3).sw (by rw [List.length_map]; omega) (fun n x H' hx s4 => ?_) fun D' H' nD s4 eD => ?_
  · rw [List.getElem?_map] at hx
    cases e : first[n]? with
    | none => rw [e] at hx; cases hx
    | some z =>
      rw [e] at hx
      cases hx
      refine ⟨_, rfl, _, rfl, o, _, rfl, (ho.same (s3.trans s4)).both, rfl, flat_ints _, ?_, Same.refl _⟩
      show V.bl (inV (.int z) (line.map V.int)) = _
      rw [inV_ints, decide_eq_true (fin z (List.mem_of_getElem? e))]
  obtain ⟨bs, hS, hb⟩ := all_true (K := K) eD
  refine ⟨D', _, rfl, hS, true, congrArg V.bl hb, ?_⟩
  refine iteF ?_
  exact q H' (s3.trans s4)
theorem scAg : FnScope ["order", "transfer"] ["order", "transfer"] (defScope sAg) := ⟨rfl, rfl, rfl, by decide +kernel, rfl, by decide +kernel, by decide +kernel⟩
theorem ok_ag {f : Addr} {fd : FuncData} (D : Df K mg "is_against" sAg ["order", "transfer"] f fd) : FnOk P w K mg base CX0 1 f fd ["order", "transfer"] spAg := by
  refine D.F.ok scAg (fun vs H Q E h => ?_) (fun cdv A outer s H vs Q E hr h => ?_)
  · obtain ⟨o, p, line, e, rfl, _⟩ := h
    rfl
  obtain ⟨o, p, line, e, rfl, ho, hp, h1, h2, q⟩ := h
  refine ⟨_, pss_one (ps_ret (pe_cmpR op_lt (pe_index 0 (pe_ix ix_tup (pv 1) pe_int (fun _ _ => rfl))) (pe_index 0 (pe_ix ix_tup (pv 1) pe_int (fun _ _ => rfl))) (nomark _))), ?_⟩
  refine ⟨o, line, rfl, ho, _, rfl, p, _, 2, _, rfl, rfl, SqT.of hp, rfl, _, rfl, Same.refl _, h2, o, line, rfl, ho, _, rfl, p, _, 1, _, rfl, rfl, SqT.of hp, rfl, _, rfl, Same.refl _, h1, _, _, rfl, rfl, ?_⟩
  have e1 : decide (((pos line e.2.2 : Nat) : Int) < ((pos line e.2.1 : Nat) : Int)) = agB line e := decide_eq_decide.mpr (by omega)
  have fin : Q (.bl (decide (((pos line e.2.2 : Nat) : Int) < ((pos line e.2.1 : Nat) : Int)))) H := by
    rw [e1]
    exact q
  exact fin
theorem range_pick {α β : Type} (g : α → Option β) (l : List α) : (List.range l.length).filterMap (fun n => (l[n]?).bind g) = l.filterMap g := by
  have e : (List.range l.length).map (fun n => l[n]?) = l.map some := by
    apply List.ext_getElem?
    intro n
    rw [List.getElem?_map, List.getElem?_map]
    by_cases h : n < l.length
    · rw [List.getElem?_range h, List.getElem?_eq_getElem h]
      simp [h]
    · rw [List.getElem?_eq_none (by rw [List.length_range]; omega), List.getElem?_eq_none (by omega)]
      rfl
  have e2 := congrArg (List.filterMap fun o : Option α => o.bind g) e
  rw [List.filterMap_map, List.filterMap_map] at e2
  have e3 : ((fun o : Option α => o.bind g) ∘ some) = g := by funext x; rfl
  rw [e3] at e2
  exact e2
theorem pick_filter {l : List Tr} (p : Tr → Bool) : (l.filterMap fun e => if p e = true then some (V.int e.1) else none) = ((l.filter p).map (·.1)).map V.int := by
  induction l with
  | nil => rfl
  | cons e l ih =>
    rw [List.filterMap_cons, List.filter_cons]
    by_cases c : p e = true
    · simp only [c, if_true]
      rw [ih]
      rfl
    · simp only [c]
      exact ih
theorem scAgainst : FnScope ["order", "transfers", "one"] ["order", "transfers"] (defScope sAgainst) := ⟨rfl, rfl, rfl, by decide +kernel, rfl, by decide +kernel, by decide +kernel⟩
theorem ok_against {f fi fd' ft fn fa : Addr} {fd fdi fdd fdt fdn fda : FuncData} (D : Df K mg "against" sAgainst ["order", "transfers"] f fd) (B : Bl mg) (DI : Df K mg "is_integer" sIsInt ["value"] fi fdi) (DD : Df K mg "are_different" sDiff ["value"] fd' fdd)
    (DT : Df K mg "is_triple" sTriple ["value", "order"] ft fdt) (DN : Df K mg "need_transfers" sNeedT ["order", "transfers"] fn fdn) (DA : Df K mg "is_against" sAg ["order", "transfer"] fa fda) : FnOk P w K mg base CX0 4 f fd ["order", "transfers"] spAgainst := by
  have GN : FnOk P w K mg base CX0 3 fn fdn ["order", "transfers"] spNeedT := ok_needT DN B DI DD DT
  have GA : FnOk P w K mg base CX0 1 fa fda ["order", "transfer"] spAg := ok_ag DA
  refine D.F.ok scAgainst (fun vs H Q E h => ?_) (fun cdv A outer s H vs Q E hr h => ?_)
  · obtain ⟨o, t, ps, line, ts, rfl, _⟩ := h
    rfl
  obtain ⟨o, t, ps, line, ts, rfl, ho, ht, hts, net, q⟩ := h
  refine ⟨_, pss_cons (ps_expr (pe_call GN hr rfl DN.m DN.F.kp DN.b .nil pass0 (pa_cons (pv 0) (pa_cons (pv 1) pa_nil))))
    (pss_one (ps_ret (pe_lc (own := [("one", 2)]) (g := gName 2) rfl scAgainst.nd (pi_var 1) (blkOk_by (own := [("one", 2)]) (N := ["order", "transfers", "one"]) (sc := defScope sAgainst) (by decide +kernel))
      (fun _ _ _ _ _ => pg_name (i := 2) scAgainst.nd rfl (Or.inl rfl)) (fun _ _ _ _ _ => pts_mono (pt_val (pe_call GA (hr.mono (by decide)) rfl DA.m DA.F.kp DA.b .nil pass0 (pa_cons (pv 0) (pa_cons (pv 2) pa_nil))))) (fun _ _ _ _ _ => pe_mono (pe_ix (ix_tupK K) (pv 2) pe_int (fun _ _ => rfl)))))), ?_⟩
  refine ⟨_, rfl, _, rfl, o, t, ps, line, ts, rfl, ho, ht, hts, net, fun H1 s1 => ?_⟩
  dsimp only [tRet]
  refine lc_filt (fun n => (ts[n]?).bind fun e => if agB line e = true then some (V.int e.1) else none) (show ([some (V.ref o), some (V.ref t), none] : L2.St)[1]? = some (some (.ref t)) from rfl) (ht.same s1).sw
    (by rw [List.length_map, hts.len]; have := net.tl; omega) (fun n x H' hx s2 => ?_) fun D' H' nD s2 eD => ?_
  · obtain ⟨p', e, rfl, hp1, he, hat⟩ := (hts.same (s1.trans s2)).get hx
    have hin := net.inn e (List.mem_of_getElem? he)
    refine ⟨_, rfl, _, rfl, o, p', line, e, rfl, ho.same (s1.trans s2), hat, hin.1, hin.2.1, _, rfl, Same.refl _, ?_, fun z hz => ?_⟩
    · rw [he]
      show agB line e = (if agB line e = true then some (V.int e.1) else none).isSome
      cases agB line e <;> rfl
    · rw [he] at hz
      have hz' : (if agB line e = true then some (V.int e.1) else none) = some z := hz
      split at hz'
      · cases hz'
        exact ⟨_, rfl, p', _, 0, _, rfl, rfl, SqT.of hat, rfl, rfl, Same.refl _⟩
      · cases hz'
  · rw [List.length_map, hts.len, range_pick, pick_filter] at eD
    exact q D' H' (s1.free nD) (s1.trans s2) eD
end
end K48

set_option Elab.async false
set_option maxRecDepth 100000
set_option maxHeartbeats 4000000
set_option linter.all false
namespace K48
open PySem PySem.Spec PyProof.Rows L2
/-- t + u, u not empty: some tuple of both -/
def rCatZ (K : PySem.W.Frag) : R2 := fun x y H Q => ∃ (a b : Addr) (xs ys : List V), x = .ref a ∧ y = .ref b ∧ SqT K H a xs ∧ H b = some (.tup ys) ∧ ys ≠ [] ∧ xs.length + ys.length ≤ sizeLine ∧ ∀ p H', Same H H' → H' p = some (.tup (xs ++ ys)) → Q (.ref p) H'
theorem op_catZ {X : Cx} : OpR X (binaryOp .Add) (rCatZ X.K) := by
  intro pins s σ H x y v u Q I rx ry h
  obtain ⟨a, b, xs, ys, rfl, rfl, ha, hb, hy, hz, q⟩ := h
  refine op_catA pins s σ H _ _ v u Q I rx ry ⟨a, b, xs, ys, rfl, rfl, ha, SqT.of hb, hz, fun e => ?_, fun _ e => absurd e hy, fun _ _ p hp => q p _ (same_new hp _) upd_same⟩
  subst e
  exact q b H (Same.refl H) hb
theorem bw_len (line : List Int) (ts : List Tr) : ∀ (n : Nat) (a : Int) (u : List Int), (bw line ts n a u).2.length ≤ n
  | 0, _, _ => Nat.le_refl 0
  | n + 1, a, u => by
    have go : ∀ (l : List Tr) (best : Nat × List Int), best.2.length ≤ n + 1 → (l.foldl (bwStep line (bw line ts n) a u) best).2.length ≤ n + 1 := by
      intro l
      induction l with
      | nil => intro best h; exact h
      | cons e l ih =>
        intro best h
        rw [List.foldl_cons]
        refine ih _ ?_
        unfold bwStep
        split
        · split
          · have := bw_len line ts n e.2.2 (u ++ [e.1])
            show (e.1 :: _).length ≤ n + 1
            rw [List.length_cons]
            omega
          · exact h
        · exact h
    exact go ts (0, []) (Nat.zero_le _)
/-- a pair (count, way) stands at r; the list is new to F -/
def PairAt (F H : Hp) (r : Addr) (x : Nat × List Int) : Prop := ∃ wl, F wl = none ∧ H r = some (.tup [.int (x.1 : Int), .ref wl]) ∧ H wl = some (.lst (x.2.map V.int))
theorem PairAt.same {F H H' : Hp} {r : Addr} {x : Nat × List Int} (s : Same H H') (h : PairAt F H r x) : PairAt F H' r x := by
  obtain ⟨wl, hf, h1, h2⟩ := h
  exact ⟨wl, hf, s _ _ h1, s _ _ h2⟩
theorem PairAt.free {F F' H : Hp} {r : Addr} {x : Nat × List Int} (s : ∀ b, F b = none → F' b = none) (h : PairAt F H r x) : PairAt F' H r x := by
  obtain ⟨wl, hf, h1, h2⟩ := h
  exact ⟨wl, s _ hf, h1, h2⟩
def spBest (n : Nat) : Sp := fun vs H Q _ => ∃ (o t u : Addr) (ps : List Addr) (line : List Int) (ts : List Tr) (a : Int) (us : List Int), vs = [.ref o, .ref t, .int a, .ref u] ∧ Sq H o (line.map V.int) ∧ Sq H t (ps.map V.ref) ∧ TrsAt H ps ts ∧ Net line ts ∧
  H u = some (.tup (us.map V.int)) ∧ rem ts us + 1 ≤ n ∧ us.length + n ≤ 1000 ∧ ∀ r H', Same H H' → PairAt H H' r (bw line ts n a us) → Q (.ref r) H'
section
variable {P : Program} {w : World} {K : PySem.W.Frag} {mg : PySem.Str → Option Value} {base : Heap}
theorem scBest : FnScope ["order", "transfers", "area", "used", "best", "one", "count", "way"] ["order", "transfers", "area", "used"] (defScope sBest) := ⟨rfl, rfl, rfl, by decide +kernel, rfl, by decide +kernel, by decide +kernel⟩
theorem ok_best1 {n : Nat} {f fa : Addr} {fd fda : FuncData} (D : Df K mg "best_way" sBest ["order", "transfers", "area", "used"] f fd) (B : Bl mg) (DA : Df K mg "is_against" sAg ["order", "transfer"] fa fda)
    (G : FnOk P w K mg base CX0 (n + 1) f fd ["order", "transfers", "area", "used"] (spBest n)) : FnOk P w K mg base CX0 (n + 2) f fd ["order", "transfers", "area", "used"] (spBest (n + 1)) := by
  have GA : FnOk P w K mg base CX0 1 fa fda ["order", "transfer"] spAg := ok_ag DA
  refine D.F.ok scBest (fun vs H Q E h => ?_) (fun cdv A outer s H vs Q E hr h => ?_)
  · obtain ⟨o, t, u, ps, line, ts, a, us, rfl, _⟩ := h
    rfl
  obtain ⟨o, t, u, ps, line, ts, a, us, rfl, ho, ht, hts, net, hu, hrem, hlen, q⟩ := h
  refine ⟨_, pss_cons (ps_set (i := 4) scBest.nd rfl (Or.inl rfl) (pe_tup (pa_cons pe_int (pa_cons (pe_lst pa_nil) pa_nil))))
    (pss_cons (ps_for PassesOwn.never rfl (pi_var 1) (pg_name (i := 5) scBest.nd rfl (Or.inl rfl))
      (pss_one (ps_if (PW.pt (pw_and (pt_cmpR op_eq (pe_ix ix_tup (pv 5) pe_int (fun _ _ => rfl)) (pv 2) (nomark _)) (pw_and1 (pt_cmpR op_notIn_seq (pe_ix ix_tup (pv 5) pe_int (fun _ _ => rfl)) (pv 3) (by rfl)))))
        (pss_cons (ps_asg (pe_call G hr rfl D.m D.F.kp D.b .nil pass0 (pa_cons (pv 0) (pa_cons (pv 1) (pa_cons (pe_ix ix_tup (pv 5) pe_int (fun _ _ => rfl)) (pa_cons (pe_op op_catZ (pv 3) (pe_tup (pa_cons (pe_ix ix_tup (pv 5) pe_int (fun _ _ => rfl)) pa_nil))) pa_nil)))))
            (pg_tup rfl (pgs_cons (pg_name (i := 6) scBest.nd rfl (Or.inl rfl)) (pgs_cons (pg_name (i := 7) scBest.nd rfl (Or.inl rfl)) pgs_nil))))
        (pss_cons (ps_aug (i := 6) scBest.nd rfl (Or.inl rfl) (pe_callTy call_int1 (by rfl) B.int (by decide +kernel) (pa_cons (pe_call GA (hr.mono (by omega)) rfl DA.m DA.F.kp DA.b .nil pass0 (pa_cons (pv 0) (pa_cons (pv 5) pa_nil))) pa_nil)) ip_add)
        (pss_one (ps_if (pt_cmpR op_gt (pv 6) (pe_ix ix_tup (pv 4) pe_int (fun _ _ => rfl)) (nomark _))
          (pss_one (ps_set (i := 4) scBest.nd rfl (Or.inl rfl) (pe_tup (pa_cons (pv 6) (pa_cons (pe_op op_cat (pe_lst (pa_cons (pe_ix ix_tup (pv 5) pe_int (fun _ _ => rfl)) pa_nil)) (pv 7)) pa_nil))))) pss_nil)))) pss_nil)))
    (pss_one (ps_ret (pv 4)))), ?_⟩
  refine ⟨Nat.zero_le _, fun pl hpl => ⟨(by show 2 ≤ sizeLine; decide), fun r0 hr0 => ?_⟩⟩
  have s0 : Same H (upd (upd H pl (.lst [])) r0 (.tup [.int 0, .ref pl])) := same_upd (same_new hpl _) ((same_new hpl (.lst [])).free hr0) _
  have p0 : PairAt H (upd (upd H pl (.lst [])) r0 (.tup [.int 0, .ref pl])) r0 (0, []) := ⟨pl, hpl, upd_same, same_new hr0 _ _ _ upd_same⟩
  generalize upd (upd H pl (.lst [])) r0 (.tup [.int 0, .ref pl]) = H0 at s0 p0
  dsimp only [tSeq, tAsg, gName]
  refine for_var (a := t) (xs := ps.map V.ref) rfl (ht.same s0).sw (fun k σ' H' => Same H0 H' ∧ ∃ r v5 v6 v7, σ' = [some (.ref o), some (.ref t), some (.int a), some (.ref u), some (.ref r), v5, v6, v7] ∧ PairAt H H' r ((ts.take k).foldl (bwStep line (bw line ts n) a us) (0, [])))
    ⟨Same.refl _, r0, _, _, _, rfl, p0⟩ (fun _ _ _ p => p.1) (fun k x σ' H' hx p => ?_) fun σ' H' p => ?_
  · obtain ⟨s1, r, v5, v6, v7, rfl, pr⟩ := p
    have s2 := s0.trans s1
    obtain ⟨p, e, rfl, hp1, he, hat⟩ := (hts.same s2).get hx
    have hin := net.inn e (List.mem_of_getElem? he)
    have next : (ts.take (k + 1)).foldl (bwStep line (bw line ts n) a us) (0, []) = bwStep line (bw line ts n) a us ((ts.take k).foldl (bwStep line (bw line ts n) a us) (0, [])) e := by
      rw [List.take_add_one, he, List.foldl_append]
      rfl
    generalize (ts.take k).foldl (bwStep line (bw line ts n) a us) (0, []) = bst at next pr
    have stay : ∀ {v5 v6 v7} H2, Same H' H2 → bwStep line (bw line ts n) a us bst e = bst → Same H0 H2 ∧ ∃ r' w5 w6 w7, [some (.ref o), some (.ref t), some (.int a), some (.ref u), some (.ref r), v5, v6, v7] = ([some (.ref o), some (.ref t), some (.int a), some (.ref u), some (.ref r'), w5, w6, w7] : L2.St) ∧ PairAt H H2 r' ((ts.take (k + 1)).foldl (bwStep line (bw line ts n) a us) (0, [])) :=
      fun H2 sm eq => ⟨s1.trans sm, r, _, _, _, rfl, by rw [next, eq]; exact pr.same sm⟩
    refine ⟨_, rfl, p, _, 1, _, rfl, rfl, SqT.of hat, rfl, _, rfl, rfl, _, rfl, ?_⟩
    refine ite2 (fun h1 => ?_) fun h1 => iteF (stay H' (Same.refl _) ?_)
    · refine ⟨_, rfl, p, _, 0, _, rfl, rfl, SqT.of hat, rfl, _, rfl, u, _, rfl, .inr (SqT.of (s2 _ _ hu)), rfl, flat_ints us, _, rfl, ?_⟩
      rw [inV_ints]
      refine ite2 (fun h2 => ?_) fun h2 => stay H' (Same.refl _) ?_
      · have hm : e.1 ∉ us := by simpa using h2
        have hea : e.2.1 = a := V.int.inj (of_decide_eq_true h1)
        have hrl := rem_lt hm (List.mem_of_getElem? he)
        have hz : (sizeLine : Nat) = 16777216 := sizeLine_eq
        refine ⟨_, rfl, _, rfl, _, rfl, p, _, 2, _, rfl, rfl, SqT.of hat, rfl, _, rfl, _, rfl, p, _, 0, _, rfl, rfl, SqT.of hat, rfl, (by show 1 ≤ sizeLine; omega), fun b hb => ?_⟩
        have s3 : Same H' (upd H' b (.tup [.int e.1])) := same_new hb _
        refine ⟨u, b, us.map V.int, [.int e.1], rfl, rfl, SqT.of (s3 _ _ (s2 _ _ hu)), upd_same, List.cons_ne_nil _ _, by rw [List.length_map]; show us.length + 1 ≤ _; omega, fun p3 H3 s4 hp3 => ?_⟩
        have s5 := s2.trans (s3.trans s4)
        refine ⟨o, t, p3, ps, line, ts, e.2.2, us ++ [e.1], rfl, ho.same s5, ht.same s5, hts.same s5, net, by rw [List.map_append]; exact hp3, by omega, by rw [List.length_append]; show us.length + 1 + n ≤ 1000; omega, fun r1 H4 s6 pr1 => ?_⟩
        have hbl := bw_len line ts n e.2.2 (us ++ [e.1])
        have hbs : bwStep line (bw line ts n) a us bst e = if (bw line ts n e.2.2 (us ++ [e.1])).1 + agN line e > bst.1 then ((bw line ts n e.2.2 (us ++ [e.1])).1 + agN line e, e.1 :: (bw line ts n e.2.2 (us ++ [e.1])).2) else bst := by
          unfold bwStep
          rw [if_pos ⟨hea, hm⟩]
        generalize bw line ts n e.2.2 (us ++ [e.1]) = b1 at pr1 hbs hbl
        obtain ⟨wl, _, hw1, hw2⟩ := pr1
        have s7 : Same H' H4 := s3.trans (s4.trans s6)
        have s8 := s2.trans s7
        obtain ⟨wl0, _, hw3, hw4⟩ := pr.same s7
        refine ⟨r1, _, rfl, SqT.of hw1, rfl, _, _, rfl, _, _, rfl, rfl, ?_⟩
        refine ⟨_, rfl, _, rfl, _, rfl, o, p, line, e, rfl, ho.same s8, hat.same s7, hin.1, hin.2.1, .inr ⟨_, rfl, _, _, rfl, rfl, ?_⟩⟩
        have eag : (b1.1 : Int) + (if agB line e = true then 1 else 0) = ((b1.1 + agN line e : Nat) : Int) := by
          unfold agN
          split <;> simp
        dsimp only
        rw [eag]
        refine ⟨_, rfl, _, rfl, r, _, 0, _, rfl, rfl, SqT.of hw3, rfl, _, _, rfl, rfl, _, rfl, ?_⟩
        refine ite2 (fun h3 => ?_) fun h3 => ?_
        · have h3' : bst.1 < b1.1 + agN line e := by have := of_decide_eq_true h3; omega
          refine ⟨_, rfl, _, rfl, p, _, 0, _, rfl, rfl, SqT.of (hat.same s7), rfl, (by show 1 ≤ sizeLine; omega), fun l hl => ?_⟩
          have s9 : Same H4 (upd H4 l (.lst [.int e.1])) := same_new hl _
          refine ⟨_, rfl, l, wl, _, _, rfl, rfl, upd_same, s9 _ _ hw2, by rw [List.length_map]; show 1 + b1.2.length ≤ _; have := hlen; omega, fun l2 hl2 => ⟨(by show 2 ≤ sizeLine; omega), fun r2 hr2 => ?_⟩⟩
          have s10 := same_new hl2 (.lst ([.int e.1] ++ b1.2.map V.int))
          have s11 := same_new hr2 (.tup [.int ((b1.1 + agN line e : Nat) : Int), .ref l2])
          refine ⟨s1.trans (s7.trans (s9.trans (s10.trans s11))), r2, _, _, _, rfl, ?_⟩
          rw [next, hbs, if_pos h3']
          exact ⟨l2, (s8.trans s9).free hl2, upd_same, s11 _ _ upd_same⟩
        · have h3' : ¬ b1.1 + agN line e > bst.1 := fun z => h3 (decide_eq_true (by omega))
          exact stay H4 s7 (by rw [hbs, if_neg h3'])
      · have hm : e.1 ∈ us := by simpa using h2
        unfold bwStep
        exact if_neg fun z => z.2 hm
    · unfold bwStep
      exact if_neg fun z => h1 (decide_eq_true (by rw [z.1]))
  · obtain ⟨s1, r, v5, v6, v7, rfl, pr⟩ := p
    refine ⟨_, rfl, q r H' (s0.trans s1) ?_⟩
    rw [List.length_map, hts.len, List.take_length] at pr
    exact pr
theorem ok_best {f fa : Addr} {fd fda : FuncData} (D : Df K mg "best_way" sBest ["order", "transfers", "area", "used"] f fd) (B : Bl mg) (DA : Df K mg "is_against" sAg ["order", "transfer"] fa fda) :
    ∀ n, FnOk P w K mg base CX0 (n + 1) f fd ["order", "transfers", "area", "used"] (spBest n)
  | 0 => by
    refine D.F.ok scBest (fun vs H Q E h => ?_) (fun cdv A outer s H vs Q E hr h => ?_)
    · obtain ⟨o, t, u, ps, line, ts, a, us, rfl, _⟩ := h
      rfl
    · obtain ⟨o, t, u, ps, line, ts, a, us, rfl, _, _, _, _, _, h, _⟩ := h
      omega
  | n + 1 => ok_best1 D B DA (ok_best D B DA n)
end
end K48

set_option Elab.async false
set_option maxRecDepth 100000
set_option maxHeartbeats 4000000
set_option linter.all false
namespace K48
open PySem PySem.Spec PyProof.Rows L2
/-- the table of the lambda in rounds -/
def lamQ : PySem.Str := ("rounds" : PySem.Str) ++ ".<locals>." ++ "<lambda>"
abbrev TT (P : Addr) : List (Addr × PySem.Str) := [(P, lamQ)]
/-- a def whose code object is told -/
structure DfC (K : PySem.W.Frag) (mg : PySem.Str → Option Value) (x : PySem.Str) (st : Stmt) (ps : List PySem.Str) (f : Addr) (fd : FuncData) (c : Addr) : Prop where
  ex : ∃ (oc : Value) (od : Option Addr) (kV doc pm : Value) (an : Option Addr) (ct : Value) (osl : Array (Option Value)),
    fd = PySem.W.fnOf x x (defArgs st) (defBody st) (defScope st) .none kV doc pm an (.ref c) ct ∧ K.lookup f = some ⟨oc, od, .func fd, osl⟩ ∧ PySem.W.codeIn K (.ref c) x = true
  kp : PySem.W.keepIn K (.ref f) = true
  b : Binds K fd ps []
  m : mg x = some (.ref f)
def spRounds (P : Addr) : Sp := fun vs H Q _ => ∃ (o t f : Addr) (ps : List Addr) (line first : List Int) (ts : List Tr), vs = [.ref o, .ref t, .ref f] ∧ Sq H o (line.map V.int) ∧ Sq H t (ps.map V.ref) ∧ TrsAt H ps ts ∧ Net line ts ∧
  Sq H f (first.map V.int) ∧ first.Nodup ∧ first.length ≤ 1000 ∧ (∀ a ∈ first, a ∈ line) ∧ ts.length ≤ 7 ∧ LamX.Tabs (TT P) H ∧
  ∀ r H', LamX.ExtN H H' → LamX.Tabs (TT P) H' → PairAt (fun _ => none) H' r (roundsM line ts 8 first) → Q (.ref r) H'
section
variable {P : Program} {w : World} {K : PySem.W.Frag} {mg : PySem.Str → Option Value} {base : Heap}
theorem scRounds : FnScope ["order", "transfers", "first", "found", "count", "way", "area"] ["order", "transfers", "first"] (defScope sRounds) := ⟨rfl, rfl, rfl, by decide +kernel, rfl, by decide +kernel, by decide +kernel⟩
theorem scPair : FnScope ["pair"] ["pair"] ⟨.function, [("pair", .local)], false, false, []⟩ := ⟨rfl, rfl, rfl, by decide +kernel, rfl, by decide +kernel, by decide +kernel⟩
theorem ok_rounds {T c : Addr} {f fi fd' ft fn fN fb fa : Addr} {fd fdi fdd fdt fdn fdN fdb fda : FuncData} (D : DfC K mg "rounds" sRounds ["order", "transfers", "first"] f fd c) (B : Bl mg) (TB : LamX.TabB base mg c T)
    (DI : Df K mg "is_integer" sIsInt ["value"] fi fdi) (DD : Df K mg "are_different" sDiff ["value"] fd' fdd)
    (DT : Df K mg "is_triple" sTriple ["value", "order"] ft fdt) (DN : Df K mg "need_transfers" sNeedT ["order", "transfers"] fn fdn) (DM : Df K mg "need_net" sNeedN ["order", "transfers", "first"] fN fdN)
    (DB : Df K mg "best_way" sBest ["order", "transfers", "area", "used"] fb fdb) (DA : Df K mg "is_against" sAg ["order", "transfer"] fa fda) : FnOk P w K mg base CX0 11 f fd ["order", "transfers", "first"] (spRounds T) := by
  have GN : FnOk P w K mg base CX0 4 fN fdN ["order", "transfers", "first"] spNeedN := ok_needN DM B DI DD DT DN
  have GB : FnOk P w K mg base CX0 9 fb fdb ["order", "transfers", "area", "used"] (spBest 8) := ok_best DB B DA 8
  obtain ⟨oc, od, kV, doc, pm, an, ct, osl, rfl, lk, hcd⟩ := D.ex
  refine fn_of lk hcd scRounds (fun vs H Q E h => ?_) fun A outer s H vs Q E hr h => ?_
  · obtain ⟨o, t, f, ps, line, first, ts, rfl, _⟩ := h
    rfl
  obtain ⟨o, t, f, ps, line, first, ts, rfl, ho, ht, hts, net, hf, fnd, fl, fin, tl, hT, q⟩ := h
  suffices hh : ∃ t, PSs (cxOf CX0 P w K mg base ["order", "transfers", "first", "found", "count", "way", "area"] "rounds" (defScope sRounds) _ (.ref c) A outer s H E).nox (defBody sRounds) t ∧ t { nx := fun _ H' => Q .non H', rt := Q } (L2.start _ _) H by
    obtain ⟨t, h1, h2⟩ := hh
    exact ⟨t, h1.nox, h2⟩
  refine ⟨_, pss_cons (ps_expr (pe_call GN (hr.mono (by decide)) rfl DM.m DM.F.kp DM.b .nil pass0 (pa_cons (pv 0) (pa_cons (pv 1) (pa_cons (pv 2) pa_nil)))))
    (pss_cons (ps_if (pt_cmpR op_eq (pe_callB call_len_seq (by rfl) B.len PySem.boot_len (pa_cons (pv 2) pa_nil)) pe_int (nomark _)) (pss_one (ps_ret (pe_tup (pa_cons pe_int (pa_cons (pe_lst pa_nil) pa_nil))))) pss_nil)
    (pss_cons (ps_setLc (i := 3) (own := [("area", 6)]) (g := gName 6) (tt := tYes) rfl scRounds.nd rfl rfl (sw_true rfl rfl rfl rfl) (pi_var 2) (blkOk_by (own := [("area", 6)]) (N := ["order", "transfers", "first", "found", "count", "way", "area"]) (sc := defScope sRounds) (by decide +kernel))
      (fun _ _ _ _ _ => pg_name (i := 6) scRounds.nd rfl (Or.inl rfl)) (fun _ _ _ _ _ => pts_nil) (fun _ _ _ _ _ => pe_call GB (hr.mono (by decide)) rfl DB.m DB.F.kp DB.b .nil pass0 (pa_cons (pv 0) (pa_cons (pv 1) (pa_cons (pv 6) (pa_cons (pe_tup pa_nil) pa_nil))))))
    (pss_cons (ps_asg (pe_maxKey (T := TT T) (k := 0) (by rfl) B.max (pv 3) TB rfl (by simp [TT, lamQ]; rfl) (fun p hp _ => by simp [TT] at hp; rw [hp]; rfl) (hr.mono (by decide)) scPair rfl rfl (fun _ _ _ _ _ => rfl)
        (fun _ _ _ _ _ _ => pe_ix (ix_tupK K) (pv 0) pe_int (fun _ _ => rfl)))
      (pg_tup rfl (pgs_cons (pg_name (i := 4) scRounds.nd rfl (Or.inl rfl)) (pgs_cons (pg_name (i := 5) scRounds.nd rfl (Or.inl rfl)) pgs_nil))))
    (pss_one (ps_ret (pe_tup (pa_cons (pe_op op_add (pv 4) pe_int) (pa_cons (pv 5) pa_nil)))))))), ?_⟩
  have hz : (sizeLine : Nat) = 16777216 := sizeLine_eq
  refine ⟨_, rfl, _, rfl, _, rfl, o, t, f, ps, line, first, ts, rfl, ho, ht, hts, net, hf, fnd, fl, fin, fun H1 s1 => ?_⟩
  refine ⟨_, rfl, f, _, rfl, (hf.same s1).both, rfl, _, rfl, ?_⟩
  refine ite2 (fun h1 => ?_) fun h1 => ?_
  · have h0 : first.length = 0 := by
      have := V.int.inj (of_decide_eq_true h1)
      rw [List.length_map] at this
      omega
    refine ⟨Nat.zero_le _, fun l hl => ⟨(by show 2 ≤ sizeLine; omega), fun r hr0 => ?_⟩⟩
    have s2 := same_new hl (.lst [])
    have s3 := same_new hr0 (.tup [.int 0, .ref l])
    have s4 := s1.trans (s2.trans s3)
    refine q r _ (ext_of s4) (hT.ext s4) ⟨l, rfl, ?_, ?_⟩
    · rw [upd_same]
      unfold roundsM
      rw [if_pos h0]
      rfl
    · rw [s3 _ _ upd_same]
      unfold roundsM
      rw [if_pos h0]
      rfl
  have hn : first.length ≠ 0 := fun z => h1 (decide_eq_true (by rw [List.length_map, z]; rfl))
  dsimp only [tNext, tSeq, tAsg, gName]
  refine lc_var (show ([some (V.ref o), some (V.ref t), some (V.ref f), none, none, none, none] : L2.St)[2]? = some (some (.ref f)) from rfl) (hf.same s1).sw
    (fun D n H' => Same H1 H' ∧ n ≤ first.length ∧ ∃ rs : List Addr, H' D = some (.lst (rs.map V.ref)) ∧ rs.length = n ∧ ∀ i r, rs[i]? = some r → PairAt (upd H1 D (.lst [])) H' r (bwAt line ts 8 first i))
    (fun D nD => ⟨same_new nD _, Nat.zero_le _, [], upd_same, rfl, fun i r e => by simp at e⟩) (fun D n H' _ p => p.1) (fun D n x H' nD hx p => ?_) fun D H' nD p => ?_
  · obtain ⟨s2, hnl, rs, eD, hrl, hrs⟩ := p
    have s3 := s1.trans s2
    rw [List.getElem?_map] at hx
    cases e : first[n]? with
    | none => rw [e] at hx; cases hx
    | some a =>
    rw [e] at hx
    cases hx
    have hlt : n < first.length := (List.getElem?_eq_some_iff.mp e).1
    refine ⟨inBlk_wipe _ 6 _, yes_read ?_⟩
    refine ⟨_, rfl, _, rfl, _, rfl, Nat.zero_le _, fun u hu => ?_⟩
    have s4 := same_new hu (.tup [])
    have s5 := s3.trans s4
    refine ⟨o, t, u, ps, line, ts, a, [], rfl, ho.same s5, ht.same s5, hts.same s5, net, upd_same, by have := rem_le ts []; omega, by show 0 + 8 ≤ 1000; decide, fun r H4 s6 pr => ?_⟩
    have s7 := s4.trans s6
    have eD4 := s7 _ _ eD
    refine ⟨_, eD4, by rw [List.length_map]; omega, same_upd (s2.trans s7) nD _, hlt, rs ++ [r], ?_, by rw [List.length_append, hrl]; rfl, fun i r' hi => ?_⟩
    · rw [upd_same, List.map_append]
      rfl
    · have keep : ∀ {wl r' : Addr} {x : Nat × List Int}, wl ≠ D → H4 r' = some (.tup [.int (x.1 : Int), .ref wl]) → H4 wl = some (.lst (x.2.map V.int)) → upd H1 D (.lst []) wl = none → PairAt (upd H1 D (.lst [])) (upd H4 D (.lst (rs.map V.ref ++ [.ref r]))) r' x := fun hne h1 h2 h3 =>
        ⟨_, h3, by rw [upd_ne (ne_of h1 eD4 fun z => nomatch z)]; exact h1, by rw [upd_ne hne]; exact h2⟩
      have neD : ∀ {wl : Addr}, upd H1 D (.lst []) wl = none → wl ≠ D := fun h z => by
        rw [z, upd_same] at h
        cases h
      rcases Nat.lt_or_ge i rs.length with hlt' | hge
      · rw [List.getElem?_append_left hlt'] at hi
        obtain ⟨wl, a1, a2, a3⟩ := (hrs i r' hi).same s7
        exact keep (neD a1) a2 a3 a1
      · have hi1 : i = rs.length := by
          have := (List.getElem?_eq_some_iff.mp hi).1
          rw [List.length_append] at this
          simp at this
          omega
        subst hi1
        rw [List.getElem?_append_right (Nat.le_refl _), Nat.sub_self] at hi
        have er : r' = r := (Option.some.inj hi).symm
        subst er
        have eb : bwAt line ts 8 first rs.length = bw line ts 8 a [] := by
          unfold bwAt
          rw [List.getD_eq_getElem?_getD, hrl, e]
          rfl
        rw [eb]
        obtain ⟨wl, a1, a2, a3⟩ := pr
        have hne : wl ≠ D := fun z => by
          rw [z, s4 _ _ eD] at a1
          cases a1
        have hf1 : upd H1 D (.lst []) wl = none := by
          rw [upd_ne hne]
          exact (s2.trans s4).free a1
        exact keep hne a2 a3 hf1
  · obtain ⟨s2, _, rs, eD, hrl, hrs⟩ := p
    rw [List.length_map] at hrl
    have s3 := s1.trans s2
    refine ⟨_, rfl, hT.ext s3, fun H2 e2 T2 => ?_⟩
    have hrs2 : ∀ i r, rs[i]? = some r → PairAt (fun _ => none) H2 r (bwAt line ts 8 first i) := fun i r hi => by
      obtain ⟨wl, a1, a2, a3⟩ := hrs i r hi
      exact ⟨wl, rfl, e2 _ _ a2 (fun _ z => nomatch z), e2 _ _ a3 (fun _ z => nomatch z)⟩
    refine ⟨D, rs, fun i => (bwAt line ts 8 first i).1, rfl, SqL.of (e2 _ _ eD (fun _ z => nomatch z)), by omega, fun i z hz Q' hq => ?_, ?_⟩
    · obtain ⟨wl, a1, a2, a3⟩ := hrs2 i z hz
      exact ⟨_, rfl, z, _, 0, _, rfl, rfl, SqT.of a2, rfl, hq⟩
    · have hle := amax_le (fun i => (bwAt line ts 8 first i).1) (rs.length - 1)
      have hlt : amax (fun i => (bwAt line ts 8 first i).1) (rs.length - 1) < rs.length := by omega
      have hget : rs[amax (fun i => (bwAt line ts 8 first i).1) (rs.length - 1)]? = some (rs.getD (amax (fun i => (bwAt line ts 8 first i).1) (rs.length - 1)) 0) := by
        rw [List.getD_eq_getElem?_getD, List.getElem?_eq_getElem hlt]
        rfl
      have erm : roundsM line ts 8 first = ((bwAt line ts 8 first (amax (fun i => (bwAt line ts 8 first i).1) (rs.length - 1))).1 + 1, (bwAt line ts 8 first (amax (fun i => (bwAt line ts 8 first i).1) (rs.length - 1))).2) := by
        unfold roundsM
        rw [if_neg hn, hrl]
      have hp := hrs2 _ _ hget
      rw [erm] at q
      generalize bwAt line ts 8 first (amax (fun i => (bwAt line ts 8 first i).1) (rs.length - 1)) = b at hp q
      generalize rs.getD (amax (fun i => (bwAt line ts 8 first i).1) (rs.length - 1)) 0 = r at hp
      obtain ⟨wl, _, a2, a3⟩ := hp
      refine ⟨r, _, rfl, SqT.of a2, rfl, _, _, rfl, _, _, rfl, rfl, ?_⟩
      refine ⟨_, rfl, _, _, rfl, rfl, _, rfl, (by show 2 ≤ sizeLine; omega), fun p hp => ?_⟩
      have s5 := same_new hp (.tup [.int ((b.1 : Int) + 1), .ref wl])
      exact q p _ ((ext_of s3).trans (e2.trans (ext_of s5))) (T2.ext s5) ⟨wl, rfl, upd_same, s5 _ _ a3⟩
end
end K48

set_option Elab.async false
set_option maxRecDepth 100000
set_option maxHeartbeats 4000000
set_option linter.all false
namespace K48
open PySem PySem.Spec PyProof.Rows L2
/-- the state of the draws: the list at s, its sheet at sh -/
def Sta (H : Hp) (s sh : Addr) : Prop := ∃ (fs : List Nat) (i m : Nat), fs ≠ [] ∧ fs.length ≤ 63 ∧ m < 2147483647 ∧ H s = some (.lst [.ref sh, .int (i : Int), .int (m : Int)]) ∧ H sh = some (.lst (fs.map fun n : Nat => V.int (n : Int)))
theorem Sta.same {H H' : Hp} {s sh : Addr} (e : Same H H') (h : Sta H s sh) : Sta H' s sh := by
  obtain ⟨fs, i, m, h1, h2, h3, h4, h5⟩ := h
  exact ⟨fs, i, m, h1, h2, h3, e _ _ h4, e _ _ h5⟩
theorem Sta.ext {H H' : Hp} {s sh : Addr} (e : LamX.ExtN H H') (h : Sta H s sh) : Sta H' s sh := by
  obtain ⟨fs, i, m, h1, h2, h3, h4, h5⟩ := h
  exact ⟨fs, i, m, h1, h2, h3, e _ _ h4 (fun _ z => nomatch z), e _ _ h5 (fun _ z => nomatch z)⟩
theorem Sta.ne {H : Hp} {s sh : Addr} (h : Sta H s sh) : s ≠ sh := by
  obtain ⟨fs, i, m, h1, h2, h3, h4, h5⟩ := h
  refine ne_of h4 h5 fun z => ?_
  have z' := HO.lst.inj z
  cases fs with
  | nil => cases z'
  | cons a l => injection z' with z1 _; cases z1
/-- all but the state and its sheet stands as it was -/
structure Mv (s sh : Addr) (H H' : Hp) : Prop where
  keep : ∀ c o, c ≠ s → c ≠ sh → H c = some o → H' c = some o
  st : Sta H' s sh
/-- neither the state nor its sheet -/
def Out (s sh a : Addr) : Prop := a ≠ s ∧ a ≠ sh
theorem Sta.out {H : Hp} {s sh a : Addr} (h : Sta H s sh) (n : H a = none) : Out s sh a := by
  obtain ⟨fs, i, m, h1, h2, h3, h4, h5⟩ := h
  exact ⟨(ne_of_none h4 n).symm, (ne_of_none h5 n).symm⟩
theorem Mv.refl {s sh : Addr} {H : Hp} (h : Sta H s sh) : Mv s sh H H := ⟨fun _ _ _ _ e => e, h⟩
theorem Mv.trans {s sh : Addr} {H H1 H2 : Hp} (a : Mv s sh H H1) (b : Mv s sh H1 H2) : Mv s sh H H2 := ⟨fun c o n1 n2 e => b.keep c o n1 n2 (a.keep c o n1 n2 e), b.st⟩
theorem Mv.same {s sh : Addr} {H H1 H2 : Hp} (a : Mv s sh H H1) (b : Same H1 H2) : Mv s sh H H2 := ⟨fun c o n1 n2 e => b c o (a.keep c o n1 n2 e), a.st.same b⟩
theorem Mv.of {s sh : Addr} {H H1 : Hp} (h : Sta H s sh) (b : Same H H1) : Mv s sh H H1 := (Mv.refl h).same b
theorem Mv.free {s sh : Addr} {H H' : Hp} (a : Mv s sh H H') {d : Addr} (n : H' d = none) : H d = none := by
  cases e : H d with
  | none => rfl
  | some o =>
    have := a.keep d o (a.st.out n).1 (a.st.out n).2 e
    rw [n] at this
    cases this
/-- a new object is changed: the draw's frame does not see it -/
theorem Mv.upd_new {s sh d : Addr} {H H' : Hp} {o : HO} (a : Mv s sh H H') (n : H d = none) (hs : Out s sh d) : Mv s sh H (upd H' d o) := by
  refine ⟨fun c u n1 n2 e => ?_, ?_⟩
  · rw [upd_ne (ne_of_none e n)]
    exact a.keep c u n1 n2 e
  · obtain ⟨fs, i, m, h1, h2, h3, h4, h5⟩ := a.st
    exact ⟨fs, i, m, h1, h2, h3, by rw [upd_ne hs.1.symm]; exact h4, by rw [upd_ne hs.2.symm]; exact h5⟩
theorem Sq.mv {s sh : Addr} {H H' : Hp} {a : Addr} {xs : List V} (m : Mv s sh H H') (o : Out s sh a) (h : Sq H a xs) : Sq H' a xs := by
  rcases h with h | ⟨ob, d, q⟩
  · exact .inl (m.keep _ _ o.1 o.2 h)
  · exact .inr ⟨ob, d, m.keep _ _ o.1 o.2 q⟩
theorem atI_nat {xs : List V} {k : Nat} {v : V} (h : xs[k]? = some v) : atI xs (k : Int) = some v := by
  have hl : k < xs.length := (List.getElem?_eq_some_iff.mp h).1
  unfold atI ixN
  rw [if_pos (by omega), if_pos (by omega)]
  exact h
theorem ixN_nat {n k : Nat} (h : k < n) : ixN n (k : Int) = some k := by
  unfold ixN
  rw [if_pos (by omega), if_pos (by omega)]
  rfl
def spDraw : Sp := fun vs H Q _ => ∃ (s sh : Addr) (b : Int), vs = [.ref s, .int b] ∧ Sta H s sh ∧ 0 < b ∧ b < 1048576 ∧ ∀ (r : Nat) H', (r : Int) < b → Mv s sh H H' → Q (.int (r : Int)) H'
section
variable {P : Program} {w : World} {K : PySem.W.Frag} {mg : PySem.Str → Option Value} {base : Heap}
theorem scDraw : FnScope ["_law_state", "_law_bound", "_law_sheet", "_law_at", "_law_figure"] ["_law_state", "_law_bound"] (defScope sDraw) := ⟨rfl, rfl, rfl, by decide +kernel, rfl, by decide +kernel, by decide +kernel⟩
theorem ok_draw {f : Addr} {fd : FuncData} (D : Df K mg "_law_draw" sDraw ["_law_state", "_law_bound"] f fd) (B : Bl mg) : FnOk P w K mg base CX0 1 f fd ["_law_state", "_law_bound"] spDraw := by
  refine D.F.ok scDraw (fun vs H Q E h => ?_) (fun cdv A outer s0 H vs Q E hr h => ?_)
  · obtain ⟨s, sh, b, rfl, _⟩ := h
    rfl
  obtain ⟨s, sh, b, rfl, st, hb, hb2, q⟩ := h
  refine ⟨_, pss_cons (ps_set (i := 2) scDraw.nd rfl (Or.inl rfl) (pe_ix ix_list (pv 0) pe_int (fun _ _ => rfl)))
    (pss_cons (ps_set (i := 3) scDraw.nd rfl (Or.inl rfl) (pe_op op_mod (pe_callTy call_int1 (by rfl) B.int (by decide +kernel) (pa_cons (pe_ix ix_list (pv 0) pe_int (fun _ _ => rfl)) pa_nil)) (pe_callB call_len_seq (by rfl) B.len PySem.boot_len (pa_cons (pv 2) pa_nil))))
    (pss_cons (ps_set (i := 4) scDraw.nd rfl (Or.inl rfl) (pe_ix ix_list (pv 2) (pv 3) (fun _ _ => rfl)))
    (pss_cons (ps_if (pt_cmpR op_ge (pv 4) pe_int (nomark _)) (pss_cons (ps_asg (pe_op op_fdivW (pv 4) (pv 1)) (pg_sub (pv 2) (pv 3) set_list)) (pss_one (ps_ret (pe_op op_mod (pe_callTy call_int1 (by rfl) B.int (by decide +kernel) (pa_cons (pv 4) pa_nil)) (pv 1))))) pss_nil)
    (pss_cons (ps_asg (pe_op op_add (pe_ix ix_list (pv 0) pe_int (fun _ _ => rfl)) pe_int) (pg_sub (pv 0) pe_int set_list))
    (pss_cons (ps_asg (pe_op op_mod (pe_callTy call_int1 (by rfl) B.int (by decide +kernel) (pa_cons (pe_op op_add (pe_op op_add (pe_op op_add (pe_op op_mul (pe_ix ix_list (pv 0) pe_int (fun _ _ => rfl)) pe_int) (pv 4)) (pe_op op_mul pe_int (pe_ix ix_list (pv 0) pe_int (fun _ _ => rfl)))) pe_int) pa_nil)) pe_int) (pg_sub (pv 0) pe_int set_list))
    (pss_one (ps_ret (pe_op op_mod (pe_op op_fdivW (pe_op op_mod (pe_callTy call_int1 (by rfl) B.int (by decide +kernel) (pa_cons (pe_op op_mul (pe_ix ix_list (pv 0) pe_int (fun _ _ => rfl)) (pe_ix ix_list (pv 0) pe_int (fun _ _ => rfl))) pa_nil)) pe_int) pe_int) (pv 1))))))))), ?_⟩
  obtain ⟨fs, i, m, h1, h2, h3, h4, h5⟩ := st
  have fin : ∀ (z : Int) H', Mv s sh H H' → Q (.int (z % b)) H' := fun z H' mv => by
    have e0 : 0 ≤ z % b := Int.emod_nonneg _ (by omega)
    have e1 : z % b < b := Int.emod_lt_of_pos _ hb
    have e2 : z % b = ((z % b).toNat : Int) := (Int.toNat_of_nonneg e0).symm
    have := q (z % b).toNat H' (by omega) mv
    rw [← e2] at this
    exact this
  have hpos : (0 : Int) < ((fs.map fun n : Nat => V.int (n : Int)).length : Int) := by
    rw [List.length_map]
    have := List.length_pos_iff.mpr h1
    omega
  have hlen : 0 < fs.length := List.length_pos_iff.mpr h1
  have hk : i % fs.length < fs.length := Nat.mod_lt _ hlen
  have eat : ((i : Int) % ((fs.map fun n : Nat => V.int (n : Int)).length : Int)) = ((i % fs.length : Nat) : Int) := by
    rw [List.length_map]
    rfl
  have hat : atI (fs.map fun n : Nat => V.int (n : Int)) ((i : Int) % ((fs.map fun n : Nat => V.int (n : Int)).length : Int)) = some (.int ((fs[i % fs.length] : Nat) : Int)) := by
    rw [eat]
    refine atI_nat ?_
    rw [List.getElem?_map, List.getElem?_eq_getElem hk]
    rfl
  have hix : ixN (fs.map fun n : Nat => V.int (n : Int)).length ((i : Int) % ((fs.map fun n : Nat => V.int (n : Int)).length : Int)) = some (i % fs.length) := by
    rw [eat]
    exact ixN_nat (by rw [List.length_map]; exact hk)
  have hne : s ≠ sh := Sta.ne ⟨fs, i, m, h1, h2, h3, h4, h5⟩
  have hbw : b.natAbs < 2 ^ 20 := by
    have : (2 : Nat) ^ 20 = 1048576 := by decide
    omega
  refine ⟨_, rfl, s, _, 0, _, rfl, rfl, SqL.of h4, rfl, ?_⟩
  refine ⟨_, rfl, s, _, 1, _, rfl, rfl, SqL.of h4, rfl, .inl ⟨_, rfl, _, rfl, sh, _, rfl, .inl (SqL.of h5), _, _, rfl, rfl, hpos, ?_⟩⟩
  refine ⟨_, rfl, _, rfl, sh, _, _, _, rfl, rfl, SqL.of h5, hat, ?_⟩
  generalize hx : fs[i % fs.length] = x
  refine ⟨_, rfl, _, _, rfl, rfl, _, rfl, ?_⟩
  refine ite2 (fun _ => ?_) fun _ => ?_
  · refine ⟨_, rfl, _, rfl, _, _, rfl, rfl, wide_div hb hbw (by decide) (by decide), _, rfl, _, rfl, sh, _, _, _, rfl, rfl, h5, hix, ?_⟩
    refine ⟨_, rfl, .inl ⟨_, rfl, _, rfl, _, _, rfl, rfl, hb, fin _ _ ⟨fun c o n1 n2 e => by rw [upd_ne n2]; exact e, ?_⟩⟩⟩
    have e0 : 0 ≤ (x : Int) / b := Int.ediv_nonneg (by omega) (by omega)
    refine ⟨fs.set (i % fs.length) ((x : Int) / b).toNat, i, m, fun z => h1 ?_, by rw [List.length_set]; exact h2, h3, by rw [upd_ne hne]; exact h4, ?_⟩
    · have := congrArg List.length z
      rw [List.length_set] at this
      exact List.length_eq_zero_iff.mp this
    · rw [upd_same, List.map_set, Int.toNat_of_nonneg e0]
  · have p1 : ∀ x : Nat, x < 2147483647 → CMul (x : Int) 48271 := fun x hx => .inr ⟨by decide, by decide⟩
    refine ⟨_, rfl, s, _, 1, _, rfl, rfl, SqL.of h4, rfl, _, _, rfl, rfl, _, rfl, s, _, _, 1, rfl, rfl, h4, rfl, ?_⟩
    have e1 : upd H s (.lst ([.ref sh, .int (i : Int), .int (m : Int)].set 1 (.int ((i : Int) + 1)))) s = some (.lst [.ref sh, .int ((i : Int) + 1), .int (m : Int)]) := upd_same
    generalize hH1 : upd H s (.lst ([.ref sh, .int (i : Int), .int (m : Int)].set 1 (.int ((i : Int) + 1)))) = H1 at e1
    refine ⟨_, rfl, s, _, 2, _, rfl, rfl, SqL.of e1, rfl, _, _, rfl, rfl, p1 m h3, _, rfl, _, _, rfl, rfl, _, rfl, s, _, 1, _, rfl, rfl, SqL.of e1, rfl, _, _, rfl, rfl, .inl ⟨by decide, by decide⟩, _, _, rfl, rfl, _, _, rfl, rfl,
      .inl ⟨_, rfl, _, _, rfl, rfl, (by show (0 : Int) < 2147483647; decide), _, rfl, s, _, _, 2, rfl, rfl, e1, rfl, ?_⟩⟩
    dsimp only
    generalize hz : ((m : Int) * 48271 + (x : Int) + 7919 * ((i : Int) + 1) + 12345) % 2147483647 = z
    have z0 : 0 ≤ z := by rw [← hz]; exact Int.emod_nonneg _ (by decide)
    have z1 : z < 2147483647 := by rw [← hz]; exact Int.emod_lt_of_pos _ (by decide)
    have e2 : upd H1 s (.lst ([.ref sh, .int ((i : Int) + 1), .int (m : Int)].set 2 (.int z))) s = some (.lst [.ref sh, .int ((i : Int) + 1), .int z]) := upd_same
    have mv : Mv s sh H (upd H1 s (.lst ([.ref sh, .int ((i : Int) + 1), .int (m : Int)].set 2 (.int z)))) := by
      refine ⟨fun c o n1 n2 e => by rw [upd_ne n1, ← hH1, upd_ne n1]; exact e, fs, i + 1, z.toNat, h1, h2, by omega, ?_, by rw [upd_ne hne.symm, ← hH1, upd_ne hne.symm]; exact h5⟩
      rw [e2, Int.toNat_of_nonneg z0]
      rfl
    refine ⟨_, rfl, s, _, 2, _, rfl, rfl, SqL.of e2, rfl, _, rfl, s, _, 2, _, rfl, rfl, SqL.of e2, rfl, _, _, rfl, rfl, (.inl ⟨by show -(2 ^ 64) < z; omega, by show z < 2 ^ 64; omega⟩), .inl ⟨_, rfl, _, _, rfl, rfl, (by show (0 : Int) < 2147483629; decide), _, _, rfl, rfl, wide_div (b := 20) (by decide) (by decide) (by decide) (by decide), _, rfl, _, _, rfl, rfl, hb, fin _ _ mv⟩⟩
end
end K48

set_option Elab.async false
set_option maxRecDepth 100000
set_option maxHeartbeats 4000000
set_option linter.all false
namespace K48
open PySem PySem.Spec PyProof.Rows L2
/-! data: which may be compared, when it is equal -/
def Nice (k : Nat) (d : PyData) : Prop := d.canLay0 = true ∧ d.depth ≤ k
theorem Nice.int (z : Int) : Nice 1 (.int z) := ⟨by simp only [PyData.canLay0], by simp only [PyData.depth]; omega⟩
theorem can_all : ∀ {ds : List PyData}, (∀ d ∈ ds, d.canLay0 = true) → PyData.canLayAll0 ds = true
  | [], _ => by simp only [PyData.canLayAll0]
  | d :: ds, h => by
    simp only [PyData.canLayAll0, Bool.and_eq_true]
    exact ⟨h d List.mem_cons_self, can_all fun e he => h e (List.mem_cons_of_mem _ he)⟩
theorem depth_all {k : Nat} : ∀ {ds : List PyData}, (∀ d ∈ ds, d.depth ≤ k) → PyData.depthAll ds ≤ k
  | [], _ => by simp only [PyData.depthAll]; omega
  | d :: ds, h => by
    have h1 := h d List.mem_cons_self
    have h2 := depth_all (k := k) (ds := ds) fun e he => h e (List.mem_cons_of_mem _ he)
    simp only [PyData.depthAll]
    omega
theorem Nice.list {k : Nat} {ds : List PyData} (h : ∀ d ∈ ds, Nice k d) : Nice (k + 1) (.list ds) :=
  ⟨by simp only [PyData.canLay0]; exact can_all fun d hd => (h d hd).1, by have := depth_all (k := k) fun d hd => (h d hd).2; simp only [PyData.depth]; omega⟩
theorem Nice.tuple {k : Nat} {ds : List PyData} (h : ∀ d ∈ ds, Nice k d) : Nice (k + 1) (.tuple ds) :=
  ⟨by simp only [PyData.canLay0]; exact can_all fun d hd => (h d hd).1, by have := depth_all (k := k) fun d hd => (h d hd).2; simp only [PyData.depth]; omega⟩
theorem Nice.mono {j k : Nat} {d : PyData} (h : Nice j d) (l : j ≤ k) : Nice k d := ⟨h.1, Nat.le_trans h.2 l⟩
theorem Nice.shaped {k : Nat} {d : PyData} (h : Nice k d) (hk : k ≤ 60) : SeqAt.shaped d = true := by
  unfold SeqAt.shaped
  rw [h.1, decide_eq_true (by have := h.2; omega)]
  rfl
theorem eqvAll_map {α : Type} [DecidableEq α] (g : α → PyData) (h : ∀ x y, PyData.eqv (g x) (g y) = decide (x = y)) : ∀ a b : List α, PyData.eqvAll (a.map g) (b.map g) = decide (a = b)
  | [], [] => by simp [PyData.eqvAll]
  | [], _ :: _ => by simp [PyData.eqvAll]
  | _ :: _, [] => by simp [PyData.eqvAll]
  | x :: a, y :: b => by
    rw [List.map_cons, List.map_cons, PyData.eqvAll, h, eqvAll_map g h a b]
    by_cases c : x = y <;> by_cases c2 : a = b <;> simp [c, c2]
theorem eqv_int (x y : Int) : PyData.eqv (.int x) (.int y) = decide (x = y) := by
  rw [PyData.eqv]
  by_cases c : x = y
  · subst c; simp
  · rw [decide_eq_false c]; exact beq_eq_false_iff_ne.mpr c
def iL (zs : List Int) : PyData := .list (zs.map .int)
def iT (zs : List Int) : PyData := .tuple (zs.map .int)
def trD (e : Tr) : PyData := .tuple [.int e.1, .int e.2.1, .int e.2.2]
def stD (s : Stt) : PyData := .tuple [.int s.1, iT s.2]
def pD (x : Nat × List Int) : PyData := .tuple [.int (x.1 : Int), iL x.2]
theorem eqv_iL (a b : List Int) : PyData.eqv (iL a) (iL b) = decide (a = b) := by
  unfold iL
  rw [PyData.eqv]
  exact eqvAll_map _ eqv_int a b
theorem eqv_iT (a b : List Int) : PyData.eqv (iT a) (iT b) = decide (a = b) := by
  unfold iT
  rw [PyData.eqv]
  exact eqvAll_map _ eqv_int a b
theorem eqv_stD (s t : Stt) : PyData.eqv (stD s) (stD t) = decide (s = t) := by
  obtain ⟨a, u⟩ := s
  obtain ⟨b, v⟩ := t
  unfold stD
  rw [PyData.eqv, PyData.eqvAll, PyData.eqvAll, PyData.eqvAll, eqv_int, eqv_iT]
  by_cases c : a = b <;> by_cases c2 : u = v <;> simp [c, c2]
theorem eqv_pD (s t : Nat × List Int) : PyData.eqv (pD s) (pD t) = decide (s = t) := by
  obtain ⟨a, u⟩ := s
  obtain ⟨b, v⟩ := t
  have e : decide ((a : Int) = (b : Int)) = decide (a = b) := decide_eq_decide.mpr (by omega)
  unfold pD
  rw [PyData.eqv, PyData.eqvAll, PyData.eqvAll, PyData.eqvAll, eqv_int, eqv_iL, e]
  by_cases c : a = b <;> by_cases c2 : u = v <;> simp [c, c2]
theorem nice_iL (zs : List Int) : Nice 2 (iL zs) := Nice.list fun d hd => by
  obtain ⟨z, _, rfl⟩ := List.mem_map.mp hd
  exact Nice.int z
theorem nice_iT (zs : List Int) : Nice 2 (iT zs) := Nice.tuple fun d hd => by
  obtain ⟨z, _, rfl⟩ := List.mem_map.mp hd
  exact Nice.int z
theorem nice_stD (s : Stt) : Nice 3 (stD s) := Nice.tuple fun d hd => by
  rcases List.mem_cons.mp hd with e | e
  · rw [e]; exact (Nice.int _).mono (by decide)
  · rw [List.mem_singleton.mp e]; exact nice_iT _
theorem nice_pD (s : Nat × List Int) : Nice 3 (pD s) := Nice.tuple fun d hd => by
  rcases List.mem_cons.mp hd with e | e
  · rw [e]; exact (Nice.int _).mono (by decide)
  · rw [List.mem_singleton.mp e]; exact nice_iL _
theorem nice_trD (e : Tr) : Nice 2 (trD e) := Nice.tuple fun d hd => by
  simp only [List.mem_cons, List.mem_nil_iff, or_false] at hd
  rcases hd with e | e | e <;> (rw [e]; exact Nice.int _)
theorem nice_stDs (S : List Stt) : Nice 4 (.list (S.map stD)) := Nice.list fun d hd => by
  obtain ⟨z, _, rfl⟩ := List.mem_map.mp hd
  exact nice_stD z
theorem eqv_nil_list (ds : List PyData) : PyData.eqv (.list ds) (.list []) = ds.isEmpty := by
  rw [PyData.eqv]
  cases ds with
  | nil => simp [PyData.eqvAll]
  | cons d ds => simp [PyData.eqvAll]
theorem any_stD (F : List Stt) (s : Stt) : ((F.map stD).any fun z => PyData.eqv z (stD s)) = decide (s ∈ F) := by
  induction F with
  | nil => simp
  | cons t F ih =>
    rw [List.map_cons, List.any_cons, ih, eqv_stD]
    by_cases c : t = s
    · subst c; simp
    · have c' : ¬ s = t := fun z => c z.symm
      by_cases c2 : s ∈ F <;> simp [c, c', c2]
section
variable {K : PySem.W.Frag} {H : Hp}
theorem dp_ints : ∀ zs : List Int, DpAll K H (zs.map V.int) (zs.map .int)
  | [] => .nil
  | z :: zs => .cons (.int z) (dp_ints zs)
theorem dp_iL {a : Addr} {zs : List Int} (h : SqL K H a (zs.map V.int)) : Dp K H (.ref a) (iL zs) := .lst h (dp_ints zs)
theorem dp_iT {a : Addr} {zs : List Int} (h : SqT K H a (zs.map V.int)) : Dp K H (.ref a) (iT zs) := .tup h (dp_ints zs)
theorem dp_nil {a : Addr} (h : H a = some (.lst [])) : Dp K H (.ref a) (.list []) := .lst (SqL.of h) .nil
/-- xs != [] of data -/
theorem ne_nil {x : V} {ds : List PyData} {l : Addr} {Q : VK} {k : Nat} (h : Dp K H x (.list ds)) (n : Nice k (.list ds)) (hk : k ≤ 60) (hl : H l = some (.lst [])) (q : Q (.bl (!ds.isEmpty)) H) : rNeD K x (.ref l) H Q :=
  ⟨.list ds, .list [], h, dp_nil hl, n.shaped hk, (Nice.list (k := 1) (ds := []) fun d hd => absurd hd List.not_mem_nil).shaped (by decide), by rw [eqv_nil_list]; exact q⟩
end
end K48

set_option Elab.async false
set_option maxRecDepth 100000
set_option maxHeartbeats 4000000
set_option linter.all false
namespace K48
open PySem PySem.Spec PyProof.Rows L2
def spBegun (K : PySem.W.Frag) : Sp := fun vs H Q _ => ∃ (a : Addr) (ns : List Int), vs = [.ref a] ∧ SqL K H a (ns.map V.int) ∧ ∀ s sh H', Same H H' → Sta H' s sh → Q (.ref s) H'
def spShuf : Sp := fun vs H Q _ => ∃ (s sh l : Addr) (xs : List Int), vs = [.ref s, .ref l] ∧ Sta H s sh ∧ H l = some (.lst (xs.map V.int)) ∧ xs.length ≤ 1000 ∧ ∀ (r : Addr) (ys : List Int) H', H r = none → Mv s sh H H' → ys.Perm xs → H' r = some (.lst (ys.map V.int)) → Q (.ref r) H'
theorem erase_perm : ∀ {l : List Int} {i : Nat} {y : Int}, l[i]? = some y → (y :: l.eraseIdx i).Perm l
  | [], _, _, h => by simp at h
  | a :: l, 0, y, h => by
    have e : a = y := by simpa using h
    subst e
    exact List.Perm.refl _
  | a :: l, i + 1, y, h => by
    have ih := erase_perm (l := l) (i := i) (y := y) (by simpa using h)
    rw [List.eraseIdx_cons_succ]
    exact (List.Perm.swap a y _).trans (ih.cons a)
theorem erase_map {α β : Type} (f : α → β) : ∀ (l : List α) (i : Nat), (l.map f).eraseIdx i = (l.eraseIdx i).map f
  | [], _ => rfl
  | _ :: _, 0 => rfl
  | a :: l, i + 1 => by
    rw [List.map_cons, List.eraseIdx_cons_succ, List.eraseIdx_cons_succ, List.map_cons, erase_map f l i]
theorem cut63 (ns : List Int) : ∃ ms : List Int, cutV (ns.map V.int) none (some 63) = ms.map V.int ∧ ms.length ≤ 63 := by
  refine ⟨(ns.drop (HT.sIx (ns.map V.int).length 0 none)).take (HT.sIx (ns.map V.int).length (ns.map V.int).length (some 63) - HT.sIx (ns.map V.int).length 0 none), ?_, ?_⟩
  · unfold cutV
    rw [List.map_take, List.map_drop]
  · rw [List.length_take]
    have e : HT.sIx (ns.map V.int).length (ns.map V.int).length (some 63) = min 63 (ns.map V.int).length := HT.sIx_nat _ _ 63
    rw [e]
    omega
section
variable {P : Program} {w : World} {K : PySem.W.Frag} {mg : PySem.Str → Option Value} {base : Heap}
theorem scBegun : FnScope ["_law_script", "_law_figure"] ["_law_script"] (defScope sBegun) := ⟨rfl, rfl, rfl, by decide +kernel, rfl, by decide +kernel, by decide +kernel⟩
theorem ok_begun {f : Addr} {fd : FuncData} (D : Df K mg "_law_begun" sBegun ["_law_script"] f fd) (B : Bl mg) : FnOk P w K mg base CX0 1 f fd ["_law_script"] (spBegun K) := by
  refine D.F.ok scBegun (fun vs H Q E h => ?_) (fun cdv A outer s0 H vs Q E hr h => ?_)
  · obtain ⟨a, ns, rfl, _⟩ := h
    rfl
  obtain ⟨a, ns, rfl, ha, q⟩ := h
  refine ⟨_, pss_one (ps_ret (pe_lst (pa_cons (pe_orT (pe_lc (own := [("_law_figure", 1)]) (g := gName 1) (tt := tYes) rfl scBegun.nd (pi_list (pe_slice sl_list (pv 0) po_none (po_some pe_int))) (blkOk_by (own := [("_law_figure", 1)]) (N := ["_law_script", "_law_figure"]) (sc := defScope sBegun) (by decide +kernel))
      (fun _ _ _ _ _ => pg_name (i := 1) scBegun.nd rfl (Or.inl rfl)) (fun _ _ _ _ _ => pts_nil) (fun _ _ _ _ _ => pe_callB call_abs (by rfl) B.abs (by decide +kernel) (pa_cons (pv 1) pa_nil))) (pe_one (pe_lst (pa_cons pe_int pa_nil)))) (pa_cons pe_int (pa_cons pe_int pa_nil))))), ?_⟩
  have hz : (sizeLine : Nat) = 16777216 := sizeLine_eq
  obtain ⟨ms, em, hml⟩ := cut63 ns
  refine ⟨_, rfl, _, rfl, a, _, rfl, ha, fun p hp => ⟨p, rfl, ⟨_, SqL.of upd_same⟩, fun D nD => ?_⟩⟩
  rw [em] at nD ⊢
  have s1 : Same H (upd H p (.lst (ms.map V.int))) := same_new hp _
  have e1 : upd H p (.lst (ms.map V.int)) p = some (.lst (ms.map V.int)) := upd_same
  generalize upd H p (.lst (ms.map V.int)) = H1 at nD s1 e1
  refine lc_list (xs := ms.map V.int) (fun n H' => Same H1 H' ∧ n ≤ ms.length ∧ H' D = some (.lst (((ms.take n).map Int.natAbs).map fun n : Nat => V.int (n : Int)))) ⟨same_new nD _, Nat.zero_le _, upd_same⟩ (fun n H' _ p => SqL.of (p.1 _ _ e1)) (fun n x H' hx p => ?_) fun H' p => ?_
  · obtain ⟨s2, hn, eD⟩ := p
    rw [List.getElem?_map] at hx
    cases e : ms[n]? with
    | none => rw [e] at hx; cases hx
    | some z =>
    rw [e] at hx
    cases hx
    have hlt : n < ms.length := (List.getElem?_eq_some_iff.mp e).1
    refine ⟨inBlk_wipe _ 1 _, yes_read ?_⟩
    refine ⟨_, rfl, z, rfl, _, eD, by rw [List.length_map, List.length_map, List.length_take]; omega, same_upd s2 nD _, hlt, ?_⟩
    have ez : (if z < 0 then -z else z) = ((z.natAbs : Nat) : Int) := by split <;> omega
    rw [upd_same, ez, List.take_add_one, e, List.map_append, List.map_append]
    rfl
  · obtain ⟨s2, hn, eD⟩ := p
    rw [List.length_map, List.take_length] at eD
    have s3 := s1.trans s2
    refine ⟨_, .inl ⟨_, SqL.of eD, rfl⟩, ?_⟩
    refine ite2 (fun h1 => ?_) fun h1 => ?_
    · refine ⟨(by show 3 ≤ sizeLine; omega), fun s hs => ?_⟩
      have s4 := same_new hs (.lst [.ref D, .int 0, .int 1])
      refine q s D _ (s3.trans s4) ⟨ms.map Int.natAbs, 0, 1, fun z => ?_, by rw [List.length_map]; exact hml, by decide, upd_same, s4 _ _ eD⟩
      rw [z] at h1
      cases h1
    · refine ⟨(by show 1 ≤ sizeLine; omega), fun l hl => ⟨(by show 3 ≤ sizeLine; omega), fun s hs => ?_⟩⟩
      have s4 := same_new hl (.lst [.int 7])
      have s5 := same_new hs (.lst [.ref l, .int 0, .int 1])
      exact q s l _ (s3.trans (s4.trans s5)) ⟨[7], 0, 1, List.cons_ne_nil _ _, by decide, by decide, upd_same, s5 _ _ upd_same⟩
theorem scShuf : FnScope ["_law_state", "_law_some_here", "_law_left", "_law_found"] ["_law_state", "_law_some_here"] (defScope sShuf) := ⟨rfl, rfl, rfl, by decide +kernel, rfl, by decide +kernel, by decide +kernel⟩
theorem ok_shuf {f fw : Addr} {fd fdw : FuncData} (D : Df K mg "_law_shuffled" sShuf ["_law_state", "_law_some_here"] f fd) (B : Bl mg) (DW : Df K mg "_law_draw" sDraw ["_law_state", "_law_bound"] fw fdw) : FnOk P w K mg base CX0 2 f fd ["_law_state", "_law_some_here"] spShuf := by
  have GW : FnOk P w K mg base CX0 1 fw fdw ["_law_state", "_law_bound"] spDraw := ok_draw DW B
  refine D.F.ok scShuf (fun vs H Q E h => ?_) (fun cdv A outer s0 H vs Q E hr h => ?_)
  · obtain ⟨s, sh, l, xs, rfl, _⟩ := h
    rfl
  obtain ⟨s, sh, l, xs, rfl, st, hl, hlen, q⟩ := h
  refine ⟨_, pss_cons (ps_par (i := 2) (j := 3) (by rfl) scShuf.nd rfl rfl (by decide) rfl rfl (pa_cons (pe_callTy call_list_of (by rfl) B.list (by decide +kernel) (pa_cons (pv 1) pa_nil)) (pa_cons (pe_lst pa_nil) pa_nil)) (by rfl))
    (pss_cons (ps_while PassesOwn.never (pt_cmpR (op_neD hr.units) (pv 2) (pe_lst pa_nil) (nomark _))
      (pss_one (ps_expr (pe_bm PySem.F.plainAttrs_list PySem.F.slot_list_append PySem.F.type_list_append mt_append (pv 3) (pa_cons
        (pe_bm PySem.F.plainAttrs_list PySem.F.slot_list_pop PySem.F.type_list_pop mt_popAt (pv 2) (pa_cons
          (pe_call GW hr rfl DW.m DW.F.kp DW.b .nil pass0 (pa_cons (pv 0) (pa_cons (pe_callB call_len_seq (by rfl) B.len PySem.boot_len (pa_cons (pv 2) pa_nil)) pa_nil))) pa_nil)) pa_nil)))))
    (pss_one (ps_ret (pv 3)))), ?_⟩
  have hz : (sizeLine : Nat) = 16777216 := sizeLine_eq
  refine ⟨_, rfl, l, _, rfl, .inl (SqL.of hl), fun p hp => ⟨Nat.zero_le _, fun z hz => ⟨_, _, rfl, ?_⟩⟩⟩
  have s1 : Same H (upd (upd H p (.lst (xs.map V.int))) z (.lst [])) := same_upd (same_new hp _) ((same_new hp (.lst (xs.map V.int))).free hz) _
  have e1 : upd (upd H p (.lst (xs.map V.int))) z (.lst []) p = some (.lst (xs.map V.int)) := same_new hz _ _ _ upd_same
  have e2 : upd (upd H p (.lst (xs.map V.int))) z (.lst []) z = some (.lst []) := upd_same
  have hpz : p ≠ z := fun e => by
    rw [e, upd_same] at hz
    cases hz
  have hz0 : H z = none := (same_new hp (.lst (xs.map V.int))).free hz
  generalize upd (upd H p (.lst (xs.map V.int))) z (.lst []) = H0 at s1 e1 e2
  dsimp only [tSeq]
  refine ⟨fun m σ' H' => ∃ ys zs : List Int, σ' = [some (.ref s), some (.ref l), some (.ref p), some (.ref z)] ∧ H' p = some (.lst (ys.map V.int)) ∧ H' z = some (.lst (zs.map V.int)) ∧ (zs ++ ys).Perm xs ∧ ys.length = m ∧ Mv s sh H H',
    ⟨xs.length, xs, [], rfl, e1, e2, List.Perm.refl _, rfl, Mv.of st s1⟩, fun m σ' H' hW => ?_⟩
  obtain ⟨ys, zs, rfl, hp', hz', pm, hm, mv⟩ := hW
  have hln := pm.length_eq
  rw [List.length_append] at hln
  refine ⟨_, rfl, Nat.zero_le _, fun t ht => ne_nil (dp_iL (SqL.of (same_new ht _ _ _ hp'))) (nice_iL ys) (by decide) upd_same ⟨_, rfl, ?_⟩⟩
  have s2 : Same H' (upd H' t (.lst [])) := same_new ht _
  generalize upd H' t (.lst []) = H2 at s2
  refine ite2 (fun h1 => ?_) fun h1 => ?_
  · have hys : ys ≠ [] := fun e => by rw [e] at h1; cases h1
    have hpos : 0 < ys.length := List.length_pos_iff.mpr hys
    refine ⟨fun σ' H' => ∃ m', m' < m ∧ ∃ ys zs : List Int, σ' = [some (.ref s), some (.ref l), some (.ref p), some (.ref z)] ∧ H' p = some (.lst (ys.map V.int)) ∧ H' z = some (.lst (zs.map V.int)) ∧ (zs ++ ys).Perm xs ∧ ys.length = m' ∧ Mv s sh H H', fun _ _ h => h, ?_⟩
    refine ⟨_, rfl, .inl ⟨rfl, _, SqL.of (s2 _ _ hz')⟩, _, rfl, .inl ⟨rfl, _, SqL.of (s2 _ _ hp')⟩, _, rfl, _, rfl, p, _, rfl, .inl (SqL.of (s2 _ _ hp')), s, sh, _, rfl, (mv.same s2).st, by rw [List.length_map]; omega, by rw [List.length_map]; omega, fun r H3 hr mv2 => ?_⟩
    rw [List.length_map] at hr
    have hrl : r < ys.length := by omega
    have mv3 : Mv s sh H H3 := (mv.same s2).trans mv2
    have op := st.out hp
    have oz := st.out hz0
    have hp3 := mv2.keep _ _ op.1 op.2 (s2 _ _ hp')
    have hz3 := mv2.keep _ _ oz.1 oz.2 (s2 _ _ hz')
    have gy : ys[r]? = some ys[r] := List.getElem?_eq_getElem hrl
    refine ⟨p, _, _, r, .int ys[r], rfl, rfl, hp3, by omega, by have := hlen; omega, (ixN_seq (ixN_nat (by rw [List.length_map]; exact hrl))).1, by rw [List.getElem?_map, gy]; rfl, z, _, _, rfl, rfl, by rw [upd_ne hpz.symm]; exact hz3, by rw [List.length_map]; omega, ?_⟩
    refine ⟨ys.length - 1, by omega, ys.eraseIdx r, zs ++ [ys[r]], rfl, ?_, ?_, ?_, by rw [List.length_eraseIdx, if_pos hrl], ?_⟩
    · rw [upd_ne hpz, upd_same]
      exact congrArg (fun l => some (HO.lst l)) (erase_map _ _ _)
    · rw [upd_same, List.map_append]
      rfl
    · rw [List.append_assoc]
      exact ((erase_perm gy).append_left zs).trans pm
    · exact (mv3.upd_new hp op).upd_new hz0 oz
  · have hys : ys = [] := by
      cases ys with
      | nil => rfl
      | cons a l => exact absurd rfl h1
    subst hys
    rw [List.append_nil] at pm
    exact ⟨_, rfl, q z zs H2 hz0 (mv.same s2) pm (s2 _ _ hz')⟩
end
end K48

set_option Elab.async false
set_option maxRecDepth 100000
set_option maxHeartbeats 4000000
set_option linter.all false
namespace K48
open PySem PySem.Spec PyProof.Rows L2
/-- ints of at most ten digits -/
def Small (z : Int) : Prop := -1000000000 ≤ z ∧ z ≤ 1000000000
theorem cut_take (ns : List Int) (k : Nat) : cutV (ns.map V.int) none (some (k : Int)) = (ns.take k).map V.int := by
  unfold cutV
  rw [HT.sIx_nat, HT.sIx_none, List.drop_zero, Nat.sub_zero, List.map_take]
  by_cases h : k ≤ (ns.map V.int).length
  · rw [Nat.min_eq_left h]
  · rw [Nat.min_eq_right (by omega), List.take_length, List.take_of_length_le (by omega)]
def spAreas : Sp := fun vs H Q _ => ∃ (s sh : Addr), vs = [.ref s, .int 6] ∧ Sta H s sh ∧ ∀ (r : Addr) (ys : List Int) H', H r = none → Mv s sh H H' → ys.Nodup → 2 ≤ ys.length → ys.length ≤ 6 → (∀ z ∈ ys, Small z) → H' r = some (.lst (ys.map V.int)) → Q (.ref r) H'
def spSome : Sp := fun vs H Q _ => ∃ (s sh l : Addr) (xs : List Int), vs = [.ref s, .ref l] ∧ Sta H s sh ∧ H l = some (.lst (xs.map V.int)) ∧ xs.length ≤ 1000 ∧ xs.Nodup ∧ ∀ (r : Addr) (ys : List Int) H', H r = none → Mv s sh H H' → ys.Nodup → (∀ z ∈ ys, z ∈ xs) → H' r = some (.lst (ys.map V.int)) → Q (.ref r) H'
def spTriples : Sp := fun vs H Q _ => ∃ (s sh l : Addr) (xs : List Int) (b : Bool), vs = [.ref s, .ref l, .int 7, .bl b] ∧ Sta H s sh ∧ H l = some (.lst (xs.map V.int)) ∧ Out s sh l ∧ xs.Nodup ∧ 2 ≤ xs.length ∧ xs.length ≤ 6 ∧
  ∀ (r : Addr) (ps : List Addr) (ts : List Tr) H', H r = none → Mv s sh H H' → H' r = some (.lst (ps.map V.ref)) → TrsAt H' ps ts → ts.length ≤ 7 → (ts.map (·.1)).Nodup → (∀ e ∈ ts, Small e.1 ∧ e.2.1 ∈ xs ∧ e.2.2 ∈ xs ∧ e.2.1 ≠ e.2.2) → Q (.ref r) H'
theorem TrAt.mv {s sh p : Addr} {H H' : Hp} {e : Tr} (st : Sta H s sh) (m : Mv s sh H H') (h : TrAt H p e) : TrAt H' p e := by
  obtain ⟨fs, i, n, h1, h2, h3, h4, h5⟩ := st
  exact m.keep _ _ (ne_of h h4 fun z => nomatch z) (ne_of h h5 fun z => nomatch z) h
theorem TrsAt.mv {s sh : Addr} {H H' : Hp} {ps : List Addr} {ts : List Tr} (st : Sta H s sh) (m : Mv s sh H H') (h : TrsAt H ps ts) : TrsAt H' ps ts := ⟨h.len, fun n p e h1 h2 => (h.at_ n p e h1 h2).mv st m⟩
theorem TrsAt.upd_lst {H : Hp} {ps : List Addr} {ts : List Tr} {a : Addr} {xs ys : List V} (h : TrsAt H ps ts) (ha : H a = some (.lst xs)) : TrsAt (upd H a (.lst ys)) ps ts := ⟨h.len, fun n p e h1 h2 => by
  have q := h.at_ n p e h1 h2
  show upd H a (.lst ys) p = _
  rw [upd_ne (ne_of q ha fun z => nomatch z)]
  exact q⟩
theorem TrsAt.push {H : Hp} {ps : List Addr} {ts : List Tr} {p : Addr} {e : Tr} (h : TrsAt H ps ts) (hp : TrAt H p e) : TrsAt H (ps ++ [p]) (ts ++ [e]) := by
  refine ⟨by rw [List.length_append, List.length_append, h.len]; rfl, fun n q d h1 h2 => ?_⟩
  rcases Nat.lt_or_ge n ps.length with hl | hg
  · rw [List.getElem?_append_left hl] at h1
    rw [List.getElem?_append_left (by rw [← h.len]; exact hl)] at h2
    exact h.at_ n q d h1 h2
  · rw [List.getElem?_append_right hg] at h1
    rw [List.getElem?_append_right (by rw [← h.len]; exact hg), ← h.len] at h2
    cases e1 : n - ps.length with
    | zero =>
      rw [e1] at h1 h2
      cases h1
      cases h2
      exact hp
    | succ m =>
      rw [e1] at h1
      cases h1
def areasL (r : Nat) : List Int := [0, 1, 2, 3, 4, 5, -1, 40, 1000000000, -1000000000, (r : Int) + 50, 7]
theorem areasL_nd {r : Nat} (h : (r : Int) < 100) : (areasL r).Nodup := by
  unfold areasL
  simp only [List.nodup_cons, List.mem_cons, List.not_mem_nil, List.nodup_nil, or_false, not_or, not_false_eq_true, and_true]
  omega
theorem areasL_small {r : Nat} (h : (r : Int) < 100) : ∀ z ∈ areasL r, Small z := by
  unfold areasL Small
  simp only [List.mem_cons, List.not_mem_nil, or_false]
  rintro z (h | h | h | h | h | h | h | h | h | h | h | h) <;> omega
def namesL : List Int := [0, 1, 2, 3, 9, -4, 1000000000, 77]
theorem namesL_nd : namesL.Nodup := by decide
theorem namesL_small : ∀ z ∈ namesL, Small z := by
  unfold namesL Small
  simp only [List.mem_cons, List.not_mem_nil, or_false]
  rintro z (h | h | h | h | h | h | h | h) <;> omega
theorem ten9 : (10 : Int) ^ (9 : Int).toNat = 1000000000 := by decide
section
variable {P : Program} {w : World} {K : PySem.W.Frag} {mg : PySem.Str → Option Value} {base : Heap}
theorem scAreas : FnScope ["_law_state", "_law_most", "_law_numbers"] ["_law_state", "_law_most"] (defScope sAreas) := ⟨rfl, rfl, rfl, by decide +kernel, rfl, by decide +kernel, by decide +kernel⟩
theorem ok_areas {f fw fs : Addr} {fd fdw fds : FuncData} (D : Df K mg "_law_areas" sAreas ["_law_state", "_law_most"] f fd) (B : Bl mg) (DW : Df K mg "_law_draw" sDraw ["_law_state", "_law_bound"] fw fdw) (DS : Df K mg "_law_shuffled" sShuf ["_law_state", "_law_some_here"] fs fds) : FnOk P w K mg base CX0 3 f fd ["_law_state", "_law_most"] spAreas := by
  have GW : FnOk P w K mg base CX0 1 fw fdw ["_law_state", "_law_bound"] spDraw := ok_draw DW B
  have GS : FnOk P w K mg base CX0 2 fs fds ["_law_state", "_law_some_here"] spShuf := ok_shuf DS B DW
  refine D.F.ok scAreas (fun vs H Q E h => ?_) (fun cdv A outer s0 H vs Q E hr h => ?_)
  · obtain ⟨s, sh, rfl, _⟩ := h
    rfl
  obtain ⟨s, sh, rfl, st, q⟩ := h
  refine ⟨_, pss_cons (ps_set (i := 2) scAreas.nd rfl (Or.inl rfl) (pe_lst (pa_cons pe_int (pa_cons pe_int (pa_cons pe_int (pa_cons pe_int (pa_cons pe_int (pa_cons pe_int (pa_cons (pe_un un_neg pe_int) (pa_cons pe_int (pa_cons (pe_op op_pow pe_int pe_int) (pa_cons (pe_un un_neg (pe_op op_pow pe_int pe_int))
      (pa_cons (pe_op op_add (pe_call GW (hr.mono (by decide)) rfl DW.m DW.F.kp DW.b .nil pass0 (pa_cons (pv 0) (pa_cons pe_int pa_nil))) pe_int) (pa_cons pe_int pa_nil))))))))))))))
    (pss_one (ps_ret (pe_slice sl_list (pe_call GS hr rfl DS.m DS.F.kp DS.b .nil pass0 (pa_cons (pv 0) (pa_cons (pv 2) pa_nil))) po_none
      (po_some (pe_op op_add pe_int (pe_call GW (hr.mono (by decide)) rfl DW.m DW.F.kp DW.b .nil pass0 (pa_cons (pv 0) (pa_cons (pe_op op_sub (pv 1) pe_int) pa_nil)))))))), ?_⟩
  have hz : (sizeLine : Nat) = 16777216 := sizeLine_eq
  refine ⟨_, rfl, _, _, rfl, rfl, ⟨by decide, by decide, by decide⟩, _, _, rfl, rfl, ⟨by decide, by decide, by decide⟩, _, rfl, _, rfl, s, sh, 100, rfl, st, by decide, by decide, fun r H1 hrb mv => ⟨_, _, rfl, rfl, (by show 12 ≤ sizeLine; omega), fun a ha => ?_⟩⟩
  dsimp only
  rw [ten9]
  have s1 : Same H1 (upd H1 a (.lst ((areasL r).map V.int))) := same_new ha _
  have ea : upd H1 a (.lst ((areasL r).map V.int)) a = some (.lst ((areasL r).map V.int)) := upd_same
  show tRet _ _ _ (upd H1 a (.lst ((areasL r).map V.int)))
  generalize upd H1 a (.lst ((areasL r).map V.int)) = H2 at s1 ea
  have mv2 : Mv s sh H H2 := mv.same s1
  refine ⟨_, rfl, _, rfl, s, sh, a, areasL r, rfl, mv2.st, ea, by show 12 ≤ 1000; decide, fun l ys H3 hl mv3 pm e3 => ?_⟩
  refine ⟨_, rfl, _, rfl, _, _, rfl, rfl, s, sh, 5, rfl, mv3.st, by decide, by decide, fun k H4 hk mv4 => ⟨_, _, rfl, rfl, _, rfl, l, _, rfl, SqL.of (mv4.keep _ _ (mv2.st.out hl).1 (mv2.st.out hl).2 e3), fun p hp => ?_⟩⟩
  have ek : (2 : Int) + (k : Int) = ((2 + k : Nat) : Int) := by omega
  dsimp only
  rw [ek, cut_take]
  have mv5 := mv2.trans (mv3.trans mv4)
  have hln : ys.length = 12 := pm.length_eq
  have hlt : (ys.take (2 + k)).length = 2 + k := by rw [List.length_take, hln]; omega
  refine q p (ys.take (2 + k)) _ (mv5.free hp) (mv5.same (same_new hp _)) ((pm.nodup_iff.mpr (areasL_nd hrb)).sublist (List.take_sublist _ _)) (by omega) (by omega) (fun z hz => areasL_small hrb z (pm.mem_iff.mp (List.mem_of_mem_take hz))) upd_same
theorem scSome : FnScope ["_law_state", "_law_things", "_law_thing"] ["_law_state", "_law_things"] (defScope sSome) := ⟨rfl, rfl, rfl, by decide +kernel, rfl, by decide +kernel, by decide +kernel⟩
theorem ok_some {f fw fs : Addr} {fd fdw fds : FuncData} (D : Df K mg "_law_some" sSome ["_law_state", "_law_things"] f fd) (B : Bl mg) (DW : Df K mg "_law_draw" sDraw ["_law_state", "_law_bound"] fw fdw) (DS : Df K mg "_law_shuffled" sShuf ["_law_state", "_law_some_here"] fs fds) : FnOk P w K mg base CX0 3 f fd ["_law_state", "_law_things"] spSome := by
  have GW : FnOk P w K mg base CX0 1 fw fdw ["_law_state", "_law_bound"] spDraw := ok_draw DW B
  have GS : FnOk P w K mg base CX0 2 fs fds ["_law_state", "_law_some_here"] spShuf := ok_shuf DS B DW
  refine D.F.ok scSome (fun vs H Q E h => ?_) (fun cdv A outer s0 H vs Q E hr h => ?_)
  · obtain ⟨s, sh, l, xs, rfl, _⟩ := h
    rfl
  obtain ⟨s, sh, l, xs, rfl, st, hl, hlen, nd, q⟩ := h
  refine ⟨_, pss_one (ps_ret (pe_lc (own := [("_law_thing", 2)]) (g := gName 2) rfl scSome.nd (pi_list (pe_call GS hr rfl DS.m DS.F.kp DS.b .nil pass0 (pa_cons (pv 0) (pa_cons (pv 1) pa_nil)))) (blkOk_by (own := [("_law_thing", 2)]) (N := ["_law_state", "_law_things", "_law_thing"]) (sc := defScope sSome) (by decide +kernel))
      (fun _ _ _ _ _ => pg_name (i := 2) scSome.nd rfl (Or.inl rfl)) (fun _ _ _ _ _ => pts_one (pt_cmpR op_gt (pe_call GW (hr.mono (by decide)) rfl DW.m DW.F.kp DW.b .nil pass0 (pa_cons (pv 0) (pa_cons pe_int pa_nil))) pe_int (nomark _))) (fun _ _ _ _ _ => pv 2))), ?_⟩
  have hz : (sizeLine : Nat) = 16777216 := sizeLine_eq
  refine ⟨_, rfl, _, rfl, s, sh, l, xs, rfl, st, hl, hlen, fun r ys H1 hr1 mv pm e1 => ⟨r, rfl, ⟨_, SqL.of e1⟩, fun D nD => ?_⟩⟩
  have hol := st.out hr1
  have hln := pm.length_eq
  refine lc_list (xs := ys.map V.int) (fun n H' => Mv s sh H1 H' ∧ n ≤ ys.length ∧ ∃ zs : List Int, H' D = some (.lst (zs.map V.int)) ∧ zs.Sublist (ys.take n)) ⟨Mv.of mv.st (same_new nD _), Nat.zero_le _, [], upd_same, List.Sublist.refl _⟩
    (fun n H' _ p => SqL.of (p.1.keep _ _ hol.1 hol.2 e1)) (fun n x H' hx p => ?_) fun H' p => ?_
  · obtain ⟨mv2, hn, zs, eD, sb⟩ := p
    rw [List.getElem?_map] at hx
    cases e : ys[n]? with
    | none => rw [e] at hx; cases hx
    | some z =>
    rw [e] at hx
    cases hx
    have hlt : n < ys.length := (List.getElem?_eq_some_iff.mp e).1
    have oD := mv.st.out nD
    refine ⟨inBlk_wipe _ 2 _, _, rfl, s, sh, _, rfl, mv2.st, by decide, by decide, fun k H3 hk mv3 => ⟨_, _, rfl, rfl, _, rfl, ?_⟩⟩
    have eD3 := mv3.keep _ _ oD.1 oD.2 eD
    have hzl : zs.length ≤ ys.length := Nat.le_trans sb.length_le (by rw [List.length_take]; omega)
    refine ite2 (fun h1 => ?_) fun h1 => ?_
    · refine ⟨_, rfl, _, eD3, by rw [List.length_map]; omega, (mv2.trans mv3).upd_new nD oD, hlt, zs ++ [z], ?_, ?_⟩
      · rw [upd_same, List.map_append]
        rfl
      · rw [List.take_add_one, e]
        exact sb.append (List.Sublist.refl _)
    · refine ⟨mv2.trans mv3, hlt, zs, eD3, ?_⟩
      rw [List.take_add_one]
      exact sb.trans (List.sublist_append_left _ _)
  · obtain ⟨mv2, hn, zs, eD, sb⟩ := p
    rw [List.length_map, List.take_length] at sb
    exact q D zs H' (mv.free nD) (mv.trans mv2) ((pm.nodup_iff.mpr nd).sublist sb) (fun z hz => pm.mem_iff.mp (sb.subset hz)) eD
theorem scTriples : FnScope ["_law_state", "_law_nodes", "_law_most", "_law_is_free", "_law_numbers", "_law_found", "_law_turn", "_law_one", "_law_two"] ["_law_state", "_law_nodes", "_law_most", "_law_is_free"] (defScope sTriples) := ⟨rfl, rfl, rfl, by decide +kernel, rfl, by decide +kernel, by decide +kernel⟩
theorem ok_triples {f fw fs : Addr} {fd fdw fds : FuncData} (D : Df K mg "_law_triples" sTriples ["_law_state", "_law_nodes", "_law_most", "_law_is_free"] f fd) (B : Bl mg) (DW : Df K mg "_law_draw" sDraw ["_law_state", "_law_bound"] fw fdw) (DS : Df K mg "_law_shuffled" sShuf ["_law_state", "_law_some_here"] fs fds) :
    FnOk P w K mg base CX0 3 f fd ["_law_state", "_law_nodes", "_law_most", "_law_is_free"] spTriples := by
  have GW : FnOk P w K mg base CX0 1 fw fdw ["_law_state", "_law_bound"] spDraw := ok_draw DW B
  have GS : FnOk P w K mg base CX0 2 fs fds ["_law_state", "_law_some_here"] spShuf := ok_shuf DS B DW
  refine D.F.ok scTriples (fun vs H Q E h => ?_) (fun cdv A outer s0 H vs Q E hr h => ?_)
  · obtain ⟨s, sh, l, xs, b, rfl, _⟩ := h
    rfl
  obtain ⟨s, sh, l, xs, b, rfl, st, hl, hol, nd, l2, l6, q⟩ := h
  refine ⟨_, pss_cons (ps_par (i := 4) (j := 5) (by rfl) scTriples.nd rfl rfl (by decide) rfl rfl (pa_cons (pe_call GS hr rfl DS.m DS.F.kp DS.b .nil pass0 (pa_cons (pv 0) (pa_cons (pe_lst (pa_cons pe_int (pa_cons pe_int (pa_cons pe_int (pa_cons pe_int (pa_cons pe_int (pa_cons (pe_un un_neg pe_int) (pa_cons (pe_op op_pow pe_int pe_int) (pa_cons pe_int pa_nil))))))))) pa_nil)))
      (pa_cons (pe_lst pa_nil) pa_nil)) (by rfl))
    (pss_cons (ps_for PassesOwn.never rfl (pi_range1 (by rfl) B.range (pa_cons (pe_call GW (hr.mono (by decide)) rfl DW.m DW.F.kp DW.b .nil pass0 (pa_cons (pv 0) (pa_cons (pe_op op_add (pv 2) pe_int) pa_nil))) pa_nil)) (pg_name (i := 6) scTriples.nd rfl (Or.inl rfl))
      (pss_cons (ps_asg (pe_slice sl_list (pe_call GS hr rfl DS.m DS.F.kp DS.b .nil pass0 (pa_cons (pv 0) (pa_cons (pv 1) pa_nil))) po_none (po_some pe_int)) (pg_unl rfl (pgs_cons (pg_name (i := 7) scTriples.nd rfl (Or.inl rfl)) (pgs_cons (pg_name (i := 8) scTriples.nd rfl (Or.inl rfl)) pgs_nil))))
      (pss_cons (ps_if (PW.pt (pw_and (pt_val (pv 3)) (pw_and1 (pt_cmpR op_gt (pe_index 1 (pv 7)) (pe_index 1 (pv 8)) (nomark _)))))
        (pss_one (ps_par (i := 7) (j := 8) (by rfl) scTriples.nd rfl rfl (by decide) rfl rfl (pa_cons (pv 8) (pa_cons (pv 7) pa_nil)) (by rfl))) pss_nil)
      (pss_one (ps_expr (pe_bm PySem.F.plainAttrs_list PySem.F.slot_list_append PySem.F.type_list_append mt_append (pv 5) (pa_cons (pe_tup (pa_cons (pe_ix ix_list (pv 4) (pv 6) (fun _ _ => rfl)) (pa_cons (pv 7) (pa_cons (pv 8) pa_nil)))) pa_nil)))))))
    (pss_one (ps_ret (pv 5)))), ?_⟩
  have hz : (sizeLine : Nat) = 16777216 := sizeLine_eq
  refine ⟨_, rfl, _, rfl, _, _, rfl, rfl, ⟨by decide, by decide, by decide⟩, (by show 8 ≤ sizeLine; omega), fun a ha => ?_⟩
  dsimp only
  rw [ten9]
  have s1 : Same H (upd H a (.lst (namesL.map V.int))) := same_new ha _
  have ea : upd H a (.lst (namesL.map V.int)) a = some (.lst (namesL.map V.int)) := upd_same
  show tNil _ (upd H a (.lst (namesL.map V.int))) _
  generalize upd H a (.lst (namesL.map V.int)) = H1 at s1 ea
  have mv1 : Mv s sh H H1 := Mv.of st s1
  refine ⟨s, sh, a, namesL, rfl, mv1.st, ea, by decide, fun nb names H2 hnb mv2 pm enb => ⟨Nat.zero_le _, fun fb hfb => ⟨_, _, rfl, ?_⟩⟩⟩
  have mv3 := mv1.trans mv2
  have onb := mv1.st.out hnb
  have ofb := mv2.st.out hfb
  have hfb0 := mv3.free hfb
  have hne : nb ≠ fb := fun z => by rw [z, hfb] at enb; cases enb
  have hlf : l ≠ fb := ne_of_none hl hfb0
  have hnl : names.length = 8 := pm.length_eq
  have s3 : Same H2 (upd H2 fb (.lst [])) := same_new hfb _
  have efb : upd H2 fb (.lst []) fb = some (.lst []) := upd_same
  have enb3 := s3 _ _ enb
  generalize upd H2 fb (.lst []) = H3 at s3 efb enb3
  have mv4 := mv3.same s3
  refine ⟨_, rfl, _, rfl, _, _, rfl, rfl, s, sh, 8, rfl, mv4.st, by decide, by decide, fun cnt H4 hc mv5 => ⟨_, rfl, by omega, by omega, ?_⟩⟩
  have mv6 := mv4.trans mv5
  refine for_range (n := (cnt : Int).toNat) (fun k σ' H' => Mv s sh H H' ∧ ∃ (v6 v7 v8 : Option V) (ps : List Addr) (ts : List Tr), σ' = [some (.ref s), some (.ref l), some (.int 7), some (.bl b), some (.ref nb), some (.ref fb), v6, v7, v8] ∧ H' nb = some (.lst (names.map V.int)) ∧
      H' fb = some (.lst (ps.map V.ref)) ∧ TrsAt H' ps ts ∧ ts.length = k ∧ ts.map (·.1) = names.take k ∧ ∀ e ∈ ts, e.2.1 ∈ xs ∧ e.2.2 ∈ xs ∧ e.2.1 ≠ e.2.2)
    ⟨mv6, _, _, _, [], [], rfl, mv5.keep _ _ onb.1 onb.2 enb3, mv5.keep _ _ ofb.1 ofb.2 efb, ⟨rfl, fun n p e h1 => by simp at h1⟩, rfl, rfl, fun e he => nomatch he⟩ (fun k σ' H' hk p => ?_) fun σ' H' p => ?_
  · obtain ⟨mv, v6, v7, v8, ps, ts, rfl, en, ef, hts, htl, htn, hin⟩ := p
    have hk8 : k < 8 := by omega
    have hl' := mv.keep _ _ hol.1 hol.2 hl
    refine ⟨_, rfl, _, rfl, s, sh, l, xs, rfl, mv.st, hl', by omega, fun r ys H5 hr5 mvr pmr er => ?_⟩
    have hyl := pmr.length_eq
    obtain ⟨y1, y2, rest, rfl⟩ : ∃ y1 y2 rest, ys = y1 :: y2 :: rest := by
      match ys, hyl with
      | [], h => simp at h; omega
      | [_], h => simp at h; omega
      | y1 :: y2 :: rest, _ => exact ⟨y1, y2, rest, rfl⟩
    have hnd := pmr.nodup_iff.mpr nd
    have hy12 : y1 ≠ y2 := fun z => by
      rw [z] at hnd
      simp at hnd
    have hy1 : y1 ∈ xs := pmr.mem_iff.mp List.mem_cons_self
    have hy2 : y2 ∈ xs := pmr.mem_iff.mp (List.mem_cons_of_mem _ List.mem_cons_self)
    have ecut : cutV ((y1 :: y2 :: rest).map V.int) none (some 2) = [.int y1, .int y2] := cut_take _ 2
    refine ⟨_, rfl, r, _, rfl, SqL.of er, fun p hp => ?_⟩
    rw [ecut]
    have s6 : Same H5 (upd H5 p (.lst [.int y1, .int y2])) := same_new hp _
    have ep : upd H5 p (.lst [.int y1, .int y2]) p = some (.lst [.int y1, .int y2]) := upd_same
    generalize upd H5 p (.lst [.int y1, .int y2]) = H6 at s6 ep
    have mvq : Mv s sh H' H6 := mvr.same s6
    have mvz : Mv s sh H H6 := mv.trans mvq
    refine ⟨p, _, rfl, SqL.of ep, rfl, _, _, rfl, _, _, rfl, rfl, ?_⟩
    have hl6 := mvz.keep _ _ hol.1 hol.2 hl
    have fin : ∀ (z1 z2 : Int), z1 ∈ xs → z2 ∈ xs → z1 ≠ z2 → ∀ D : Ends, (∀ σ' H', (Mv s sh H H' ∧ ∃ (v6 v7 v8 : Option V) (ps : List Addr) (ts : List Tr), σ' = [some (.ref s), some (.ref l), some (.int 7), some (.bl b), some (.ref nb), some (.ref fb), v6, v7, v8] ∧ H' nb = some (.lst (names.map V.int)) ∧
        H' fb = some (.lst (ps.map V.ref)) ∧ TrsAt H' ps ts ∧ ts.length = k + 1 ∧ ts.map (·.1) = names.take (k + 1) ∧ ∀ e ∈ ts, e.2.1 ∈ xs ∧ e.2.2 ∈ xs ∧ e.2.1 ≠ e.2.2) → D.nx σ' H') →
        tDrop (tBM K "list" rAppend (tVar 5) (tCons (tTup (tCons (tOp (rIxL K) (tVar 4) (tVar 6)) (tCons (tVar 7) (tCons (tVar 8) tNil)))) tNil)) D [some (.ref s), some (.ref l), some (.int 7), some (.bl b), some (.ref nb), some (.ref fb), some (.int (0 + (k : Int))), some (.int z1), some (.int z2)] H6 := by
      intro z1 z2 h1 h2 h3 D hD
      have en6 := mvq.keep _ _ onb.1 onb.2 en
      have ef6 := mvq.keep _ _ ofb.1 ofb.2 ef
      have hkn : k < names.length := by omega
      have gk : names[k]? = some names[k] := List.getElem?_eq_getElem hkn
      refine ⟨_, rfl, .inl ⟨rfl, _, SqL.of ef6⟩, _, rfl, _, rfl, nb, _, _, .int names[k], rfl, rfl, SqL.of en6, by rw [Int.zero_add]; exact atI_nat (by rw [List.getElem?_map, gk]; rfl), _, rfl, _, rfl, (by show 3 ≤ sizeLine; omega), fun t ht => ?_⟩
      have s7 := same_new ht (.tup [.int names[k], .int z1, .int z2])
      have et : TrAt (upd H6 t (.tup [.int names[k], .int z1, .int z2])) t (names[k], z1, z2) := upd_same
      generalize upd H6 t (.tup [.int names[k], .int z1, .int z2]) = H7 at s7 et
      refine ⟨fb, _, _, rfl, rfl, s7 _ _ ef6, by rw [List.length_map, hts.len]; omega, hD _ _ ⟨((mvz.same s7).upd_new hfb0 ofb), _, _, _, ps ++ [t], ts ++ [(names[k], z1, z2)], rfl, ?_, ?_, ?_, by rw [List.length_append, htl]; rfl, ?_, fun e he => ?_⟩⟩
      · rw [upd_ne hne]
        exact s7 _ _ en6
      · rw [upd_same, List.map_append]
        rfl
      · exact (((hts.mv mv.st mvq).same s7).push et).upd_lst (s7 _ _ ef6)
      · rw [List.map_append, htn, List.take_add_one, gk]
        rfl
      · rcases List.mem_append.mp he with h | h
        · exact hin e h
        · rw [List.mem_singleton.mp h]
          exact ⟨h1, h2, h3⟩
    refine ⟨_, rfl, _, rfl, ?_⟩
    refine ite2 (fun _ => ?_) fun _ => iteF (fin y1 y2 hy1 hy2 hy12 _ fun _ _ h => h)
    refine ⟨l, xs, rfl, .inl hl6, _, rfl, y1, rfl, Same.refl _, hy1, l, xs, rfl, .inl hl6, _, rfl, y2, rfl, Same.refl _, hy2, _, _, rfl, rfl, _, rfl, ?_⟩
    refine ite2 (fun _ => ?_) fun _ => fin y1 y2 hy1 hy2 hy12 _ fun _ _ h => h
    exact ⟨_, rfl, _, rfl, _, _, rfl, fin y2 y1 hy2 hy1 hy12.symm _ fun _ _ h => h⟩
  · obtain ⟨mv, v6, v7, v8, ps, ts, rfl, en, ef, hts, htl, htn, hin⟩ := p
    refine ⟨_, rfl, q fb ps ts H' hfb0 mv ef hts (by omega) (by rw [htn]; exact (pm.nodup_iff.mpr namesL_nd).sublist (List.take_sublist _ _)) fun e he => ⟨?_, hin e he⟩⟩
    have hm : e.1 ∈ names.take (cnt : Int).toNat := by rw [← htn]; exact List.mem_map.mpr ⟨e, he, rfl⟩
    exact namesL_small _ (pm.mem_iff.mp (List.mem_of_mem_take hm))
end
end K48

set_option Elab.async false
set_option maxRecDepth 100000
set_option maxHeartbeats 4000000
set_option linter.all false
namespace K48
open PySem PySem.Spec PyProof.Rows L2
/-- the tuple of a state stands at p -/
def StAt (H : Hp) (p : Addr) (s : Stt) : Prop := ∃ u, H p = some (.tup [.int s.1, .ref u]) ∧ H u = some (.tup (s.2.map V.int))
theorem StAt.same {H H' : Hp} {p : Addr} {s : Stt} (e : Same H H') (h : StAt H p s) : StAt H' p s := by
  obtain ⟨u, h1, h2⟩ := h
  exact ⟨u, e _ _ h1, e _ _ h2⟩
theorem StAt.upd_lst {H : Hp} {p a : Addr} {s : Stt} {xs ys : List V} (h : StAt H p s) (ha : H a = some (.lst xs)) : StAt (upd H a (.lst ys)) p s := by
  obtain ⟨u, h1, h2⟩ := h
  exact ⟨u, by rw [upd_ne (ne_of h1 ha fun z => nomatch z)]; exact h1, by rw [upd_ne (ne_of h2 ha fun z => nomatch z)]; exact h2⟩
structure StsAt (H : Hp) (ps : List Addr) (S : List Stt) : Prop where
  len : ps.length = S.length
  at_ : ∀ (n : Nat) (p : Addr) (s : Stt), ps[n]? = some p → S[n]? = some s → StAt H p s
theorem StsAt.same {H H' : Hp} {ps : List Addr} {S : List Stt} (e : Same H H') (h : StsAt H ps S) : StsAt H' ps S := ⟨h.len, fun n p s h1 h2 => (h.at_ n p s h1 h2).same e⟩
theorem StsAt.upd_lst {H : Hp} {ps : List Addr} {S : List Stt} {a : Addr} {xs ys : List V} (h : StsAt H ps S) (ha : H a = some (.lst xs)) : StsAt (upd H a (.lst ys)) ps S := ⟨h.len, fun n p s h1 h2 => (h.at_ n p s h1 h2).upd_lst ha⟩
theorem StsAt.get {H : Hp} {ps : List Addr} {S : List Stt} (h : StsAt H ps S) {n : Nat} {x : V} (hx : (ps.map V.ref)[n]? = some x) : ∃ p s, x = .ref p ∧ ps[n]? = some p ∧ S[n]? = some s ∧ StAt H p s := by
  rw [List.getElem?_map] at hx
  cases e1 : ps[n]? with
  | none => rw [e1] at hx; cases hx
  | some p =>
    rw [e1] at hx
    cases hx
    have hn : n < S.length := by rw [← h.len]; exact (List.getElem?_eq_some_iff.mp e1).1
    exact ⟨p, S[n], rfl, rfl, List.getElem?_eq_getElem hn, h.at_ n p _ e1 (List.getElem?_eq_getElem hn)⟩
theorem StsAt.nil {H : Hp} : StsAt H [] [] := ⟨rfl, fun n p s h1 => by simp at h1⟩
theorem StsAt.push {H : Hp} {ps : List Addr} {S : List Stt} {p : Addr} {e : Stt} (h : StsAt H ps S) (hp : StAt H p e) : StsAt H (ps ++ [p]) (S ++ [e]) := by
  refine ⟨by rw [List.length_append, List.length_append, h.len]; rfl, fun n q d h1 h2 => ?_⟩
  rcases Nat.lt_or_ge n ps.length with hl | hg
  · rw [List.getElem?_append_left hl] at h1
    rw [List.getElem?_append_left (by rw [← h.len]; exact hl)] at h2
    exact h.at_ n q d h1 h2
  · rw [List.getElem?_append_right hg] at h1
    rw [List.getElem?_append_right (by rw [← h.len]; exact hg), ← h.len] at h2
    cases e1 : n - ps.length with
    | zero =>
      rw [e1] at h1 h2
      cases h1
      cases h2
      exact hp
    | succ m =>
      rw [e1] at h1
      cases h1
theorem last_of {α : Type} {l : List α} (h : l ≠ []) : ∃ l' x, l = l' ++ [x] := ⟨l.dropLast, l.getLast h, (List.dropLast_concat_getLast h).symm⟩
theorem StsAt.pop {H : Hp} {ps : List Addr} {S : List Stt} (h : StsAt H ps S) (hS : S ≠ []) : ∃ qs q S' s, ps = qs ++ [q] ∧ S = S' ++ [s] ∧ StsAt H qs S' ∧ StAt H q s := by
  have hl : 0 < S.length := List.length_pos_iff.mpr hS
  have hp : ps ≠ [] := fun z => by have := h.len; rw [z] at this; simp at this; omega
  obtain ⟨qs, q, rfl⟩ := last_of hp
  obtain ⟨S', s, rfl⟩ := last_of hS
  have hlen : qs.length = S'.length := by have := h.len; rw [List.length_append, List.length_append] at this; simpa using this
  refine ⟨qs, q, S', s, rfl, rfl, ⟨hlen, fun n p t h1 h2 => ?_⟩, ?_⟩
  · refine h.at_ n p t ?_ ?_
    · rw [List.getElem?_append_left (List.getElem?_eq_some_iff.mp h1).1]; exact h1
    · rw [List.getElem?_append_left (List.getElem?_eq_some_iff.mp h2).1]; exact h2
  · refine h.at_ qs.length q s ?_ ?_
    · rw [List.getElem?_append_right (Nat.le_refl _), Nat.sub_self]; rfl
    · rw [hlen, List.getElem?_append_right (Nat.le_refl _), Nat.sub_self]; rfl
section
variable {K : PySem.W.Frag} {H : Hp}
theorem dp_st {p : Addr} {s : Stt} (h : StAt H p s) : Dp K H (.ref p) (stD s) := by
  obtain ⟨u, h1, h2⟩ := h
  exact .tup (SqT.of h1) (.cons (.int _) (.cons (dp_iT (SqT.of h2)) .nil))
theorem dp_sts : ∀ {ps : List Addr} {S : List Stt}, StsAt H ps S → DpAll K H (ps.map V.ref) (S.map stD)
  | [], [], _ => .nil
  | [], _ :: _, h => nomatch h.len
  | _ :: _, [], h => nomatch h.len
  | p :: ps, s :: S, h => .cons (dp_st (h.at_ 0 p s rfl rfl)) (dp_sts ⟨Nat.succ.inj h.len, fun n q t h1 h2 => h.at_ (n + 1) q t h1 h2⟩)
end
theorem Val.len {line : List Int} {ts : List Tr} {s : Stt} (h : Val line ts s) : s.2.length ≤ ts.length := by
  have := nodup_le (l := s.2) (k := ts.map (·.1)) (h.asc.imp fun z e => by omega) h.nam
  rwa [List.length_map] at this
def OnW (H : Hp) (a t f1 w1 : Addr) (line : List Int) (ts : List Tr) (S : List Stt) (m : Nat) (σ' : L2.St) (H' : Hp) : Prop := ∃ (F Wt : List Stt) (fs ws : List Addr) (v4 v5 v6 v7 v8 v9 : Option V), σ' = [some (.ref a), some (.ref t), some (.ref f1), some (.ref w1), v4, v5, v6, v7, v8, v9] ∧ Same H H' ∧
  H' f1 = some (.lst (fs.map V.ref)) ∧ H' w1 = some (.lst (ws.map V.ref)) ∧ StsAt H' fs F ∧ StsAt H' ws Wt ∧ OnInv line ts S F Wt ∧ 2 * (line.length * 2 ^ ts.length - F.length) + Wt.length = m
def ForW (H : Hp) (a t f1 w1 u : Addr) (line : List Int) (ts : List Tr) (S : List Stt) (s : Stt) (m k : Nat) (σ' : L2.St) (H' : Hp) : Prop := ∃ (F Wt : List Stt) (fs ws : List Addr) (v6 v7 v8 v9 : Option V), σ' = [some (.ref a), some (.ref t), some (.ref f1), some (.ref w1), some (.int s.1), some (.ref u), v6, v7, v8, v9] ∧ Same H H' ∧
  H' f1 = some (.lst (fs.map V.ref)) ∧ H' w1 = some (.lst (ws.map V.ref)) ∧ StsAt H' fs F ∧ StsAt H' ws Wt ∧ ForInv line ts S s k F Wt ∧ 2 * (line.length * 2 ^ ts.length - F.length) + Wt.length < m ∧ H' u = some (.tup (s.2.map V.int))
def spOn : Sp := fun vs H Q _ => ∃ (a t : Addr) (qs ps : List Addr) (line : List Int) (ts : List Tr) (S : List Stt), vs = [.ref a, .ref t] ∧ H a = some (.lst (qs.map V.ref)) ∧ StsAt H qs S ∧ S.Nodup ∧ (∀ s ∈ S, Val line ts s) ∧ H t = some (.lst (ps.map V.ref)) ∧ TrsAt H ps ts ∧ Net line ts ∧ ts.length ≤ 7 ∧ line.length ≤ 6 ∧
  ∀ (r : Addr) (rs : List Addr) (F : List Stt) H', H r = none → Same H H' → H' r = some (.lst (rs.map V.ref)) → StsAt H' rs F → OnRes line ts S F → Q (.ref r) H'
section
variable {P : Program} {w : World} {K : PySem.W.Frag} {mg : PySem.Str → Option Value} {base : Heap}
theorem scOn : FnScope ["_law_states", "_law_triples_here", "_law_found", "_law_waiting", "_law_spot", "_law_used", "_law_name", "_law_tail", "_law_head", "_law_new"] ["_law_states", "_law_triples_here"] (defScope sOn) := ⟨rfl, rfl, rfl, by decide +kernel, rfl, by decide +kernel, by decide +kernel⟩
theorem ok_on {f : Addr} {fd : FuncData} (D : Df K mg "_law_onward" sOn ["_law_states", "_law_triples_here"] f fd) (B : Bl mg) : FnOk P w K mg base CX0 1 f fd ["_law_states", "_law_triples_here"] spOn := by
  refine D.F.ok scOn (fun vs H Q E h => ?_) (fun cdv A outer s0 H vs Q E hr h => ?_)
  · obtain ⟨a, t, qs, ps, line, ts, S, rfl, _⟩ := h
    rfl
  obtain ⟨a, t, qs, ps, line, ts, S, rfl, ha, hS, nd, hval, ht, hts, net, tl, ll, q⟩ := h
  have hu : (A.deeper (envOfC "_law_onward" (defScope sOn) s0.heap.objs.size f cdv)).units + 65 < cLine := by have := hr.un; omega
  refine ⟨_, pss_cons (ps_par (i := 2) (j := 3) (by rfl) scOn.nd rfl rfl (by decide) rfl rfl (pa_cons (pe_callTy call_list_of (by rfl) B.list (by decide +kernel) (pa_cons (pv 0) pa_nil)) (pa_cons (pe_callTy call_list_of (by rfl) B.list (by decide +kernel) (pa_cons (pv 0) pa_nil)) pa_nil)) (by rfl))
    (pss_cons (ps_while PassesOwn.never (pt_cmpR (op_neD hr.units) (pv 3) (pe_lst pa_nil) (nomark _))
      (pss_cons (ps_asg (pe_bm0 PySem.F.plainAttrs_list PySem.F.slot_list_pop PySem.F.type_list_pop mt_pop (pv 3)) (pg_tup rfl (pgs_cons (pg_name (i := 4) scOn.nd rfl (Or.inl rfl)) (pgs_cons (pg_name (i := 5) scOn.nd rfl (Or.inl rfl)) pgs_nil))))
      (pss_one (ps_for PassesOwn.never rfl (pi_list (pv 1)) (pg_tup rfl (pgs_cons (pg_name (i := 6) scOn.nd rfl (Or.inl rfl)) (pgs_cons (pg_name (i := 7) scOn.nd rfl (Or.inl rfl)) (pgs_cons (pg_name (i := 8) scOn.nd rfl (Or.inl rfl)) pgs_nil))))
        (pss_cons (ps_set (i := 9) scOn.nd rfl (Or.inl rfl) (pe_tup (pa_cons (pv 8) (pa_cons (pe_callTy call_tuple_of (by rfl) B.tuple (by decide +kernel) (pa_cons (pe_callB cr_sortedT (by rfl) B.sorted (by decide +kernel) (pa_cons (pe_op op_catZ (pv 5) (pe_tup (pa_cons (pv 6) pa_nil))) pa_nil)) pa_nil)) pa_nil))))
        (pss_one (ps_if (PW.pt (pw_and (pt_cmpR op_eq (pv 7) (pv 4) (nomark _)) (pw_and (pt_cmpR op_notIn_seq (pv 6) (pv 5) (by rfl)) (pw_and1 (pt_cmpR (op_notInD hu) (pv 9) (pv 2) (by rfl))))))
          (pss_cons (ps_expr (pe_bm PySem.F.plainAttrs_list PySem.F.slot_list_append PySem.F.type_list_append mt_append (pv 2) (pa_cons (pv 9) pa_nil)))
          (pss_one (ps_expr (pe_bm PySem.F.plainAttrs_list PySem.F.slot_list_append PySem.F.type_list_append mt_append (pv 3) (pa_cons (pv 9) pa_nil))))) pss_nil)))))))
    (pss_one (ps_ret (pv 2)))), ?_⟩
  have hz : (sizeLine : Nat) = 16777216 := sizeLine_eq
  have hK : line.length * 2 ^ ts.length ≤ 768 := Nat.le_trans (Nat.mul_le_mul ll (Nat.pow_le_pow_right (by decide) tl)) (by decide)
  have hi : Inside line ts := net.inside
  refine ⟨_, rfl, a, _, rfl, .inl (SqL.of ha), fun f1 hf => ⟨_, rfl, a, _, rfl, .inl (SqL.of (same_new hf _ _ _ ha)), fun w1 hw => ⟨_, _, rfl, ?_⟩⟩⟩
  have s1 : Same H (upd (upd H f1 (.lst (qs.map V.ref))) w1 (.lst (qs.map V.ref))) := same_upd (same_new hf _) ((same_new hf (.lst (qs.map V.ref))).free hw) _
  have ef : upd (upd H f1 (.lst (qs.map V.ref))) w1 (.lst (qs.map V.ref)) f1 = some (.lst (qs.map V.ref)) := same_new hw _ _ _ upd_same
  have ew : upd (upd H f1 (.lst (qs.map V.ref))) w1 (.lst (qs.map V.ref)) w1 = some (.lst (qs.map V.ref)) := upd_same
  have hfw : f1 ≠ w1 := fun e => by
    rw [← e, upd_same] at hw
    cases hw
  have hw0 : H w1 = none := (same_new hf (.lst (qs.map V.ref))).free hw
  generalize upd (upd H f1 (.lst (qs.map V.ref))) w1 (.lst (qs.map V.ref)) = H0 at s1 ef ew
  dsimp only [tSeq]
  refine ⟨OnW H a t f1 w1 line ts S, ⟨_, S, S, qs, qs, _, _, _, _, _, _, rfl, s1, ef, ew, hS.same s1, hS.same s1, OnInv.start nd hval, rfl⟩, fun m σ' H' hW => ?_⟩
  obtain ⟨F, Wt, fs, ws, v4, v5, v6, v7, v8, v9, rfl, s2, ef, ew, hF, hWt, inv, hm⟩ := hW
  refine ⟨_, rfl, Nat.zero_le _, fun t1 ht1 => ne_nil (ds := Wt.map stD) (.lst (SqL.of (same_new ht1 _ _ _ ew)) (dp_sts (hWt.same (same_new ht1 _)))) (nice_stDs Wt) (by decide) upd_same ⟨_, rfl, ?_⟩⟩
  have s3 : Same H' (upd H' t1 (.lst [])) := same_new ht1 _
  generalize upd H' t1 (.lst []) = H2 at s3
  have s4 := s2.trans s3
  have ef2 := s3 _ _ ef
  have ew2 := s3 _ _ ew
  have hF2 := hF.same s3
  have hW2 := hWt.same s3
  refine ite2 (fun h1 => ?_) fun h1 => ?_
  · have hne : Wt ≠ [] := fun z => by rw [z] at h1; cases h1
    obtain ⟨ws', p, W', s, rfl, rfl, hW', hp⟩ := hW2.pop hne
    refine ⟨fun σ' H' => ∃ m', m' < m ∧ OnW H a t f1 w1 line ts S m' σ' H', fun _ _ h => h, ?_⟩
    obtain ⟨u, hp1, hp2⟩ := hp
    have npw : p ≠ w1 := ne_of hp1 ew2 fun z => nomatch z
    have nuw : u ≠ w1 := ne_of hp2 ew2 fun z => nomatch z
    have edl : ((ws' ++ [p]).map V.ref).dropLast = ws'.map V.ref := by rw [List.map_append]; exact List.dropLast_concat
    refine ⟨_, rfl, .inl ⟨rfl, _, SqL.of ew2⟩, w1, _, .ref p, rfl, rfl, ew2, by simp, ?_⟩
    rw [edl]
    have s5 : Same H (upd H2 w1 (.lst (ws'.map V.ref))) := same_upd s4 hw0 _
    have ef3 : upd H2 w1 (.lst (ws'.map V.ref)) f1 = some (.lst (fs.map V.ref)) := by rw [upd_ne hfw]; exact ef2
    have ew3 : upd H2 w1 (.lst (ws'.map V.ref)) w1 = some (.lst (ws'.map V.ref)) := upd_same
    have hF3 : StsAt (upd H2 w1 (.lst (ws'.map V.ref))) fs F := hF2.upd_lst ew2
    have hW3 : StsAt (upd H2 w1 (.lst (ws'.map V.ref))) ws' W' := hW'.upd_lst ew2
    have hp3 : upd H2 w1 (.lst (ws'.map V.ref)) p = some (.tup [.int s.1, .ref u]) := by rw [upd_ne npw]; exact hp1
    have hu3 : upd H2 w1 (.lst (ws'.map V.ref)) u = some (.tup (s.2.map V.int)) := by rw [upd_ne nuw]; exact hp2
    generalize upd H2 w1 (.lst (ws'.map V.ref)) = H3 at s5 ef3 ew3 hF3 hW3 hp3 hu3
    refine ⟨p, _, rfl, SqT.of hp3, rfl, _, _, rfl, _, _, rfl, rfl, ?_⟩
    have hlw : (W' ++ [s]).length = W'.length + 1 := List.length_append
    refine ⟨_, rfl, t, rfl, ⟨_, SqL.of (s5 _ _ ht)⟩, for_list (xs := ps.map V.ref) (ForW H a t f1 w1 u line ts S s m) ⟨F, W', fs, ws', _, _, _, _, rfl, s5, ef3, ew3, hF3, hW3, ForInv.start inv, by omega, hu3⟩ (fun k σ' H' _ p => ?_) (fun k x σ' H' hx pv => ?_) fun σ' H' pv => ?_⟩
    · obtain ⟨_, _, _, _, _, _, _, _, _, s6, _⟩ := p
      exact SqL.of (s6 _ _ ht)
    · obtain ⟨F, Wt, fs, ws, v6, v7, v8, v9, rfl, s6, ef, ew, hF, hWt, inv, hm, hu⟩ := pv
      obtain ⟨p', e, rfl, hp1, he, hat⟩ := (hts.same s6).get hx
      have hvs := inv.val s inv.here
      have hln := hvs.len
      refine ⟨p', _, rfl, SqT.of hat, rfl, _, _, rfl, _, _, rfl, _, _, rfl, rfl, ?_⟩
      refine ⟨_, rfl, _, rfl, _, rfl, (by show 1 ≤ sizeLine; omega), fun b1 hb1 => ⟨u, b1, _, [.int e.1], rfl, rfl, SqT.of (same_new hb1 _ _ _ hu), upd_same, List.cons_ne_nil _ _, by rw [List.length_map]; show _ + 1 ≤ _; omega, fun p3 H5 s7 hp3 => ?_⟩⟩
      refine ⟨p3, s.2 ++ [e.1], rfl, SqT.of (by rw [List.map_append]; exact hp3), by rw [List.length_append]; show _ + 1 < 64; omega, fun ns' p4 pm srtd hp4 => ⟨p4, _, rfl, .inl ⟨SqL.of upd_same, fun p5 hp5 => ⟨(by show 2 ≤ sizeLine; omega), fun p6 hp6 => ?_⟩⟩⟩⟩
      have ens : ns' = srt (s.2 ++ [e.1]) := srt_of pm srtd
      subst ens
      have s8 : Same H' (upd (upd (upd H5 p4 (.lst ((srt (s.2 ++ [e.1])).map V.int))) p5 (.tup ((srt (s.2 ++ [e.1])).map V.int))) p6 (.tup [.int e.2.2, .ref p5])) := (same_new hb1 _).trans (s7.trans ((same_new hp4 _).trans ((same_new hp5 _).trans (same_new hp6 _))))
      have hnew : StAt (upd (upd (upd H5 p4 (.lst ((srt (s.2 ++ [e.1])).map V.int))) p5 (.tup ((srt (s.2 ++ [e.1])).map V.int))) p6 (.tup [.int e.2.2, .ref p5])) p6 (after s e) := ⟨p5, upd_same, same_new hp6 _ _ _ upd_same⟩
      generalize upd (upd (upd H5 p4 (.lst ((srt (s.2 ++ [e.1])).map V.int))) p5 (.tup ((srt (s.2 ++ [e.1])).map V.int))) p6 (.tup [.int e.2.2, .ref p5]) = H8 at s8 hnew
      have s9 := s6.trans s8
      have ef8 := s8 _ _ ef
      have ew8 := s8 _ _ ew
      have hF8 := hF.same s8
      have hW8 := hWt.same s8
      have hu8 := s8 _ _ hu
      have skip : (StepOk ts s e → after s e ∈ F) → ∀ w6 w7 w8 w9 : Option V, ForW H a t f1 w1 u line ts S s m (k + 1) [some (.ref a), some (.ref t), some (.ref f1), some (.ref w1), some (.int s.1), some (.ref u), w6, w7, w8, w9] H8 :=
        fun c w6 w7 w8 w9 => ⟨F, Wt, fs, ws, w6, w7, w8, w9, rfl, s9, ef8, ew8, hF8, hW8, inv.skip he c, hm, hu8⟩
      refine ⟨_, rfl, _, rfl, rfl, _, rfl, ?_⟩
      refine ite2 (fun h2 => ?_) fun h2 => iteF (skip (fun ok => absurd (decide_eq_true (congrArg V.int ok.2.1)) h2) _ _ _ _)
      refine ⟨_, rfl, _, rfl, u, _, rfl, .inr (SqT.of hu8), rfl, flat_ints _, _, rfl, ?_⟩
      rw [inV_ints]
      refine ite2 (fun h3 => ?_) fun h3 => iteF (skip (fun ok => absurd (by simpa using ok.2.2) h3) _ _ _ _)
      refine ⟨_, rfl, _, rfl, stD (after s e), F.map stD, dp_st hnew, .lst (SqL.of ef8) (dp_sts hF8), (nice_stD _).shaped (by decide), (nice_stDs _).shaped (by decide), _, rfl, ?_⟩
      rw [any_stD]
      refine ite2 (fun h4 => ?_) fun h4 => skip (fun _ => by simpa using h4) _ _ _ _
      have h5 : after s e ∉ F := by simpa using h4
      have h6 : e.1 ∉ s.2 := by simpa using h3
      have h7 : e.2.1 = s.1 := V.int.inj (of_decide_eq_true h2)
      have inv' := inv.push hi he ⟨List.mem_of_getElem? he, h7, h6⟩ h5
      have hb := val_le net.nm inv'.nd inv'.val
      rw [List.length_append] at hb
      have hb' : F.length + 1 ≤ line.length * 2 ^ ts.length := hb
      have hwl := inv.len
      have hfl := hF.len
      have hwl2 := hWt.len
      refine ⟨_, rfl, .inl ⟨rfl, _, SqL.of ef8⟩, _, rfl, f1, _, _, rfl, rfl, ef8, by rw [List.length_map]; omega, ?_⟩
      have ew9 : upd H8 f1 (.lst (fs.map V.ref ++ [.ref p6])) w1 = some (.lst (ws.map V.ref)) := by rw [upd_ne hfw.symm]; exact ew8
      refine ⟨_, rfl, .inl ⟨rfl, _, SqL.of ew9⟩, _, rfl, w1, _, _, rfl, rfl, ew9, by rw [List.length_map]; omega, ?_⟩
      have nuf : u ≠ f1 := ne_of hu8 ef8 fun z => nomatch z
      have nuw : u ≠ w1 := ne_of hu8 ew8 fun z => nomatch z
      refine ⟨F ++ [after s e], Wt ++ [after s e], fs ++ [p6], ws ++ [p6], _, _, _, _, rfl, same_upd (same_upd s9 hf _) hw0 _, ?_, ?_, ((hF8.push hnew).upd_lst ef8).upd_lst ew9, ((hW8.push hnew).upd_lst ef8).upd_lst ew9, inv', ?_, ?_⟩
      · rw [upd_ne hfw, upd_same, List.map_append]
        rfl
      · rw [upd_same, List.map_append]
        rfl
      · rw [List.length_append, List.length_append]
        show 2 * (_ - (F.length + 1)) + (Wt.length + 1) < m
        omega
      · rw [upd_ne nuw, upd_ne nuf]
        exact hu8
    · obtain ⟨F, Wt, fs, ws, v6, v7, v8, v9, rfl, s6, ef, ew, hF, hWt, inv, hm, hu⟩ := pv
      rw [List.length_map, hts.len] at inv
      exact ⟨_, hm, F, Wt, fs, ws, _, _, _, _, _, _, rfl, s6, ef, ew, hF, hWt, inv.fin, rfl⟩
  · have hWn : Wt = [] := by
      cases Wt with
      | nil => rfl
      | cons a l => exact absurd rfl h1
    subst hWn
    exact ⟨_, rfl, q f1 fs F H2 hf s4 ef2 hF2 inv.fin⟩
end
end K48

set_option Elab.async false
set_option maxRecDepth 100000
set_option maxHeartbeats 4000000
set_option linter.all false
namespace K48
open PySem PySem.Spec PyProof.Rows L2
def keepG (a : Int) (x : Addr × Stt) : Option V := if decide (x.2.1 ≠ a) = true then some (.ref x.1) else none
theorem filt_sts {H : Hp} (a : Int) : ∀ {qs : List Addr} {S : List Stt}, StsAt H qs S → ∃ rs : List Addr, (qs.zip S).filterMap (keepG a) = rs.map V.ref ∧ StsAt H rs (S.filter fun s => decide (s.1 ≠ a))
  | [], [], _ => ⟨[], rfl, StsAt.nil⟩
  | [], _ :: _, h => nomatch h.len
  | _ :: _, [], h => nomatch h.len
  | p :: qs, s :: S, h => by
    obtain ⟨rs, e, hr⟩ := filt_sts a (qs := qs) (S := S) ⟨Nat.succ.inj h.len, fun n q t h1 h2 => h.at_ (n + 1) q t h1 h2⟩
    rw [List.zip_cons_cons, List.filterMap_cons, List.filter_cons]
    by_cases c : decide (s.1 ≠ a) = true
    · have e1 : keepG a (p, s) = some (.ref p) := if_pos c
      rw [e1, if_pos c]
      refine ⟨p :: rs, by rw [e]; rfl, ⟨by rw [List.length_cons, List.length_cons, hr.len], fun n q t h1 h2 => ?_⟩⟩
      cases n with
      | zero => cases h1; cases h2; exact h.at_ 0 p s rfl rfl
      | succ n => exact hr.at_ n q t h1 h2
    · have e1 : keepG a (p, s) = none := if_neg c
      rw [e1, if_neg c]
      exact ⟨rs, e, hr⟩
/-- what a def over states is given -/
structure RunAt (H : Hp) (o t a : Addr) (qs ps : List Addr) (line : List Int) (ts : List Tr) (S : List Stt) : Prop where
  ho : H o = some (.lst (line.map V.int))
  ht : H t = some (.lst (ps.map V.ref))
  hts : TrsAt H ps ts
  net : Net line ts
  tl : ts.length ≤ 7
  ll : line.length ≤ 6
  ha : H a = some (.lst (qs.map V.ref))
  hS : StsAt H qs S
  nd : S.Nodup
  val : ∀ s ∈ S, Val line ts s
theorem RunAt.same {H H' : Hp} {o t a : Addr} {qs ps : List Addr} {line : List Int} {ts : List Tr} {S : List Stt} (e : Same H H') (h : RunAt H o t a qs ps line ts S) : RunAt H' o t a qs ps line ts S :=
  ⟨e _ _ h.ho, e _ _ h.ht, h.hts.same e, h.net, h.tl, h.ll, e _ _ h.ha, h.hS.same e, h.nd, h.val⟩
def spRound : Sp := fun vs H Q _ => ∃ (o t a : Addr) (qs ps : List Addr) (line : List Int) (ts : List Tr) (S : List Stt), vs = [.ref o, .ref t, .ref a] ∧ RunAt H o t a qs ps line ts S ∧
  ∀ (r : Addr) (rs : List Addr) (R : List Stt) H', Same H H' → RunAt H' o t r rs ps line ts R → RoundRel line ts line S R → Q (.ref r) H'
def spNeeded : Sp := fun vs H Q _ => ∃ (o t g : Addr) (ps : List Addr) (line origin : List Int) (ts : List Tr), vs = [.ref o, .ref t, .ref g] ∧ H o = some (.lst (line.map V.int)) ∧ H t = some (.lst (ps.map V.ref)) ∧ TrsAt H ps ts ∧ Net line ts ∧ ts.length ≤ 7 ∧ line.length ≤ 6 ∧
  H g = some (.lst (origin.map V.int)) ∧ origin.Nodup ∧ (∀ a ∈ origin, a ∈ line) ∧ ∀ H', Same H H' → Q (.int ((roundsM line ts 8 origin).1 : Nat)) H'
def spTurned : Sp := fun vs H Q _ => ∃ (o p : Addr) (line : List Int) (e : Tr), vs = [.ref o, .ref p] ∧ H o = some (.lst (line.map V.int)) ∧ TrAt H p e ∧ e.2.1 ∈ line ∧ e.2.2 ∈ line ∧ Q (.int ((agN line e : Nat) : Int)) H
section
variable {P : Program} {w : World} {K : PySem.W.Frag} {mg : PySem.Str → Option Value} {base : Heap}
theorem scTurned : FnScope ["_law_line", "_law_triple"] ["_law_line", "_law_triple"] (defScope sTurned) := ⟨rfl, rfl, rfl, by decide +kernel, rfl, by decide +kernel, by decide +kernel⟩
theorem ok_turned {f : Addr} {fd : FuncData} (D : Df K mg "_law_turned" sTurned ["_law_line", "_law_triple"] f fd) (B : Bl mg) : FnOk P w K mg base CX0 1 f fd ["_law_line", "_law_triple"] spTurned := by
  refine D.F.ok scTurned (fun vs H Q E h => ?_) (fun cdv A outer s0 H vs Q E hr h => ?_)
  · obtain ⟨o, p, line, e, rfl, _⟩ := h
    rfl
  obtain ⟨o, p, line, e, rfl, ho, hp, h1, h2, q⟩ := h
  refine ⟨_, pss_one (ps_ret (pe_callTy call_int1 (by rfl) B.int (by decide +kernel) (pa_cons (pe_cmpR op_lt (pe_index 0 (pe_ix ix_tup (pv 1) pe_int (fun _ _ => rfl))) (pe_index 0 (pe_ix ix_tup (pv 1) pe_int (fun _ _ => rfl))) (nomark _)) pa_nil))), ?_⟩
  refine ⟨o, line, rfl, .inl ho, _, rfl, p, _, 2, _, rfl, rfl, SqT.of hp, rfl, _, rfl, Same.refl _, h2, o, line, rfl, .inl ho, _, rfl, p, _, 1, _, rfl, rfl, SqT.of hp, rfl, _, rfl, Same.refl _, h1, _, _, rfl, rfl, .inr ⟨_, rfl, ?_⟩⟩
  have e1 : decide (((pos line e.2.2 : Nat) : Int) < ((pos line e.2.1 : Nat) : Int)) = agB line e := decide_eq_decide.mpr (by omega)
  have fin : Q (.int (if decide (((pos line e.2.2 : Nat) : Int) < ((pos line e.2.1 : Nat) : Int)) = true then 1 else 0)) H := by
    rw [e1]
    unfold agN at q
    split at q <;> rename_i h <;> simp only [h, if_true, if_false] <;> exact q
  exact fin
theorem scRound : FnScope ["_law_line", "_law_triples_here", "_law_states", "_law_node", "_law_state"] ["_law_line", "_law_triples_here", "_law_states"] (defScope sRound) := ⟨rfl, rfl, rfl, by decide +kernel, rfl, by decide +kernel, by decide +kernel⟩
theorem ok_round {f fo : Addr} {fd fdo : FuncData} (D : Df K mg "_law_round" sRound ["_law_line", "_law_triples_here", "_law_states"] f fd) (B : Bl mg) (DO : Df K mg "_law_onward" sOn ["_law_states", "_law_triples_here"] fo fdo) :
    FnOk P w K mg base CX0 2 f fd ["_law_line", "_law_triples_here", "_law_states"] spRound := by
  have GO : FnOk P w K mg base CX0 1 fo fdo ["_law_states", "_law_triples_here"] spOn := ok_on DO B
  refine D.F.ok scRound (fun vs H Q E h => ?_) (fun cdv A outer s0 H vs Q E hr h => ?_)
  · obtain ⟨o, t, a, qs, ps, line, ts, S, rfl, _⟩ := h
    rfl
  obtain ⟨o, t, a, qs, ps, line, ts, S, rfl, R0, q⟩ := h
  refine ⟨_, pss_cons (ps_for PassesOwn.never rfl (pi_var 0) (pg_name (i := 3) scRound.nd rfl (Or.inr rfl))
    (pss_one (ps_set (i := 2) scRound.nd rfl (Or.inl rfl) (pe_call GO hr rfl DO.m DO.F.kp DO.b .nil pass0 (pa_cons (pe_lc (own := [("_law_state", 4)]) (g := gName 4) rfl scRound.nd (pi_var 2) (blkOk_by (own := [("_law_state", 4)]) (N := ["_law_line", "_law_triples_here", "_law_states", "_law_node", "_law_state"]) (sc := defScope sRound) (by decide +kernel))
      (fun _ _ _ _ _ => pg_name (i := 4) scRound.nd rfl (Or.inl rfl)) (fun _ _ _ _ _ => pts_mono (pt_cmpR op_ne (pe_ix (ix_tupK K) (pv 4) pe_int (fun _ _ => rfl)) (pv 3) (nomark _))) (fun _ _ _ _ _ => pe_mono (pv 4))) (pa_cons (pv 1) pa_nil))))))
    (pss_one (ps_ret (pv 2))), ?_⟩
  refine for_var (a := o) (xs := line.map V.int) rfl (.inl R0.ho) (fun k σ' H' => Same H H' ∧ ∃ (sa : Addr) (rs : List Addr) (R : List Stt) (v3 : Option V), σ' = [some (.ref o), some (.ref t), some (.ref sa), v3, none] ∧ RunAt H' o t sa rs ps line ts R ∧
      ∀ Z, RoundRel line ts (line.drop k) R Z → RoundRel line ts line S Z) ⟨Same.refl _, a, qs, S, _, rfl, R0, fun Z h => h⟩ (fun _ _ _ p => p.1) (fun k x σ' H' hx p => ?_) fun σ' H' p => ?_
  · obtain ⟨s1, sa, rs, R, v3, rfl, RA, hrel⟩ := p
    rw [List.getElem?_map] at hx
    cases e : line[k]? with
    | none => rw [e] at hx; cases hx
    | some z =>
    rw [e] at hx
    cases hx
    have hzl : (rs.map V.ref).length = (rs.zip R).length := by rw [List.length_map, List.length_zip, RA.hS.len, Nat.min_self]
    have hRl : rs.length ≤ 768 := by
      rw [RA.hS.len]
      refine Nat.le_trans (val_le RA.net.nm RA.nd RA.val) (Nat.le_trans (Nat.mul_le_mul RA.ll (Nat.pow_le_pow_right (by decide) RA.tl)) (by decide))
    dsimp only [tSeq, tAsg, tCall, tCons, gName]
    refine lc_filt (fun n => ((rs.zip R)[n]?).bind (keepG z)) (show ([some (V.ref o), some (V.ref t), some (V.ref sa), some (V.int z), none] : L2.St)[2]? = some (some (.ref sa)) from rfl) (.inl RA.ha) (by rw [List.length_map]; omega) (fun n x H2 hx2 s2 => ?_) fun D H2 nD s2 eD => ?_
    · obtain ⟨p, st, rfl, hp1, hs1, hat⟩ := (RA.hS.same s2).get hx2
      obtain ⟨u, h1, h2⟩ := hat
      have hzip : (rs.zip R)[n]? = some (p, st) := List.getElem?_zip_eq_some.mpr ⟨hp1, hs1⟩
      refine ⟨_, rfl, p, _, 0, _, rfl, rfl, SqT.of h1, rfl, _, rfl, rfl, _, rfl, Same.refl _, ?_, fun y hy => ?_⟩
      · rw [hzip]
        show (!decide (V.int st.1 = V.int z)) = (keepG z (p, st)).isSome
        unfold keepG
        by_cases c : st.1 = z
        · rw [if_neg (by simpa using c), decide_eq_true (congrArg V.int c)]
          rfl
        · rw [if_pos (decide_eq_true c), decide_eq_false fun q => c (V.int.inj q)]
          rfl
      · rw [hzip] at hy
        have hy' : keepG z (p, st) = some y := hy
        unfold keepG at hy'
        split at hy'
        · cases hy'
          exact ⟨_, rfl, rfl, Same.refl _⟩
        · cases hy'
    · rw [hzl, range_pick] at eD
      obtain ⟨rs', e', hrs'⟩ := filt_sts z (RA.hS.same s2)
      rw [e'] at eD
      have RB := RA.same s2
      refine ⟨_, rfl, D, t, rs', ps, line, ts, _, rfl, eD, hrs', RB.nd.sublist List.filter_sublist, fun st hst => RB.val st (List.mem_filter.mp hst).1, RB.ht, RB.hts, RB.net, RB.tl, RB.ll, fun r rs2 F H3 hr3 s3 er hF on => ?_⟩
      refine ⟨s1.trans (s2.trans s3), r, rs2, F, _, rfl, ⟨s3 _ _ RB.ho, s3 _ _ RB.ht, RB.hts.same s3, RB.net, RB.tl, RB.ll, er, hF, on.nd, on.val⟩, fun Z hZ => hrel Z ?_⟩
      obtain ⟨hk, ek⟩ := List.getElem?_eq_some_iff.mp e
      rw [List.drop_eq_getElem_cons hk, ek]
      exact ⟨F, on, hZ⟩
  · obtain ⟨s1, sa, rs, R, v3, rfl, RA, hrel⟩ := p
    refine ⟨_, rfl, q sa rs R H' s1 RA (hrel R ?_)⟩
    rw [List.length_map, List.drop_length]
    exact (rfl : R = R)
theorem scNeeded : FnScope ["_law_line", "_law_triples_here", "_law_origin", "_law_states", "_law_many", "_law_node"] ["_law_line", "_law_triples_here", "_law_origin"] (defScope sNeeded) := ⟨rfl, rfl, rfl, by decide +kernel, rfl, by decide +kernel, by decide +kernel⟩
theorem ok_needed {f fo fr : Addr} {fd fdo fdr : FuncData} (D : Df K mg "_law_needed" sNeeded ["_law_line", "_law_triples_here", "_law_origin"] f fd) (B : Bl mg) (DO : Df K mg "_law_onward" sOn ["_law_states", "_law_triples_here"] fo fdo)
    (DR : Df K mg "_law_round" sRound ["_law_line", "_law_triples_here", "_law_states"] fr fdr) : FnOk P w K mg base CX0 3 f fd ["_law_line", "_law_triples_here", "_law_origin"] spNeeded := by
  have GO : FnOk P w K mg base CX0 1 fo fdo ["_law_states", "_law_triples_here"] spOn := ok_on DO B
  have GR : FnOk P w K mg base CX0 2 fr fdr ["_law_line", "_law_triples_here", "_law_states"] spRound := ok_round DR B DO
  refine D.F.ok scNeeded (fun vs H Q E h => ?_) (fun cdv A outer s0 H vs Q E hr h => ?_)
  · obtain ⟨o, t, g, ps, line, origin, ts, rfl, _⟩ := h
    rfl
  obtain ⟨o, t, g, ps, line, origin, ts, rfl, ho, ht, hts, net, tl, ll, hg, ond, oin, q⟩ := h
  refine ⟨_, pss_cons (ps_par (i := 3) (j := 4) (by rfl) scNeeded.nd rfl rfl (by decide) rfl rfl (pa_cons (pe_call GO (hr.mono (by decide)) rfl DO.m DO.F.kp DO.b .nil pass0 (pa_cons
        (pe_lc (own := [("_law_node", 5)]) (g := gName 5) (tt := tYes) rfl scNeeded.nd (pi_var 2) (blkOk_by (own := [("_law_node", 5)]) (N := ["_law_line", "_law_triples_here", "_law_origin", "_law_states", "_law_many", "_law_node"]) (sc := defScope sNeeded) (by decide +kernel))
          (fun _ _ _ _ _ => pg_name (i := 5) scNeeded.nd rfl (Or.inl rfl)) (fun _ _ _ _ _ => pts_nil) (fun _ _ _ _ _ => pe_tup (pa_cons (pv 5) (pa_cons (pe_tup pa_nil) pa_nil)))) (pa_cons (pv 1) pa_nil))) (pa_cons pe_int pa_nil)) (by rfl))
    (pss_cons (ps_while PassesOwn.never (pt_cmpR (op_neD hr.units) (pv 3) (pe_lst pa_nil) (nomark _))
      (pss_one (ps_par (i := 3) (j := 4) (by rfl) scNeeded.nd rfl rfl (by decide) rfl rfl (pa_cons (pe_call GR hr rfl DR.m DR.F.kp DR.b .nil pass0 (pa_cons (pv 0) (pa_cons (pv 1) (pa_cons (pv 3) pa_nil)))) (pa_cons (pe_op op_add (pv 4) pe_int) pa_nil)) (by rfl))))
    (pss_one (ps_ret (pv 4)))), ?_⟩
  have hz : (sizeLine : Nat) = 16777216 := sizeLine_eq
  have hol : origin.length ≤ line.length := nodup_le ond oin
  dsimp only [tSeq, tPar, tCall, tCons]
  refine lc_var (show ([some (V.ref o), some (V.ref t), some (V.ref g), none, none, none] : L2.St)[2]? = some (some (.ref g)) from rfl) (.inl hg) (fun D n H' => Same H H' ∧ n ≤ origin.length ∧ ∃ rs : List Addr, H' D = some (.lst (rs.map V.ref)) ∧ StsAt H' rs ((starts origin).take n))
    (fun D nD => ⟨same_new nD _, Nat.zero_le _, [], upd_same, StsAt.nil⟩) (fun D n H' _ p => p.1) (fun D n x H' nD hx p => ?_) fun D H' nD p => ?_
  · obtain ⟨s1, hn, rs, eD, hrs⟩ := p
    rw [List.getElem?_map] at hx
    cases e : origin[n]? with
    | none => rw [e] at hx; cases hx
    | some z =>
    rw [e] at hx
    cases hx
    have hlt : n < origin.length := (List.getElem?_eq_some_iff.mp e).1
    refine ⟨inBlk_wipe _ 5 _, yes_read ?_⟩
    refine ⟨_, rfl, Nat.zero_le _, fun b hb => ⟨(by show 2 ≤ sizeLine; omega), fun p hp => ?_⟩⟩
    have s2 : Same H' (upd (upd H' b (.tup [])) p (.tup [.int z, .ref b])) := (same_new hb _).trans (same_new hp _)
    have hat : StAt (upd (upd H' b (.tup [])) p (.tup [.int z, .ref b])) p (z, []) := ⟨b, upd_same, same_new hp _ _ _ upd_same⟩
    generalize upd (upd H' b (.tup [])) p (.tup [.int z, .ref b]) = H2 at s2 hat
    have eD2 := s2 _ _ eD
    have hrl := hrs.len
    rw [List.length_take] at hrl
    refine ⟨_, eD2, by rw [List.length_map]; omega, same_upd (s1.trans s2) nD _, hlt, rs ++ [p], by rw [upd_same, List.map_append]; rfl, ?_⟩
    have e2 : (starts origin)[n]? = some (z, []) := by
      unfold starts
      rw [List.getElem?_map, e]
      rfl
    rw [List.take_add_one, e2]
    exact ((hrs.same s2).push hat).upd_lst eD2
  · obtain ⟨s1, hn, rs, eD, hrs⟩ := p
    have hsl : (starts origin).length = (origin.map V.int).length := by unfold starts; rw [List.length_map, List.length_map]
    rw [← hsl, List.take_length] at hrs
    refine ⟨_, rfl, D, t, rs, ps, line, ts, starts origin, rfl, eD, hrs, starts_nodup ond, starts_val oin, s1 _ _ ht, hts.same s1, net, tl, ll, fun r rs2 F H3 hr3 s3 er hF on => ⟨_, _, rfl, ?_⟩⟩
    have s4 := s1.trans s3
    refine ⟨fun m σ' H' => ∃ (sa : Addr) (rs : List Addr) (S : List Stt) (many : Nat), σ' = [some (.ref o), some (.ref t), some (.ref g), some (.ref sa), some (.int (many : Int)), none] ∧ Same H H' ∧ RunAt H' o t sa rs ps line ts S ∧ NeedInv line ts 8 (roundsM line ts 8 origin).1 S many ∧ m = (roundsM line ts 8 origin).1 - many,
      ⟨_, r, rs2, F, 0, rfl, s4, ⟨s4 _ _ ho, s4 _ _ ht, hts.same s4, net, tl, ll, er, hF, on.nd, on.val⟩, need_start (by omega) on, rfl⟩, fun m σ' H' hW => ?_⟩
    obtain ⟨sa, rs, S, many, rfl, s5, RA, inv, rfl⟩ := hW
    refine ⟨_, rfl, Nat.zero_le _, fun t1 ht1 => ne_nil (ds := S.map stD) (.lst (SqL.of (same_new ht1 _ _ _ RA.ha)) (dp_sts (RA.hS.same (same_new ht1 _)))) (nice_stDs S) (by decide) upd_same ⟨_, rfl, ?_⟩⟩
    have s6 : Same H' (upd H' t1 (.lst [])) := same_new ht1 _
    generalize upd H' t1 (.lst []) = H4 at s6
    refine ite2 (fun h1 => ?_) fun h1 => ?_
    · have hne : S ≠ [] := fun z => by rw [z] at h1; cases h1
      refine ⟨fun σ' H' => ∃ m', m' < (roundsM line ts 8 origin).1 - many ∧ ∃ (sa : Addr) (rs : List Addr) (S : List Stt) (many : Nat), σ' = [some (.ref o), some (.ref t), some (.ref g), some (.ref sa), some (.int (many : Int)), none] ∧ Same H H' ∧ RunAt H' o t sa rs ps line ts S ∧ NeedInv line ts 8 (roundsM line ts 8 origin).1 S many ∧ m' = (roundsM line ts 8 origin).1 - many, fun _ _ h => h, ?_⟩
      refine ⟨_, rfl, _, rfl, _, rfl, o, t, sa, rs, ps, line, ts, S, rfl, RA.same s6, fun r2 rs3 R H5 s7 RB rel => ?_⟩
      obtain ⟨inv2, hlt⟩ := need_turn (by omega) net.nd net.inside inv hne rel
      exact ⟨_, rfl, _, _, rfl, rfl, _, _, rfl, _, by omega, r2, rs3, R, many + 1, rfl, s5.trans (s6.trans s7), RB, inv2, rfl⟩
    · have hSn : S = [] := by
        cases S with
        | nil => rfl
        | cons a l => exact absurd rfl h1
      subst hSn
      have he := need_end inv
      subst he
      exact ⟨_, rfl, q H4 (s5.trans s6)⟩
end
end K48

set_option Elab.async false
set_option maxRecDepth 100000
set_option maxHeartbeats 4000000
set_option linter.all false
namespace K48
open PySem PySem.Spec PyProof.Rows L2
theorem merge_not {k : Key} : ∀ {more acc : List (Key × V)}, k ∉ more.map (·.1) → valV (mergeK acc more) k = valV acc k
  | [], _, _ => rfl
  | (k0, v0) :: more, acc, h => by
    have h1 : k ≠ k0 := fun z => h (by rw [z]; exact List.mem_cons_self)
    have h2 : k ∉ more.map (·.1) := fun z => h (List.mem_cons_of_mem _ z)
    have e : mergeK acc ((k0, v0) :: more) = mergeK (putK acc k0 v0) more := rfl
    rw [e, merge_not h2, valV_put, if_neg h1]
theorem merge_get {k : Key} {v : V} : ∀ {more acc : List (Key × V)}, (more.map (·.1)).Nodup → (k, v) ∈ more → valV (mergeK acc more) k = some v
  | [], _, _, h => nomatch h
  | (k0, v0) :: more, acc, nd, h => by
    have nd' : k0 ∉ more.map (·.1) ∧ (more.map (·.1)).Nodup := List.nodup_cons.mp nd
    have e : mergeK acc ((k0, v0) :: more) = mergeK (putK acc k0 v0) more := rfl
    rw [e]
    rcases List.mem_cons.mp h with z | z
    · cases z
      rw [merge_not nd'.1, valV_put, if_pos rfl]
    · exact merge_get nd'.2 z
def kvsOf (ts : List Tr) (ps : List Addr) : List (Key × V) := (ts.zip ps).map fun x => (Sum.inl x.1.1, V.ref x.2)
theorem kvs_keys {ts : List Tr} {ps : List Addr} (h : ps.length = ts.length) : (kvsOf ts ps).map (·.1) = (ts.map (·.1)).map Sum.inl := by
  unfold kvsOf
  rw [List.map_map, List.map_map]
  have e : (ts.zip ps).map Prod.fst = ts := by rw [List.map_fst_zip]; omega
  have e2 := congrArg (List.map ((Sum.inl : Int → Key) ∘ fun x : Tr => x.1)) e
  rw [List.map_map] at e2
  exact e2
theorem look {H : Hp} {ts : List Tr} {ps : List Addr} (h : TrsAt H ps ts) (nm : (ts.map (·.1)).Nodup) {e : Tr} (he : e ∈ ts) : ∃ p, valV (mergeK [] (kvsOf ts ps)) (Sum.inl e.1) = some (.ref p) ∧ TrAt H p e := by
  obtain ⟨n, hn, hne⟩ := List.mem_iff_getElem.mp he
  have hp : n < ps.length := by rw [h.len]; exact hn
  refine ⟨ps[n], merge_get ?_ ?_, h.at_ n _ _ (List.getElem?_eq_getElem hp) (by rw [List.getElem?_eq_getElem hn, hne])⟩
  · rw [kvs_keys h.len]
    exact List.Pairwise.map _ (fun a b z q => z (Sum.inl.inj q)) nm
  · unfold kvsOf
    refine List.mem_map.mpr ⟨(e, ps[n]), ?_, rfl⟩
    refine List.mem_iff_getElem?.mpr ⟨n, List.getElem?_zip_eq_some.mpr ⟨by rw [List.getElem?_eq_getElem hn, hne], List.getElem?_eq_getElem hp⟩⟩
theorem pairs_of {K : PySem.W.Frag} {H : Hp} : ∀ {rs ps : List Addr} {ts : List Tr}, rs.length = ts.length → ps.length = ts.length → (∀ (i : Nat) (r p : Addr) (e : Tr), rs[i]? = some r → ts[i]? = some e → ps[i]? = some p → H r = some (.tup [.int e.1, .ref p])) →
    Paired (fun p (kv : Key × V) => SqT K H p [kV kv.1, kv.2]) rs (kvsOf ts ps)
  | [], ps, [], _, _, _ => .nil
  | [], _, _ :: _, h, _, _ => nomatch h
  | _ :: _, _, [], h, _, _ => nomatch h
  | _ :: _, [], _ :: _, _, h, _ => nomatch h
  | r :: rs, p :: ps, e :: ts, h1, h2, h => .cons (SqT.of (h 0 r p e rfl rfl rfl)) (pairs_of (Nat.succ.inj h1) (Nat.succ.inj h2) fun i r p e a b c => h (i + 1) r p e a b c)
theorem cnt_snoc (line : List Int) (e : Tr) : ∀ w : List Tr, cnt line (w ++ [e]) = cnt line w + agN line e
  | [] => by simp [cnt]
  | d :: w => by
    rw [List.cons_append]
    unfold cnt
    rw [cnt_snoc line e w]
    omega
def spWay : Sp := fun vs H Q _ => ∃ (o t g wy : Addr) (ps : List Addr) (line origin : List Int) (ts w : List Tr), vs = [.ref o, .ref t, .ref g, .ref wy, .int ((cnt line w : Nat) : Int)] ∧ H o = some (.lst (line.map V.int)) ∧ H t = some (.lst (ps.map V.ref)) ∧ TrsAt H ps ts ∧ Net line ts ∧ ts.length ≤ 7 ∧
  H g = some (.lst (origin.map V.int)) ∧ H wy = some (.lst ((w.map (·.1)).map V.int)) ∧ (w = [] ∨ ∃ a ∈ origin, Trail ts a [] w) ∧ ∀ H', Same H H' → Q (.bl true) H'
section
variable {P : Program} {w : World} {K : PySem.W.Frag} {mg : PySem.Str → Option Value} {base : Heap}
theorem scWay : FnScope ["_law_line", "_law_triples_here", "_law_origin", "_law_way", "_law_many", "_law_triple", "_law_by_name", "_law_spot", "_law_count", "_law_name"] ["_law_line", "_law_triples_here", "_law_origin", "_law_way", "_law_many"] (defScope sWay) := ⟨rfl, rfl, rfl, by decide +kernel, rfl, by decide +kernel, by decide +kernel⟩
theorem ok_way {f ft : Addr} {fd fdt : FuncData} (D : Df K mg "_law_way_right" sWay ["_law_line", "_law_triples_here", "_law_origin", "_law_way", "_law_many"] f fd) (B : Bl mg) (DT : Df K mg "_law_turned" sTurned ["_law_line", "_law_triple"] ft fdt) :
    FnOk P w K mg base CX0 2 f fd ["_law_line", "_law_triples_here", "_law_origin", "_law_way", "_law_many"] spWay := by
  have GT : FnOk P w K mg base CX0 1 ft fdt ["_law_line", "_law_triple"] spTurned := ok_turned DT B
  refine D.F.ok scWay (fun vs H Q E h => ?_) (fun cdv A outer s0 H vs Q E hr h => ?_)
  · obtain ⟨o, t, g, wy, ps, line, origin, ts, w, rfl, _⟩ := h
    rfl
  obtain ⟨o, t, g, wy, ps, line, origin, ts, tr, rfl, ho, ht, hts, net, tl, hg, hw, htr, q⟩ := h
  have hu : (A.deeper (envOfC "_law_way_right" (defScope sWay) s0.heap.objs.size f cdv)).units + 1 < cLine := by have := hr.un; omega
  refine ⟨_, pss_cons (ps_asg (pe_tup (pa_cons (pe_callTy (call_dictP rfl) (by rfl) B.dict (by decide +kernel) (pa_cons
        (pe_lc (own := [("_law_triple", 5)]) (g := gName 5) (tt := tYes) rfl scWay.nd (pi_var 1) (blkOk_by (own := [("_law_triple", 5)]) (N := ["_law_line", "_law_triples_here", "_law_origin", "_law_way", "_law_many", "_law_triple", "_law_by_name", "_law_spot", "_law_count", "_law_name"]) (sc := defScope sWay) (by decide +kernel))
          (fun _ _ _ _ _ => pg_name (i := 5) scWay.nd rfl (Or.inl rfl)) (fun _ _ _ _ _ => pts_nil) (fun _ _ _ _ _ => pe_tup (pa_cons (pe_ix (ix_tupK K) (pv 5) pe_int (fun _ _ => rfl)) (pa_cons (pv 5) pa_nil)))) pa_nil)) (pa_cons pe_non (pa_cons pe_int pa_nil))))
      (pg_tup rfl (pgs_cons (pg_name (i := 6) scWay.nd rfl (Or.inr rfl)) (pgs_cons (pg_name (i := 7) scWay.nd rfl (Or.inl rfl)) (pgs_cons (pg_name (i := 8) scWay.nd rfl (Or.inl rfl)) pgs_nil)))))
    (pss_cons (ps_if (PW.pt (pw_or (pt_not (pt_val (pe_callB call_isi (by rfl) B.isi (by decide +kernel) (pa_cons (pv 3) (pa_cons (pe_bltn (v := .ty "list") (by rfl) B.list (by decide +kernel) rfl) pa_nil)))))
      (pw_or (pt_cmpR op_ne (RZ.pe_lenSetI (by rfl) B.len (by rfl) B.set (pv 3)) (pe_callB call_len_seq (by rfl) B.len PySem.boot_len (pa_cons (pv 3) pa_nil)) (nomark _))
      (pw_or1 (pt_cmpR (op_neD hr.units) (pe_lc (own := [("_law_name", 9)]) (g := gName 9) rfl scWay.nd (pi_var 3) (blkOk_by (own := [("_law_name", 9)]) (N := ["_law_line", "_law_triples_here", "_law_origin", "_law_way", "_law_many", "_law_triple", "_law_by_name", "_law_spot", "_law_count", "_law_name"]) (sc := defScope sWay) (by decide +kernel))
          (fun _ _ _ _ _ => pg_name (i := 9) scWay.nd rfl (Or.inl rfl)) (fun _ _ _ _ _ => pts_mono (pt_cmp (pc_dnotin hu (pv 9) (pv 6)))) (fun _ _ _ _ _ => pe_mono (pv 9))) (pe_lst pa_nil) (nomark _)))))) (pss_one (ps_ret pe_bl)) pss_nil)
    (pss_cons (ps_for PassesOwn.never rfl (pi_var 3) (pg_name (i := 9) scWay.nd rfl (Or.inl rfl))
      (pss_cons (ps_set (i := 5) scWay.nd rfl (Or.inl rfl) (pe_dget hu (pv 6) (pv 9) (fun _ _ => rfl)))
      (pss_cons (ps_if (PW.pt (pw_or (PW.pt (pw_and (pt_cmpR op_isN (pv 7) pe_non (nomark _)) (pw_and1 (pt_cmpR op_notIn_seq (pe_ix ix_tup (pv 5) pe_int (fun _ _ => rfl)) (pv 2) (by rfl)))))
          (pw_or1 (PW.pt (pw_and (pt_cmpR op_notN (pv 7) pe_non (nomark _)) (pw_and1 (pt_cmpR op_ne (pe_ix ix_tup (pv 5) pe_int (fun _ _ => rfl)) (pv 7) (nomark _)))))))) (pss_one (ps_ret pe_bl)) pss_nil)
      (pss_one (ps_par (i := 7) (j := 8) (by rfl) scWay.nd rfl rfl (by decide) rfl rfl (pa_cons (pe_ix ix_tup (pv 5) pe_int (fun _ _ => rfl)) (pa_cons (pe_op op_add (pv 8) (pe_call GT hr rfl DT.m DT.F.kp DT.b .nil pass0 (pa_cons (pv 0) (pa_cons (pv 5) pa_nil)))) pa_nil)) (by rfl))))))
    (pss_one (ps_ret (pe_cmpR op_eq (pv 8) (pv 4) (nomark _)))))), ?_⟩
  have hz : (sizeLine : Nat) = 16777216 := sizeLine_eq
  have hpl : ps.length = ts.length := hts.len
  have htn : (tr.map (·.1)).Nodup ∧ ∀ e ∈ tr, e ∈ ts := by
    rcases htr with rfl | ⟨a, _, h⟩
    · exact ⟨List.nodup_nil, fun e h => nomatch h⟩
    · obtain ⟨h1, _, h3⟩ := trail_names h
      exact ⟨h1, h3⟩
  have htl : tr.length ≤ ts.length := by
    have := nodup_le (l := tr.map (·.1)) (k := ts.map (·.1)) htn.1 fun x hx => by
      obtain ⟨e, he, rfl⟩ := List.mem_map.mp hx
      exact List.mem_map.mpr ⟨e, htn.2 e he, rfl⟩
    rwa [List.length_map, List.length_map] at this
  dsimp only [tSeq, tAsg, tTup, tCons, tCB]
  refine lc_var (show ([some (V.ref o), some (V.ref t), some (V.ref g), some (V.ref wy), some (V.int ((cnt line tr : Nat) : Int)), none, none, none, none, none] : L2.St)[1]? = some (some (.ref t)) from rfl) (.inl ht)
    (fun D n H' => Same H H' ∧ n ≤ ps.length ∧ ∃ rs : List Addr, H' D = some (.lst (rs.map V.ref)) ∧ rs.length = n ∧ ∀ (i : Nat) (r p : Addr) (e : Tr), rs[i]? = some r → ts[i]? = some e → ps[i]? = some p → H' r = some (.tup [.int e.1, .ref p]))
    (fun D nD => ⟨same_new nD _, Nat.zero_le _, [], upd_same, rfl, fun i r p e h => by simp at h⟩) (fun D n H' _ p => p.1) (fun D n x H' nD hx p => ?_) fun D H' nD p => ?_
  · obtain ⟨s1, hn, rs, eD, hrl, hrs⟩ := p
    obtain ⟨p, e, rfl, hp1, he, hat⟩ := (hts.same s1).get hx
    have hlt : n < ps.length := (List.getElem?_eq_some_iff.mp hp1).1
    refine ⟨inBlk_wipe _ 5 _, yes_read ?_⟩
    refine ⟨_, rfl, p, _, 0, _, rfl, rfl, SqT.of hat, rfl, _, rfl, (by show 2 ≤ sizeLine; omega), fun r hr0 => ?_⟩
    have s2 : Same H' (upd H' r (.tup [.int e.1, .ref p])) := same_new hr0 _
    have er : upd H' r (.tup [.int e.1, .ref p]) r = some (.tup [.int e.1, .ref p]) := upd_same
    generalize upd H' r (.tup [.int e.1, .ref p]) = H2 at s2 er
    have eD2 := s2 _ _ eD
    refine ⟨_, eD2, by rw [List.length_map]; omega, same_upd (s1.trans s2) nD _, hlt, rs ++ [r], by rw [upd_same, List.map_append]; rfl, by rw [List.length_append, hrl]; rfl, fun i r' p' e' h1 h2 h3 => ?_⟩
    rcases Nat.lt_or_ge i rs.length with hl | hg'
    · rw [List.getElem?_append_left hl] at h1
      have := s2 _ _ (hrs i r' p' e' h1 h2 h3)
      rw [upd_ne (ne_of this eD2 fun z => nomatch z)]
      exact this
    · have hi1 : i = rs.length := by
        have := (List.getElem?_eq_some_iff.mp h1).1
        rw [List.length_append] at this
        simp at this
        omega
      subst hi1
      rw [List.getElem?_append_right (Nat.le_refl _), Nat.sub_self] at h1
      cases h1
      rw [hrl, he] at h2
      rw [hrl, hp1] at h3
      cases h2
      cases h3
      rw [upd_ne (ne_of er eD2 fun z => nomatch z)]
      exact er
  · obtain ⟨s1, hn, rs, eD, hrl, hrs⟩ := p
    rw [List.length_map] at hrl
    refine ⟨D, rs, kvsOf ts ps, rfl, SqL.of eD, pairs_of (by omega) hpl hrs, fun bn hbn => ⟨(by show 3 ≤ sizeLine; omega), fun tp htp => ⟨tp, _, rfl, SqT.of upd_same, rfl, _, _, rfl, _, _, rfl, _, _, rfl, rfl, ?_⟩⟩⟩
    have s2 : Same H (upd (upd H' bn (.dK (mergeK [] (kvsOf ts ps)))) tp (.tup [.ref bn, .non, .int 0])) := s1.trans ((same_new hbn _).trans (same_new htp _))
    have eb : upd (upd H' bn (.dK (mergeK [] (kvsOf ts ps)))) tp (.tup [.ref bn, .non, .int 0]) bn = some (.dK (mergeK [] (kvsOf ts ps))) := same_new htp _ _ _ upd_same
    generalize upd (upd H' bn (.dK (mergeK [] (kvsOf ts ps)))) tp (.tup [.ref bn, .non, .int 0]) = H2 at s2 eb
    have hw2 := s2 _ _ hw
    refine ⟨_, rfl, _, _, _, _, true, rfl, .ty "list", .base (.lst hw2), kit_ty (by decide +kernel), true, rfl, ?_⟩
    refine iteF ?_
    refine ⟨_, rfl, wy, tr.map (·.1), rfl, SqL.of hw2, htn.1, by rw [List.length_map]; omega, _, rfl, wy, _, rfl, .inl (SqL.of hw2), rfl, _, rfl, ?_⟩
    refine iteNS (by rw [List.length_map (f := V.int)]) ?_
    dsimp only [tTest, tOp]
    refine lc_filt (fun _ => none) (show ([some (V.ref o), some (V.ref t), some (V.ref g), some (V.ref wy), some (V.int ((cnt line tr : Nat) : Int)), none, some (.ref bn), some .non, some (.int 0), none] : L2.St)[3]? = some (some (.ref wy)) from rfl) (.inl hw2) (by rw [List.length_map, List.length_map]; omega)
      (fun n x H3 hx s3 => ?_) fun D2 H3 nD2 s3 eD2 => ?_
    · rw [List.getElem?_map, List.getElem?_map] at hx
      cases e : tr[n]? with
      | none => rw [e] at hx; cases hx
      | some d =>
      rw [e] at hx
      cases hx
      obtain ⟨p, hv, _⟩ := look hts net.nm (htn.2 d (List.mem_of_getElem? e))
      refine ⟨_, rfl, _, rfl, bn, _, rfl, DGet.k (k := Sum.inl d.1) (s3 _ _ eb), _, rfl, Same.refl _, ?_, fun _ hz => nomatch hz⟩
      rw [hv]
      rfl
    · have en : (List.range ((tr.map (·.1)).map V.int).length).filterMap (fun _ => (none : Option V)) = [] := by simp
      rw [en] at eD2
      have s4 := s2.trans s3
      refine ⟨Nat.zero_le _, fun l hl => ne_nil (ds := []) (dp_nil (same_new hl _ _ _ eD2)) (Nice.list (k := 1) fun d hd => absurd hd List.not_mem_nil) (by decide) upd_same ⟨_, rfl, iteF ?_⟩⟩
      have s5 : Same H3 (upd H3 l (.lst [])) := same_new hl _
      generalize upd H3 l (.lst []) = H4 at s5
      have s6 := s4.trans s5
      have eb4 := s5 _ _ (s3 _ _ eb)
      refine for_var (a := wy) (xs := (tr.map (·.1)).map V.int) rfl (.inl (s6 _ _ hw)) (fun k σ' H' => Same H4 H' ∧ ∃ (v5 v9 : Option V) (sp : V), σ' = [some (.ref o), some (.ref t), some (.ref g), some (.ref wy), some (.int ((cnt line tr : Nat) : Int)), v5, some (.ref bn), some sp, some (.int ((cnt line (tr.take k) : Nat) : Int)), v9] ∧
          (tr.drop k ≠ [] → ∃ a u, Trail ts a u (tr.drop k) ∧ ((sp = .non ∧ a ∈ origin) ∨ sp = .int a))) ⟨Same.refl _, _, _, .non, rfl, fun h => ?_⟩ (fun _ _ _ p => p.1) (fun k x σ' H' hx pv => ?_) fun σ' H' pv => ?_
      · rcases htr with h' | ⟨a, ha, h'⟩
        · exact absurd h' h
        · exact ⟨a, [], h', .inl ⟨rfl, ha⟩⟩
      · obtain ⟨s7, v5, v9, sp, rfl, hsp⟩ := pv
        rw [List.getElem?_map, List.getElem?_map] at hx
        cases he : tr[k]? with
        | none => rw [he] at hx; cases hx
        | some e =>
        rw [he] at hx
        cases hx
        obtain ⟨hk, ek⟩ := List.getElem?_eq_some_iff.mp he
        have hdrop : tr.drop k = e :: tr.drop (k + 1) := by rw [List.drop_eq_getElem_cons hk, ek]
        rw [hdrop] at hsp
        obtain ⟨a, u, htrail, hsp⟩ := hsp (List.cons_ne_nil _ _)
        obtain ⟨h1, h2, h3, h4⟩ := htrail
        have s8 := s6.trans s7
        obtain ⟨p, hv, hat0⟩ := look hts net.nm h1
        have hat := hat0.same s8
        have hd : DGet H' bn (.int e.1) (some (.ref p)) := by
          have := DGet.k (k := Sum.inl e.1) (s7 _ _ eb4)
          rw [hv] at this
          exact this
        have hin := net.inn e h1
        have fin : ∀ D : Ends, (∀ σ' H', (Same H4 H' ∧ ∃ (v5 v9 : Option V) (sp : V), σ' = [some (.ref o), some (.ref t), some (.ref g), some (.ref wy), some (.int ((cnt line tr : Nat) : Int)), v5, some (.ref bn), some sp, some (.int ((cnt line (tr.take (k + 1)) : Nat) : Int)), v9] ∧
            (tr.drop (k + 1) ≠ [] → ∃ a u, Trail ts a u (tr.drop (k + 1)) ∧ ((sp = .non ∧ a ∈ origin) ∨ sp = .int a))) → D.nx σ' H') →
            tPar 7 8 (tCons (tOp (rIxT K) (tVar 5) (tC (.int 2))) (tCons (tOp (rI0 fun i j => V.int (i + j)) (tVar 8) (tCall spTurned [] E0 (tCons (tVar 0) (tCons (tVar 5) tNil)))) tNil)) D
              [some (.ref o), some (.ref t), some (.ref g), some (.ref wy), some (.int ((cnt line tr : Nat) : Int)), some (.ref p), some (.ref bn), some sp, some (.int ((cnt line (tr.take k) : Nat) : Int)), some (.int e.1)] H' := by
          intro D hD
          have ec : ((cnt line (tr.take (k + 1)) : Nat) : Int) = ((cnt line (tr.take k) : Nat) : Int) + ((agN line e : Nat) : Int) := by
            rw [List.take_add_one, he]
            have := cnt_snoc line e (tr.take k)
            show ((cnt line (tr.take k ++ [e]) : Nat) : Int) = _
            omega
          rw [ec] at hD
          refine ⟨_, rfl, p, _, 2, _, rfl, rfl, SqT.of hat, rfl, _, rfl, _, rfl, _, rfl, o, p, line, e, rfl, s8 _ _ ho, hat, hin.1, hin.2.1, _, _, rfl, rfl, _, _, rfl, ?_⟩
          exact hD _ _ ⟨s7, _, _, .int e.2.2, rfl, fun _ => ⟨e.2.2, u ++ [e.1], h4, .inr rfl⟩⟩
        refine ⟨_, rfl, _, rfl, bn, _, rfl, hd, ?_⟩
        rcases hsp with ⟨rfl, hao⟩ | rfl
        · refine ⟨_, rfl, rfl, _, rfl, ?_⟩
          refine iteT ?_
          refine ⟨_, rfl, p, _, 1, _, rfl, rfl, SqT.of hat, rfl, _, rfl, g, _, rfl, .inl (SqL.of (s8 _ _ hg)), rfl, flat_ints _, _, rfl, ?_⟩
          rw [inV_ints, h2, decide_eq_true hao]
          refine iteF ⟨_, rfl, rfl, _, rfl, ?_⟩
          exact iteF (iteF (fin _ fun _ _ h => h))
        · refine ⟨_, rfl, rfl, _, rfl, ?_⟩
          refine iteF (iteF ⟨_, rfl, rfl, _, rfl, ?_⟩)
          refine iteT ⟨_, rfl, p, _, 1, _, rfl, rfl, SqT.of hat, rfl, _, rfl, rfl, _, rfl, ?_⟩
          exact iteNS (congrArg V.int h2) (fin _ fun _ _ h => h)
      · obtain ⟨s7, v5, v9, sp, rfl, _⟩ := pv
        refine ⟨_, rfl, _, rfl, rfl, ?_⟩
        have fin : Q (.bl (decide (V.int ((cnt line (tr.take ((tr.map (·.1)).map V.int).length) : Nat) : Int) = V.int ((cnt line tr : Nat) : Int)))) H' := by
          rw [List.length_map, List.length_map, List.take_length, decide_eq_true rfl]
          exact q H' (s6.trans s7)
        exact fin
end
end K48

set_option Elab.async false
set_option maxRecDepth 100000
set_option maxHeartbeats 4000000
set_option linter.all false
namespace K48
open PySem PySem.Spec PyProof.Rows L2
/-! data that repr shows -/
structure Sho (k : Nat) (d : PyData) : Prop where
  sh : d.showable = true
  hd : d.hasDict = false
  lv : d.leavesShort 13 = true
  wt : d.weight ≤ k
theorem Sho.mono {j k : Nat} {d : PyData} (h : Sho j d) (l : j ≤ k) : Sho k d := { h with wt := Nat.le_trans h.wt l }
theorem Sho.int {z : Int} (h : Small z) : Sho 40 (.int z) := by
  have e9 : (10 : Nat) ^ 12 = 1000000000000 := by decide
  have hz : z.natAbs < 10 ^ 12 := by have := h.1; have := h.2; omega
  have hb : z.natAbs.log2 < 40 := PySem.Flt.log2_lt_of (by decide) (Nat.lt_of_lt_of_le hz (by decide : 10 ^ 12 ≤ 2 ^ 40))
  refine ⟨?_, by simp only [PyData.hasDict], ?_, ?_⟩
  · simp only [PyData.showable, decide_eq_true_eq]
    omega
  · simp only [PyData.leavesShort, decide_eq_true_eq]
    exact PyData.shown_int_le hz
  · simp only [PyData.weight]
    split <;> omega
theorem sho_all {k : Nat} : ∀ {ds : List PyData}, (∀ d ∈ ds, Sho k d) → PyData.showableAll ds = true ∧ PyData.hasDictAll ds = false ∧ PyData.leavesShortAll 13 ds = true ∧ PyData.weightAll ds ≤ ds.length * (k + 1)
  | [], _ => ⟨by simp only [PyData.showableAll], by simp only [PyData.hasDictAll], by simp only [PyData.leavesShortAll], by simp only [PyData.weightAll]; omega⟩
  | d :: ds, h => by
    have h1 := h d List.mem_cons_self
    obtain ⟨a, b, c, e⟩ := sho_all (k := k) (ds := ds) fun x hx => h x (List.mem_cons_of_mem _ hx)
    refine ⟨by simp only [PyData.showableAll, h1.sh, a, Bool.true_and], by simp only [PyData.hasDictAll, h1.hd, b, Bool.false_or], by simp only [PyData.leavesShortAll, h1.lv, c, Bool.true_and], ?_⟩
    have := h1.wt
    simp only [PyData.weightAll, List.length_cons, Nat.succ_mul]
    omega
theorem Sho.list {k : Nat} {ds : List PyData} (h : ∀ d ∈ ds, Sho k d) : Sho (ds.length * (k + 1)) (.list ds) := by
  obtain ⟨a, b, c, e⟩ := sho_all h
  exact ⟨by simp only [PyData.showable]; exact a, by simp only [PyData.hasDict]; exact b, by simp only [PyData.leavesShort]; exact c, by simp only [PyData.weight]; exact e⟩
theorem Sho.tuple {k : Nat} {ds : List PyData} (h : ∀ d ∈ ds, Sho k d) : Sho (ds.length * (k + 1)) (.tuple ds) := by
  obtain ⟨a, b, c, e⟩ := sho_all h
  exact ⟨by simp only [PyData.showable]; exact a, by simp only [PyData.hasDict]; exact b, by simp only [PyData.leavesShort]; exact c, by simp only [PyData.weight]; exact e⟩
theorem sho_iL {zs : List Int} (h : ∀ z ∈ zs, Small z) (hl : zs.length ≤ 6) : Sho 900 (iL zs) := by
  have := Sho.list (k := 40) (ds := zs.map .int) fun d hd => by
    obtain ⟨z, hz, rfl⟩ := List.mem_map.mp hd
    exact Sho.int (h z hz)
  refine this.mono ?_
  rw [List.length_map]
  omega
theorem sho_trD {e : Tr} (h1 : Small e.1) (h2 : Small e.2.1) (h3 : Small e.2.2) : Sho 123 (trD e) := by
  refine Sho.tuple (k := 40) (ds := [.int e.1, .int e.2.1, .int e.2.2]) fun d hd => ?_
  simp only [List.mem_cons, List.not_mem_nil, or_false] at hd
  rcases hd with rfl | rfl | rfl
  · exact Sho.int h1
  · exact Sho.int h2
  · exact Sho.int h3
theorem sho_trs {ts : List Tr} (h : ∀ e ∈ ts, Small e.1 ∧ Small e.2.1 ∧ Small e.2.2) (hl : ts.length ≤ 7) : Sho 900 (.list (ts.map trD)) := by
  have := Sho.list (k := 123) (ds := ts.map trD) fun d hd => by
    obtain ⟨e, he, rfl⟩ := List.mem_map.mp hd
    exact sho_trD (h e he).1 (h e he).2.1 (h e he).2.2
  refine this.mono ?_
  rw [List.length_map]
  omega
def netD (line origin : List Int) (ts : List Tr) : PyData := .list [iL line, .list (ts.map trD), iL origin]
theorem nice_trs (ts : List Tr) : Nice 3 (.list (ts.map trD)) := Nice.list fun d hd => by
  obtain ⟨e, _, rfl⟩ := List.mem_map.mp hd
  exact nice_trD e
theorem nice_netD (line origin : List Int) (ts : List Tr) : Nice 4 (netD line origin ts) := Nice.list fun d hd => by
  simp only [List.mem_cons, List.not_mem_nil, or_false] at hd
  rcases hd with rfl | rfl | rfl
  · exact (nice_iL _).mono (by decide)
  · exact nice_trs _
  · exact (nice_iL _).mono (by decide)
theorem sho_netD {line origin : List Int} {ts : List Tr} (h1 : ∀ z ∈ line, Small z) (h2 : ∀ z ∈ origin, Small z) (h3 : ∀ e ∈ ts, Small e.1 ∧ Small e.2.1 ∧ Small e.2.2) (l1 : line.length ≤ 6) (l2 : origin.length ≤ 6) (l3 : ts.length ≤ 7) : Sho 2703 (netD line origin ts) :=
  Sho.list (k := 900) (ds := [iL line, .list (ts.map trD), iL origin]) fun d hd => by
    simp only [List.mem_cons, List.not_mem_nil, or_false] at hd
    rcases hd with rfl | rfl | rfl
    · exact sho_iL h1 l1
    · exact sho_trs h3 l3
    · exact sho_iL h2 l2
theorem Sho.fits {k : Nat} {d : PyData} (h : Sho k d) (hk : k ≤ 100000) : d.shown.length ≤ sizeLine := by
  refine PyData.shown_fits (B := 13) (by decide) (by decide) h.lv ?_
  have := h.wt
  have : (2 : Nat) ^ 20 = 1048576 := by decide
  omega
section
variable {K : PySem.W.Frag} {H : Hp}
theorem dp_tr {p : Addr} {e : Tr} (h : TrAt H p e) : Dp K H (.ref p) (trD e) := .tup (SqT.of h) (.cons (.int _) (.cons (.int _) (.cons (.int _) .nil)))
theorem dp_trs : ∀ {ps : List Addr} {ts : List Tr}, TrsAt H ps ts → DpAll K H (ps.map V.ref) (ts.map trD)
  | [], [], _ => .nil
  | [], _ :: _, h => nomatch h.len
  | _ :: _, [], h => nomatch h.len
  | p :: ps, s :: S, h => .cons (dp_tr (h.at_ 0 p s rfl rfl)) (dp_trs ⟨Nat.succ.inj h.len, fun n q t h1 h2 => h.at_ (n + 1) q t h1 h2⟩)
theorem dp_net {l o t g : Addr} {ps : List Addr} {line origin : List Int} {ts : List Tr} (hl : H l = some (.lst [.ref o, .ref t, .ref g])) (ho : H o = some (.lst (line.map V.int))) (ht : H t = some (.lst (ps.map V.ref))) (hts : TrsAt H ps ts) (hg : H g = some (.lst (origin.map V.int))) :
    Dp K H (.ref l) (netD line origin ts) := .lst (SqL.of hl) (.cons (dp_iL (SqL.of ho)) (.cons (.lst (SqL.of ht) (dp_trs hts)) (.cons (dp_iL (SqL.of hg)) .nil)))
theorem dp_pair {F : Hp} {r : Addr} {x : Nat × List Int} (h : PairAt F H r x) : Dp K H (.ref r) (pD x) := by
  obtain ⟨wl, _, h1, h2⟩ := h
  exact .tup (SqT.of h1) (.cons (.int _) (.cons (dp_iL (SqL.of h2)) .nil))
end
end K48

set_option Elab.async false
set_option maxRecDepth 100000
set_option maxHeartbeats 4000000
set_option linter.all false
namespace K48
open PySem PySem.Spec PyProof.Rows L2
/-! a call by names alone -/
section
variable {X : Cx} {CX : CXT} {k : Nat} {f : Addr} {fd : FuncData} {ps ks : List PySem.Str} {g : List Value → List Value → List Value} {gV : List V → List V → List V} {sp : Sp} {E : XK}
theorem pe_callK0 {x : PySem.Str} {p pos : Pos} {kws : List Keyword} {tk : TA} (F : FnOk X.prog X.w X.K X.mg X.base CX k f fd ps sp) (hr : Room k X.A) (hg : Gl X x) (hm : X.mg x = some (.ref f)) (hk : PySem.W.keepIn X.K (.ref f) = true) (hb : KBinds X.K fd ps ks g gV) (hx : Passes CX X E)
    (hkw : PK X kws tk) (hall : (backToKw pos (keywordEach kws X.env)).all (·.1.isSome) = true := by rfl) (hks : (backToKw pos (keywordEach kws X.env)).filterMap (·.1) = ks := by rfl)
    (hdb : (x == ("__debug__" : PySem.Str)) = false := by decide)
    (hpl : ((backTo pos (starEach [] X.env)).any (·.1) || (backToKw pos (keywordEach kws X.env)).any (·.1.isNone)) = false := by rfl) :
    PE X (.Call (.Name x p) [] kws pos) (tCallK sp gV E tNil tk) := by
  refine ⟨fun pins s σ H Q I h => ?_⟩
  refine wpAny_Call_Name_kw (ld_glob I hg hm ?_ hdb)
  refine PySem.W.callWith_KW0 (h₀ := X.base) I.ok.mod.kin hk hall (thn (hkw.run pos pins s σ H _ I h) fun ws s2 ⟨zs, H2, I2, rz, q2⟩ => ⟨I2.kIn, ?_⟩) hpl
  rw [hks]
  exact run_fnk (us := []) (vs := []) F hr hb hx I2 .nil rz q2
end
/-- three by names, turned about; two -/
def g3 {α : Type} : List α → List α → List α
  | [], [a, b, c] => [c, b, a]
  | _, _ => []
def g2 {α : Type} : List α → List α → List α
  | [], [a, b] => [b, a]
  | _, _ => []
theorem rel3 : ∀ {vs : List V} {us : List Value} {zs : List V} {ws : List Value}, Vals vs us → Vals zs ws → Vals (g3 vs zs) (g3 us ws)
  | _, _, _, _, .nil, .nil => .nil
  | _, _, _, _, .nil, .cons a .nil => .nil
  | _, _, _, _, .nil, .cons a (.cons b .nil) => .nil
  | _, _, _, _, .nil, .cons a (.cons b (.cons c .nil)) => .cons c (.cons b (.cons a .nil))
  | _, _, _, _, .nil, .cons a (.cons b (.cons c (.cons d r))) => .nil
  | _, _, _, _, .cons a r, _ => .nil
theorem rel2 : ∀ {vs : List V} {us : List Value} {zs : List V} {ws : List Value}, Vals vs us → Vals zs ws → Vals (g2 vs zs) (g2 us ws)
  | _, _, _, _, .nil, .nil => .nil
  | _, _, _, _, .nil, .cons a .nil => .nil
  | _, _, _, _, .nil, .cons a (.cons b .nil) => .cons b (.cons a .nil)
  | _, _, _, _, .nil, .cons a (.cons b (.cons c r)) => .nil
  | _, _, _, _, .cons a r, _ => .nil
theorem of3 {us ws : List Value} (h : (g3 us ws).length = 3) : ∃ a b c, us = [] ∧ ws = [a, b, c] := by
  unfold g3 at h
  split at h
  · exact ⟨_, _, _, rfl, rfl⟩
  · cases h
theorem of2 {us ws : List Value} (h : (g2 us ws).length = 2) : ∃ a b, us = [] ∧ ws = [a, b] := by
  unfold g2 at h
  split at h
  · exact ⟨_, _, rfl, rfl⟩
  · cases h
theorem kb_rounds {K : PySem.W.Frag} {mg : PySem.Str → Option Value} {f c : Addr} {fd : FuncData} (D : DfC K mg "rounds" sRounds ["order", "transfers", "first"] f fd c) : KBinds K fd ["order", "transfers", "first"] ["first", "transfers", "order"] g3 g3 := by
  obtain ⟨oc, od, kV, doc, pm, an, ct, osl, rfl, lk, hcd⟩ := D.ex
  refine ⟨fun s us ws _ hl => ?_, rel3⟩
  obtain ⟨a, b, c', rfl, rfl⟩ := of3 hl
  exact .of_eq rfl
theorem kb_against {K : PySem.W.Frag} {mg : PySem.Str → Option Value} {f : Addr} {fd : FuncData} (D : Df K mg "against" sAgainst ["order", "transfers"] f fd) : KBinds K fd ["order", "transfers"] ["transfers", "order"] g2 g2 := by
  obtain ⟨oc, od, kV, doc, pm, an, cdv, ct, osl, rfl, lk, hcd⟩ := D.F.ex
  refine ⟨fun s us ws _ hl => ?_, rel2⟩
  obtain ⟨a, b, rfl, rfl⟩ := of2 hl
  exact .of_eq rfl
/-! the tables -/
theorem TabS.mv {s sh P : Addr} {q : PySem.Str} {H H' : Hp} (st : Sta H s sh) (m : Mv s sh H H') (h : LamX.TabS H P q) : LamX.TabS H' P q := by
  obtain ⟨fs, i, n, h1, h2, h3, h4, h5⟩ := st
  obtain ⟨ps, e1, e2, e3⟩ := h
  refine ⟨ps, m.keep _ _ (ne_of e1 h4 fun z => nomatch z) (ne_of e1 h5 fun z => nomatch z) e1, e2, fun pos cv hc => ?_⟩
  obtain ⟨c, ec, hcode⟩ := e3 pos cv hc
  refine ⟨c, ec, m.keep _ _ (ne_of hcode h4 fun z => ?_) (ne_of hcode h5 fun z => ?_) hcode⟩
  · unfold LamX.CodeO at z; cases z
  · unfold LamX.CodeO at z; cases z
theorem Tabs.mv {s sh : Addr} {T : List (Addr × PySem.Str)} {H H' : Hp} (st : Sta H s sh) (m : Mv s sh H H') (h : LamX.Tabs T H) : LamX.Tabs T H' := fun p hp => TabS.mv st m (h p hp)
theorem TrAt.ext {H H' : Hp} {p : Addr} {e : Tr} (s : LamX.ExtN H H') (h : TrAt H p e) : TrAt H' p e := s _ _ h fun _ z => nomatch z
theorem TrsAt.ext {H H' : Hp} {ps : List Addr} {ts : List Tr} (s : LamX.ExtN H H') (h : TrsAt H ps ts) : TrsAt H' ps ts := ⟨h.len, fun n p e h1 h2 => (h.at_ n p e h1 h2).ext s⟩
/-- what a turn has drawn -/
structure Bd (T : Addr) (H : Hp) (s sh o t g : Addr) (ps : List Addr) (line origin : List Int) (ts : List Tr) : Prop where
  st : Sta H s sh
  tb : LamX.Tabs (TT T) H
  ho : H o = some (.lst (line.map V.int))
  ht : H t = some (.lst (ps.map V.ref))
  hts : TrsAt H ps ts
  hg : H g = some (.lst (origin.map V.int))
  net : Net line ts
  tl : ts.length ≤ 7
  ll : line.length ≤ 6
  l2 : 2 ≤ line.length
  ond : origin.Nodup
  oin : ∀ a ∈ origin, a ∈ line
  sm : ∀ a ∈ line, Small a
  sn : ∀ e ∈ ts, Small e.1
theorem Bd.same {T : Addr} {H H' : Hp} {s sh o t g : Addr} {ps : List Addr} {line origin : List Int} {ts : List Tr} (e : Same H H') (b : Bd T H s sh o t g ps line origin ts) : Bd T H' s sh o t g ps line origin ts :=
  { b with st := b.st.same e, tb := b.tb.ext e, ho := e _ _ b.ho, ht := e _ _ b.ht, hts := b.hts.same e, hg := e _ _ b.hg }
theorem Bd.ext {T : Addr} {H H' : Hp} {s sh o t g : Addr} {ps : List Addr} {line origin : List Int} {ts : List Tr} (e : LamX.ExtN H H') (tb : LamX.Tabs (TT T) H') (b : Bd T H s sh o t g ps line origin ts) : Bd T H' s sh o t g ps line origin ts :=
  { b with st := b.st.ext e, tb := tb, ho := e _ _ b.ho (fun _ z => nomatch z), ht := e _ _ b.ht (fun _ z => nomatch z), hts := b.hts.ext e, hg := e _ _ b.hg (fun _ z => nomatch z) }
structure AllD (K : PySem.W.Frag) (mg : PySem.Str → Option Value) (c : Addr) where
  (aIsI aDiff aTriple aNeedT aNeedN aAg aAgainst aBest aRounds aBegun aDraw aShuf aAreas aTriples aSome aOn aRound aNeeded aTurned aWay : Addr)
  (dIsI dDiff dTriple dNeedT dNeedN dAg dAgainst dBest dRounds dBegun dDraw dShuf dAreas dTriples dSome dOn dRound dNeeded dTurned dWay : FuncData)
  IsI : Df K mg "is_integer" sIsInt ["value"] aIsI dIsI
  Diff : Df K mg "are_different" sDiff ["value"] aDiff dDiff
  Triple : Df K mg "is_triple" sTriple ["value", "order"] aTriple dTriple
  NeedT : Df K mg "need_transfers" sNeedT ["order", "transfers"] aNeedT dNeedT
  NeedN : Df K mg "need_net" sNeedN ["order", "transfers", "first"] aNeedN dNeedN
  Ag : Df K mg "is_against" sAg ["order", "transfer"] aAg dAg
  Against : Df K mg "against" sAgainst ["order", "transfers"] aAgainst dAgainst
  Best : Df K mg "best_way" sBest ["order", "transfers", "area", "used"] aBest dBest
  Rounds : DfC K mg "rounds" sRounds ["order", "transfers", "first"] aRounds dRounds c
  Begun : Df K mg "_law_begun" sBegun ["_law_script"] aBegun dBegun
  Draw : Df K mg "_law_draw" sDraw ["_law_state", "_law_bound"] aDraw dDraw
  Shuf : Df K mg "_law_shuffled" sShuf ["_law_state", "_law_some_here"] aShuf dShuf
  Areas : Df K mg "_law_areas" sAreas ["_law_state", "_law_most"] aAreas dAreas
  Triples : Df K mg "_law_triples" sTriples ["_law_state", "_law_nodes", "_law_most", "_law_is_free"] aTriples dTriples
  Some : Df K mg "_law_some" sSome ["_law_state", "_law_things"] aSome dSome
  On : Df K mg "_law_onward" sOn ["_law_states", "_law_triples_here"] aOn dOn
  Round : Df K mg "_law_round" sRound ["_law_line", "_law_triples_here", "_law_states"] aRound dRound
  Needed : Df K mg "_law_needed" sNeeded ["_law_line", "_law_triples_here", "_law_origin"] aNeeded dNeeded
  Turned : Df K mg "_law_turned" sTurned ["_law_line", "_law_triple"] aTurned dTurned
  Way : Df K mg "_law_way_right" sWay ["_law_line", "_law_triples_here", "_law_origin", "_law_way", "_law_many"] aWay dWay
theorem if_no {c : L2.TT} {t u : TS} {D : Ends} {σ : L2.St} {H : Hp} (hc : ∀ Q : Bool → Hp → Prop, (∀ H', Same H H' → Q false H') → c σ H Q) (hu : ∀ H', Same H H' → u D σ H') : tIfS c t u D σ H := hc _ fun H' s => iteF (hu H' s)
section
variable {K : PySem.W.Frag} {H : Hp} {Q : VK} {x y : V} {d e : PyData} {j k : Nat}
theorem ne_same (hx : Dp K H x d) (hy : Dp K H y e) (n : Nice j d) (hj : j ≤ 60) (m : Nice k e) (hk : k ≤ 60) (he : PyData.eqv d e = true) (q : Q (.bl false) H) : rNeD K x y H Q := ⟨d, e, hx, hy, n.shaped hj, m.shaped hk, by rw [he]; exact q⟩
theorem eq_same (hx : Dp K H x d) (hy : Dp K H y e) (n : Nice j d) (hj : j ≤ 60) (m : Nice k e) (hk : k ≤ 60) (he : PyData.eqv d e = true) (q : Q (.bl true) H) : rEqD K x y H Q := ⟨d, e, hx, hy, n.shaped hj, m.shaped hk, by rw [he]; exact q⟩
end
theorem roundsM_nil {line : List Int} {ts : List Tr} : roundsM line ts 8 [] = (0, []) := rfl
theorem rounds_one {line : List Int} (h : line ≠ []) : (roundsM line [] 8 line).1 = 1 := by
  unfold roundsM
  rw [if_neg (fun z => h (List.length_eq_zero_iff.mp z))]
  rfl
theorem net_nil {line : List Int} (nd : line.Nodup) (hl : line.length ≤ 1000) : Net line [] := ⟨nd, hl, fun e h => absurd h List.not_mem_nil, List.nodup_nil, by decide⟩
theorem trs_nil {H : Hp} : TrsAt H [] [] := ⟨rfl, fun n p e h => by simp at h⟩
abbrev lawN : List PySem.Str := ["_law_script", "_law_state", "_law_turn", "_law_nodes", "_law_triples_here", "_law_line", "_law_origin", "_law_shown", "_law_due", "_law_number", "_law_way", "_law_counter", "_law_triple"]
section
variable {P : Program} {w : World} {K : PySem.W.Frag} {mg : PySem.Str → Option Value} {base : Heap}
theorem scLaw : FnScope lawN ["_law_script"] (defScope sLaw) := ⟨rfl, rfl, rfl, by decide +kernel, rfl, by decide +kernel, by decide +kernel⟩
theorem law_body {T c : Addr} (all : AllD K mg c) (B : Bl mg) (TB : LamX.TabB base mg c T) {A : Around} {outer : List Env} {s0 : Shared} {H : Hp} {f a : Addr} {cdv : Value} {ns : List Int} {Q : VK} {E : XK} (hgu : A.guards = some [])
    (hr : Room 11 (A.deeper (envOfC "law" (defScope sLaw) s0.heap.objs.size f cdv))) (hsc : SqL K H a (ns.map V.int)) (hT : LamX.Tabs (TT T) H) (q : ∀ H', Q (.bl true) H') :
    ∃ t, PSs (cxOf CX0 P w K mg base lawN "law" (defScope sLaw) f cdv A outer s0 H E).nox (defBody sLaw) t ∧ t { nx := fun _ H' => Q .non H', rt := Q } (L2.start lawN [.ref a]) H := by
  have GBeg : FnOk P w K mg base CX0 1 _ _ ["_law_script"] (spBegun K) := ok_begun all.Begun B
  have GW : FnOk P w K mg base CX0 1 _ _ ["_law_state", "_law_bound"] spDraw := ok_draw all.Draw B
  have GS : FnOk P w K mg base CX0 2 _ _ ["_law_state", "_law_some_here"] spShuf := ok_shuf all.Shuf B all.Draw
  have GA : FnOk P w K mg base CX0 3 _ _ ["_law_state", "_law_most"] spAreas := ok_areas all.Areas B all.Draw all.Shuf
  have GTr : FnOk P w K mg base CX0 3 _ _ ["_law_state", "_law_nodes", "_law_most", "_law_is_free"] spTriples := ok_triples all.Triples B all.Draw all.Shuf
  have GSo : FnOk P w K mg base CX0 3 _ _ ["_law_state", "_law_things"] spSome := ok_some all.Some B all.Draw all.Shuf
  have GN : FnOk P w K mg base CX0 3 _ _ ["_law_line", "_law_triples_here", "_law_origin"] spNeeded := ok_needed all.Needed B all.On all.Round
  have GR : FnOk P w K mg base CX0 11 _ _ ["order", "transfers", "first"] (spRounds T) := ok_rounds all.Rounds B TB all.IsI all.Diff all.Triple all.NeedT all.NeedN all.Best all.Ag
  have GWy : FnOk P w K mg base CX0 2 _ _ ["_law_line", "_law_triples_here", "_law_origin", "_law_way", "_law_many"] spWay := ok_way all.Way B all.Turned
  have GTu : FnOk P w K mg base CX0 1 _ _ ["_law_line", "_law_triple"] spTurned := ok_turned all.Turned B
  have GAg : FnOk P w K mg base CX0 4 _ _ ["order", "transfers"] spAgainst := ok_against all.Against B all.IsI all.Diff all.Triple all.NeedT all.Ag
  have hu := hr.units
  refine ⟨_, pss_cons (ps_set (i := 1) scLaw.nd rfl (Or.inl rfl) (pe_call GBeg (hr.mono (by decide)) rfl all.Begun.m all.Begun.F.kp all.Begun.b .nil pass0 (pa_cons (pv 0) pa_nil)))
    (pss_cons (ps_for PassesOwn.never rfl (pi_range1 (by rfl) B.range (pa_cons pe_int pa_nil)) (pg_name (i := 2) scLaw.nd rfl (Or.inl rfl))
      (pss_cons (ps_set (i := 3) scLaw.nd rfl (Or.inl rfl) (pe_call GA (hr.mono (by decide)) rfl all.Areas.m all.Areas.F.kp all.Areas.b .nil pass0 (pa_cons (pv 1) (pa_cons pe_int pa_nil))))
      (pss_cons (ps_set (i := 4) scLaw.nd rfl (Or.inl rfl) (pe_call GTr (hr.mono (by decide)) rfl all.Triples.m all.Triples.F.kp all.Triples.b .nil pass0 (pa_cons (pv 1) (pa_cons (pv 3) (pa_cons pe_int (pa_cons
          (pe_cmpR op_eq (pe_call GW (hr.mono (by decide)) rfl all.Draw.m all.Draw.F.kp all.Draw.b .nil pass0 (pa_cons (pv 1) (pa_cons pe_int pa_nil))) pe_int (nomark _)) pa_nil))))))
      (pss_cons (ps_asg (pe_tup (pa_cons (pe_call GS (hr.mono (by decide)) rfl all.Shuf.m all.Shuf.F.kp all.Shuf.b .nil pass0 (pa_cons (pv 1) (pa_cons (pv 3) pa_nil))) (pa_cons (pe_call GSo (hr.mono (by decide)) rfl all.Some.m all.Some.F.kp all.Some.b .nil pass0 (pa_cons (pv 1) (pa_cons (pv 3) pa_nil))) pa_nil)))
          (pg_tup rfl (pgs_cons (pg_name (i := 5) scLaw.nd rfl (Or.inr rfl)) (pgs_cons (pg_name (i := 6) scLaw.nd rfl (Or.inl rfl)) pgs_nil))))
      (pss_cons (ps_par (i := 7) (j := 8) (by rfl) scLaw.nd rfl rfl (by decide) rfl rfl (pa_cons (pe_callB (call_repr hgu hu) (by rfl) B.repr (by decide +kernel) (pa_cons (pe_lst (pa_cons (pv 5) (pa_cons (pv 4) (pa_cons (pv 6) pa_nil)))) pa_nil))
          (pa_cons (pe_call GN (hr.mono (by decide)) rfl all.Needed.m all.Needed.F.kp all.Needed.b .nil pass0 (pa_cons (pv 5) (pa_cons (pv 4) (pa_cons (pv 6) pa_nil)))) pa_nil)) (by rfl))
      (pss_cons (ps_asg (pe_call GR hr rfl all.Rounds.m all.Rounds.kp all.Rounds.b .nil pass0 (pa_cons (pv 5) (pa_cons (pv 4) (pa_cons (pv 6) pa_nil)))) (pg_tup rfl (pgs_cons (pg_name (i := 9) scLaw.nd rfl (Or.inl rfl)) (pgs_cons (pg_name (i := 10) scLaw.nd rfl (Or.inl rfl)) pgs_nil))))
      (pss_cons (ps_if (PW.pt (pw_or (pt_cmpR op_ne (pv 9) (pv 8) (nomark _)) (pw_or1 (pt_not (pt_val (pe_call GWy (hr.mono (by decide)) rfl all.Way.m all.Way.F.kp all.Way.b .nil pass0 (pa_cons (pv 5) (pa_cons (pv 4) (pa_cons (pv 6) (pa_cons (pv 10)
          (pa_cons (pe_callB (call_max2 rfl) (by rfl) B.max (by decide +kernel) (pa_cons pe_int (pa_cons (pe_op op_sub (pv 8) pe_int) pa_nil))) pa_nil))))))))))) (pss_one (ps_ret pe_bl)) pss_nil)
      (pss_cons (ps_if (PW.pt (pw_and (pt_cmpR op_lt (pv 8) pe_int (nomark _)) (pw_and1 (pt_cmpR (op_neD hu) (pv 10) (pe_lst pa_nil) (nomark _))))) (pss_one (ps_ret pe_bl)) pss_nil)
      (pss_cons (ps_if (pt_cmpR (op_neD hu) (pe_callK0 GR hr rfl all.Rounds.m all.Rounds.kp (kb_rounds all.Rounds) pass0 (pk_cons (pe_callTy call_tupleZ (by rfl) B.tuple (by decide +kernel) (pa_cons (pv 6) pa_nil)) (pk_cons (pe_callTy call_tupleZ (by rfl) B.tuple (by decide +kernel) (pa_cons (pv 4) pa_nil))
          (pk_cons (pe_callTy call_tupleZ (by rfl) B.tuple (by decide +kernel) (pa_cons (pv 5) pa_nil)) pk_nil)))) (pe_tup (pa_cons (pv 9) (pa_cons (pv 10) pa_nil))) (nomark _)) (pss_one (ps_ret pe_bl)) pss_nil)
      (pss_cons (ps_setLc (i := 11) (own := [("_law_triple", 12)]) (g := gName 12) rfl scLaw.nd rfl rfl (sw_true rfl rfl rfl rfl) (pi_var 4) (blkOk_by (own := [("_law_triple", 12)]) (N := lawN) (sc := defScope sLaw) (by decide +kernel))
          (fun _ _ _ _ _ => pg_name (i := 12) scLaw.nd rfl (Or.inl rfl)) (fun _ _ _ _ _ => pts_mono (pt_cmpR op_eq (pe_call GTu (hr.mono (by decide)) rfl all.Turned.m all.Turned.F.kp all.Turned.b .nil pass0 (pa_cons (pv 5) (pa_cons (pv 12) pa_nil))) pe_int (nomark _))) (fun _ _ _ _ _ => pe_mono (pe_ix (ix_tupK K) (pv 12) pe_int (fun _ _ => rfl))))
      (pss_cons (ps_if (PW.pt (pw_or (pt_cmpR (op_neD hu) (pe_call GAg (hr.mono (by decide)) rfl all.Against.m all.Against.F.kp all.Against.b .nil pass0 (pa_cons (pv 5) (pa_cons (pv 4) pa_nil))) (pv 11) (nomark _))
          (pw_or1 (pt_cmpR (op_neD hu) (pe_callK0 GAg (hr.mono (by decide)) rfl all.Against.m all.Against.F.kp (kb_against all.Against) pass0 (pk_cons (pv 4) (pk_cons (pv 5) pk_nil))) (pv 11) (nomark _))))) (pss_one (ps_ret pe_bl)) pss_nil)
      (pss_cons (ps_if (PW.pt (pw_or (pt_cmpR (op_neD hu) (pe_call GR hr rfl all.Rounds.m all.Rounds.kp all.Rounds.b .nil pass0 (pa_cons (pv 5) (pa_cons (pv 4) (pa_cons (pe_lst pa_nil) pa_nil)))) (pe_tup (pa_cons pe_int (pa_cons (pe_lst pa_nil) pa_nil))) (nomark _))
          (pw_or1 (pt_cmpR op_ne (pe_ix ix_tup (pe_call GR hr rfl all.Rounds.m all.Rounds.kp all.Rounds.b .nil pass0 (pa_cons (pv 5) (pa_cons (pe_lst pa_nil) (pa_cons (pv 5) pa_nil)))) pe_int (fun _ _ => rfl)) pe_int (nomark _))))) (pss_one (ps_ret pe_bl)) pss_nil)
      (pss_one (ps_if (pt_cmpR op_ne (pe_callB (call_repr hgu hu) (by rfl) B.repr (by decide +kernel) (pa_cons (pe_lst (pa_cons (pv 5) (pa_cons (pv 4) (pa_cons (pv 6) pa_nil)))) pa_nil)) (pv 7) (nomark _)) (pss_one (ps_ret pe_bl)) pss_nil))))))))))))))
    (pss_one (ps_ret (pe_and (pe_cmpR (op_eqD hu) (pe_call GR hr rfl all.Rounds.m all.Rounds.kp all.Rounds.b .nil pass0 (pa_cons (pe_lst pa_nil) (pa_cons (pe_lst pa_nil) (pa_cons (pe_lst pa_nil) pa_nil)))) (pe_tup (pa_cons pe_int (pa_cons (pe_lst pa_nil) pa_nil))) (nomark _))
      (pe_one (pe_cmpR (op_eqD hu) (pe_call GAg (hr.mono (by decide)) rfl all.Against.m all.Against.F.kp all.Against.b .nil pass0 (pa_cons (pe_lst pa_nil) (pa_cons (pe_lst pa_nil) pa_nil))) (pe_lst pa_nil) (nomark _))))))), ?_⟩
  have hz : (sizeLine : Nat) = 16777216 := sizeLine_eq
  refine ⟨_, rfl, a, ns, rfl, hsc, fun s sh H1 s1 st1 => ?_⟩
  have tb1 := hT.ext s1
  refine ⟨_, rfl, (by decide), (by decide), for_range (n := (6 : Int).toNat) (fun k σ' H' => Sta H' s sh ∧ LamX.Tabs (TT T) H' ∧ ∃ v2 v3 v4 v5 v6 v7 v8 v9 v10 v11 : Option V, σ' = [some (.ref a), some (.ref s), v2, v3, v4, v5, v6, v7, v8, v9, v10, v11, none])
    ⟨st1, tb1, _, _, _, _, _, _, _, _, _, _, rfl⟩ (fun k σ' H' hk pv => ?_) fun σ' H' pv => ?_⟩
  · obtain ⟨st, tb, v2, v3, v4, v5, v6, v7, v8, v9, v10, v11, rfl⟩ := pv
    refine ⟨_, rfl, s, sh, rfl, st, fun nd xs H1 hnd mv1 xnd x2 x6 xsm e1 => ?_⟩
    have tb1 := Tabs.mv st mv1 tb
    have ond := st.out hnd
    refine ⟨_, rfl, _, rfl, _, rfl, s, sh, _, rfl, mv1.st, by decide, by decide, fun r H2 hr2 mv2 => ⟨rfl, s, sh, nd, xs, _, rfl, mv2.st, mv2.keep _ _ ond.1 ond.2 e1, ond, xnd, x2, x6, fun tr ps ts H3 htr0 mv3 e3 hts htl htn hin => ?_⟩⟩
    have tb3 := Tabs.mv mv2.st mv3 (Tabs.mv mv1.st mv2 tb1)
    have otr := mv2.st.out htr0
    have en3 := mv3.keep _ _ ond.1 ond.2 (mv2.keep _ _ ond.1 ond.2 e1)
    refine ⟨_, rfl, _, rfl, s, sh, nd, xs, rfl, mv3.st, en3, by omega, fun o line H4 ho0 mv4 pm e4 => ?_⟩
    have oo := mv3.st.out ho0
    refine ⟨_, rfl, _, rfl, s, sh, nd, xs, rfl, mv4.st, mv4.keep _ _ ond.1 ond.2 en3, by omega, xnd, fun g origin H5 hg0 mv5 gnd gin e5 => ⟨(by show 2 ≤ sizeLine; omega), fun p6 hp6 => ⟨p6, _, rfl, SqT.of upd_same, rfl, _, _, rfl, _, _, rfl, rfl, ?_⟩⟩⟩
    have s6 : Same H5 (upd H5 p6 (.tup [.ref o, .ref g])) := same_new hp6 _
    have pml := pm.length_eq
    have lnd : line.Nodup := pm.nodup_iff.mpr xnd
    have bd : Bd T (upd H5 p6 (.tup [.ref o, .ref g])) s sh o tr g ps line origin ts := Bd.same s6 {
      st := mv5.st
      tb := Tabs.mv mv4.st mv5 (Tabs.mv mv3.st mv4 tb3)
      ho := mv5.keep _ _ oo.1 oo.2 e4
      ht := mv5.keep _ _ otr.1 otr.2 (mv4.keep _ _ otr.1 otr.2 e3)
      hts := (hts.mv mv3.st mv4).mv mv4.st mv5
      hg := e5
      net := ⟨lnd, by omega, fun e he => ⟨pm.mem_iff.mpr (hin e he).2.1, pm.mem_iff.mpr (hin e he).2.2.1, (hin e he).2.2.2⟩, htn, by omega⟩
      tl := htl
      ll := by omega
      l2 := by omega
      ond := gnd
      oin := fun z h => pm.mem_iff.mpr (gin z h)
      sm := fun z h => xsm z (pm.mem_iff.mp h)
      sn := fun e he => (hin e he).1 }
    generalize upd H5 p6 (.tup [.ref o, .ref g]) = H6 at bd
    have gl : origin.length ≤ 6 := Nat.le_trans (nodup_le bd.ond bd.oin) bd.ll
    have sho := sho_netD bd.sm (fun z h => bd.sm z (bd.oin z h)) (fun e he => ⟨bd.sn e he, bd.sm _ (bd.net.inn e he).1, bd.sm _ (bd.net.inn e he).2.1⟩) bd.ll gl bd.tl
    have nic := nice_netD line origin ts
    refine ⟨_, rfl, _, rfl, _, rfl, (by show 3 ≤ sizeLine; omega), fun l7 hl7 => ?_⟩
    have b7 := bd.same (same_new hl7 (.lst [.ref o, .ref tr, .ref g]))
    refine ⟨l7, netD line origin ts, rfl, dp_net upd_same b7.ho b7.ht b7.hts b7.hg, sho.sh, sho.hd, Nat.le_trans nic.2 (by decide), sho.fits (by decide), ?_⟩
    generalize upd H6 l7 (.lst [.ref o, .ref tr, .ref g]) = H7 at b7
    refine ⟨_, rfl, _, rfl, _, rfl, o, tr, g, ps, line, origin, ts, rfl, b7.ho, b7.ht, b7.hts, b7.net, b7.tl, b7.ll, b7.hg, b7.ond, b7.oin, fun H8 s8 => ⟨_, _, rfl, ?_⟩⟩
    have b8 := b7.same s8
    refine ⟨_, rfl, _, rfl, _, rfl, o, tr, g, ps, line, origin, ts, rfl, .inl b8.ho, .inl b8.ht, b8.hts, b8.net, .inl b8.hg, b8.ond, by omega, b8.oin, b8.tl, b8.tb, fun r9 H9 e9 tb9 pr => ?_⟩
    have b9 := b8.ext e9 tb9
    obtain ⟨tw, hw1, hw2, hw3, hw4⟩ := rounds_way (line := line) (origin := origin) (ts := ts) (N := 8) (by have := b9.tl; omega)
    have hsize : (roundsM line ts 8 origin).1 < 2 → (roundsM line ts 8 origin).2 = [] := fun h => by rw [← hw1, hw4 h]; rfl
    generalize hrm : roundsM line ts 8 origin = rm at pr hw1 hw2 hw4 hsize
    obtain ⟨wy, _, hr9, hwy⟩ := pr
    refine ⟨r9, _, rfl, SqT.of hr9, rfl, _, _, rfl, _, _, rfl, rfl, ?_⟩
    dsimp only [tSeq]
    refine if_no (fun Q hQ => ?_) fun H10 s10 => ?_
    · refine ⟨_, rfl, _, rfl, rfl, _, rfl, iteNS rfl ?_⟩
      have emax : (if (rm.1 : Int) - 1 > 0 then (rm.1 : Int) - 1 else 0) = ((cnt line tw : Nat) : Int) := by
        rw [hw2]
        split <;> omega
      refine ⟨_, rfl, _, rfl, _, rfl, _, rfl, _, rfl, _, _, rfl, rfl, _, _, rfl, o, tr, g, wy, ps, line, origin, ts, tw, ?_, b9.ho, b9.ht, b9.hts, b9.net, b9.tl, b9.hg, ?_, hw3, fun H' s' => ⟨_, rfl, hQ H' s'⟩⟩
      · show [V.ref o, .ref tr, .ref g, .ref wy, .int (if (rm.1 : Int) - 1 > 0 then (rm.1 : Int) - 1 else 0)] = _
        rw [emax]
      · rw [hw1]
        exact hwy
    have b10 := b9.same s10
    have hwy10 := s10 _ _ hwy
    dsimp only [tNext]
    refine if_no (fun Q hQ => ?_) fun H11 s11 => ?_
    · refine ⟨_, rfl, _, _, rfl, rfl, _, rfl, ?_⟩
      refine ite2 (fun h => ?_) fun _ => hQ _ (Same.refl _)
      have h2 : rm.2 = [] := hsize (by have := of_decide_eq_true h; omega)
      rw [h2] at hwy10
      exact ⟨_, rfl, Nat.zero_le _, fun l hl => ne_nil (ds := []) (dp_nil (same_new hl _ _ _ hwy10)) (Nice.list (k := 1) fun d hd => absurd hd List.not_mem_nil) (by decide) upd_same ⟨_, rfl, hQ _ (same_new hl _)⟩⟩
    have b11 := b10.same s11
    have hwy11 := s11 _ _ hwy10
    refine ⟨_, rfl, g, _, rfl, SqL.of b11.hg, fun l1 o1 hl1 hd1 => ?_⟩
    have c1 := b11.same (same_new hl1 (.frz o1 (.tup (origin.map V.int))))
    have t1 : Tz (upd H11 l1 (.frz o1 (.tup (origin.map V.int)))) l1 (origin.map V.int) := ⟨o1, hd1, upd_same⟩
    have w1 := same_new hl1 (.frz o1 (.tup (origin.map V.int))) _ _ hwy11
    generalize upd H11 l1 (.frz o1 (.tup (origin.map V.int))) = H11a at c1 t1 w1
    refine ⟨_, rfl, tr, _, rfl, SqL.of c1.ht, fun l2 o2 hl2 hd2 => ?_⟩
    have c2 := c1.same (same_new hl2 (.frz o2 (.tup (ps.map V.ref))))
    have t1' := t1.same (same_new hl2 (.frz o2 (.tup (ps.map V.ref))))
    have t2 : Tz (upd H11a l2 (.frz o2 (.tup (ps.map V.ref)))) l2 (ps.map V.ref) := ⟨o2, hd2, upd_same⟩
    have w2 := same_new hl2 (.frz o2 (.tup (ps.map V.ref))) _ _ w1
    generalize upd H11a l2 (.frz o2 (.tup (ps.map V.ref))) = H11b at c2 t1' t2 w2
    refine ⟨_, rfl, o, _, rfl, SqL.of c2.ho, fun l3 o3 hl3 hd3 => ?_⟩
    have c3 := c2.same (same_new hl3 (.frz o3 (.tup (line.map V.int))))
    have t1'' := t1'.same (same_new hl3 (.frz o3 (.tup (line.map V.int))))
    have t2' := t2.same (same_new hl3 (.frz o3 (.tup (line.map V.int))))
    have t3 : Tz (upd H11b l3 (.frz o3 (.tup (line.map V.int)))) l3 (line.map V.int) := ⟨o3, hd3, upd_same⟩
    have w3 := same_new hl3 (.frz o3 (.tup (line.map V.int))) _ _ w2
    generalize upd H11b l3 (.frz o3 (.tup (line.map V.int))) = H11c at c3 t1'' t2' t3 w3
    refine ⟨l3, l2, l1, ps, line, origin, ts, rfl, .inr t3, .inr t2', c3.hts, c3.net, .inr t1'', c3.ond, by omega, c3.oin, c3.tl, c3.tb, fun r12 H12 e12 tb12 pr12 => ?_⟩
    have b12 := c3.ext e12 tb12
    have w12 := e12 _ _ w3 (fun _ z => nomatch z)
    rw [hrm] at pr12
    refine ⟨_, rfl, _, rfl, (by show 2 ≤ sizeLine; omega), fun p13 hp13 => ?_⟩
    have s13 := same_new hp13 (.tup [.int (rm.1 : Int), .ref wy])
    have b13 := b12.same s13
    have w13 := s13 _ _ w12
    have pp13 : PairAt (fun _ => none) (upd H12 p13 (.tup [.int (rm.1 : Int), .ref wy])) p13 rm := ⟨wy, rfl, upd_same, w13⟩
    refine ne_same (dp_pair (pr12.same s13)) (dp_pair pp13) (nice_pD _) (by decide) (nice_pD _) (by decide) (by rw [eqv_pD]; exact decide_eq_true rfl) ⟨_, rfl, iteF ?_⟩
    generalize upd H12 p13 (.tup [.int (rm.1 : Int), .ref wy]) = H13 at b13
    dsimp only [tNext, tSeq, tAsg, gName]
    refine lc_filt (fun n => (ts[n]?).bind fun e => if agB line e = true then some (V.int e.1) else none) (show ([some (V.ref a), some (V.ref s), some (V.int (0 + (k : Int))), some (V.ref nd), some (V.ref tr), some (V.ref o), some (V.ref g), some (V.str (netD line origin ts).shown), some (V.int (rm.1 : Int)), some (V.int (rm.1 : Int)), some (V.ref wy), v11, none] : L2.St)[4]? = some (some (.ref tr)) from rfl) (.inl b13.ht)
      (by rw [List.length_map, b13.hts.len]; have := b13.tl; omega) (fun n x H' hx s' => ?_) fun D14 H14 nD14 s14 e14 => ?_
    · obtain ⟨p', e, rfl, hp1, he, hat⟩ := (b13.hts.same s').get hx
      have hin := b13.net.inn e (List.mem_of_getElem? he)
      refine ⟨_, rfl, _, rfl, o, p', line, e, rfl, s' _ _ b13.ho, hat, hin.1, hin.2.1, rfl, _, rfl, Same.refl _, ?_, fun z hz => ?_⟩
      · rw [he]
        show decide (V.int ((agN line e : Nat) : Int) = V.int 1) = (if agB line e = true then some (V.int e.1) else none).isSome
        unfold agN
        cases agB line e <;> rfl
      · rw [he] at hz
        have hz' : (if agB line e = true then some (V.int e.1) else none) = some z := hz
        split at hz'
        · cases hz'
          exact ⟨_, rfl, p', _, 0, _, rfl, rfl, SqT.of hat, rfl, rfl, Same.refl _⟩
        · cases hz'
    rw [List.length_map, b13.hts.len, range_pick, pick_filter] at e14
    have b14 := b13.same s14
    refine ⟨_, rfl, _, rfl, o, tr, ps, line, ts, rfl, .inl b14.ho, .inl b14.ht, b14.hts, b14.net, fun r15 H15 hr15 s15 e15 => ⟨_, rfl, ?_⟩⟩
    refine ne_same (dp_iL (SqL.of e15)) (dp_iL (SqL.of (s15 _ _ e14))) (nice_iL _) (by decide) (nice_iL _) (by decide) (by rw [eqv_iL]; exact decide_eq_true rfl) ⟨_, rfl, iteF ?_⟩
    have b15 := b14.same s15
    have e14' := s15 _ _ e14
    refine ⟨_, rfl, _, rfl, o, tr, ps, line, ts, rfl, .inl b15.ho, .inl b15.ht, b15.hts, b15.net, fun r16 H16 hr16 s16 e16 => ⟨_, rfl, ?_⟩⟩
    refine ne_same (dp_iL (SqL.of e16)) (dp_iL (SqL.of (s16 _ _ e14'))) (nice_iL _) (by decide) (nice_iL _) (by decide) (by rw [eqv_iL]; exact decide_eq_true rfl) ⟨_, rfl, iteF ?_⟩
    have b16 := b15.same s16
    refine ⟨_, rfl, _, rfl, Nat.zero_le _, fun l17 hl17 => ?_⟩
    have b17 := b16.same (same_new hl17 (.lst []))
    refine ⟨o, tr, l17, ps, line, [], ts, rfl, .inl b17.ho, .inl b17.ht, b17.hts, b17.net, .inl upd_same, List.nodup_nil, by decide, fun z h => absurd h List.not_mem_nil, b17.tl, b17.tb, fun r18 H18 e18 tb18 pr18 => ?_⟩
    have b18 := b17.ext e18 tb18
    refine ⟨Nat.zero_le _, fun l19 hl19 => ⟨(by show 2 ≤ sizeLine; omega), fun p20 hp20 => ?_⟩⟩
    have s20 := (same_new hl19 (.lst [])).trans (same_new hp20 (.tup [.int 0, .ref l19]))
    have p20' : PairAt (fun _ => none) (upd (upd H18 l19 (.lst [])) p20 (.tup [.int 0, .ref l19])) p20 (0, []) := ⟨l19, rfl, upd_same, same_new hp20 _ _ _ upd_same⟩
    have b20 := b18.same s20
    refine ne_same (dp_pair (pr18.same s20)) (dp_pair p20') (nice_pD _) (by decide) (nice_pD _) (by decide) (by rw [eqv_pD, roundsM_nil]; exact decide_eq_true rfl) ⟨_, rfl, iteF ?_⟩
    generalize upd (upd H18 l19 (.lst [])) p20 (.tup [.int 0, .ref l19]) = H20 at b20
    refine ⟨_, rfl, Nat.zero_le _, fun l21 hl21 => ?_⟩
    have b21 := b20.same (same_new hl21 (.lst []))
    have hlne : line ≠ [] := fun z => by have := b21.l2; rw [z] at this; exact absurd this (by decide)
    refine ⟨_, rfl, o, l21, o, [], line, line, [], rfl, .inl b21.ho, .inl upd_same, trs_nil, net_nil b21.net.nd b21.net.ll, .inl b21.ho, b21.net.nd, b21.net.ll, fun z h => h, by decide, b21.tb, fun r22 H22 e22 tb22 pr22 => ?_⟩
    have b22 := b21.ext e22 tb22
    obtain ⟨wl22, _, hr22, _⟩ := pr22
    refine ⟨r22, _, 0, _, rfl, rfl, SqT.of hr22, rfl, rfl, _, rfl, iteNS (by rw [rounds_one hlne]; rfl) ?_⟩
    refine ⟨_, rfl, _, rfl, _, rfl, (by show 3 ≤ sizeLine; omega), fun l23 hl23 => ?_⟩
    have b23 := b22.same (same_new hl23 (.lst [.ref o, .ref tr, .ref g]))
    refine ⟨l23, netD line origin ts, rfl, dp_net upd_same b23.ho b23.ht b23.hts b23.hg, sho.sh, sho.hd, Nat.le_trans nic.2 (by decide), sho.fits (by decide), _, rfl, rfl, _, rfl, iteNS rfl ?_⟩
    exact ⟨b23.st, b23.tb, _, _, _, _, _, _, _, _, _, _, rfl⟩
  · obtain ⟨st, tb, v2, v3, v4, v5, v6, v7, v8, v9, v10, v11, rfl⟩ := pv
    refine ⟨Nat.zero_le _, fun l1 hl1 => ⟨Nat.zero_le _, fun l2 hl2 => ⟨Nat.zero_le _, fun l3 hl3 => ?_⟩⟩⟩
    have s1 := same_new hl1 (.lst [])
    have s2 := same_new hl2 (.lst [])
    have s3 := same_new hl3 (.lst [])
    refine ⟨l1, l2, l3, [], [], [], [], rfl, .inl (s3 _ _ (s2 _ _ upd_same)), .inl (s3 _ _ upd_same), trs_nil, net_nil List.nodup_nil (by decide), .inl upd_same, List.nodup_nil, by decide, fun z h => h, by decide, ((tb.ext s1).ext s2).ext s3, fun r4 H4 e4 tb4 pr4 => ?_⟩
    refine ⟨Nat.zero_le _, fun l5 hl5 => ⟨(by show 2 ≤ sizeLine; omega), fun p6 hp6 => ?_⟩⟩
    have s6 := (same_new hl5 (.lst [])).trans (same_new hp6 (.tup [.int 0, .ref l5]))
    have p6' : PairAt (fun _ => none) (upd (upd H4 l5 (.lst [])) p6 (.tup [.int 0, .ref l5])) p6 (0, []) := ⟨l5, rfl, upd_same, same_new hp6 _ _ _ upd_same⟩
    refine eq_same (dp_pair (pr4.same s6)) (dp_pair p6') (nice_pD _) (by decide) (nice_pD _) (by decide) (by rw [eqv_pD, roundsM_nil]; exact decide_eq_true rfl) ⟨true, rfl, iteT ?_⟩
    refine ⟨Nat.zero_le _, fun l7 hl7 => ⟨Nat.zero_le _, fun l8 hl8 => ?_⟩⟩
    have s8 := same_new hl8 (.lst [])
    refine ⟨l7, l8, [], [], [], rfl, .inl (s8 _ _ upd_same), .inl upd_same, trs_nil, net_nil List.nodup_nil (by decide), fun r9 H9 hr9 s9 e9 => ⟨Nat.zero_le _, fun l10 hl10 => ?_⟩⟩
    refine eq_same (d := .list []) (e := .list []) (dp_nil (same_new hl10 _ _ _ e9)) (dp_nil upd_same) (Nice.list (k := 1) fun d hd => absurd hd List.not_mem_nil) (by decide) (Nice.list (k := 1) fun d hd => absurd hd List.not_mem_nil) (by decide) (by rw [eqv_nil_list]; rfl) (q _)
end
end K48

set_option Elab.async false
set_option maxRecDepth 100000
set_option maxHeartbeats 4000000
set_option linter.all false
namespace K48
open PySem PySem.Spec PyProof.Rows L2
/-- what is tracked when the law is called: the lambda's table, and the script, unless the program's top knows the script -/
def hpL (K : PySem.W.Frag) (T a : Addr) (o : Obj) (xs : List V) : Hp := fun b =>
  if b = T then some (.tbl #[]) else if b = a ∧ (K.lookup a).isNone = true then some (.frz o (.lst xs)) else none
theorem hpL_cases {K : PySem.W.Frag} {T a b : Addr} {o : Obj} {xs : List V} {u : HO} (h : hpL K T a o xs b = some u) : (b = T ∧ u = .tbl #[]) ∨ (b = a ∧ (K.lookup a).isNone = true ∧ u = .frz o (.lst xs)) := by
  unfold hpL at h
  split at h
  · rename_i e
    cases h
    exact .inl ⟨e, rfl⟩
  · split at h
    · rename_i e
      cases h
      exact .inr ⟨e.1, e.2, rfl⟩
    · cases h
section
variable {P : Program} {w : World} {K : PySem.W.Frag} {mg mb : PySem.Str → Option Value} {fa a c T : Addr} {s1 : Shared} {vs : List Value} {ns : List Int}
/-- the law's run, told at its caller alone, gives the row's end -/
theorem law_here (KX : K.In s1.heap) (hgl : s1.heap.Ns mainGlobals mg) (hbu : s1.heap.Ns builtinsNs mb) (hboot : ∀ x : PySem.Str, x ≠ "__name__" → mb x = bootBuiltins x)
    (hlim : s1.heap.NoLimit) (hgen : s1.gens = #[]) (hT : s1.heap.get? T = some (PySem.W.tabObj #[])) (nT : K.lookup T = none) (hcode : PySem.W.codeHdIn K c T = true)
    (hmod : ∃ (bm : Addr) (ob : Obj), mg "__builtins__" = some (.ref bm) ∧ bm ≠ builtinsNs ∧ s1.heap.get? bm = some ob ∧ ob.cls = .type "module" ∧ ob.dict = some builtinsNs ∧ ob.data = .plain)
    (ha : s1.heap.get? a = some { cls := .type "list", data := .seq vs.toArray }) (hi : IntsAre vs ns) (hl : ns.length ≤ sizeLine)
    (run : ∀ (base : Heap) (H : Hp), K.In base → base.Ns mainGlobals mg → LamX.TabB base mg c T → H T = some (.tbl #[]) → SqL K H a (ns.map V.int) →
      Env0 P w K mg base callerA [] s1 H → codeAny (model P w) callerA (.call (.ref fa) ⟨[.ref a], []⟩) (CR CX0 [] P w H s1 (fun v _ => v = .bl true) E0) s1) :
    codeAny (model P w) callerA (.call (.ref fa) ⟨[.ref a], []⟩) (fun r t => r = .ok (.ret (.bool true)) ∧ OldK s1.heap t.heap ∧ t.os = s1.os ∧ AllBare t.gens) s1 := by
  have rv := vals_ints hi
  have lenV := hi.length
  have hTa : T ≠ a := fun z => by
    rw [z, ha] at hT
    have := congrArg Obj.data (Option.some.inj hT)
    cases this
  generalize hH : hpL K T a { cls := .type "list", data := .seq vs.toArray } (ns.map V.int) = H
  have cs : ∀ {b : Addr} {u : HO}, H b = some u → (b = T ∧ u = .tbl #[]) ∨ (b = a ∧ (K.lookup a).isNone = true ∧ u = .frz { cls := .type "list", data := .seq vs.toArray } (.lst (ns.map V.int))) := fun h => hpL_cases (by rw [hH]; exact h)
  have HT : H T = some (.tbl #[]) := by
    rw [← hH]
    exact if_pos rfl
  have HS : SqL K H a (ns.map V.int) := by
    cases hk : K.lookup a with
    | some o =>
      have e := KX a o hk
      rw [ha] at e
      cases e
      exact .inr ⟨_, vs.toArray, _, hk, rfl, rfl, rfl, by rw [List.size_toArray, lenV]; exact hl, by simpa using rv⟩
    | none =>
      refine .inl (.inr ⟨{ cls := .type "list", data := .seq vs.toArray }, ?_⟩)
      rw [← hH]
      unfold hpL
      rw [if_neg hTa.symm, if_pos ⟨rfl, by rw [hk]; rfl⟩]
  have stays : ∀ {b : Addr} {o : Obj}, s1.heap.get? b = some o → H b = none → (hidT s1.heap H).get? b = some o := fun e n => hidT_get e n
  have apart : ∀ {b : Addr} {o : Obj}, s1.heap.get? b = some o → (∀ x n, o.data ≠ .seq x n) → o.data ≠ .fields #[] → H b = none := fun {b o} e n1 n2 => by
    cases q : H b with
    | none => rfl
    | some u =>
      rcases cs q with ⟨rfl, _⟩ | ⟨rfl, _, _⟩
      · rw [hT] at e
        cases e
        exact absurd rfl n2
      · rw [ha] at e
        cases e
        exact absurd rfl (n1 _ _)
  have dicts : ∀ {b : Addr} {m : PySem.Str → Option Value}, s1.heap.Ns b m → (hidT s1.heap H).Ns b m := fun {b m} ⟨o, es, ep, e, d, r⟩ => by
    refine ⟨o, es, ep, stays e (apart e (fun x n z => ?_) fun z => ?_), d, r⟩ <;> (rw [d] at z; cases z)
  have inB : K.In (hidT s1.heap H) := fun b o e => by
    refine stays (KX b o e) ?_
    cases q : H b with
    | none => rfl
    | some u =>
      rcases cs q with ⟨rfl, _⟩ | ⟨rfl, hn, _⟩
      · rw [nT] at e
        cases e
      · rw [e] at hn
        cases hn
  have md : L2.Mod K mg (hidT s1.heap H) := by
    obtain ⟨mc, m1, m2⟩ := hlim
    exact ⟨inB, dicts hgl, ⟨mb, dicts hbu, hboot⟩, mc, dicts m1, m2⟩
  have notGl : ∀ {b : Addr} {o : Obj}, s1.heap.get? b = some o → (∀ es ep, o.data ≠ .dict es ep) → b ≠ mainGlobals := fun {b o} e n z => by
    obtain ⟨o', es, ep, e', d, _⟩ := hgl
    rw [z, e'] at e
    cases e
    exact n _ _ d
  have tb : LamX.TabB (hidT s1.heap H) mg c T := by
    obtain ⟨bm, ob, b1, b2, b3, b4, b5, b6⟩ := hmod
    have p1 : bm ≠ mainGlobals := notGl b3 fun es ep z => by
      rw [b6] at z
      cases z
    have p2 : bm ≠ T := fun z => by
      rw [z, hT] at b3
      cases b3
      cases b6
    have p3 : H bm = none := apart b3 (fun x n z => by rw [b6] at z; cases z) fun z => by rw [b6] at z; cases z
    exact ⟨PySem.W.codeHd_of_K inB hcode, ⟨bm, ob, b1, b2, p1, p2, stays b3 p3, b4, b5, b6⟩, (notGl hT fun es ep z => by cases z).symm⟩
  have ok : HOk P w H s1.heap := fun b u q => by
    rcases cs q with ⟨rfl, rfl⟩ | ⟨rfl, _, rfl⟩
    · exact hT
    · exact ⟨ha, by rw [List.length_map]; exact hl, vs, _, rv, ha⟩
  have env : Env0 P w K mg (hidT s1.heap H) callerA [] s1 H := {
    frames := rfl
    mod := md
    bs := fun b o e => of_hidT e
    bsz := Nat.le_of_eq (hidT_size _ _)
    funs := trivial
    frf := fun b hb => absurd hb List.not_mem_nil
    hok := ok
    bare := .of_eq hgen }
  refine codeAny_mono (run _ H inB (dicts hgl) tb HT HS env) fun r t h => ?_
  cases r with
  | error e => exact False.elim h
  | ok fl =>
    cases fl with
    | next => exact False.elim h
    | brk => exact False.elim h
    | cont => exact False.elim h
    | ret u =>
      obtain ⟨v, H', os, bare, un, ok', rv', rfl⟩ := id h
      obtain rfl : u = Value.bool true := rv'
      obtain ⟨more, hm⟩ := un.tbls T #[] HT
      have tab : t.heap.get? T = some (PySem.W.tabObj (#[] ++ more)) := ok' T _ hm
      have same : ∀ b o, b ≠ T → s1.heap.get? b = some o → t.heap.get? b = some o := fun b o hb e => by
        cases q : H b with
        | none => exact un.keep b o e q (fun z => absurd z List.not_mem_nil) List.not_mem_nil
        | some u =>
          rcases cs q with ⟨z, _⟩ | ⟨rfl, _, rfl⟩
          · exact absurd z hb
          · have k1 := (ok b _ q).1
            have k2 := (ok' b _ (un.frzs b _ _ q)).1
            rw [e] at k1
            cases k1
            exact k2
      refine ⟨rfl, ⟨fun b o e => ?_, fun b o e => ?_⟩, os, bare⟩
      · by_cases hb : b = T
        · subst hb
          rw [hT] at e
          cases e
          exact .inr (.inl ⟨((PySem.W.codeHd_of_K KX hcode).tab hT).isCodeTable, rfl, #[], more, rfl, tab⟩)
        · exact .inl (same b o hb e)
      · by_cases hb : b = T
        · subst hb
          exact ⟨_, tab⟩
        · exact ⟨o, same b o hb e⟩
end
end K48

set_option Elab.async false
set_option maxRecDepth 100000
set_option maxHeartbeats 4000000
set_option linter.all false
namespace K48
open PySem PySem.Spec PyProof.Rows L2
/-- what the row's last theorem asks of the law's def -/
def LawTold (l : PySem.W.OpenLaw) (w : World) (K : PySem.W.Frag) (mg : PySem.Str → Option Value) (fa T : Addr) : Prop := ∃ c : Addr, PySem.W.codeHdIn K c T = true ∧ K.lookup T = none ∧
  ∀ (s1 : Shared) (a : Addr) (ns : List Int) (base : Heap) (H : Hp), K.In base → base.Ns mainGlobals mg → LamX.TabB base mg c T → H T = some (.tbl #[]) → SqL K H a (ns.map V.int) →
    Env0 l.prog w K mg base callerA [] s1 H → codeAny (model l.prog w) callerA (.call (.ref fa) ⟨[.ref a], []⟩) (CR CX0 [] l.prog w H s1 (fun v _ => v = .bl true) E0) s1
theorem all_mk {l : PySem.W.OpenLaw} {w : World} {K : PySem.W.Frag} {h : Heap} {mg : PySem.Str → Option Value} {fa c T f1 f2 f3 f4 f5 f6 f7 f8 f9 f10 f11 f12 f13 f14 f15 f16 f17 f18 f19 f20 f21 : Addr} (X : K.In h) (G : h.Ns mainGlobals mg) (hfa : mg "law" = some (.ref fa))
    {od1 an1 od2 an2 od3 an3 od4 an4 od5 an5 od6 an6 od7 an7 od8 an8 od9 an9 od10 an10 od11 an11 od12 an12 od13 an13 od14 an14 od15 an15 od16 an16 od17 an17 od18 an18 od19 an19 od20 an20 od21 an21 : Option Addr} {sl1 sl2 sl3 sl4 sl5 sl6 sl7 sl8 sl9 sl10 sl11 sl12 sl13 sl14 sl15 sl16 sl17 sl18 sl19 sl20 sl21 : Array (Option Value)}
    {oc1 kV1 dc1 pm1 ct1 cd1 oc2 kV2 dc2 pm2 ct2 cd2 oc3 kV3 dc3 pm3 ct3 cd3 oc4 kV4 dc4 pm4 ct4 cd4 oc5 kV5 dc5 pm5 ct5 cd5 oc6 kV6 dc6 pm6 ct6 cd6 oc7 kV7 dc7 pm7 ct7 cd7 oc8 kV8 dc8 pm8 ct8 cd8 oc9 kV9 dc9 pm9 ct9 oc10 kV10 dc10 pm10 ct10 cd10 oc11 kV11 dc11 pm11 ct11 cd11 oc12 kV12 dc12 pm12 ct12 cd12 oc13 kV13 dc13 pm13 ct13 cd13 oc14 kV14 dc14 pm14 ct14 cd14 oc15 kV15 dc15 pm15 ct15 cd15 oc16 kV16 dc16 pm16 ct16 cd16 oc17 kV17 dc17 pm17 ct17 cd17 oc18 kV18 dc18 pm18 ct18 cd18 oc19 kV19 dc19 pm19 ct19 cd19 oc20 kV20 dc20 pm20 ct20 cd20 oc21 kV21 dc21 pm21 ct21 cd21 : Value}
    (a1 : PySem.W.nsIn K mainGlobals "is_integer" = some (some (.ref f1))) (l1 : K.lookup f1 = some ⟨oc1, od1, .func (PySem.W.fnOf "is_integer" "is_integer" (defArgs sIsInt) (defBody sIsInt) (defScope sIsInt) .none kV1 dc1 pm1 an1 cd1 ct1), sl1⟩)
      (c1 : PySem.W.codeIn K cd1 "is_integer" = true) (k1 : PySem.W.keepIn K (.ref f1) = true)
    (a2 : PySem.W.nsIn K mainGlobals "are_different" = some (some (.ref f2))) (l2 : K.lookup f2 = some ⟨oc2, od2, .func (PySem.W.fnOf "are_different" "are_different" (defArgs sDiff) (defBody sDiff) (defScope sDiff) .none kV2 dc2 pm2 an2 cd2 ct2), sl2⟩)
      (c2 : PySem.W.codeIn K cd2 "are_different" = true) (k2 : PySem.W.keepIn K (.ref f2) = true)
    (a3 : PySem.W.nsIn K mainGlobals "is_triple" = some (some (.ref f3))) (l3 : K.lookup f3 = some ⟨oc3, od3, .func (PySem.W.fnOf "is_triple" "is_triple" (defArgs sTriple) (defBody sTriple) (defScope sTriple) .none kV3 dc3 pm3 an3 cd3 ct3), sl3⟩)
      (c3 : PySem.W.codeIn K cd3 "is_triple" = true) (k3 : PySem.W.keepIn K (.ref f3) = true)
    (a4 : PySem.W.nsIn K mainGlobals "need_transfers" = some (some (.ref f4))) (l4 : K.lookup f4 = some ⟨oc4, od4, .func (PySem.W.fnOf "need_transfers" "need_transfers" (defArgs sNeedT) (defBody sNeedT) (defScope sNeedT) .none kV4 dc4 pm4 an4 cd4 ct4), sl4⟩)
      (c4 : PySem.W.codeIn K cd4 "need_transfers" = true) (k4 : PySem.W.keepIn K (.ref f4) = true)
    (a5 : PySem.W.nsIn K mainGlobals "need_net" = some (some (.ref f5))) (l5 : K.lookup f5 = some ⟨oc5, od5, .func (PySem.W.fnOf "need_net" "need_net" (defArgs sNeedN) (defBody sNeedN) (defScope sNeedN) .none kV5 dc5 pm5 an5 cd5 ct5), sl5⟩)
      (c5 : PySem.W.codeIn K cd5 "need_net" = true) (k5 : PySem.W.keepIn K (.ref f5) = true)
    (a6 : PySem.W.nsIn K mainGlobals "is_against" = some (some (.ref f6))) (l6 : K.lookup f6 = some ⟨oc6, od6, .func (PySem.W.fnOf "is_against" "is_against" (defArgs sAg) (defBody sAg) (defScope sAg) .none kV6 dc6 pm6 an6 cd6 ct6), sl6⟩)
      (c6 : PySem.W.codeIn K cd6 "is_against" = true) (k6 : PySem.W.keepIn K (.ref f6) = true)
    (a7 : PySem.W.nsIn K mainGlobals "against" = some (some (.ref f7))) (l7 : K.lookup f7 = some ⟨oc7, od7, .func (PySem.W.fnOf "against" "against" (defArgs sAgainst) (defBody sAgainst) (defScope sAgainst) .none kV7 dc7 pm7 an7 cd7 ct7), sl7⟩)
      (c7 : PySem.W.codeIn K cd7 "against" = true) (k7 : PySem.W.keepIn K (.ref f7) = true)
    (a8 : PySem.W.nsIn K mainGlobals "best_way" = some (some (.ref f8))) (l8 : K.lookup f8 = some ⟨oc8, od8, .func (PySem.W.fnOf "best_way" "best_way" (defArgs sBest) (defBody sBest) (defScope sBest) .none kV8 dc8 pm8 an8 cd8 ct8), sl8⟩)
      (c8 : PySem.W.codeIn K cd8 "best_way" = true) (k8 : PySem.W.keepIn K (.ref f8) = true)
    (a9 : PySem.W.nsIn K mainGlobals "rounds" = some (some (.ref f9))) (l9 : K.lookup f9 = some ⟨oc9, od9, .func (PySem.W.fnOf "rounds" "rounds" (defArgs sRounds) (defBody sRounds) (defScope sRounds) .none kV9 dc9 pm9 an9 (.ref c) ct9), sl9⟩)
      (c9 : PySem.W.codeIn K (.ref c) "rounds" = true) (k9 : PySem.W.keepIn K (.ref f9) = true)
    (a10 : PySem.W.nsIn K mainGlobals "_law_begun" = some (some (.ref f10))) (l10 : K.lookup f10 = some ⟨oc10, od10, .func (PySem.W.fnOf "_law_begun" "_law_begun" (defArgs sBegun) (defBody sBegun) (defScope sBegun) .none kV10 dc10 pm10 an10 cd10 ct10), sl10⟩)
      (c10 : PySem.W.codeIn K cd10 "_law_begun" = true) (k10 : PySem.W.keepIn K (.ref f10) = true)
    (a11 : PySem.W.nsIn K mainGlobals "_law_draw" = some (some (.ref f11))) (l11 : K.lookup f11 = some ⟨oc11, od11, .func (PySem.W.fnOf "_law_draw" "_law_draw" (defArgs sDraw) (defBody sDraw) (defScope sDraw) .none kV11 dc11 pm11 an11 cd11 ct11), sl11⟩)
      (c11 : PySem.W.codeIn K cd11 "_law_draw" = true) (k11 : PySem.W.keepIn K (.ref f11) = true)
    (a12 : PySem.W.nsIn K mainGlobals "_law_shuffled" = some (some (.ref f12))) (l12 : K.lookup f12 = some ⟨oc12, od12, .func (PySem.W.fnOf "_law_shuffled" "_law_shuffled" (defArgs sShuf) (defBody sShuf) (defScope sShuf) .none kV12 dc12 pm12 an12 cd12 ct12), sl12⟩)
      (c12 : PySem.W.codeIn K cd12 "_law_shuffled" = true) (k12 : PySem.W.keepIn K (.ref f12) = true)
    (a13 : PySem.W.nsIn K mainGlobals "_law_areas" = some (some (.ref f13))) (l13 : K.lookup f13 = some ⟨oc13, od13, .func (PySem.W.fnOf "_law_areas" "_law_areas" (defArgs sAreas) (defBody sAreas) (defScope sAreas) .none kV13 dc13 pm13 an13 cd13 ct13), sl13⟩)
      (c13 : PySem.W.codeIn K cd13 "_law_areas" = true) (k13 : PySem.W.keepIn K (.ref f13) = true)
    (a14 : PySem.W.nsIn K mainGlobals "_law_triples" = some (some (.ref f14))) (l14 : K.lookup f14 = some ⟨oc14, od14, .func (PySem.W.fnOf "_law_triples" "_law_triples" (defArgs sTriples) (defBody sTriples) (defScope sTriples) .none kV14 dc14 pm14 an14 cd14 ct14), sl14⟩)
      (c14 : PySem.W.codeIn K cd14 "_law_triples" = true) (k14 : PySem.W.keepIn K (.ref f14) = true)
    (a15 : PySem.W.nsIn K mainGlobals "_law_some" = some (some (.ref f15))) (l15 : K.lookup f15 = some ⟨oc15, od15, .func (PySem.W.fnOf "_law_some" "_law_some" (defArgs sSome) (defBody sSome) (defScope sSome) .none kV15 dc15 pm15 an15 cd15 ct15), sl15⟩)
      (c15 : PySem.W.codeIn K cd15 "_law_some" = true) (k15 : PySem.W.keepIn K (.ref f15) = true)
    (a16 : PySem.W.nsIn K mainGlobals "_law_onward" = some (some (.ref f16))) (l16 : K.lookup f16 = some ⟨oc16, od16, .func (PySem.W.fnOf "_law_onward" "_law_onward" (defArgs sOn) (defBody sOn) (defScope sOn) .none kV16 dc16 pm16 an16 cd16 ct16), sl16⟩)
      (c16 : PySem.W.codeIn K cd16 "_law_onward" = true) (k16 : PySem.W.keepIn K (.ref f16) = true)
    (a17 : PySem.W.nsIn K mainGlobals "_law_round" = some (some (.ref f17))) (l17 : K.lookup f17 = some ⟨oc17, od17, .func (PySem.W.fnOf "_law_round" "_law_round" (defArgs sRound) (defBody sRound) (defScope sRound) .none kV17 dc17 pm17 an17 cd17 ct17), sl17⟩)
      (c17 : PySem.W.codeIn K cd17 "_law_round" = true) (k17 : PySem.W.keepIn K (.ref f17) = true)
    (a18 : PySem.W.nsIn K mainGlobals "_law_needed" = some (some (.ref f18))) (l18 : K.lookup f18 = some ⟨oc18, od18, .func (PySem.W.fnOf "_law_needed" "_law_needed" (defArgs sNeeded) (defBody sNeeded) (defScope sNeeded) .none kV18 dc18 pm18 an18 cd18 ct18), sl18⟩)
      (c18 : PySem.W.codeIn K cd18 "_law_needed" = true) (k18 : PySem.W.keepIn K (.ref f18) = true)
    (a19 : PySem.W.nsIn K mainGlobals "_law_turned" = some (some (.ref f19))) (l19 : K.lookup f19 = some ⟨oc19, od19, .func (PySem.W.fnOf "_law_turned" "_law_turned" (defArgs sTurned) (defBody sTurned) (defScope sTurned) .none kV19 dc19 pm19 an19 cd19 ct19), sl19⟩)
      (c19 : PySem.W.codeIn K cd19 "_law_turned" = true) (k19 : PySem.W.keepIn K (.ref f19) = true)
    (a20 : PySem.W.nsIn K mainGlobals "_law_way_right" = some (some (.ref f20))) (l20 : K.lookup f20 = some ⟨oc20, od20, .func (PySem.W.fnOf "_law_way_right" "_law_way_right" (defArgs sWay) (defBody sWay) (defScope sWay) .none kV20 dc20 pm20 an20 cd20 ct20), sl20⟩)
      (c20 : PySem.W.codeIn K cd20 "_law_way_right" = true) (k20 : PySem.W.keepIn K (.ref f20) = true)
    (a21 : PySem.W.nsIn K mainGlobals "law" = some (some (.ref f21))) (l21 : K.lookup f21 = some ⟨oc21, od21, .func (PySem.W.fnOf "law" "law" (defArgs sLaw) (defBody sLaw) (defScope sLaw) .none kV21 dc21 pm21 an21 cd21 ct21), sl21⟩)
      (c21 : PySem.W.codeIn K cd21 "law" = true) (k21 : PySem.W.keepIn K (.ref f21) = true)
    (z1 : PySem.W.nsIn K mainGlobals "isinstance" = some none)
    (z2 : PySem.W.nsIn K mainGlobals "int" = some none)
    (z3 : PySem.W.nsIn K mainGlobals "bool" = some none)
    (z4 : PySem.W.nsIn K mainGlobals "list" = some none)
    (z5 : PySem.W.nsIn K mainGlobals "tuple" = some none)
    (z6 : PySem.W.nsIn K mainGlobals "all" = some none)
    (z7 : PySem.W.nsIn K mainGlobals "len" = some none)
    (z8 : PySem.W.nsIn K mainGlobals "set" = some none)
    (z9 : PySem.W.nsIn K mainGlobals "max" = some none)
    (z10 : PySem.W.nsIn K mainGlobals "abs" = some none)
    (z11 : PySem.W.nsIn K mainGlobals "range" = some none)
    (z12 : PySem.W.nsIn K mainGlobals "sorted" = some none)
    (z13 : PySem.W.nsIn K mainGlobals "dict" = some none)
    (z14 : PySem.W.nsIn K mainGlobals "repr" = some none)
    (hc : PySem.W.codeHdIn K c T = true) (hT : K.lookup T = none) : LawTold l w K mg fa T := by
  have e := hfa.symm.trans (PySem.W.mg_of X G a21)
  cases e
  have F1 := fun_mk (st := sIsInt) l1 c1 k1
  have D1 : Df K mg "is_integer" sIsInt ["value"] f1 _ := ⟨F1, F1.binds fun _ _ _ _ _ _ us hl => match us, hl with | [_], _ => rfl, PySem.W.mg_of X G a1⟩
  have F2 := fun_mk (st := sDiff) l2 c2 k2
  have D2 : Df K mg "are_different" sDiff ["value"] f2 _ := ⟨F2, F2.binds fun _ _ _ _ _ _ us hl => match us, hl with | [_], _ => rfl, PySem.W.mg_of X G a2⟩
  have F3 := fun_mk (st := sTriple) l3 c3 k3
  have D3 : Df K mg "is_triple" sTriple ["value", "order"] f3 _ := ⟨F3, F3.binds fun _ _ _ _ _ _ us hl => match us, hl with | [_, _], _ => rfl, PySem.W.mg_of X G a3⟩
  have F4 := fun_mk (st := sNeedT) l4 c4 k4
  have D4 : Df K mg "need_transfers" sNeedT ["order", "transfers"] f4 _ := ⟨F4, F4.binds fun _ _ _ _ _ _ us hl => match us, hl with | [_, _], _ => rfl, PySem.W.mg_of X G a4⟩
  have F5 := fun_mk (st := sNeedN) l5 c5 k5
  have D5 : Df K mg "need_net" sNeedN ["order", "transfers", "first"] f5 _ := ⟨F5, F5.binds fun _ _ _ _ _ _ us hl => match us, hl with | [_, _, _], _ => rfl, PySem.W.mg_of X G a5⟩
  have F6 := fun_mk (st := sAg) l6 c6 k6
  have D6 : Df K mg "is_against" sAg ["order", "transfer"] f6 _ := ⟨F6, F6.binds fun _ _ _ _ _ _ us hl => match us, hl with | [_, _], _ => rfl, PySem.W.mg_of X G a6⟩
  have F7 := fun_mk (st := sAgainst) l7 c7 k7
  have D7 : Df K mg "against" sAgainst ["order", "transfers"] f7 _ := ⟨F7, F7.binds fun _ _ _ _ _ _ us hl => match us, hl with | [_, _], _ => rfl, PySem.W.mg_of X G a7⟩
  have F8 := fun_mk (st := sBest) l8 c8 k8
  have D8 : Df K mg "best_way" sBest ["order", "transfers", "area", "used"] f8 _ := ⟨F8, F8.binds fun _ _ _ _ _ _ us hl => match us, hl with | [_, _, _, _], _ => rfl, PySem.W.mg_of X G a8⟩
  have D9 : DfC K mg "rounds" sRounds ["order", "transfers", "first"] f9 _ c := ⟨⟨oc9, od9, kV9, dc9, pm9, an9, ct9, sl9, rfl, l9, c9⟩, k9, .all fun us hl => match us, hl with | [_, _, _], _ => rfl, PySem.W.mg_of X G a9⟩
  have F10 := fun_mk (st := sBegun) l10 c10 k10
  have D10 : Df K mg "_law_begun" sBegun ["_law_script"] f10 _ := ⟨F10, F10.binds fun _ _ _ _ _ _ us hl => match us, hl with | [_], _ => rfl, PySem.W.mg_of X G a10⟩
  have F11 := fun_mk (st := sDraw) l11 c11 k11
  have D11 : Df K mg "_law_draw" sDraw ["_law_state", "_law_bound"] f11 _ := ⟨F11, F11.binds fun _ _ _ _ _ _ us hl => match us, hl with | [_, _], _ => rfl, PySem.W.mg_of X G a11⟩
  have F12 := fun_mk (st := sShuf) l12 c12 k12
  have D12 : Df K mg "_law_shuffled" sShuf ["_law_state", "_law_some_here"] f12 _ := ⟨F12, F12.binds fun _ _ _ _ _ _ us hl => match us, hl with | [_, _], _ => rfl, PySem.W.mg_of X G a12⟩
  have F13 := fun_mk (st := sAreas) l13 c13 k13
  have D13 : Df K mg "_law_areas" sAreas ["_law_state", "_law_most"] f13 _ := ⟨F13, F13.binds fun _ _ _ _ _ _ us hl => match us, hl with | [_, _], _ => rfl, PySem.W.mg_of X G a13⟩
  have F14 := fun_mk (st := sTriples) l14 c14 k14
  have D14 : Df K mg "_law_triples" sTriples ["_law_state", "_law_nodes", "_law_most", "_law_is_free"] f14 _ := ⟨F14, F14.binds fun _ _ _ _ _ _ us hl => match us, hl with | [_, _, _, _], _ => rfl, PySem.W.mg_of X G a14⟩
  have F15 := fun_mk (st := sSome) l15 c15 k15
  have D15 : Df K mg "_law_some" sSome ["_law_state", "_law_things"] f15 _ := ⟨F15, F15.binds fun _ _ _ _ _ _ us hl => match us, hl with | [_, _], _ => rfl, PySem.W.mg_of X G a15⟩
  have F16 := fun_mk (st := sOn) l16 c16 k16
  have D16 : Df K mg "_law_onward" sOn ["_law_states", "_law_triples_here"] f16 _ := ⟨F16, F16.binds fun _ _ _ _ _ _ us hl => match us, hl with | [_, _], _ => rfl, PySem.W.mg_of X G a16⟩
  have F17 := fun_mk (st := sRound) l17 c17 k17
  have D17 : Df K mg "_law_round" sRound ["_law_line", "_law_triples_here", "_law_states"] f17 _ := ⟨F17, F17.binds fun _ _ _ _ _ _ us hl => match us, hl with | [_, _, _], _ => rfl, PySem.W.mg_of X G a17⟩
  have F18 := fun_mk (st := sNeeded) l18 c18 k18
  have D18 : Df K mg "_law_needed" sNeeded ["_law_line", "_law_triples_here", "_law_origin"] f18 _ := ⟨F18, F18.binds fun _ _ _ _ _ _ us hl => match us, hl with | [_, _, _], _ => rfl, PySem.W.mg_of X G a18⟩
  have F19 := fun_mk (st := sTurned) l19 c19 k19
  have D19 : Df K mg "_law_turned" sTurned ["_law_line", "_law_triple"] f19 _ := ⟨F19, F19.binds fun _ _ _ _ _ _ us hl => match us, hl with | [_, _], _ => rfl, PySem.W.mg_of X G a19⟩
  have F20 := fun_mk (st := sWay) l20 c20 k20
  have D20 : Df K mg "_law_way_right" sWay ["_law_line", "_law_triples_here", "_law_origin", "_law_way", "_law_many"] f20 _ := ⟨F20, F20.binds fun _ _ _ _ _ _ us hl => match us, hl with | [_, _, _, _, _], _ => rfl, PySem.W.mg_of X G a20⟩
  have B : Bl mg := ⟨PySem.W.mg_none_of X G z1, PySem.W.mg_none_of X G z2, PySem.W.mg_none_of X G z3, PySem.W.mg_none_of X G z4, PySem.W.mg_none_of X G z5, PySem.W.mg_none_of X G z6, PySem.W.mg_none_of X G z7, PySem.W.mg_none_of X G z8, PySem.W.mg_none_of X G z9, PySem.W.mg_none_of X G z10, PySem.W.mg_none_of X G z11, PySem.W.mg_none_of X G z12, PySem.W.mg_none_of X G z13, PySem.W.mg_none_of X G z14⟩
  refine ⟨c, hc, hT, fun s1 a ns base H hin hgl tb HT hS e0 => ?_⟩
  have all : AllD K mg c := ⟨_, _, _, _, _, _, _, _, _, _, _, _, _, _, _, _, _, _, _, _, _, _, _, _, _, _, _, _, _, _, _, _, _, _, _, _, _, _, _, _, D1, D2, D3, D4, D5, D6, D7, D8, D9, D10, D11, D12, D13, D14, D15, D16, D17, D18, D19, D20⟩
  refine LamX.run_ofS (k := 11) (N := lawN) (ps := ["_law_script"]) l21 c21 scLaw ⟨rfl, by decide, by decide⟩ e0 (us := [.ref a]) (vs := [.ref a]) (.of_eq rfl) (.cons rfl .nil) rfl fun hr => ?_
  obtain ⟨t, h1, h2⟩ := law_body (P := l.prog) (w := w) (A := callerA) (outer := []) (s0 := s1) (E := E0) (Q := fun v _ => v = .bl true) all B tb rfl hr hS (fun p hp => by rw [List.mem_singleton.mp hp]; exact LamX.TabS.nil HT) fun _ => rfl
  exact ⟨t, h1.nox, h2⟩
theorem walk {l : PySem.W.OpenLaw} {q : Program} {loose : List PySem.Str} {XP : (PySem.Str → Option Value) → Heap → Prop} {YP : World → Heap → Prop} {d : DefRec} {K : Params → PySem.W.Frag} {T : Addr} (hn : l.most = some 63) (hdf : d.params.defaults = [])
    (hY : ∀ (w : World) (h : Heap), YP w h → (K w.params).In h) (hTb : ∀ (w : World) (h : Heap), YP w h → h.get? T = some (PySem.W.tabObj #[]))
    (F : ∀ (w : World) (mg : PySem.Str → Option Value) (fa : Addr) (h : Heap), (K w.params).In h → h.Ns mainGlobals mg → mg d.name = some (.ref fa) → LawTold l w (K w.params) mg fa T) :
    PySem.W.WalkO q loose XP YP l.row.toRowW d [] (fun f vs => PySem.call f vs) := by
  refine Att.attach_callB hn hdf fun w s0 s1 mg mb fa o pm cd doc a vs ns G Y ho hd hcd hmg hobj hints hlen hbits hg => ?_
  have KX := hY w _ Y
  obtain ⟨c, hc, hT, run⟩ := F w mg fa _ KX G.T.g hmg
  exact law_here KX G.T.g G.T.b G.T.builtins G.T.nolimit hg (hTb w _ Y) hT hc G.T.bmain hobj hints (Nat.le_trans hlen (by decide)) fun base H b1 b2 b3 b4 b5 b6 => run s1 a ns base H b1 b2 b3 b4 b5 b6
end K48

set_option Elab.async false
set_option maxRecDepth 100000
open PySem PySem.W PyProof.Rows
set_option maxRecDepth 100000 in
set_option maxHeartbeats 0 in
theorem PySem.Challenge.cw_backmaps_k48_whole_rounds_by_all_runs_holds : PySem.Challenge.rw_backmaps_k48_whole_rounds_by_all_runs.Holds := by
  w_on; o_law; k_head; (case hw => w_witness2)
  k_fill
  refine K48.walk (T := 87) (l := PySem.Challenge.rw_backmaps_k48_whole_rounds_by_all_runs) rfl rfl (fun w h Y => PySem.W.km_in_of Y) (fun w h Y => PySem.W.km_tabs_of Y 87 (by simp)) ?F
  case F =>
    intro w mg fa h KX G hmg
    refine' K48.all_mk KX G hmg ?a1 ?l1 ?c1 ?k1 ?a2 ?l2 ?c2 ?k2 ?a3 ?l3 ?c3 ?k3 ?a4 ?l4 ?c4 ?k4 ?a5 ?l5 ?c5 ?k5 ?a6 ?l6 ?c6 ?k6 ?a7 ?l7 ?c7 ?k7 ?a8 ?l8 ?c8 ?k8 ?a9 ?l9 ?c9 ?k9 ?a10 ?l10 ?c10 ?k10 ?a11 ?l11 ?c11 ?k11 ?a12 ?l12 ?c12 ?k12 ?a13 ?l13 ?c13 ?k13 ?a14 ?l14 ?c14 ?k14 ?a15 ?l15 ?c15 ?k15 ?a16 ?l16 ?c16 ?k16 ?a17 ?l17 ?c17 ?k17 ?a18 ?l18 ?c18 ?k18 ?a19 ?l19 ?c19 ?k19 ?a20 ?l20 ?c20 ?k20 ?a21 ?l21 ?c21 ?k21 ?z1 ?z2 ?z3 ?z4 ?z5 ?z6 ?z7 ?z8 ?z9 ?z10 ?z11 ?z12 ?z13 ?z14 ?qc ?qT
    (case a1 => k_is); (case l1 => k_is); (case c1 => k_is); (case k1 => k_is)
    (case a2 => k_is); (case l2 => k_is); (case c2 => k_is); (case k2 => k_is)
    (case a3 => k_is); (case l3 => k_is); (case c3 => k_is); (case k3 => k_is)
    (case a4 => k_is); (case l4 => k_is); (case c4 => k_is); (case k4 => k_is)
    (case a5 => k_is); (case l5 => k_is); (case c5 => k_is); (case k5 => k_is)
    (case a6 => k_is); (case l6 => k_is); (case c6 => k_is); (case k6 => k_is)
    (case a7 => k_is); (case l7 => k_is); (case c7 => k_is); (case k7 => k_is)
    (case a8 => k_is); (case l8 => k_is); (case c8 => k_is); (case k8 => k_is)
    (case a9 => k_is); (case l9 => k_is); (case c9 => k_is); (case k9 => k_is)
    (case a10 => k_is); (case l10 => k_is); (case c10 => k_is); (case k10 => k_is)
    (case a11 => k_is); (case l11 => k_is); (case c11 => k_is); (case k11 => k_is)
    (case a12 => k_is); (case l12 => k_is); (case c12 => k_is); (case k12 => k_is)
    (case a13 => k_is); (case l13 => k_is); (case c13 => k_is); (case k13 => k_is)
    (case a14 => k_is); (case l14 => k_is); (case c14 => k_is); (case k14 => k_is)
    (case a15 => k_is); (case l15 => k_is); (case c15 => k_is); (case k15 => k_is)
    (case a16 => k_is); (case l16 => k_is); (case c16 => k_is); (case k16 => k_is)
    (case a17 => k_is); (case l17 => k_is); (case c17 => k_is); (case k17 => k_is)
    (case a18 => k_is); (case l18 => k_is); (case c18 => k_is); (case k18 => k_is)
    (case a19 => k_is); (case l19 => k_is); (case c19 => k_is); (case k19 => k_is)
    (case a20 => k_is); (case l20 => k_is); (case c20 => k_is); (case k20 => k_is)
    (case a21 => k_is); (case l21 => k_is); (case c21 => k_is); (case k21 => k_is)
    (case z1 => k_is); (case z2 => k_is); (case z3 => k_is); (case z4 => k_is)
    (case z5 => k_is); (case z6 => k_is); (case z7 => k_is); (case z8 => k_is)
    (case z9 => k_is); (case z10 => k_is); (case z11 => k_is); (case z12 => k_is)
    (case z13 => k_is); (case z14 => k_is); (case qc => kernel_rfl); (case qT => kernel_rfl)
