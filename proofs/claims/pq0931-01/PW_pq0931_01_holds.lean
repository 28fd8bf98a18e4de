import PyProof.Rows.All
import Wide.All
import OpenK.AllK
import Wide.FinOn
import KE.KSortTup
import PySem.Challenge.RW_pq0931_01

set_option Elab.async false
set_option linter.all false

section
open PySem PySem.W PyProof.Rows
set_option maxRecDepth 100000
set_option maxHeartbeats 8000000
namespace Mini
noncomputable def viewQ : Program := { PySem.Challenge.pw_pq0931_01 with main := { PySem.Challenge.pw_pq0931_01.main with body := ((PySem.Challenge.pw_pq0931_01.main.body.eraseIdx 16).eraseIdx 4).eraseIdx 1 } }
-- what the row says of itself, look by look
theorem said_ : PySem.Challenge.rw_pq0931_01.wellSaid = true := by
  unfold OpenLaw.wellSaid
  repeat' with_reducible refine look_both ?_ ?_
  all_goals try unfold OpenRow.wellSaid
  all_goals repeat' with_reducible refine look_both ?_ ?_
  all_goals try unfold OpenRow.partSaid
  all_goals repeat' with_reducible refine look_both ?_ ?_
  all_goals try unfold looksOpen
  all_goals repeat' with_reducible refine look_both ?_ ?_
  all_goals decide +kernel
theorem head_ (H : Hook) {d : DefRec} {kwd : List (Str × PySem.Expr)}
    (hl : LeftO PySem.Challenge.rw_pq0931_01.row.prog viewQ [PySem.Str.ofString "PostError"] (fun s => xlAt viewQ [] s && recOk (RowW.records PySem.Challenge.rw_pq0931_01.row.toRowW) s) H.obs H.val 2858)
    (h1 : defOf viewQ PySem.Challenge.rw_pq0931_01.row.name = some (d, kwd)) (h2 : PySem.Challenge.rw_pq0931_01.row.prog.theDef PySem.Challenge.rw_pq0931_01.row.name = some (d.params, d.body, d.scope)) (h3 : kwWritten? d.params.kwonlyargs d.params.kw_defaults = some kwd)
    (hw : PySem.Challenge.rw_pq0931_01.row.toRowW.promised) (hc : WalkO viewQ [PySem.Str.ofString "PostError"] (XL viewQ []) H.says PySem.Challenge.rw_pq0931_01.row.toRowW d kwd fun f vs => PySem.call f vs) : PySem.Challenge.rw_pq0931_01.row.Holds :=
  PySem.W.holds_open hl H.of H.keeps (fun s e => xl_of s (Bool.and_eq_true_iff.mp e).1) XL.keeps h1 h2 h3 (fun s e => recFacts_of (Bool.and_eq_true_iff.mp e).2) (by rfl) (row_said said_) (by decide +kernel) ⟨rfl, rfl, rfl, rfl, rfl, by decide +kernel⟩ hw hc
end Mini
-- the head's run, by the library's quick twins
local macro_rules | `(tactic| o_head $H) => `(tactic| refine Mini.head_ $H (by intro w; unfold openEnds topFrom fencedOpening; rw [PySem.W.Fast.te14082659384304107361, PySem.W.Fast.te14364793385576792824, PySem.W.Fast.te10274390034422433532, PySem.W.Fast.te14289696077712309145, PySem.W.Fast.te8920871248978507458, PySem.W.Fast.te1435165496053646825]; kernel_rfl) rfl rfl rfl ?hw ?hc)
local macro_rules | `(tactic| o_law) => `(tactic| refine holds_law Mini.said_ fun said => ?_)
open_top Mini.hd for PySem.Challenge.rw_pq0931_01
end

section
open PySem PySem.W PyProof.Rows
set_option maxRecDepth 100000
namespace Mini

noncomputable def kasP {α : Type} (n : Nat) (lt : Nat → Nat → Bool) : KasT α → (α → Prop) → Prop
  | .ret a, Q => Q a
  | .ask i j k, Q => i < n ∧ j < n ∧ kasP n lt (k (lt i j)) Q
theorem kasP_bind {α β : Type} {n : Nat} {lt : Nat → Nat → Bool} {f : α → KasT β} {Q : β → Prop} : ∀ {t : KasT α}, kasP n lt t (fun a => kasP n lt (f a) Q) → kasP n lt (t.bind f) Q
  | .ret _, h => h
  | .ask _ _ _, ⟨h1, h2, h3⟩ => ⟨h1, h2, kasP_bind h3⟩
theorem kasP_wp {α : Type} {n : Nat} {lt : Nat → Nat → Bool} {Q : α → Prop} {ask : Nat → Nat → (Bool → Shared → Prop) → Shared → Prop} {G : α → Shared → Prop} {s : Shared} (ha : ∀ i j C, i < n → j < n → C (lt i j) s → ask i j C s) : ∀ {t : KasT α}, kasP n lt t Q → (∀ a, Q a → G a s) → t.kasWp ask G s
  | .ret _, h, hg => hg _ h
  | .ask i j k, ⟨h1, h2, h3⟩, hg => ha i j _ h1 h2 (kasP_wp ha h3 hg)

structure Tot (lt : Nat → Nat → Bool) : Prop where
  tr : ∀ a b c, lt b a = false → lt c b = false → lt c a = false
  as : ∀ a b, lt a b = true → lt b a = false
theorem Tot.rfl {lt : Nat → Nat → Bool} (T : Tot lt) (a : Nat) : lt a a = false := by
  cases h : lt a a with
  | false => rfl
  | true => have := T.as a a h; rw [h] at this; cases this
theorem Tot.lt_le {lt : Nat → Nat → Bool} (T : Tot lt) {a b c : Nat} (h1 : lt a b = true) (h2 : lt c b = false) : lt a c = true := by
  cases h : lt a c with
  | true => rfl
  | false => have := T.tr b c a h2 h; rw [h1] at this; cases this

section
variable {n : Nat} {lt : Nat → Nat → Bool}
noncomputable abbrev K (p : Array Nat) (i : Nat) : Nat := p.getD i 0
noncomputable def Srt (lt : Nat → Nat → Bool) (p : Array Nat) (m : Nat) : Prop := ∀ i j, i ≤ j → j < m → lt (K p j) (K p i) = false
noncomputable def Nin (lt : Nat → Nat → Bool) (p : Array Nat) (m : Nat) : Prop := ∀ i j, i ≤ j → j < m → lt (K p i) (K p j) = false
noncomputable def PR (n : Nat) (p : Array Nat) : Prop := p.Perm (List.range n).toArray
theorem PR.size {p : Array Nat} (h : PR n p) : p.size = n := by have := h.size_eq; simpa using this
theorem PR.bd {p : Array Nat} (h : PR n p) (hn : 0 < n) (i : Nat) : K p i < n := by
  unfold K
  by_cases hi : i < p.size
  · have e : p.getD i 0 = p[i] := by simp [Array.getD, hi]
    rw [e]
    have : p[i] ∈ p := Array.getElem_mem hi
    have := h.mem_iff.mp this
    simpa using this
  · have e : p.getD i 0 = 0 := by simp [Array.getD, hi]
    rw [e]; exact hn
theorem K_of {p q : Array Nat} {i j : Nat} (h : p[i]? = q[j]?) : K p i = K q j := by
  unfold K
  rw [Array.getD_eq_getD_getElem?, Array.getD_eq_getD_getElem?, h]
theorem K_rev {p : Array Nat} {i j : Nat} (hj : j ≤ p.size) (k : Nat) : K (kas_rev p i j) k = if i ≤ k ∧ k < j then K p (i + j - 1 - k) else K p k := by
  have e := getElem?_mirror_all (i := i) hj k
  unfold kas_rev
  by_cases h1 : i ≤ k ∧ k < j
  · rw [if_pos h1] at e ⊢; exact K_of e
  · rw [if_neg h1] at e ⊢; exact K_of e
theorem K_bub {p : Array Nat} {src d : Nat} (hs : src < p.size) (hd : d ≤ src) (k : Nat) :
    K (bubble p src d) k = if k = src - d then K p src else if src - d < k ∧ k ≤ src then K p (k - 1) else K p k := by
  have e := getElem?_bubble hs d hd k
  by_cases h1 : k = src - d
  · rw [if_pos h1] at e ⊢; exact K_of e
  · rw [if_neg h1] at e ⊢
    by_cases h2 : src - d < k ∧ k ≤ src
    · rw [if_pos h2] at e ⊢; exact K_of e
    · rw [if_neg h2] at e ⊢; exact K_of e
theorem PR.rev {p : Array Nat} (h : PR n p) (i j : Nat) : PR n (kas_rev p i j) := (mirror_perm _ _ _ _).trans h
theorem PR.bub {p : Array Nat} (h : PR n p) (i j : Nat) : PR n (bubble p i j) := (bubble_perm _ _ _).trans h

theorem Srt.succ (T : Tot lt) {p : Array Nat} {m : Nat} (h : Srt lt p m) (hm : 1 ≤ m) (h2 : lt (K p m) (K p (m - 1)) = false) : Srt lt p (m + 1) := fun i j hij hj => by
  by_cases hjm : j < m
  · exact h i j hij hjm
  · have : j = m := by lia
    subst this
    by_cases hi : i = j
    · subst hi; exact T.rfl _
    · exact T.tr _ (K p (j - 1)) _ (h i (j - 1) (by lia) (by lia)) h2
theorem Nin.succ (T : Tot lt) {p : Array Nat} {m : Nat} (h : Nin lt p m) (hm : 1 ≤ m) (h2 : lt (K p (m - 1)) (K p m) = false) : Nin lt p (m + 1) := fun i j hij hj => by
  by_cases hjm : j < m
  · exact h i j hij hjm
  · have : j = m := by lia
    subst this
    by_cases hi : i = j
    · subst hi; exact T.rfl _
    · exact T.tr _ (K p (j - 1)) _ h2 (h i (j - 1) (by lia) (by lia))

theorem asc_ok (T : Tot lt) {p : Array Nat} (hp : PR n p) (hn : 0 < n) {Q : Nat → Prop} : ∀ (f m : Nat), 1 ≤ m → Srt lt p m → (∀ k, m ≤ k → k ≤ m + f → Srt lt p k → (k = m + f ∨ lt (K p k) (K p (k - 1)) = true) → Q k) → kasP n lt (kas_asc p f m) Q
  | 0, m, _, hs, h => h m (Nat.le_refl _) (Nat.le_refl _) hs (.inl rfl)
  | f + 1, m, hm, hs, h => by
    refine ⟨hp.bd hn _, hp.bd hn _, ?_⟩
    cases hc : lt (K p m) (K p (m - 1)) with
    | true =>
      show kasP n lt (KasT.ret m) Q
      exact h m (Nat.le_refl _) (by lia) hs (.inr hc)
    | false =>
      show kasP n lt (kas_asc p f (m + 1)) Q
      exact asc_ok T hp hn f (m + 1) (by lia) (hs.succ T hm hc) fun k h1 h2 h3 h4 => h k (by lia) (by lia) h3 (h4.imp (fun e => by lia) id)

/-- equal, by the order -/
noncomputable def Eqv (lt : Nat → Nat → Bool) (a b : Nat) : Prop := lt a b = false ∧ lt b a = false
theorem Eqv.symm {a b : Nat} (h : Eqv lt a b) : Eqv lt b a := ⟨h.2, h.1⟩
theorem Eqv.trans (T : Tot lt) {a b c : Nat} (h : Eqv lt a b) (g : Eqv lt b c) : Eqv lt a c := ⟨T.tr _ _ _ g.1 h.1, T.tr _ _ _ h.2 g.2⟩
theorem Eqv.le (T : Tot lt) {a b c d : Nat} (h : Eqv lt a b) (g : Eqv lt c d) (e : lt a c = false) : lt b d = false := T.tr d c b g.1 (T.tr c a b e h.2)
theorem Eqv.lt' (T : Tot lt) {a b c d : Nat} (h : Eqv lt a b) (g : Eqv lt c d) (e : lt a c = true) : lt b d = true := by
  cases q : lt b d with
  | true => rfl
  | false => have := Eqv.le T h.symm g.symm q; rw [e] at this; cases this

/-- a block of equals, turned round -/
theorem rev_eqv (T : Tot lt) {p : Array Nat} {a b : Nat} (hb : b ≤ p.size) (h : ∀ i, a ≤ i → i < b → Eqv lt (K p i) (K p (b - 1))) (k : Nat) : Eqv lt (K (kas_rev p a b) k) (K p k) := by
  rw [K_rev hb]
  split
  · rename_i hk
    exact (h _ (by lia) (by lia)).trans T (h k hk.1 hk.2).symm
  · exact ⟨T.rfl _, T.rfl _⟩
theorem Nin.eqv (T : Tot lt) {p q : Array Nat} {m : Nat} (h : Nin lt p m) (e : ∀ k, Eqv lt (K q k) (K p k)) : Nin lt q m := fun i j hij hj => Eqv.le T (e i).symm (e j).symm (h i j hij hj)

theorem desc_ok (T : Tot lt) (hn : 0 < n) {Q : Array Nat × Nat × Nat → Prop} : ∀ (f : Nat) (p : Array Nat) (m q : Nat), PR n p → m + f ≤ n → 1 ≤ m → Nin lt p m → q + 1 ≤ m → (∀ i, m - (q + 1) ≤ i → i < m → Eqv lt (K p i) (K p (m - 1))) →
    (∀ p' k q', PR n p' → m ≤ k → k ≤ m + f → Nin lt p' k → q' + 1 ≤ k → (∀ i, k - (q' + 1) ≤ i → i < k → Eqv lt (K p' i) (K p' (k - 1))) → Q (p', k, q')) → kasP n lt (kas_desc f p m q) Q
  | 0, p, m, q, hp, _, _, h1, h2, h3, h => h p m q hp (Nat.le_refl _) (Nat.le_refl _) h1 h2 h3
  | f + 1, p, m, q, hp, hmf, hm, h1, h2, h3, h => by
    have hsz := hp.size
    refine ⟨hp.bd hn _, hp.bd hn _, ?_⟩
    cases hc : lt (p.getD m 0) (p.getD (m - 1) 0) with
    | true =>
      simp only [if_true]
      by_cases hq : q > 0
      · rw [if_pos hq]
        have ev := rev_eqv T (p := p) (a := m - (q + 1)) (b := m) (by lia) h3
        refine desc_ok T hn f _ (m + 1) 0 (hp.rev _ _) (by lia) (by lia) (Nin.succ T (h1.eqv T ev) hm ?_) (by lia) (fun i a b => ?_) fun p' k q' a b c d e g => h p' k q' a (by lia) (by lia) d e g
        · exact Eqv.le T (ev _).symm (ev _).symm (T.as _ _ hc)
        · have : i = m := by lia
          subst this; exact ⟨T.rfl _, T.rfl _⟩
      · rw [if_neg hq]
        refine desc_ok T hn f _ (m + 1) 0 hp (by lia) (by lia) (Nin.succ T h1 hm (T.as _ _ hc)) (by lia) (fun i a b => ?_) fun p' k q' a b c d e g => h p' k q' a (by lia) (by lia) d e g
        have : i = m := by lia
        subst this; exact ⟨T.rfl _, T.rfl _⟩
    | false =>
      simp only [Bool.false_eq_true, if_false]
      refine ⟨hp.bd hn _, hp.bd hn _, ?_⟩
      cases hd : lt (p.getD (m - 1) 0) (p.getD m 0) with
      | true =>
        simp only [if_true]
        exact h p m q hp (Nat.le_refl _) (by lia) h1 h2 h3
      | false =>
        simp only [Bool.false_eq_true, if_false]
        refine desc_ok T hn f p (m + 1) (q + 1) hp (by lia) (by lia) (Nin.succ T h1 hm hd) (by lia) (fun i a b => ?_) fun p' k q' a b c d e g => h p' k q' a (by lia) (by lia) d e g
        have em : Eqv lt (K p (m - 1)) (K p m) := ⟨hd, hc⟩
        by_cases hi : i = m
        · subst hi; exact ⟨T.rfl _, T.rfl _⟩
        · exact (h3 i (by lia) (by lia)).trans T em

theorem tail3_ok (T : Tot lt) (hn : 0 < n) {Q : Nat × Array Nat → Prop} {m : Nat} {p : Array Nat} (hp : PR n p) (hm : 1 ≤ m) (hmn : m ≤ n) (hs : Nin lt p m) (h : ∀ k p', PR n p' → 1 ≤ k → k ≤ n → Srt lt p' k → Q (k, p')) : kasP n lt (kas_tail3 m n p) Q := by
  unfold kas_tail3
  refine kasP_bind (asc_ok T (hp.rev 0 m) hn (n - m) m hm (fun i j hij hj => ?_) fun k h1 h2 h3 _ => h k _ (hp.rev 0 m) (by lia) (by lia) h3)
  have hsz := hp.size
  rw [K_rev (by lia), K_rev (by lia), if_pos (by lia), if_pos (by lia)]
  exact hs _ _ (by lia) (by lia)

theorem descPart_ok (T : Tot lt) (hn : 0 < n) {Q : Nat × Array Nat → Prop} {m : Nat} {p : Array Nat} (hp : PR n p) (hmn : m + 1 ≤ n) (hs : Nin lt p (m + 1)) (h : ∀ k p', PR n p' → 1 ≤ k → k ≤ n → Srt lt p' k → Q (k, p')) : kasP n lt (kas_descPart m n p) Q := by
  unfold kas_descPart
  refine kasP_bind (desc_ok T hn (n - (m + 1)) p (m + 1) 0 hp (by lia) (by lia) hs (by lia) (fun i a b => ?_) fun p' k q' h1 h2 h3 h4 h5 h6 => ?_)
  · have : i = m := by lia
    subst this; exact ⟨T.rfl _, T.rfl _⟩
  · dsimp only
    have hsz := h1.size
    by_cases hq : q' > 0
    · rw [if_pos hq]
      exact tail3_ok T hn (h1.rev _ _) (by lia) (by lia) (h4.eqv T (rev_eqv T (by lia) h6)) h
    · rw [if_neg hq]
      exact tail3_ok T hn h1 (by lia) (by lia) h4 h

theorem count_ok (T : Tot lt) (hn : 0 < n) {Q : Nat × Array Nat → Prop} {p : Array Nat} (hp : PR n p) (h : ∀ k p', PR n p' → 1 ≤ k → k ≤ n → Srt lt p' k → Q (k, p')) : kasP n lt (kas_count n p) Q := by
  unfold kas_count
  have hsz := hp.size
  refine kasP_bind (asc_ok T hp hn (n - 1) 1 (Nat.le_refl _) (fun i j hij hj => by have e : i = j := (by lia); subst e; exact T.rfl _) fun m h1 h2 h3 h4 => ?_)
  by_cases hmn : m = n
  · rw [if_pos (by simpa using hmn)]
    exact h m p hp h1 (by lia) h3
  · rw [if_neg (by simpa using hmn)]
    have hl : lt (K p m) (K p (m - 1)) = true := h4.resolve_left (by lia)
    by_cases h1m : m > 1
    · rw [if_pos h1m]
      refine ⟨hp.bd hn _, hp.bd hn _, ?_⟩
      cases hc : lt (p.getD 0 0) (p.getD (m - 1) 0) with
      | true => simp only [if_true]; exact h m p hp h1 (by lia) h3
      | false =>
        simp only [Bool.false_eq_true, if_false]
        -- all of the run are equals
        have eq : ∀ i, i < m → Eqv lt (K p i) (K p (m - 1)) := fun i hi => ⟨T.tr _ _ _ hc (h3 0 i (by lia) (by lia)), h3 i (m - 1) (by lia) (by lia)⟩
        have ev := rev_eqv T (p := p) (a := 0) (b := m) (by lia) fun i _ hi => eq i hi
        refine descPart_ok T hn (hp.rev 0 m) (by lia) (Nin.succ T (m := m) (fun i j hij hj => ?_) (by lia) ?_) h
        · exact ((ev i).trans T ((eq i (by lia)).trans T ((eq j (by lia)).symm.trans T (ev j).symm))).1
        · exact T.as _ _ (Eqv.lt' T (ev m).symm (ev (m - 1)).symm hl)
    · rw [if_neg h1m]
      have : m = 1 := by lia
      subst this
      exact descPart_ok T hn hp (by lia) (Nin.succ T (m := 1) (fun i j hij hj => by have e : i = j := (by lia); subst e; exact T.rfl _) (by lia) (T.as _ _ hl)) h

theorem place_ok (T : Tot lt) (hn : 0 < n) {p : Array Nat} (hp : PR n p) {k : Nat} (hs : Srt lt p k) {Q : Nat → Prop} : ∀ (f l r : Nat), l ≤ r → r ≤ k → r - l ≤ f → (∀ i, i < l → lt (K p k) (K p i) = false) → (∀ i, r ≤ i → i < k → lt (K p k) (K p i) = true) →
    (∀ l, l ≤ k → (∀ i, i < l → lt (K p k) (K p i) = false) → (∀ i, l ≤ i → i < k → lt (K p k) (K p i) = true) → Q l) → kasP n lt (kas_place p k f l r) Q
  | 0, l, r, h1, h2, h3, h4, h5, h => h l (by lia) h4 (fun i a b => h5 i (by lia) b)
  | f + 1, l, r, h1, h2, h3, h4, h5, h => by
    unfold kas_place
    by_cases hlr : l ≥ r
    · rw [if_pos hlr]
      exact h l (by lia) h4 (fun i a b => h5 i (by lia) b)
    · rw [if_neg hlr]
      refine ⟨hp.bd hn _, hp.bd hn _, ?_⟩
      cases hc : lt (p.getD k 0) (p.getD ((l + r) / 2) 0) with
      | true =>
        simp only [if_true]
        refine place_ok T hn hp hs f l ((l + r) / 2) (by lia) (by lia) (by lia) h4 (fun i a b => ?_) h
        exact T.lt_le hc (hs _ i a b)
      | false =>
        simp only [Bool.false_eq_true, if_false]
        refine place_ok T hn hp hs f ((l + r) / 2 + 1) r (by lia) h2 (by lia) (fun i a => ?_) h5 h
        exact T.tr _ _ _ (hs i ((l + r) / 2) (by lia) (by lia)) hc

theorem bin_ok (T : Tot lt) (hn : 0 < n) {Q : Array Nat → Prop} : ∀ (f : Nat) (p : Array Nat) (k : Nat), PR n p → Srt lt p k → k + f = n → (∀ p', PR n p' → Srt lt p' n → Q p') → kasP n lt (kas_bin f p k) Q
  | 0, p, k, hp, hs, hk, h => h p hp (by rw [← hk]; exact hs)
  | f + 1, p, k, hp, hs, hk, h => by
    unfold kas_bin
    have hsz := hp.size
    refine kasP_bind (place_ok T hn hp hs k 0 k (Nat.zero_le _) (Nat.le_refl _) (by lia) (fun i hi => absurd hi (by lia)) (fun i a b => absurd b (by lia)) fun l h1 h2 h3 => ?_)
    refine bin_ok T hn f _ (k + 1) (hp.bub _ _) (fun i j hij hj => ?_) (by lia) h
    have e : k - (k - l) = l := by lia
    rw [K_bub (by lia) (by lia), K_bub (by lia) (by lia), e]
    by_cases hj1 : j = l
    · rw [if_pos hj1]
      by_cases hi1 : i = l
      · rw [if_pos hi1]; exact T.rfl _
      · rw [if_neg hi1, if_neg (by lia)]
        exact h2 i (by lia)
    · rw [if_neg hj1]
      by_cases hj2 : l < j ∧ j ≤ k
      · rw [if_pos hj2]
        by_cases hi1 : i = l
        · rw [if_pos hi1]; exact T.as _ _ (h3 (j - 1) (by lia) (by lia))
        · rw [if_neg hi1]
          by_cases hi2 : l < i ∧ i ≤ k
          · rw [if_pos hi2]; exact hs (i - 1) (j - 1) (by lia) (by lia)
          · rw [if_neg hi2]; exact hs i (j - 1) (by lia) (by lia)
      · rw [if_neg hj2]
        rw [if_neg (by lia), if_neg (by lia)]
        exact hs i j hij (by lia)

theorem sort_ok (T : Tot lt) (hn : 2 ≤ n) {Q : Array Nat → Prop} (h : ∀ p, PR n p → Srt lt p n → Q p) : kasP n lt (kas_sort n) Q := by
  unfold kas_sort
  refine kasP_bind (count_ok T (by lia) (Array.Perm.refl _) fun k p hp h1 h2 hs => ?_)
  dsimp only
  by_cases hk : k < n
  · rw [if_pos hk]
    have : max k 1 = k := by lia
    rw [this]
    exact bin_ok T (by lia) (n - k) p k hp hs (by lia) h
  · rw [if_neg hk]
    have : k = n := by lia
    subst this
    exact h p hp hs
end
end Mini
end

section
open PySem PySem.W PyProof.Rows
set_option maxRecDepth 100000
namespace Mini

inductive V where
  | none | bool (b : Bool) | int (i : Int) | str (s : Str)
  | tup (vs : List V) | lst (vs : List V) | rng (n : Nat) | raw (v : Value)

noncomputable abbrev seqO (T : String) (vs : List Value) (n : Nat) : Obj := { cls := .type T, dict := Option.none, data := .seq vs.toArray n, slots := #[] }
noncomputable abbrev tupO := seqO "tuple"
noncomputable abbrev lstO := seqO "list"

mutual
noncomputable def Rep (h : Heap) (av : Addr → Prop) : V → Value → Prop
  | .none, v => v = .none
  | .bool b, v => v = .bool b
  | .int i, v => ∃ t, v = .int i t
  | .str x, v => ∃ t, v = .str x t
  | .tup Vs, v => ∃ a vs n, v = .ref a ∧ ¬ av a ∧ h.get? a = some (tupO vs n) ∧ RepL h av Vs vs
  | .lst Vs, v => ∃ a vs n, v = .ref a ∧ ¬ av a ∧ h.get? a = some (lstO vs n) ∧ RepL h av Vs vs
  | .rng n, v => ∃ a t u x, v = .ref a ∧ ¬ av a ∧ IsRange h a 0 n 1 t u x ∧ n < 2 ^ 60
  | .raw r, v => v = r
noncomputable def RepL (h : Heap) (av : Addr → Prop) : List V → List Value → Prop
  | [], vs => vs = []
  | V :: Vs, vs => ∃ v us, vs = v :: us ∧ Rep h av V v ∧ RepL h av Vs us
end

/-- an object that is no dict stays; a dict stays up to its slots -/
noncomputable def Kept (o : Obj) (x : Option Obj) : Prop := x = some o ∨ ((∃ es n, o.data = .dict es n) ∧ ∃ sl, x = some { o with slots := sl })
theorem Kept.there {o : Obj} {x : Option Obj} (k : Kept o x) : x.isSome := by
  rcases k with rfl | ⟨_, _, rfl⟩ <;> rfl
theorem Kept.exact {o : Obj} {x : Option Obj} (k : Kept o x) (h : ∀ es n, o.data ≠ .dict es n) : x = Option.some o := k.elim id fun ⟨⟨es, n, q⟩, _⟩ => absurd q (h es n)
theorem Kept.trans {o : Obj} {x y : Option Obj} (k : Kept o x) (h : ∀ o', x = Option.some o' → Kept o' y) : Kept o y := by
  rcases k with rfl | ⟨c, sl, rfl⟩
  · exact h o rfl
  · rcases h _ rfl with rfl | ⟨_, sl', rfl⟩
    · exact .inr ⟨c, sl, rfl⟩
    · exact .inr ⟨c, sl', rfl⟩
theorem Kept.ns {h h' : Heap} {a : Addr} {m : Str → Option Value} (hn : h.Ns a m) (k : ∀ o, h.get? a = some o → Kept o (h'.get? a)) : h'.Ns a m := by
  obtain ⟨o, es, ep, ho, hd, r⟩ := hn
  rcases k o ho with e | ⟨_, sl, e⟩
  · exact ⟨o, es, ep, e, hd, r⟩
  · exact ⟨_, es, ep, e, hd, r⟩
theorem Kept.cell {h h' : Heap} {a : Addr} {v : Option Value} (hn : h.IsCell a v) (k : ∀ o, h.get? a = some o → Kept o (h'.get? a)) : h'.IsCell a v := by
  obtain ⟨o, ho, hd⟩ := hn
  rcases k o ho with e | ⟨_, sl, e⟩
  · exact ⟨o, e, hd⟩
  · exact ⟨_, e, hd⟩
/-- an object of data: a list's, a tuple's, a range's -/
noncomputable def DD (o : Obj) : Prop := (∃ xs n, o.data = .seq xs n) ∨ ((o.cls = .type "range" ∨ o.cls = .none) ∧ ∃ vs, o.data = .fields vs)
theorem DD.nodict {o : Obj} (d : DD o) : ∀ es n, o.data ≠ .dict es n := fun es n e => by
  rcases d with ⟨xs, k, q⟩ | ⟨_, vs, q⟩ <;> rw [e] at q <;> cases q

mutual
theorem Rep.mono {h h' : Heap} {av av' : Addr → Prop} (k : ∀ b o, h.get? b = some o → DD o → ¬ av b → h'.get? b = some o) (ka : ∀ b, (h.get? b).isSome → ¬ av b → ¬ av' b) : ∀ {V : V} {v : Value}, Rep h av V v → Rep h' av' V v
  | .none, _, r => r
  | .bool _, _, r => r
  | .int _, _, r => r
  | .str _, _, r => r
  | .tup Vs, _, r => by
    simp only [Rep] at r ⊢
    obtain ⟨a, vs, n, e, na, g, rl⟩ := r
    exact ⟨a, vs, n, e, ka a (by rw [g]; rfl) na, k a _ g (.inl ⟨_, _, rfl⟩) na, RepL.mono k ka rl⟩
  | .lst Vs, _, r => by
    simp only [Rep] at r ⊢
    obtain ⟨a, vs, n, e, na, g, rl⟩ := r
    exact ⟨a, vs, n, e, ka a (by rw [g]; rfl) na, k a _ g (.inl ⟨_, _, rfl⟩) na, RepL.mono k ka rl⟩
  | .rng n, _, r => by
    simp only [Rep] at r ⊢
    obtain ⟨a, t, u, x, e, na, g, hn⟩ := r
    exact ⟨a, t, u, x, e, ka a (by rw [g]; rfl) na, k a _ g (.inr ⟨.inl rfl, _, rfl⟩) na, hn⟩
  | .raw _, _, r => r
theorem RepL.mono {h h' : Heap} {av av' : Addr → Prop} (k : ∀ b o, h.get? b = some o → DD o → ¬ av b → h'.get? b = some o) (ka : ∀ b, (h.get? b).isSome → ¬ av b → ¬ av' b) : ∀ {Vs : List V} {vs : List Value}, RepL h av Vs vs → RepL h' av' Vs vs
  | [], _, r => r
  | _ :: _, _, r => by
    simp only [RepL] at r ⊢
    obtain ⟨v, us, e, a, b⟩ := r
    exact ⟨v, us, e, Rep.mono k ka a, RepL.mono k ka b⟩
end

theorem RepL.length {h : Heap} {av : Addr → Prop} : ∀ {Vs : List V} {vs : List Value}, RepL h av Vs vs → vs.length = Vs.length
  | [], _, r => by rw [RepL] at r; rw [r]; rfl
  | _ :: _, _, r => by
    simp only [RepL] at r
    obtain ⟨v, us, rfl, _, b⟩ := r
    simp [RepL.length b]
theorem RepL.get {h : Heap} {av : Addr → Prop} : ∀ {Vs : List V} {vs : List Value} {i : Nat} {W : V}, RepL h av Vs vs → Vs[i]? = some W → ∃ v, vs[i]? = some v ∧ Rep h av W v
  | [], _, _, _, _, e => by simp at e
  | _ :: _, _, 0, _, r, e => by
    simp only [RepL] at r
    obtain ⟨v, us, rfl, a, b⟩ := r
    simp only [List.getElem?_cons_zero, Option.some.injEq] at e
    subst e
    exact ⟨v, rfl, a⟩
  | _ :: _, _, i + 1, _, r, e => by
    simp only [RepL] at r
    obtain ⟨v, us, rfl, a, b⟩ := r
    simp only [List.getElem?_cons_succ] at e ⊢
    exact RepL.get b e
theorem RepL.append {h : Heap} {av : Addr → Prop} : ∀ {Vs Ws : List V} {vs ws : List Value}, RepL h av Vs vs → RepL h av Ws ws → RepL h av (Vs ++ Ws) (vs ++ ws)
  | [], _, _, _, r, q => by rw [RepL] at r; subst r; exact q
  | _ :: _, _, _, _, r, q => by
    simp only [RepL] at r
    obtain ⟨v, us, rfl, a, b⟩ := r
    simp only [List.cons_append, RepL]
    exact ⟨v, _, rfl, a, RepL.append b q⟩
theorem RepL.one {h : Heap} {av : Addr → Prop} {W : V} {v : Value} (r : Rep h av W v) : RepL h av [W] [v] := by
  simp only [RepL]; exact ⟨v, [], rfl, r, rfl⟩
theorem RepL.drop {h : Heap} {av : Addr → Prop} : ∀ {Vs : List V} {vs : List Value} (n : Nat), RepL h av Vs vs → RepL h av (Vs.drop n) (vs.drop n)
  | _, _, 0, r => r
  | [], _, n + 1, r => by rw [RepL] at r; subst r; simp [RepL]
  | _ :: _, _, n + 1, r => by
    simp only [RepL] at r
    obtain ⟨v, us, rfl, a, b⟩ := r
    simpa using RepL.drop n b
theorem RepL.take {h : Heap} {av : Addr → Prop} : ∀ {Vs : List V} {vs : List Value} (n : Nat), RepL h av Vs vs → RepL h av (Vs.take n) (vs.take n)
  | _, _, 0, _ => by simp [RepL]
  | [], _, n + 1, r => by rw [RepL] at r; subst r; simp [RepL]
  | _ :: _, _, n + 1, r => by
    simp only [RepL] at r
    obtain ⟨v, us, rfl, a, b⟩ := r
    simp only [List.take_succ_cons, RepL]
    exact ⟨v, _, rfl, a, RepL.take n b⟩
theorem RepL.set {h : Heap} {av : Addr → Prop} : ∀ {Vs : List V} {vs : List Value} {W : V} {v : Value} (n : Nat), RepL h av Vs vs → Rep h av W v → RepL h av (Vs.set n W) (vs.set n v)
  | [], _, _, _, n, r, _ => by rw [RepL] at r; subst r; simp [RepL]
  | _ :: _, _, _, _, 0, r, q => by
    simp only [RepL] at r
    obtain ⟨v, us, rfl, a, b⟩ := r
    simp only [List.set_cons_zero, RepL]
    exact ⟨_, _, rfl, q, b⟩
  | _ :: _, _, _, _, n + 1, r, q => by
    simp only [RepL] at r
    obtain ⟨v, us, rfl, a, b⟩ := r
    simp only [List.set_cons_succ, RepL]
    exact ⟨_, _, rfl, a, RepL.set n b q⟩
theorem RepL.eraseIdx {h : Heap} {av : Addr → Prop} : ∀ {Vs : List V} {vs : List Value} (n : Nat), RepL h av Vs vs → RepL h av (Vs.eraseIdx n) (vs.eraseIdx n)
  | [], _, n, r => by rw [RepL] at r; subst r; simp [RepL]
  | _ :: _, _, 0, r => by
    simp only [RepL] at r
    obtain ⟨v, us, rfl, a, b⟩ := r
    simpa using b
  | _ :: _, _, n + 1, r => by
    simp only [RepL] at r
    obtain ⟨v, us, rfl, a, b⟩ := r
    simp only [List.eraseIdx_cons_succ, RepL]
    exact ⟨_, _, rfl, a, RepL.eraseIdx n b⟩

structure Kp (mu : List Addr) (s s' : Shared) : Prop where
  same : ∃ h tk, s' = { s with heap := h, toks := tk }
  keep : ∀ b o, s.heap.get? b = some o → b ∉ mu → Kept o (s'.heap.get? b)
  live : ∀ b, (s.heap.get? b).isSome → (s'.heap.get? b).isSome

theorem Kp.refl (mu : List Addr) (s : Shared) : Kp mu s s := ⟨⟨_, _, rfl⟩, fun _ _ e _ => .inl e, fun _ e => e⟩
theorem Kp.trans {mu : List Addr} {s₁ s₂ s₃ : Shared} (x : Kp mu s₁ s₂) (y : Kp mu s₂ s₃) : Kp mu s₁ s₃ := by
  obtain ⟨h, tk, rfl⟩ := x.same
  obtain ⟨h', tk', rfl⟩ := y.same
  exact ⟨⟨h', tk', rfl⟩, fun b o e hb => (x.keep b o e hb).trans fun o' e' => y.keep b o' e' hb, fun b e => y.live b (x.live b e)⟩
theorem Kp.of_ext {mu : List Addr} {s : Shared} {h : Heap} {tk : Nat} (k : ∀ b o, s.heap.get? b = some o → h.get? b = some o) : Kp mu s { s with heap := h, toks := tk } :=
  ⟨⟨_, _, rfl⟩, fun b o e _ => .inl (k b o e), fun b e => by obtain ⟨o, ho⟩ := Option.isSome_iff_exists.mp e; exact Option.isSome_iff_exists.mpr ⟨o, k b o ho⟩⟩
theorem Kp.toks {mu : List Addr} {s : Shared} {tk : Nat} : Kp mu s { s with toks := tk } := ⟨⟨_, _, rfl⟩, fun _ _ e _ => .inl e, fun _ e => e⟩
theorem Kp.mono {mu mu' : List Addr} {s s' : Shared} (x : Kp mu s s') (h : ∀ a ∈ mu, a ∈ mu') : Kp mu' s s' := ⟨x.same, fun b o e hb => x.keep b o e fun q => hb (h b q), x.live⟩
theorem Kp.fresh {mu : List Addr} {s s' : Shared} (x : Kp mu s s') {a : Addr} (h : s'.heap.get? a = Option.none) : s.heap.get? a = Option.none := by
  cases q : s.heap.get? a with
  | none => rfl
  | some o => have := x.live a (by rw [q]; rfl); rw [h] at this; cases this
theorem Kp.rep {mu : List Addr} {s s' : Shared} {av : Addr → Prop} (x : Kp mu s s') (hm : ∀ a ∈ mu, av a) {W : V} {v : Value} (r : Rep s.heap av W v) : Rep s'.heap av W v :=
  Rep.mono (fun b o e hc hb => (x.keep b o e fun q => hb (hm b q)).exact hc.nodict) (fun _ _ h => h) r
theorem Kp.repL {mu : List Addr} {s s' : Shared} {av : Addr → Prop} (x : Kp mu s s') (hm : ∀ a ∈ mu, av a) {Vs : List V} {vs : List Value} (r : RepL s.heap av Vs vs) : RepL s'.heap av Vs vs :=
  RepL.mono (fun b o e hc hb => (x.keep b o e fun q => hb (hm b q)).exact hc.nodict) (fun _ _ h => h) r

theorem isSome_push {h : Heap} {o : Obj} : ∀ b x, h.get? b = some x → (h.push o).get? b = some x := fun _ _ e => Heap.get?_push_of_some o e

/-- frames of the stack: dicts, not in the base -/
noncomputable def Frames (B : Heap) : List Env → Heap → Prop
  | [], _ => True
  | env :: r, h => (env.scope.kind ≠ .module ∧ ∃ L m, env.frame = some L ∧ B.get? L = Option.none ∧ h.Ns L m) ∧ Frames B r h
theorem Frames.mono {B h h' : Heap} : ∀ {l : List Env}, Frames B l h → (∀ b m, h.Ns b m → B.get? b = Option.none → ∃ m', h'.Ns b m') → Frames B l h'
  | [], _, _ => trivial
  | env :: r, ⟨⟨hk, L, m, hf, hB, hn⟩, hr⟩, k => by
    obtain ⟨m', hn'⟩ := k L m hn hB
    exact ⟨⟨hk, L, m', hf, hB, hn'⟩, Frames.mono hr k⟩
theorem Frames.fun {B h : Heap} : ∀ {l : List Env}, Frames B l h → h.FunFrames B l
  | [], _ => trivial
  | _ :: _, ⟨⟨hk, L, m, hf, hB, hn⟩, hr⟩ => by
    obtain ⟨o', es, ep, ho', hd, _⟩ := hn
    exact ⟨hk, ⟨L, o', hf, hB, ho', fun vs q => by rw [hd] at q; cases q⟩, Frames.fun hr⟩
theorem Frames.at {B h : Heap} {l : List Env} : ∀ {env : Env} {L : Addr}, Frames B l h → env ∈ l → env.frame = some L → B.get? L = Option.none ∧ ∃ m, h.Ns L m := by
  induction l with
  | nil => intro env L _ he; exact absurd he List.not_mem_nil
  | cons e r ih =>
    intro env L fr he hf
    obtain ⟨L', m, hf', hB, hn⟩ := fr.1.2
    rcases List.mem_cons.mp he with q | q
    · rw [q, hf'] at hf
      have e2 := Option.some.inj hf
      rw [← e2]
      exact ⟨hB, m, hn⟩
    · exact ih fr.2 q hf

structure Cx where
  B : Heap
  A : Around
  env : Env
  outer : List Env
  mu : List Addr
  I : Nat → Heap → Prop
  mg : Str → Option Value
  mb : Str → Option Value
  r : Nat
  K : Frag
  G : Shared

structure Cx.Ok (C : Cx) : Prop where
  fr : C.A.frames = some C.outer
  hd : C.A.handled = Option.none
  room : C.A.depth + C.r < recursionLimit
  units : C.A.units + 100 + 8 * C.r < cLine
  kind : C.env.scope.kind = .function
  g : C.B.Ns mainGlobals C.mg
  b : C.B.Ns builtinsNs C.mb
  lim : C.B.NoLimit
  glob : C.env.globals = mainGlobals
  blt : C.env.builtins = builtinsNs
  mutB : ∀ a ∈ C.mu, C.B.get? a = Option.none
  kin : C.K.In C.B
  bg : C.B.StaysIn C.G.heap
  fra : ∃ L e0 rest, C.outer = e0 :: rest ∧ e0.frame = some L ∧ C.env.frame = some L
  fmu : ∀ env ∈ C.outer, ∀ L, env.frame = some L → L ∉ C.mu
  Iloc : ∀ σ h h', (∀ a ∈ C.mu, ∀ o, h.get? a = some o → h'.get? a = some o) → C.I σ h → C.I σ h'

structure Inv (C : Cx) (s : Shared) : Prop where
  base : C.B.StaysIn s.heap
  frs : Frames C.B C.outer s.heap

inductive Bd where
  | val (W : V) | own (Ws : List V) | dct (ks : List Int)
noncomputable abbrev Rho := List (Str × Bd)
noncomputable abbrev Own := List (Str × Addr)
noncomputable def Av (C : Cx) (own : Own) (a : Addr) : Prop := a ∈ C.mu ∨ a ∈ own.map (·.2)

noncomputable def Look (env : Env) (h : Heap) (x : Str) (v : Value) : Prop :=
  (env.kindOf x = some .local ∧ ∃ m, h.Ns env.locals m ∧ m x = some v) ∨
  ((env.kindOf x = some .cell ∨ (env.kindOf x = some .free ∧ (x == ("__classdict__" : Str)) = false)) ∧ ∃ c, env.cells.lookup x = some c ∧ h.IsCell c (some v))
theorem Look.mono {env : Env} {h h' : Heap} {x : Str} {v : Value} (l : Look env h x v) (k1 : ∀ m, h.Ns env.locals m → h'.Ns env.locals m) (k2 : ∀ x c w, env.cells.lookup x = some c → h.IsCell c w → h'.IsCell c w) : Look env h' x v := by
  rcases l with ⟨a, m, b, c⟩ | ⟨a, c, b, d⟩
  · exact .inl ⟨a, m, k1 m b, c⟩
  · exact .inr ⟨a, c, b, k2 x c _ b d⟩

/-- entries of a dict whose keys are ints, in the order of their coming -/
noncomputable def IntKeys : List DictEntry → List Int → Prop
  | [], ks => ks = []
  | e :: es, ks => ∃ k kt r, ks = k :: r ∧ e.key = .int k kt ∧ e.val = .bool true ∧ IntKeys es r

noncomputable def BdRep (h : Heap) (av : Addr → Prop) (own : Own) (x : Str) : Bd → Value → Prop
  | .val W, v => Rep h av W v
  | .own Ws, v => ∃ a vs n, v = .ref a ∧ own.lookup x = some a ∧ h.get? a = some (lstO vs n) ∧ RepL h av Ws vs
  | .dct _, _ => False

structure LocOk (C : Cx) (ρ : Rho) (own : Own) (h : Heap) : Prop where
  look : ∀ x b, ρ.lookup x = some b → ∃ v, Look C.env h x v ∧ BdRep h (Av C own) own x b v
  ns : ∃ m, h.Ns C.env.locals m
  cells : ∀ x c, C.env.cells.lookup x = some c → ∃ v, h.IsCell c v
  ownok : ∀ p ∈ own, p.2 ∉ C.mu ∧ C.B.get? p.2 = Option.none ∧ ∃ vs n, h.get? p.2 = some (lstO vs n)
  nodup : (own.map (·.2)).Nodup
  ownG : ∀ p ∈ own, C.G.heap.get? p.2 = none

end Mini
end

section
open PySem PySem.W PyProof.Rows
set_option maxRecDepth 100000
namespace Mini

/-- the fault object: of the class at 59, its dict bears "at" -/
noncomputable def Trc (C : Cx) (e : Addr) (n : Int) (b : Bool) (h : Heap) : Prop :=
  ∃ oe vs d m t, h.get? e = some oe ∧ oe.cls = .ref 59 ∧ oe.data = .fields vs ∧ 1 < vs.size ∧ oe.dict = some d ∧ (∀ env ∈ C.outer, env.frame ≠ some d) ∧ h.Ns d m ∧ m "at" = some (.int n t) ∧
    ((b = false ∧ vs[1]? = some .none) ∨ (b = true ∧ ∃ T oT ts, vs[1]? = some (.ref T) ∧ C.G.heap.get? T = none ∧ T ∉ C.mu ∧ T ≠ e ∧ h.get? T = some oT ∧ oT.data = .fields ts ∧ 3 < ts.size))

structure Fly (C : Cx) (e : Addr) (n : Int) (b : Bool) (s' : Shared) : Prop where
  same : ∃ h tk, s' = { C.G with heap := h, toks := tk }
  base : C.B.StaysIn s'.heap
  frs : Frames C.B C.outer s'.heap
  newe : C.G.heap.get? e = none ∧ e ∉ C.mu
  gk : ∀ b o, C.G.heap.get? b = some o → b ∉ C.mu → Kept o (s'.heap.get? b)
  ml : ∀ a ∈ C.mu, (s'.heap.get? a).isSome
  i : ∃ σ, C.I σ s'.heap
  trc : Trc C e n b s'.heap

/-- facts of the frame at hand that do not turn -/
structure Cx.Ap (C : Cx) : Prop where
  Lmu : C.env.locals ∉ C.mu
  cmu : ∀ x c, C.env.cells.lookup x = some c → c ∉ C.mu
  fmu : ∀ env ∈ C.outer, ∀ L, env.frame = some L → L ∉ C.mu

structure To (C : Cx) (σ : Nat) (s s' : Shared) : Prop where
  kp : Kp C.mu s s'
  inv : Inv C s'
  i : C.I σ s'.heap
theorem To.trans {C : Cx} {σ τ : Nat} {s₁ s₂ s₃ : Shared} (x : To C σ s₁ s₂) (y : To C τ s₂ s₃) : To C τ s₁ s₃ := ⟨x.kp.trans y.kp, y.inv, y.i⟩

theorem Inv.ext {C : Cx} {s s' : Shared} (iv : Inv C s) (k : ∀ b o, s.heap.get? b = some o → s'.heap.get? b = some o) : Inv C s' :=
  ⟨fun b o e => k b o (iv.base b o e), iv.frs.mono fun b m hn _ => ⟨m, hn.keeps k⟩⟩

theorem LocOk.kp {C : Cx} {ρ : Rho} {own : Own} {s s' : Shared} (ap : C.Ap) (l : LocOk C ρ own s.heap) (k : Kp C.mu s s') : LocOk C ρ own s'.heap := by
  have kl : ∀ p ∈ own, ∀ o, s.heap.get? p.2 = some o → DD o → s'.heap.get? p.2 = some o := fun p hp o e hc => (k.keep p.2 o e (l.ownok p hp).1).exact hc.nodict
  have kr : ∀ {W : V} {v : Value}, Rep s.heap (Av C own) W v → Rep s'.heap (Av C own) W v := fun r => k.rep (fun a ha => .inl ha) r
  have kR : ∀ {Ws : List V} {vs : List Value}, RepL s.heap (Av C own) Ws vs → RepL s'.heap (Av C own) Ws vs := fun r => k.repL (fun a ha => .inl ha) r
  refine ⟨fun x b hx => ?_, ?_, fun x c hc => ?_, fun p hp => ?_, l.nodup, l.ownG⟩
  · obtain ⟨v, hl, hb⟩ := l.look x b hx
    refine ⟨v, hl.mono (fun m hn => Kept.ns hn fun o e => k.keep _ o e ap.Lmu) (fun y c w hc hw => Kept.cell hw fun o e => k.keep _ o e (ap.cmu y c hc)), ?_⟩
    cases b with
    | val W => exact kr hb
    | own Ws =>
      obtain ⟨a, vs, n, e, ho, hg, hr⟩ := hb
      exact ⟨a, vs, n, e, ho, kl (x, a) (mem_of_lookup ho) _ hg (.inl ⟨_, _, rfl⟩), kR hr⟩
    | dct ks => exact hb.elim
  · obtain ⟨m, hn⟩ := l.ns
    exact ⟨m, Kept.ns hn fun o e => k.keep _ o e ap.Lmu⟩
  · obtain ⟨v, hv⟩ := l.cells x c hc
    exact ⟨v, Kept.cell hv fun o e => k.keep _ o e (ap.cmu x c hc)⟩
  · obtain ⟨a, b, vs, n, g⟩ := l.ownok p hp
    exact ⟨a, b, vs, n, kl p hp _ g (.inl ⟨_, _, rfl⟩)⟩

structure St (C : Cx) (ρ : Rho) (own : Own) (σ : Nat) (s : Shared) : Prop where
  ap : C.Ap
  inv : Inv C s
  i : C.I σ s.heap
  loc : LocOk C ρ own s.heap
  ml : ∀ a ∈ C.mu, (s.heap.get? a).isSome
  gs : ∃ h tk, s = { C.G with heap := h, toks := tk }
  gk : ∀ b o, C.G.heap.get? b = some o → b ∉ C.mu → Kept o (s.heap.get? b)
theorem St.to {C : Cx} {ρ : Rho} {own : Own} {σ τ : Nat} {s s' : Shared} (x : St C ρ own σ s) (t : To C τ s s') : St C ρ own τ s' := ⟨x.ap, t.inv, t.i, x.loc.kp x.ap t.kp, fun a ha => t.kp.live a (x.ml a ha), by
    obtain ⟨h, tk, e⟩ := x.gs
    obtain ⟨h', tk', e'⟩ := t.kp.same
    exact ⟨h', tk', by rw [e', e]⟩, fun b o e hb => (x.gk b o e hb).trans fun o' e' => t.kp.keep b o' e' hb⟩
theorem St.ext {C : Cx} {ρ : Rho} {own : Own} {σ : Nat} {s : Shared} (ok : C.Ok) (x : St C ρ own σ s) {h : Heap} {tk : Nat} (k : ∀ b o, s.heap.get? b = some o → h.get? b = some o) : To C σ s { s with heap := h, toks := tk } :=
  ⟨Kp.of_ext k, x.inv.ext k, ok.Iloc σ s.heap h (fun a _ o e => k a o e) x.i⟩
theorem St.toks {C : Cx} {ρ : Rho} {own : Own} {σ : Nat} {s : Shared} (ok : C.Ok) (x : St C ρ own σ s) {tk : Nat} : To C σ s { s with toks := tk } := x.ext ok fun _ _ e => e
theorem St.self {C : Cx} {ρ : Rho} {own : Own} {σ : Nat} {s : Shared} (x : St C ρ own σ s) : To C σ s s := ⟨Kp.refl _ _, x.inv, x.i⟩
/-- an address of the avoided ones is of an object that stands -/
theorem St.avoid_fresh {C : Cx} {ρ : Rho} {own : Own} {σ : Nat} {s : Shared} (x : St C ρ own σ s) {a : Addr} (e : s.heap.get? a = none) : ¬ Av C own a := by
  rintro (h | h)
  · have := x.ml a h; rw [e] at this; cases this
  · obtain ⟨p, hp, rfl⟩ := List.mem_map.mp h
    obtain ⟨_, _, vs, n, g⟩ := x.loc.ownok p hp
    rw [e] at g; cases g

noncomputable def Po {α β : Type} (C : Cx) (own : Own) (R : Heap → (Addr → Prop) → β → α → Prop) (Q : β → Nat → Prop) (s : Shared) (Qc : α → Shared → Prop) : Prop :=
  ∀ a b σ' s', To C σ' s s' → R s'.heap (Av C own) b a → Q b σ' → Qc a s'
noncomputable def Ex (C : Cx) (X : Int → Prop) (s : Shared) (Ec : Value → Shared → Prop) : Prop :=
  ∀ n e b s', X n → Fly C e n b s' → Ec (.ref e) s'
theorem Po.to {α β : Type} {C : Cx} {own : Own} {R : Heap → (Addr → Prop) → β → α → Prop} {Q : β → Nat → Prop} {s s₁ : Shared} {Qc : α → Shared → Prop} {τ : Nat} (p : Po C own R Q s Qc) (t : To C τ s s₁) : Po C own R Q s₁ Qc :=
  fun a b σ' s' t' r q => p a b σ' s' (t.trans t') r q
theorem Ex.to {C : Cx} {X : Int → Prop} {s s₁ : Shared} {Ec : Value → Shared → Prop} {τ : Nat} (ap : C.Ap) (x : Ex C X s Ec) (t : To C τ s s₁) : Ex C X s₁ Ec := x

noncomputable def RB (_ : Heap) (_ : Addr → Prop) (b a : Bool) : Prop := a = b
noncomputable def RS (h : Heap) (_ : Addr → Prop) (b : String × List Value) (v : Value) : Prop := ∃ a n, v = .ref a ∧ h.get? a = some (seqO b.1 b.2 n)
noncomputable def RSL (mu : List Addr) (h : Heap) (av : Addr → Prop) (b : Bool × List V) (v : Value) : Prop := ∃ a vs n, v = .ref a ∧ a ∉ mu ∧ h.get? a = some (seqO (if b.1 then "tuple" else "list") vs n) ∧ RepL h av b.2 vs

section
variable {prog : Program} {w : World}

noncomputable def J {α β : Type} (prog : Program) (w : World) (C : Cx) (ρ : Rho) (R : Heap → (Addr → Prop) → β → α → Prop) (t : Sem α) (σ : Nat) (X : Int → Prop) (Q : β → Nat → Prop) : Prop :=
  C.Ok → ∀ s own Qc Ec, St C ρ own σ s → Po C own R Q s Qc → Ex C X s Ec → wpAny (model prog w) C.A t Qc Ec s

noncomputable abbrev WE (prog : Program) (w : World) (C : Cx) (ρ : Rho) (e : Expr) (σ : Nat) (X : Int → Prop) (Q : V → Nat → Prop) : Prop := J prog w C ρ Rep (eval e C.env) σ X Q
noncomputable abbrev WT (prog : Program) (w : World) (C : Cx) (ρ : Rho) (e : Expr) (σ : Nat) (X : Int → Prop) (Q : Bool → Nat → Prop) : Prop := J prog w C ρ RB (isTrue e C.env (eval e C.env)) σ X Q
noncomputable abbrev WA (prog : Program) (w : World) (C : Cx) (ρ : Rho) (pos : Pos) (es : List Expr) (σ : Nat) (X : Int → Prop) (Q : List V → Nat → Prop) : Prop := J prog w C ρ RepL (spliced (backTo pos (starEach es C.env))) σ X Q
/-- a list or tuple, read: its place may be one of the frame's own -/
noncomputable abbrev WL (prog : Program) (w : World) (C : Cx) (ρ : Rho) (e : Expr) (σ : Nat) (X : Int → Prop) (Q : Bool × List V → Nat → Prop) : Prop := J prog w C ρ (RSL C.mu) (eval e C.env) σ X Q

theorem J.mono {α β : Type} {C : Cx} {ρ : Rho} {R : Heap → (Addr → Prop) → β → α → Prop} {t : Sem α} {σ : Nat} {X X' : Int → Prop} {Q Q' : β → Nat → Prop} (h : J prog w C ρ R t σ X Q) (hq : ∀ b τ, Q b τ → Q' b τ) (hx : ∀ n, X n → X' n) : J prog w C ρ R t σ X' Q' :=
  fun ok s own Qc Ec st po ex => h ok s own Qc Ec st (fun a b τ s' t r q => po a b τ s' t r (hq b τ q)) fun n e b s' x f => ex n e b s' (hx n x) f

/-- one operand's step -/
noncomputable def O1 {α β : Type} (prog : Program) (w : World) (C : Cx) (ρ : Rho) (R' : Heap → (Addr → Prop) → β → α → Prop) (t : Value → Sem α) (W : V) (σ : Nat) (X : Int → Prop) (Q : β → Nat → Prop) : Prop :=
  C.Ok → ∀ s own Qc Ec v, St C ρ own σ s → Rep s.heap (Av C own) W v → Po C own R' Q s Qc → Ex C X s Ec → wpAny (model prog w) C.A (t v) Qc Ec s
noncomputable def O2 {α β : Type} (prog : Program) (w : World) (C : Cx) (ρ : Rho) (R' : Heap → (Addr → Prop) → β → α → Prop) (t : Value → Value → Sem α) (W U : V) (σ : Nat) (X : Int → Prop) (Q : β → Nat → Prop) : Prop :=
  C.Ok → ∀ s own Qc Ec v u, St C ρ own σ s → Rep s.heap (Av C own) W v → Rep s.heap (Av C own) U u → Po C own R' Q s Qc → Ex C X s Ec → wpAny (model prog w) C.A (t v u) Qc Ec s

theorem RSL.kp {mu : List Addr} {s s' : Shared} {av : Addr → Prop} {b : Bool × List V} {v : Value} (k : Kp mu s s') (hm : ∀ a ∈ mu, av a) (r : RSL mu s.heap av b v) : RSL mu s'.heap av b v := by
  obtain ⟨a, vs, n, e, na, g, r⟩ := r
  exact ⟨a, vs, n, e, na, (k.keep a _ g na).exact (fun es n e => by cases e), k.repL hm r⟩

section
variable {C : Cx} {ρ : Rho} {σ : Nat} {X : Int → Prop}

-- constants, names
theorem we_int {i : Int} {k : Nat} {pos : Pos} {Q : V → Nat → Prop} (h : Q (.int i) σ) : WE prog w C ρ (.Constant (.int i) k pos) σ X Q := fun ok s own Qc Ec st po _ =>
  wpAny_Constant_int (po _ (.int i) σ _ (st.toks ok) (by simp only [Rep]; exact ⟨_, rfl⟩) h)
theorem we_bool {b : Bool} {k : Nat} {pos : Pos} {Q : V → Nat → Prop} (h : Q (.bool b) σ) : WE prog w C ρ (.Constant (.bool b) k pos) σ X Q := fun _ s own Qc Ec st po _ =>
  Constant_bool (po _ (.bool b) σ s st.self (by simp only [Rep]) h)
theorem we_none {k : Nat} {pos : Pos} {Q : V → Nat → Prop} (h : Q .none σ) : WE prog w C ρ (.Constant .none k pos) σ X Q := fun _ s own Qc Ec st po _ =>
  Constant_none (po _ .none σ s st.self (by simp only [Rep]) h)
theorem we_str {x : Str} {k : Nat} {pos : Pos} {Q : V → Nat → Prop} (h : Q (.str x) σ) : WE prog w C ρ (.Constant (.str x) k pos) σ X Q := fun ok s own Qc Ec st po _ =>
  Calls.Constant_str (po _ (.str x) σ _ (st.toks ok) (by simp only [Rep]; exact ⟨_, rfl⟩) h)

theorem look_name {s : Shared} {x : Str} {v : Value} {pos : Pos} {Qc : Value → Shared → Prop} {Ec : Value → Shared → Prop} (ok : C.Ok) (l : Look C.env s.heap x v) (h : Qc v s) (hd : (x == ("__debug__" : Str)) = false) :
    wpAny (model prog w) C.A (eval (.Name x pos) C.env) Qc Ec s := by
  refine wpAny_Name ?_ hd
  rcases l with ⟨a, m, b, c⟩ | ⟨a | ⟨a, a'⟩, c, b, d⟩
  · exact wpAny_loadName_local ok.kind a b c h
  · exact wpAny_loadName_cell ok.kind a b d h
  · exact wpAny_loadName_free ok.kind a b d h a'
theorem we_name {x : Str} {pos : Pos} {W : V} {Q : V → Nat → Prop} (hx : ρ.lookup x = some (.val W)) (h : Q W σ) (hd : (x == ("__debug__" : Str)) = false := by decide) : WE prog w C ρ (.Name x pos) σ X Q := fun ok s own Qc Ec st po _ => by
  obtain ⟨v, l, r⟩ := st.loc.look x _ hx
  exact look_name ok l (po _ W σ s st.self r h) hd
theorem wl_own {x : Str} {pos : Pos} {Ws : List V} {Q : Bool × List V → Nat → Prop} (hx : ρ.lookup x = some (.own Ws)) (h : Q (false, Ws) σ) (hd : (x == ("__debug__" : Str)) = false := by decide) : WL prog w C ρ (.Name x pos) σ X Q := fun ok s own Qc Ec st po _ => by
  obtain ⟨v, l, a, vs, n, rfl, ho, g, r⟩ := st.loc.look x _ hx
  exact look_name ok l (po _ (false, Ws) σ s st.self ⟨a, vs, n, rfl, (st.loc.ownok (x, a) (mem_of_lookup ho)).1, g, r⟩ h) hd
noncomputable def SeqV : V → Option (Bool × List V)
  | .tup Vs => some (true, Vs)
  | .lst Vs => some (false, Vs)
  | _ => none
theorem rsl_of {mu : List Addr} {h : Heap} {av : Addr → Prop} (hm : ∀ a ∈ mu, av a) {W : V} {b : Bool × List V} {v : Value} (e : SeqV W = some b) (r : Rep h av W v) : RSL mu h av b v := by
  cases W <;> simp only [SeqV, Option.some.injEq, reduceCtorEq] at e
  · subst e
    simp only [Rep] at r
    obtain ⟨a, vs, n, rfl, na, g, r⟩ := r
    exact ⟨a, vs, n, rfl, fun q => na (hm a q), g, r⟩
  · subst e
    simp only [Rep] at r
    obtain ⟨a, vs, n, rfl, na, g, r⟩ := r
    exact ⟨a, vs, n, rfl, fun q => na (hm a q), g, r⟩
theorem wl_of {e : Expr} {Q : Bool × List V → Nat → Prop} (h : WE prog w C ρ e σ X (fun W τ => ∃ b, SeqV W = some b ∧ Q b τ)) : WL prog w C ρ e σ X Q := fun ok s own Qc Ec st po ex =>
  h ok s own Qc Ec st (fun v W τ s' t r ⟨b, e, q⟩ => po v b τ s' t (rsl_of (fun a ha => .inl ha) e r) q) ex

theorem we_global {x : Str} {pos : Pos} {v : Value} {W : V} {Q : V → Nat → Prop} (hx : C.env.kindOf x = some .globalImplicit) (hg : C.mg x = some v) (hr : ∀ h av, Rep h av W v) (h : Q W σ) (hd : (x == ("__debug__" : Str)) = false := by decide) :
    WE prog w C ρ (.Name x pos) σ X Q := fun ok s own Qc Ec st po _ =>
  Calls.Name_function_global ok.kind hx (Calls.loadGlobal_global (mg := C.mg) (ok.glob ▸ ok.g.keeps st.inv.base) hg (po _ W σ s st.self (hr _ _) h)) hd
theorem we_builtin {x : Str} {pos : Pos} {v : Value} {Q : V → Nat → Prop} (hx : C.env.kindOf x = some .globalImplicit) (hg : C.mg x = none) (hb : C.mb x = some v) (h : Q (.raw v) σ) (hd : (x == ("__debug__" : Str)) = false := by decide) :
    WE prog w C ρ (.Name x pos) σ X Q := fun ok s own Qc Ec st po _ =>
  Calls.Name_function_global ok.kind hx (Calls.loadGlobal_builtin (mg := C.mg) (mb := C.mb) (ok.glob ▸ ok.g.keeps st.inv.base) hg (ok.blt ▸ ok.b.keeps st.inv.base) hb (po _ (.raw v) σ s st.self (by simp only [Rep]) h)) hd

-- operators
theorem we_bin {l r : Expr} {op : Operator} {pos : Pos} {Q : V → Nat → Prop} (h : WE prog w C ρ l σ X (fun W τ => WE prog w C ρ r τ X (fun U υ => O2 prog w C ρ Rep (binaryOp op) W U υ X Q))) : WE prog w C ρ (.BinOp l op r pos) σ X Q := fun ok s own Qc Ec st po ex =>
  wpAny_BinOp (h ok s own _ _ st (fun v W τ s₁ t₁ r₁ h₁ => h₁ ok s₁ own _ _ (st.to t₁) (fun u U υ s₂ t₂ r₂ h₂ =>
    h₂ ok s₂ own _ _ v u ((st.to t₁).to t₂) (t₂.kp.rep (fun _ ha => .inl ha) r₁) r₂ ((po.to t₁).to t₂) ((ex.to st.ap t₁).to st.ap t₂)) (ex.to st.ap t₁)) ex)
theorem we_un {e : Expr} {op : UnaryOp} {pos : Pos} {Q : V → Nat → Prop} (h : WE prog w C ρ e σ X (fun W τ => O1 prog w C ρ Rep (unaryOp op) W τ X Q)) : WE prog w C ρ (.UnaryOp op e pos) σ X Q := fun ok s own Qc Ec st po ex =>
  UnaryOp_ (h ok s own _ _ st (fun v W τ s₁ t₁ r₁ h₁ => h₁ ok s₁ own _ _ v (st.to t₁) r₁ (po.to t₁) (ex.to st.ap t₁)) ex)
theorem we_cmp {l r : Expr} {op : CmpOp} {pos : Pos} {Q : V → Nat → Prop} (h : WE prog w C ρ l σ X (fun W τ => WE prog w C ρ r τ X (fun U υ => O2 prog w C ρ Rep (compareOp op) W U υ X Q))) (hm : behindInMarks op r = false := by with_unfolding_all rfl) :
    WE prog w C ρ (.Compare l [op] [r] pos) σ X Q := fun ok s own Qc Ec st po ex =>
  wpAny_Compare1 (h ok s own _ _ st (fun v W τ s₁ t₁ r₁ h₁ => h₁ ok s₁ own _ _ (st.to t₁) (fun u U υ s₂ t₂ r₂ h₂ =>
    h₂ ok s₂ own _ _ v u ((st.to t₁).to t₂) (t₂.kp.rep (fun _ ha => .inl ha) r₁) r₂ ((po.to t₁).to t₂) ((ex.to st.ap t₁).to st.ap t₂)) (ex.to st.ap t₁)) ex) hm

section
variable {a b : Int} {Q : V → Nat → Prop}
theorem o_add (h : Q (.int (a + b)) σ) : O2 prog w C ρ Rep (binaryOp .Add) (.int a) (.int b) σ X Q := fun ok s own Qc Ec v u st r q po _ => by
  simp only [Rep] at r q; obtain ⟨t, rfl⟩ := r; obtain ⟨t', rfl⟩ := q
  exact add_int (po _ (.int (a + b)) σ _ (st.toks ok) (by simp only [Rep]; exact ⟨_, rfl⟩) h)
theorem o_sub (h : Q (.int (a - b)) σ) : O2 prog w C ρ Rep (binaryOp .Sub) (.int a) (.int b) σ X Q := fun ok s own Qc Ec v u st r q po _ => by
  simp only [Rep] at r q; obtain ⟨t, rfl⟩ := r; obtain ⟨t', rfl⟩ := q
  exact sub_int (po _ (.int (a - b)) σ _ (st.toks ok) (by simp only [Rep]; exact ⟨_, rfl⟩) h)
theorem o_mul (hm : IntMulOk a b) (h : Q (.int (a * b)) σ) : O2 prog w C ρ Rep (binaryOp .Mult) (.int a) (.int b) σ X Q := fun ok s own Qc Ec v u st r q po _ => by
  simp only [Rep] at r q; obtain ⟨t, rfl⟩ := r; obtain ⟨t', rfl⟩ := q
  exact PySem.P.mul_int (po _ (.int (a * b)) σ _ (st.toks ok) (by simp only [Rep]; exact ⟨_, rfl⟩) h) hm
theorem o_mod (hb : b ≠ 0) (h : Q (.int (a.fmod b)) σ) : O2 prog w C ρ Rep (binaryOp .Mod) (.int a) (.int b) σ X Q := fun ok s own Qc Ec v u st r q po _ => by
  simp only [Rep] at r q; obtain ⟨t, rfl⟩ := r; obtain ⟨t', rfl⟩ := q
  exact PyProof.Rows.mod_int hb (po _ (.int _) σ _ (st.toks ok) (by simp only [Rep]; exact ⟨_, rfl⟩) h)
theorem o_fdiv (hb : b ≠ 0) (hp : Builtin.divisionGoesByPylong a b = false) (h : Q (.int (a.fdiv b)) σ) : O2 prog w C ρ Rep (binaryOp .FloorDiv) (.int a) (.int b) σ X Q := fun ok s own Qc Ec v u st r q po _ => by
  simp only [Rep] at r q; obtain ⟨t, rfl⟩ := r; obtain ⟨t', rfl⟩ := q
  exact PyProof.Rows.floordiv_int hb (po _ (.int _) σ _ (st.toks ok) (by simp only [Rep]; exact ⟨_, rfl⟩) h) (.inl hp)
theorem o_pow (hb : 0 ≤ b) (hz : (Builtin.Int.intBits a : Int) * b ≤ 2 ^ 27) (h : Q (.int (a ^ b.toNat)) σ) : O2 prog w C ρ Rep (binaryOp .Pow) (.int a) (.int b) σ X Q := fun ok s own Qc Ec v u st r q po _ => by
  simp only [Rep] at r q; obtain ⟨t, rfl⟩ := r; obtain ⟨t', rfl⟩ := q
  exact PyProof.Rows.pow_int hb hz (po _ (.int _) σ _ (st.toks ok) (by simp only [Rep]; exact ⟨_, rfl⟩) h)
theorem o_eq (h : Q (.bool (a == b)) σ) : O2 prog w C ρ Rep (compareOp .Eq) (.int a) (.int b) σ X Q := fun ok s own Qc Ec v u st r q po _ => by
  simp only [Rep] at r q; obtain ⟨t, rfl⟩ := r; obtain ⟨t', rfl⟩ := q
  exact PyProof.Rows.eq_int (po _ (.bool _) σ _ st.self (by simp only [Rep]) h)
theorem o_ne (h : Q (.bool (a != b)) σ) : O2 prog w C ρ Rep (compareOp .NotEq) (.int a) (.int b) σ X Q := fun ok s own Qc Ec v u st r q po _ => by
  simp only [Rep] at r q; obtain ⟨t, rfl⟩ := r; obtain ⟨t', rfl⟩ := q
  exact PyProof.Rows.ne_int (po _ (.bool _) σ _ st.self (by simp only [Rep]) h)
theorem o_lt (h : Q (.bool (decide (a < b))) σ) : O2 prog w C ρ Rep (compareOp .Lt) (.int a) (.int b) σ X Q := fun ok s own Qc Ec v u st r q po _ => by
  simp only [Rep] at r q; obtain ⟨t, rfl⟩ := r; obtain ⟨t', rfl⟩ := q
  exact PySem.P.lt_int (po _ (.bool _) σ _ st.self (by simp only [Rep]) h)
theorem o_le (h : Q (.bool (decide (a ≤ b))) σ) : O2 prog w C ρ Rep (compareOp .LtE) (.int a) (.int b) σ X Q := fun ok s own Qc Ec v u st r q po _ => by
  simp only [Rep] at r q; obtain ⟨t, rfl⟩ := r; obtain ⟨t', rfl⟩ := q
  exact PySem.P.le_int (po _ (.bool _) σ _ st.self (by simp only [Rep]) h)
theorem o_gt (h : Q (.bool (decide (a > b))) σ) : O2 prog w C ρ Rep (compareOp .Gt) (.int a) (.int b) σ X Q := fun ok s own Qc Ec v u st r q po _ => by
  simp only [Rep] at r q; obtain ⟨t, rfl⟩ := r; obtain ⟨t', rfl⟩ := q
  exact PySem.P.gt_int (po _ (.bool _) σ _ st.self (by simp only [Rep]) h)
theorem o_ge (h : Q (.bool (decide (a ≥ b))) σ) : O2 prog w C ρ Rep (compareOp .GtE) (.int a) (.int b) σ X Q := fun ok s own Qc Ec v u st r q po _ => by
  simp only [Rep] at r q; obtain ⟨t, rfl⟩ := r; obtain ⟨t', rfl⟩ := q
  exact PySem.P.ge_int (po _ (.bool _) σ _ st.self (by simp only [Rep]) h)
theorem o_neg (h : Q (.int (-a)) σ) : O1 prog w C ρ Rep (unaryOp .USub) (.int a) σ X Q := fun ok s own Qc Ec v st r po _ => by
  simp only [Rep] at r; obtain ⟨t, rfl⟩ := r
  exact PyProof.Rows.neg_int (po _ (.int _) σ _ (st.toks ok) (by simp only [Rep]; exact ⟨_, rfl⟩) h)
theorem o_not {c : Bool} (h : Q (.bool (!c)) σ) : O1 prog w C ρ Rep (unaryOp .Not) (.bool c) σ X Q := fun ok s own Qc Ec v st r po _ => by
  simp only [Rep] at r; subst r
  exact not_of (wpAny_truthy_bool (po _ (.bool _) σ _ st.self (by simp only [Rep]) h))
end

-- tests
theorem wt_val {e : Expr} {Q : Bool → Nat → Prop} (h : WE prog w C ρ e σ X (fun W τ => ∃ c, W = .bool c ∧ Q c τ))
    (he : ∀ env whole, isTrue e env whole = (do let v ← whole; standAt e.pos; holding [v] (truthy v)) := by intro _ _; rfl) : WT prog w C ρ e σ X Q := fun ok s own Qc Ec st po ex =>
  isTrue_plain (h ok s own _ _ st (fun v W τ s₁ t₁ r₁ ⟨c, e, q⟩ => by
    subst e; simp only [Rep] at r₁; subst r₁
    exact wpAny_truthy_bool (po _ c τ s₁ t₁ rfl q)) ex) (he _ _)
theorem wt_not {e : Expr} {pos : Pos} {Q : Bool → Nat → Prop} (h : WT prog w C ρ e σ X (fun c τ => Q (!c) τ)) : WT prog w C ρ (.UnaryOp .Not e pos) σ X Q := fun ok s own Qc Ec st po ex =>
  isTrue_not (h ok s own _ _ st (fun c c' τ s₁ t₁ r₁ q => by cases r₁; exact po _ _ τ s₁ t₁ rfl q) ex)
theorem wt_and_nil {pos : Pos} {Q : Bool → Nat → Prop} (h : Q true σ) : WT prog w C ρ (.BoolOp .And [] pos) σ X Q := fun ok s own Qc Ec st po ex => isTrue_and_nil (po _ _ σ s st.self rfl h)
theorem wt_or_nil {pos : Pos} {Q : Bool → Nat → Prop} (h : Q false σ) : WT prog w C ρ (.BoolOp .Or [] pos) σ X Q := fun ok s own Qc Ec st po ex => isTrue_or_nil (po _ _ σ s st.self rfl h)
theorem isTrue_bool_whole {op : BoolOp} {es : List Expr} {pos : Pos} {env : Env} (a b : Sem Value) : isTrue (.BoolOp op es pos) env a = isTrue (.BoolOp op es pos) env b := rfl
theorem wt_and {x : Expr} {rest : List Expr} {pos : Pos} {Q : Bool → Nat → Prop} (h : WT prog w C ρ x σ X (fun c τ => if c then WT prog w C ρ (.BoolOp .And rest pos) τ X Q else Q false τ)) : WT prog w C ρ (.BoolOp .And (x :: rest) pos) σ X Q := fun ok s own Qc Ec st po ex =>
  isTrue_and (h ok s own _ _ st (fun c c' τ s₁ t₁ r₁ q => by
    cases r₁
    cases c with
    | true => simp only [if_true] at q ⊢; rw [isTrue_bool_whole _ (eval (.BoolOp .And rest pos) C.env)]; exact q ok s₁ own _ _ (st.to t₁) (po.to t₁) (ex.to st.ap t₁)
    | false => simp only [Bool.false_eq_true, if_false] at q ⊢; exact po _ _ τ s₁ t₁ rfl q) ex)
theorem wt_or {x : Expr} {rest : List Expr} {pos : Pos} {Q : Bool → Nat → Prop} (h : WT prog w C ρ x σ X (fun c τ => if c then Q true τ else WT prog w C ρ (.BoolOp .Or rest pos) τ X Q)) : WT prog w C ρ (.BoolOp .Or (x :: rest) pos) σ X Q := fun ok s own Qc Ec st po ex =>
  isTrue_or (h ok s own _ _ st (fun c c' τ s₁ t₁ r₁ q => by
    cases r₁
    cases c with
    | true => simp only [if_true] at q ⊢; exact po _ _ τ s₁ t₁ rfl q
    | false => simp only [Bool.false_eq_true, if_false] at q ⊢; rw [isTrue_bool_whole _ (eval (.BoolOp .Or rest pos) C.env)]; exact q ok s₁ own _ _ (st.to t₁) (po.to t₁) (ex.to st.ap t₁)) ex)
theorem wt_cmp {l r : Expr} {op : CmpOp} {pos : Pos} {Q : Bool → Nat → Prop} (h : WE prog w C ρ l σ X (fun W τ => WE prog w C ρ r τ X (fun U υ => O2 prog w C ρ Rep (compareOp op) W U υ X (fun Y φ => ∃ c, Y = .bool c ∧ Q c φ)))) (hm : behindInMarks op r = false := by with_unfolding_all rfl) :
    WT prog w C ρ (.Compare l [op] [r] pos) σ X Q := fun ok s own Qc Ec st po ex =>
  wpAny_isTrue_Compare1 (h ok s own _ _ st (fun v W τ s₁ t₁ r₁ h₁ => h₁ ok s₁ own _ _ (st.to t₁) (fun u U υ s₂ t₂ r₂ h₂ =>
    h₂ ok s₂ own _ _ v u ((st.to t₁).to t₂) (t₂.kp.rep (fun _ ha => .inl ha) r₁) r₂ (fun y Y φ s₃ t₃ r₃ ⟨c, e, q⟩ => by
      subst e; simp only [Rep] at r₃; subst r₃
      exact wpAny_truthy_bool (((po.to t₁).to t₂) _ c φ s₃ t₃ rfl q)) ((ex.to st.ap t₁).to st.ap t₂)) (ex.to st.ap t₁)) ex) hm
/-- a <= b <= c, of ints -/
theorem wt_chain {l r₁ r₂ : Expr} {op₁ op₂ : CmpOp} {pos : Pos} {Q : Bool → Nat → Prop}
    (h : WE prog w C ρ l σ X (fun W τ => WE prog w C ρ r₁ τ X (fun U υ => O2 prog w C ρ Rep (compareOp op₁) W U υ X (fun Y φ => ∃ c, Y = .bool c ∧
      if c then WE prog w C ρ r₂ φ X (fun Z ψ => O2 prog w C ρ Rep (compareOp op₂) U Z ψ X (fun Y χ => ∃ c, Y = .bool c ∧ Q c χ)) else Q false φ))))
    (hm : lastMarks [op₁, op₂] [r₁, r₂] = false := by with_unfolding_all rfl) :
    WT prog w C ρ (.Compare l [op₁, op₂] [r₁, r₂] pos) σ X Q := fun ok s own Qc Ec st po ex => by
  refine isTrue_chain (h ok s own _ _ st (fun v W τ s₁ t₁ q₁ h₁ => ?_) ex) hm
  refine test_link (h₁ ok s₁ own _ _ (st.to t₁) (fun u U υ s₂ t₂ q₂ h₂ => ?_) (ex.to st.ap t₁))
  refine h₂ ok s₂ own _ _ v u ((st.to t₁).to t₂) (t₂.kp.rep (fun _ ha => .inl ha) q₁) q₂ (fun y Y φ s₃ t₃ q₃ ⟨c, e, q⟩ => ?_) ((ex.to st.ap t₁).to st.ap t₂)
  subst e; simp only [Rep] at q₃; subst q₃
  refine wpAny_truthy_bool ?_
  cases c with
  | false =>
    simp only [Bool.false_eq_true, if_false] at q ⊢
    exact ((po.to t₁).to t₂) _ _ φ s₃ t₃ rfl q
  | true =>
    simp only [if_true] at q ⊢
    have st₃ := ((st.to t₁).to t₂).to t₃
    have po₃ := ((po.to t₁).to t₂).to t₃
    have ex₃ := ((ex.to st.ap t₁).to st.ap t₂).to st.ap t₃
    refine test_last (q ok s₃ own _ _ st₃ (fun z Z ψ s₄ t₄ q₄ h₄ => ?_) ex₃)
    refine h₄ ok s₄ own _ _ u z (st₃.to t₄) (t₄.kp.rep (fun _ ha => .inl ha) (t₃.kp.rep (fun _ ha => .inl ha) q₂)) q₄ (fun y Y χ s₅ t₅ q₅ ⟨c, e, qq⟩ => ?_) (ex₃.to st.ap t₄)
    subst e; simp only [Rep] at q₅; subst q₅
    exact wpAny_truthy_bool ((po₃.to t₄) _ c χ s₅ t₅ rfl qq)
theorem we_if {test body orelse : Expr} {pos : Pos} {Q : V → Nat → Prop} (h : WT prog w C ρ test σ X (fun c τ => if c then WE prog w C ρ body τ X Q else WE prog w C ρ orelse τ X Q)) : WE prog w C ρ (.IfExp test body orelse pos) σ X Q := fun ok s own Qc Ec st po ex =>
  IfExp_ (h ok s own _ _ st (fun c c' τ s₁ t₁ r₁ q => by
    cases r₁
    cases c with
    | true => simp only [if_true] at q ⊢; exact q ok s₁ own _ _ (st.to t₁) (po.to t₁) (ex.to st.ap t₁)
    | false => simp only [Bool.false_eq_true, if_false] at q ⊢; exact q ok s₁ own _ _ (st.to t₁) (po.to t₁) (ex.to st.ap t₁)) ex)
theorem wt_if {test body orelse : Expr} {pos : Pos} {Q : Bool → Nat → Prop} (h : WT prog w C ρ test σ X (fun c τ => if c then WT prog w C ρ body τ X Q else WT prog w C ρ orelse τ X Q)) : WT prog w C ρ (.IfExp test body orelse pos) σ X Q := fun ok s own Qc Ec st po ex =>
  isTrue_IfExp (h ok s own _ _ st (fun c c' τ s₁ t₁ r₁ q => by
    cases r₁
    cases c with
    | true => simp only [if_true] at q ⊢; exact q ok s₁ own _ _ (st.to t₁) (po.to t₁) (ex.to st.ap t₁)
    | false => simp only [Bool.false_eq_true, if_false] at q ⊢; exact q ok s₁ own _ _ (st.to t₁) (po.to t₁) (ex.to st.ap t₁)) ex)
/-- x and y, x or y as values, of bools -/
theorem we_and {x y : Expr} {pos : Pos} {Q : V → Nat → Prop} (h : WE prog w C ρ x σ X (fun W τ => ∃ c, W = .bool c ∧ if c then WE prog w C ρ y τ X Q else Q (.bool false) τ)) : WE prog w C ρ (.BoolOp .And [x, y] pos) σ X Q := fun ok s own Qc Ec st po ex =>
  BoolOp_and (h ok s own _ _ st (fun v W τ s₁ t₁ r₁ ⟨c, e, q⟩ => by
    subst e; simp only [Rep] at r₁; subst r₁
    refine wpAny_truthy_bool ?_
    cases c with
    | true => simp only [if_true] at q ⊢; exact BoolOp_one (q ok s₁ own _ _ (st.to t₁) (po.to t₁) (ex.to st.ap t₁))
    | false => simp only [Bool.false_eq_true, if_false] at q ⊢; exact po _ _ τ s₁ t₁ (by simp only [Rep]) q) ex)
theorem we_or {x y : Expr} {pos : Pos} {Q : V → Nat → Prop} (h : WE prog w C ρ x σ X (fun W τ => ∃ c, W = .bool c ∧ if c then Q (.bool true) τ else WE prog w C ρ y τ X Q)) : WE prog w C ρ (.BoolOp .Or [x, y] pos) σ X Q := fun ok s own Qc Ec st po ex =>
  BoolOp_or (h ok s own _ _ st (fun v W τ s₁ t₁ r₁ ⟨c, e, q⟩ => by
    subst e; simp only [Rep] at r₁; subst r₁
    refine wpAny_truthy_bool ?_
    cases c with
    | false => simp only [Bool.false_eq_true, if_false] at q ⊢; exact BoolOp_one (q ok s₁ own _ _ (st.to t₁) (po.to t₁) (ex.to st.ap t₁))
    | true => simp only [if_true] at q ⊢; exact po _ _ τ s₁ t₁ (by simp only [Rep]) q) ex)

-- rows of expressions
theorem wa_nil {pos : Pos} {Q : List V → Nat → Prop} (h : Q [] σ) : WA prog w C ρ pos [] σ X Q := fun ok s own Qc Ec st po _ => Calls.spliced_nil (po _ [] σ s st.self (by simp only [RepL]) h)
theorem wa_cons {pos : Pos} {e : Expr} {rest : List Expr} {Q : List V → Nat → Prop} (h : WE prog w C ρ e σ X (fun W τ => WA prog w C ρ pos rest τ X (fun Ws υ => Q (W :: Ws) υ)))
    (he : ∀ env, starEach (e :: rest) env = (false, eval e env) :: starEach rest env := by intro _; rfl) : WA prog w C ρ pos (e :: rest) σ X Q := fun ok s own Qc Ec st po ex => by
  rw [he]
  show wpAny _ _ (spliced ((false, eval e C.env) :: backTo pos (starEach rest C.env))) _ _ _
  exact Calls.spliced_cons (h ok s own _ _ st (fun v W τ s₁ t₁ r₁ h₁ => h₁ ok s₁ own _ _ (st.to t₁) (fun vs Ws υ s₂ t₂ r₂ q => (po.to t₁) _ (W :: Ws) υ s₂ t₂
    (by simp only [RepL]; exact ⟨v, vs, rfl, t₂.kp.rep (fun _ ha => .inl ha) r₁, r₂⟩) q) (ex.to st.ap t₁)) ex)
end
end
end Mini
end

section
open PySem PySem.W PyProof.Rows
set_option maxRecDepth 100000
namespace Mini
section
variable {prog : Program} {w : World} {C : Cx} {ρ : Rho} {σ : Nat} {X : Int → Prop}

theorem none_of_size {h : Heap} : h.get? h.objs.size = none := Heap.get?_none_of_le (Nat.le_refl _)

/-- a new tuple or list of values that are had -/
theorem St.new {own : Own} {s : Shared} (ok : C.Ok) (st : St C ρ own σ s) {T : String} {vs : List Value} {Vs : List V} (r : RepL s.heap (Av C own) Vs vs) :
    To C σ s { s with heap := s.heap.push (seqO T vs 0) } ∧ RepL (s.heap.push (seqO T vs 0)) (Av C own) Vs vs ∧ (s.heap.push (seqO T vs 0)).get? s.heap.objs.size = some (seqO T vs 0) ∧ ¬ Av C own s.heap.objs.size := by
  have t : To C σ s { s with heap := s.heap.push (seqO T vs 0) } := st.ext ok (h := s.heap.push (seqO T vs 0)) (tk := s.toks) isSome_push
  exact ⟨t, t.kp.repL (fun a ha => .inl ha) r, Heap.get?_push_size _ rfl, st.avoid_fresh none_of_size⟩

theorem we_tuple {es : List Expr} {k : Nat} {pos : Pos} {Q : V → Nat → Prop} (h : WA prog w C ρ pos es σ X (fun Ws τ => Ws.length ≤ 1000 ∧ Q (.tup Ws) τ)) : WE prog w C ρ (.Tuple es k pos) σ X Q := fun ok s own Qc Ec st po ex =>
  wpAny_Tuple_spliced (h ok s own _ _ st (fun vs Ws τ s₁ t₁ r₁ ⟨hz, q⟩ => by
    obtain ⟨t₂, r₂, g, na⟩ := (st.to t₁).new ok (T := "tuple") r₁
    refine ⟨by rw [r₁.length, sizeLine_eq]; lia, (po.to t₁) _ (.tup Ws) τ _ t₂ ?_ q⟩
    simp only [Rep]; exact ⟨_, vs, 0, rfl, na, g, r₂⟩) ex)
theorem we_list {es : List Expr} {pos : Pos} {Q : V → Nat → Prop} (h : WA prog w C ρ pos es σ X (fun Ws τ => Ws.length ≤ 1000 ∧ Q (.lst Ws) τ)) : WE prog w C ρ (.List es pos) σ X Q := fun ok s own Qc Ec st po ex =>
  wpAny_List_spliced (h ok s own _ _ st (fun vs Ws τ s₁ t₁ r₁ ⟨hz, q⟩ => by
    obtain ⟨t₂, r₂, g, na⟩ := (st.to t₁).new ok (T := "list") r₁
    refine ⟨by rw [r₁.length, sizeLine_eq]; lia, (po.to t₁) _ (.lst Ws) τ _ t₂ ?_ q⟩
    simp only [Rep]; exact ⟨_, vs, 0, rfl, na, g, r₂⟩) ex)

/-- where Python's index lies -/
noncomputable def at? (i : Int) (n : Nat) : Option Nat := seqIndex? i n

theorem getItem_seq {s : Shared} {b : Bool} {a : Addr} {vs : List Value} {n : Nat} {i : Int} {t : Tok} {j : Nat} {x : Value} {Qc Ec : Value → Shared → Prop} {A : Around}
    (g : s.heap.get? a = some (seqO (if b then "tuple" else "list") vs n)) (hf : -(2 ^ 63) ≤ i ∧ i < 2 ^ 63) (hj : seqIndex? i vs.length = some j) (hx : vs[j]? = some x) (h : Qc x s) :
    wpAny (model prog w) A (getItem (.ref a) (.int i t)) Qc Ec s := by
  cases b with
  | true =>
    simp only [if_true] at g
    exact PySem.P.getItem_tuple (items := vs.toArray) (n := n) g hf.1 hf.2 (by simpa using hj) (by simpa using hx) h
  | false =>
    simp only [Bool.false_eq_true, if_false] at g
    have hl : s.heap.IsList a vs.toArray := ⟨_, g, rfl, n, rfl⟩
    unfold seqIndex? at hj
    by_cases hn : i < 0
    · simp only [hn, if_true] at hj
      split at hj
      · rename_i hc
        simp only [Bool.and_eq_true, decide_eq_true_eq] at hc
        cases hj
        exact wpAny_getItem_list_neg hl hn (by rw [List.size_toArray]; lia) hf.1 (by rw [List.size_toArray]; simpa using hx) h
      · cases hj
    · simp only [hn, if_false] at hj
      split at hj
      · rename_i hc
        simp only [Bool.and_eq_true, decide_eq_true_eq] at hc
        cases hj
        exact wpAny_getItem_list hl (by lia) hf.2 (by simpa using hx) h
      · cases hj

theorem subTail_seq {s : Shared} {value slice : Expr} {b : Bool} {a : Addr} {vs : List Value} {n : Nat} {i : Value} {Qc Ec : Value → Shared → Prop} {A : Around} {ops : List Value}
    (g : s.heap.get? a = some (seqO (if b then "tuple" else "list") vs n)) (h : wpAny (model prog w) A (getItem (.ref a) i) Qc Ec s) (hs : subscripted slice false (.ref a) i = operate ops (getItem (.ref a) i)) :
    wpAny (model prog w) A (subscriptTail value slice (.ref a) i) Qc Ec s := by
  cases b with
  | true => exact tail_any (T := "tuple") ⟨_, g, rfl⟩ PySem.F.slot_tuple_getitem.lookup h hs
  | false => exact tail_any (T := "list") ⟨_, g, rfl⟩ slot_list_getitem.lookup h hs

theorem we_sub {value slice : Expr} {pos : Pos} {Q : V → Nat → Prop}
    (h : WL prog w C ρ value σ X (fun b τ => WE prog w C ρ slice τ X (fun U υ => ∃ i j W, U = .int i ∧ (-(2 ^ 63) ≤ i ∧ i < 2 ^ 63) ∧ at? i b.2.length = some j ∧ b.2[j]? = some W ∧ Q W υ)))
    (hs : ∀ o i, subscripted slice false o i = operate [o, i] (getItem o i) := by intro _ _; with_unfolding_all rfl) : WE prog w C ρ (.Subscript value slice pos) σ X Q := fun ok s own Qc Ec st po ex =>
  Subscript_ (h ok s own _ _ st (fun v b τ s₁ t₁ r₁ h₁ => h₁ ok s₁ own _ _ (st.to t₁) (fun u U υ s₂ t₂ r₂ ⟨i, j, W, e, hf, hj, hW, q⟩ => by
    subst e
    obtain ⟨a, vs, n, rfl, na, g, rl⟩ := r₁.kp t₂.kp (fun a ha => .inl ha)
    simp only [Rep] at r₂; obtain ⟨t, rfl⟩ := r₂
    obtain ⟨x, hx, rx⟩ := rl.get hW
    exact subTail_seq g (getItem_seq g hf (by rw [rl.length]; exact hj) hx (((po.to t₁).to t₂) _ W υ s₂ ((st.to t₁).to t₂).self rx q)) (hs _ _)) (ex.to st.ap t₁)) ex)

/-- a cut of a list by two numbers that are not below nought, or left out -/
noncomputable def cut? (l u : Option Nat) (Vs : List V) : List V := (match u with | some k => Vs.take k | none => Vs).drop (l.getD 0)
noncomputable def PartJ (prog : Program) (w : World) (C : Cx) (ρ : Rho) (e : Option Expr) (σ : Nat) (X : Int → Prop) (Q : Option Nat → Nat → Prop) : Prop := match e with
  | none => Q none σ
  | some e => WE prog w C ρ e σ X (fun U υ => ∃ i : Nat, U = .int i ∧ Q (some i) υ)
theorem part_ {e : Option Expr} {Q : Option Nat → Nat → Prop} (h : PartJ prog w C ρ e σ X Q) (ok : C.Ok) {s : Shared} {own : Own} {Qc : Value → Shared → Prop} {Ec : Value → Shared → Prop} (st : St C ρ own σ s)
    (po : ∀ v p υ s', To C υ s s' → IsPart v (p.map fun i : Nat => (i : Int)) → Q p υ → Qc v s') (ex : Ex C X s Ec) : wpAny (model prog w) C.A (evalPart e C.env) Qc Ec s := by
  cases e with
  | none => exact wpAny_pure (po _ none σ s st.self .none h)
  | some e => exact h ok s own _ _ st (fun v U υ s' t r ⟨i, e, q⟩ => by subst e; simp only [Rep] at r; obtain ⟨u, rfl⟩ := r; exact po _ (some i) υ s' t (.int _ _) q) ex
theorem cut_pick (vs : List Value) (l u : Option Nat) : (slicePick vs.toArray (l.map fun i : Nat => (i : Int)) (u.map fun i : Nat => (i : Int)) none) = ((match u with | some k => vs.take k | none => vs).drop (l.getD 0)).toArray := by
  rw [kms_pick_eq]
  congr 1
  have e1 : kms_lo (l.map fun i : Nat => (i : Int)) vs.length = min (l.getD 0) vs.length := by
    cases l with
    | none => simp [kms_lo]
    | some i => simp only [kms_lo, Option.map_some, Option.getD_some]; rw [if_neg (by lia)]; simp
  have e2 : kms_hi (u.map fun i : Nat => (i : Int)) vs.length = (match u with | some k => min k vs.length | none => vs.length) := by
    cases u with
    | none => simp [kms_hi]
    | some i => simp only [kms_hi, Option.map_some]; rw [if_neg (by lia)]; simp
  show (vs.drop (kms_lo _ vs.length)).take (kms_hi _ vs.length - kms_lo _ vs.length) = _
  rw [e1, e2, ← List.drop_take]
  cases u with
  | none =>
    simp only [List.take_length]
    by_cases hl : l.getD 0 ≤ vs.length
    · rw [Nat.min_eq_left hl]
    · rw [Nat.min_eq_right (by lia), List.drop_length, List.drop_of_length_le (by lia)]
  | some k =>
    simp only []
    rw [show min k vs.length = min vs.length k from Nat.min_comm _ _]
    have : vs.take (min vs.length k) = vs.take k := by
      by_cases h : k ≤ vs.length
      · rw [Nat.min_eq_right h]
      · rw [Nat.min_eq_left (by lia), List.take_length, List.take_of_length_le (by lia)]
    rw [this]
    by_cases hl : l.getD 0 ≤ vs.length
    · rw [Nat.min_eq_left hl]
    · rw [Nat.min_eq_right (by lia), List.drop_of_length_le (by rw [List.length_take]; lia), List.drop_of_length_le (by rw [List.length_take]; lia)]

theorem we_slice {value : Expr} {lo up : Option Expr} {p pos : Pos} {Q : V → Nat → Prop}
    (h : WL prog w C ρ value σ X (fun b τ => PartJ prog w C ρ lo τ X (fun l υ => PartJ prog w C ρ up υ X (fun u φ => b.1 = false ∧ b.2.length ≤ 1000000 ∧ Q (.lst (cut? l u b.2)) φ))))
    (ht : ∀ o r, letTemporaryGo value o r = pure () := by intro _ _; rfl) : WE prog w C ρ (.Subscript value (.Slice lo up none p) pos) σ X Q := fun ok s own Qc Ec st po ex =>
  wpAny_Subscript_list_slice (h ok s own _ _ st (fun v b τ s₁ t₁ r₁ h₁ => part_ h₁ ok (st.to t₁) (fun vl l υ s₂ t₂ pl h₂ => part_ h₂ ok ((st.to t₁).to t₂) (fun vu u φ s₃ t₃ pu ⟨hb, hz, q⟩ => by
    obtain ⟨a, vs, n, rfl, na, g, rl⟩ := (r₁.kp t₂.kp (fun a ha => .inl ha)).kp t₃.kp (fun a ha => .inl ha)
    rw [hb] at g
    simp only [Bool.false_eq_true, if_false] at g
    have st₃ := ((st.to t₁).to t₂).to t₃
    refine ⟨a, vs.toArray, _, _, rfl, ⟨_, g, rfl, n, rfl⟩, by rw [List.size_toArray, rl.length, sizeLine_eq]; lia, pl, pu, ?_⟩
    have t₄ : To C φ s₃ { s₃ with heap := s₃.heap.push { cls := .type "slice", data := .fields #[vl, vu, .none] } } := st₃.ext ok (h := s₃.heap.push _) (tk := s₃.toks) isSome_push
    have rc : RepL s₃.heap (Av C own) (cut? l u b.2) ((match u with | some k => vs.take k | none => vs).drop (l.getD 0)) := by
      unfold cut?
      cases u with
      | none => exact rl.drop _
      | some k => exact (rl.take k).drop _
    obtain ⟨t₅, r₅, g₅, n₅⟩ := (st₃.to t₄).new ok (T := "list") (t₄.kp.repL (fun a ha => .inl ha) rc)
    rw [cut_pick]
    have e : ((s₃.heap.push { cls := .type "slice", data := .fields #[vl, vu, .none] } : Heap)).objs.size = s₃.heap.objs.size + 1 := Heap.size_push ..
    simp only [e] at g₅ n₅
    refine ((((po.to t₁).to t₂).to t₃).to t₄) _ (.lst (cut? l u b.2)) φ _ t₅ ?_ q
    simp only [Rep]; exact ⟨_, _, 0, rfl, n₅, g₅, r₅⟩) ((ex.to st.ap t₁).to st.ap t₂)) (ex.to st.ap t₁)) ex) ht

-- calls of a builtin, of a type
/-- one argument, however it is had -/
noncomputable def C1 {α β : Type} (prog : Program) (w : World) (C : Cx) (ρ : Rho) (R : Heap → (Addr → Prop) → β → Value → Prop) (f : Value) (b : β) (σ : Nat) (X : Int → Prop) (Q : V → Nat → Prop) : Prop :=
  C.Ok → ∀ s own Qc Ec v, St C ρ own σ s → R s.heap (Av C own) b v → Po C own Rep Q s Qc → Ex C X s Ec → wpAny (model prog w) C.A (call f [v]) Qc Ec s
noncomputable def CJ (prog : Program) (w : World) (C : Cx) (ρ : Rho) (f : Value) (Vs : List V) (σ : Nat) (X : Int → Prop) (Q : V → Nat → Prop) : Prop :=
  C.Ok → ∀ s own Qc Ec vs, St C ρ own σ s → RepL s.heap (Av C own) Vs vs → Po C own Rep Q s Qc → Ex C X s Ec → wpAny (model prog w) C.A (call f vs) Qc Ec s

theorem call_name {x : Str} {p : Pos} {v : Value} {args : List Expr} {trees : List (Bool × Sem Value)} {pos : Pos} {Qc Ec : Value → Shared → Prop} {s : Shared} {own : Own} (ok : C.Ok) (st : St C ρ own σ s)
    (hx : C.env.kindOf x = some .globalImplicit) (hg : C.mg x = some v ∨ (C.mg x = none ∧ C.mb x = some v)) (hd : (x == ("__debug__" : Str)) = false) (ht : backTo pos (starEach args C.env) = trees)
    (h : wpAny (model prog w) C.A (callWith pos v [] trees []) Qc Ec s) : wpAny (model prog w) C.A (eval (.Call (.Name x p) args [] pos) C.env) Qc Ec s := by
  refine PyProof.Rows.Call_Name ht ?_
  rcases hg with hg | ⟨hg, hb⟩
  · exact Calls.Name_function_global ok.kind hx (Calls.loadGlobal_global (mg := C.mg) (ok.glob ▸ ok.g.keeps st.inv.base) hg h) hd
  · exact Calls.Name_function_global ok.kind hx (Calls.loadGlobal_builtin (mg := C.mg) (mb := C.mb) (ok.glob ▸ ok.g.keeps st.inv.base) hg (ok.blt ▸ ok.b.keeps st.inv.base) hb h) hd

theorem we_call1 {β : Type} {R : Heap → (Addr → Prop) → β → Value → Prop} {x : Str} {p pos : Pos} {id : String} {e : Expr} {Q : V → Nat → Prop} (hx : C.env.kindOf x = some .globalImplicit) (hg : C.mg x = none ∧ C.mb x = some (.builtin id))
    (h : J prog w C ρ R (eval e C.env) σ X (fun b τ => C1 (α := Unit) prog w C ρ R (.builtin id) b τ X Q)) (hd : (x == ("__debug__" : Str)) = false := by decide)
    (he : ∀ env, starEach [e] env = [(false, eval e env)] := by intro _; rfl) : WE prog w C ρ (.Call (.Name x p) [e] [] pos) σ X Q := fun ok s own Qc Ec st po ex => by
  refine call_name ok st hx (.inr hg) hd (trees := [(false, eval e C.env)]) (by rw [he]; rfl) (Calls.callWith_builtin rfl (Calls.evalArgs_plain (Calls.spliced_cons ?_)))
  exact h ok s own _ _ st (fun v b τ s₁ t₁ r₁ h₁ => Calls.spliced_nil (h₁ ok s₁ own _ _ v (st.to t₁) r₁ (po.to t₁) (ex.to st.ap t₁))) ex
theorem we_callT1 {β : Type} {R : Heap → (Addr → Prop) → β → Value → Prop} {x : Str} {p pos : Pos} {T : String} {e : Expr} {Q : V → Nat → Prop} (hx : C.env.kindOf x = some .globalImplicit) (hg : C.mg x = none ∧ C.mb x = some (.type T))
    (h : J prog w C ρ R (eval e C.env) σ X (fun b τ => C1 (α := Unit) prog w C ρ R (.type T) b τ X Q)) (hd : (x == ("__debug__" : Str)) = false := by decide)
    (he : ∀ env, starEach [e] env = [(false, eval e env)] := by intro _; rfl) : WE prog w C ρ (.Call (.Name x p) [e] [] pos) σ X Q := fun ok s own Qc Ec st po ex => by
  refine call_name ok st hx (.inr hg) hd (trees := [(false, eval e C.env)]) (by rw [he]; rfl) (PyProof.Rows.callWith_type rfl (Calls.evalArgs_plain (Calls.spliced_cons ?_)))
  exact h ok s own _ _ st (fun v b τ s₁ t₁ r₁ h₁ => Calls.spliced_nil (h₁ ok s₁ own _ _ v (st.to t₁) r₁ (po.to t₁) (ex.to st.ap t₁))) ex
theorem we_callB {x : Str} {p pos : Pos} {id : String} {e : Expr} {rest : List Expr} {Q : V → Nat → Prop} (hx : C.env.kindOf x = some .globalImplicit) (hg : C.mg x = none ∧ C.mb x = some (.builtin id))
    (h : WA prog w C ρ pos (e :: rest) σ X (fun Ws τ => CJ prog w C ρ (.builtin id) Ws τ X Q)) (hd : (x == ("__debug__" : Str)) = false := by decide)
    (he : ∀ env, starEach (e :: rest) env = (false, eval e env) :: starEach rest env := by intro _; rfl)
    (hp : ∀ env, (backTo pos (starEach rest env)).any (·.1) = false := by intro _; rfl) : WE prog w C ρ (.Call (.Name x p) (e :: rest) [] pos) σ X Q := fun ok s own Qc Ec st po ex => by
  refine call_name ok st hx (.inr hg) hd (trees := (false, eval e C.env) :: backTo pos (starEach rest C.env)) (by rw [he]; rfl) (Calls.callWith_builtin ?_ (Calls.evalArgs_plain ?_))
  · simp only [List.any_cons, Bool.false_or]; exact hp _
  · have h' := h ok s own (fun vs s' => wpAny (model prog w) C.A (call (.builtin id) vs) Qc Ec s') Ec st (fun vs Ws τ s₁ t₁ r₁ h₁ => h₁ ok s₁ own _ _ vs (st.to t₁) r₁ (po.to t₁) (ex.to st.ap t₁)) ex
    rw [he] at h'
    exact h'

/-- a function of the program's own: its contract -/
theorem we_callF {x : Str} {p pos : Pos} {f : Addr} {e : Expr} {rest : List Expr} {o : Obj} {fd : FuncData} {Q : V → Nat → Prop} (hx : C.env.kindOf x = some .globalImplicit) (hg : C.mg x = some (.ref f)) (hf : C.K.lookup f = some o) (hd' : o.data = .func fd)
    (h : WA prog w C ρ pos (e :: rest) σ X (fun Ws τ => CJ prog w C ρ (.ref f) Ws τ X Q)) (hd : (x == ("__debug__" : Str)) = false := by decide)
    (he : ∀ env, starEach (e :: rest) env = (false, eval e env) :: starEach rest env := by intro _; rfl) : WE prog w C ρ (.Call (.Name x p) (e :: rest) [] pos) σ X Q := fun ok s own Qc Ec st po ex => by
  refine call_name ok st hx (.inl hg) hd (trees := (false, eval e C.env) :: backTo pos (starEach rest C.env)) (by rw [he]; rfl) (Calls.callWith_function (o := o) (fd := fd) (Calls.evalArgs_plain ?_))
  have h' := h ok s own (fun vs s' => (s'.heap.get? f = some o ∧ o.data = .func fd) ∧ wpAny (model prog w) C.A (call (.ref f) vs) Qc Ec s') Ec st (fun vs Ws τ s₁ t₁ r₁ h₁ =>
    ⟨⟨t₁.inv.base _ _ (ok.kin _ _ hf), hd'⟩, h₁ ok s₁ own _ _ vs (st.to t₁) r₁ (po.to t₁) (ex.to st.ap t₁)⟩) ex
  rw [he] at h'
  exact h'

theorem ints_of {h : Heap} {av : Addr → Prop} : ∀ {ns : List Int} {vs : List Value}, RepL h av (ns.map V.int) vs → ∃ xs : List (Int × Tok), vs = xs.map (fun p => .int p.1 p.2) ∧ xs.map (·.1) = ns
  | [], _, r => by simp only [List.map_nil, RepL] at r; exact ⟨[], r, rfl⟩
  | n :: ns, _, r => by
    simp only [List.map_cons, RepL, Rep] at r
    obtain ⟨v, us, rfl, ⟨t, rfl⟩, r⟩ := r
    obtain ⟨xs, rfl, e⟩ := ints_of r
    exact ⟨(n, t) :: xs, rfl, by simp [e]⟩

theorem c_len {b : Bool × List V} {Q : V → Nat → Prop} (hz : b.2.length < 2 ^ 60) (h : Q (.int b.2.length) σ) : C1 (α := Unit) prog w C ρ (RSL C.mu) (.builtin "len") b σ X Q := fun ok s own Qc Ec v st r po ex => by
  obtain ⟨a, vs, n, rfl, na, g, rl⟩ := r
  have e : (vs.toArray.size : Int) = b.2.length := by rw [List.size_toArray, rl.length]
  have q := po (.int b.2.length (s.toks + 1)) (.int b.2.length) σ _ (st.toks (tk := s.toks + 1 + 1) ok) (by simp only [Rep]; exact ⟨_, rfl⟩) h
  cases hb : b.1 with
  | true =>
    rw [hb] at g; simp only [if_true] at g
    exact PySem.P.len_tuple (items := vs.toArray) (n := n) g (by rw [e]; lia) (by rw [e]; exact q)
  | false =>
    rw [hb] at g; simp only [Bool.false_eq_true, if_false] at g
    exact PySem.Calls.call_len_list (items := vs.toArray) ⟨_, g, rfl, n, rfl⟩ (by rw [e]; lia) (by rw [e]; exact q)

theorem c_min {a b : Int} {Q : V → Nat → Prop} (h : Q (.int (min a b)) σ) : CJ prog w C ρ (.builtin "min") [.int a, .int b] σ X Q := fun ok s own Qc Ec vs st r po ex => by
  simp only [RepL, Rep] at r
  obtain ⟨_, _, rfl, ⟨t, rfl⟩, _, _, rfl, ⟨u, rfl⟩, rfl⟩ := r
  refine min_two_ints ok.hd fun h' tk hk => po _ (.int (min a b)) σ _ (st.ext ok hk) ?_ h
  simp only [Rep]
  by_cases c : b < a
  · rw [if_pos c]; exact ⟨u, by rw [Int.min_eq_right (by lia)]⟩
  · rw [if_neg c]; exact ⟨t, by rw [Int.min_eq_left (by lia)]⟩
theorem c_max {a b : Int} {Q : V → Nat → Prop} (h : Q (.int (max a b)) σ) : CJ prog w C ρ (.builtin "max") [.int a, .int b] σ X Q := fun ok s own Qc Ec vs st r po ex => by
  simp only [RepL, Rep] at r
  obtain ⟨_, _, rfl, ⟨t, rfl⟩, _, _, rfl, ⟨u, rfl⟩, rfl⟩ := r
  refine max_two_ints ok.hd fun h' tk hk => po _ (.int (max a b)) σ _ (st.ext ok hk) ?_ h
  simp only [Rep]
  by_cases c : b > a
  · rw [if_pos c]; exact ⟨u, by rw [Int.max_eq_right (by lia)]⟩
  · rw [if_neg c]; exact ⟨t, by rw [Int.max_eq_left (by lia)]⟩
theorem c_abs {a : Int} {Q : V → Nat → Prop} (h : Q (.int (if a < 0 then -a else a)) σ) : CJ prog w C ρ (.builtin "abs") [.int a] σ X Q := fun ok s own Qc Ec vs st r po ex => by
  simp only [RepL, Rep] at r
  obtain ⟨_, _, rfl, ⟨t, rfl⟩, rfl⟩ := r
  exact call_abs_int fun u tk => po _ (.int _) σ _ (st.toks ok) (by simp only [Rep]; exact ⟨_, rfl⟩) h
theorem c_int {a : Int} {Q : V → Nat → Prop} (h : Q (.int a) σ) : C1 (α := Unit) prog w C ρ Rep (.type "int") (.int a) σ X Q := fun ok s own Qc Ec v st r po ex => by
  simp only [Rep] at r
  obtain ⟨t, rfl⟩ := r
  exact call_int_int (po _ (.int _) σ _ st.self (by simp only [Rep]; exact ⟨_, rfl⟩) h)
theorem c_range {a : Nat} {Q : V → Nat → Prop} (hz : a < 2 ^ 60) (h : Q (.rng a) σ) : C1 (α := Unit) prog w C ρ Rep (.type "range") (.int a) σ X Q := fun ok s own Qc Ec v st r po ex => by
  simp only [Rep] at r
  obtain ⟨t, rfl⟩ := r
  refine call_range_1 (po _ (.rng a) σ _ (st.ext ok (h := s.heap.push _) (tk := s.toks + 1 + 1) isSome_push) ?_ h)
  simp only [Rep]
  exact ⟨_, _, _, _, rfl, st.avoid_fresh none_of_size, IsRange.new .., hz⟩
theorem c_sum {ns : List Int} {Q : V → Nat → Prop} (h : Q (.int ns.sum) σ) : C1 (α := Unit) prog w C ρ Rep (.builtin "sum") (.lst (ns.map V.int)) σ X Q := fun ok s own Qc Ec v st r po ex => by
  simp only [Rep] at r
  obtain ⟨a, vs, n, rfl, na, g, rl⟩ := r
  obtain ⟨xs, rfl, e⟩ := ints_of rl
  have hi : (xs.map fun p => Value.int p.1 p.2).toArray = intItems xs.toArray := by simp [intItems]
  have hl : s.heap.IsList a (intItems xs.toArray) := ⟨_, g, rfl, n, by rw [← hi]⟩
  refine sum_intListG ok.hd hl fun h' tk t' hk => po _ (.int ns.sum) σ _ (st.ext ok hk) ?_ h
  simp only [Rep]
  refine ⟨t', ?_⟩
  rw [preSum_eq, List.take_of_length_le (by simp), ← e]
end
end Mini
end

section
open PySem PySem.W PyProof.Rows
set_option maxRecDepth 100000
namespace Mini

mutual
noncomputable def pd : V → PyData
  | .bool b => .bool b
  | .int i => .int i
  | .tup Vs => .tuple (pds Vs)
  | .lst Vs => .list (pds Vs)
  | _ => .none
noncomputable def pds : List V → List PyData
  | [] => []
  | V :: Vs => pd V :: pds Vs
end
mutual
noncomputable def lay : V → Bool
  | .none | .bool _ | .int _ => true
  | .tup Vs | .lst Vs => lays Vs
  | _ => false
noncomputable def lays : List V → Bool
  | [] => true
  | V :: Vs => lay V && lays Vs
end
mutual
theorem rep_reads {h : Heap} {av : Addr → Prop} : ∀ {W : V} {v : Value}, Rep h av W v → lay W = true → ∃ as, Reads h v (pd W) as
  | .none, v, r, _ => by simp only [Rep] at r; subst r; exact ⟨_, .none⟩
  | .bool b, v, r, _ => by simp only [Rep] at r; subst r; exact ⟨_, .bool b⟩
  | .int i, v, r, _ => by simp only [Rep] at r; obtain ⟨t, rfl⟩ := r; exact ⟨_, .int i t⟩
  | .str _, v, _, l => by cases l
  | .rng _, v, _, l => by cases l
  | .raw _, v, _, l => by cases l
  | .tup Vs, v, r, l => by
    simp only [Rep] at r; obtain ⟨a, vs, n, rfl, _, g, r⟩ := r
    obtain ⟨as, q⟩ := repL_reads r (by simpa only [lay] using l)
    exact ⟨as, by rw [pd]; exact .tuple g rfl rfl (by simpa using q)⟩
  | .lst Vs, v, r, l => by
    simp only [Rep] at r; obtain ⟨a, vs, n, rfl, _, g, r⟩ := r
    obtain ⟨as, q⟩ := repL_reads r (by simpa only [lay] using l)
    exact ⟨_, by rw [pd]; exact .list g rfl rfl (by simpa using q)⟩
theorem repL_reads {h : Heap} {av : Addr → Prop} : ∀ {Ws : List V} {vs : List Value}, RepL h av Ws vs → lays Ws = true → ∃ as, ReadsAll h vs (pds Ws) as
  | [], vs, r, _ => by rw [RepL] at r; subst r; exact ⟨_, by rw [pds]; exact .nil⟩
  | W :: Ws, vs, r, l => by
    simp only [RepL] at r
    obtain ⟨v, us, rfl, a, b⟩ := r
    simp only [lays, Bool.and_eq_true] at l
    obtain ⟨as, p⟩ := rep_reads a l.1
    obtain ⟨bs, q⟩ := repL_reads b l.2
    exact ⟨_, by rw [pds]; exact .cons p q⟩
end
mutual
theorem lay_can : ∀ {W : V}, lay W = true → (pd W).canLay0 = true
  | .none, _ => rfl
  | .bool b, _ => rfl
  | .int i, _ => rfl
  | .str _, l => by cases l
  | .rng _, l => by cases l
  | .raw _, l => by cases l
  | .tup Vs, l => by rw [pd, PyData.canLay0]; exact lays_can (by simpa only [lay] using l)
  | .lst Vs, l => by rw [pd, PyData.canLay0]; exact lays_can (by simpa only [lay] using l)
theorem lays_can : ∀ {Ws : List V}, lays Ws = true → PyData.canLayAll0 (pds Ws) = true
  | [], _ => rfl
  | W :: Ws, l => by
    simp only [lays, Bool.and_eq_true] at l
    rw [pds, PyData.canLayAll0, lay_can l.1, lays_can l.2]; rfl
end
theorem beq_flip (n i : Int) : (n == i) = (i == n) := by rw [Bool.eq_iff_iff, beq_iff_eq, beq_iff_eq]; exact eq_comm
/-- Python's == -/
noncomputable def veq (a b : V) : Bool := PyData.eqv (pd a) (pd b)
noncomputable def deep (a : V) : Nat := (pd a).depth
noncomputable def pr (p : Int × Int) : V := .tup [.int p.1, .int p.2]

section
variable {prog : Program} {w : World} {C : Cx} {ρ : Rho} {σ : Nat} {X : Int → Prop}
theorem o_veq {a b : V} {Q : V → Nat → Prop} (la : lay a = true) (lb : lay b = true) (da : deep a ≤ 64) (db : deep b ≤ 64) (h : Q (.bool (veq a b)) σ) : O2 prog w C ρ Rep (compareOp .Eq) a b σ X Q := fun ok s own Qc Ec v u st r q po _ => by
  obtain ⟨as, ra⟩ := rep_reads r la
  obtain ⟨bs, rb⟩ := rep_reads q lb
  have hu := ok.units
  exact SeqAt.compareEq_shaped ra rb (by unfold SeqAt.shaped; rw [lay_can la, Bool.true_and]; exact decide_eq_true da) (by unfold SeqAt.shaped; rw [lay_can lb, Bool.true_and]; exact decide_eq_true db) (by lia) (po _ (.bool (veq a b)) σ s st.self (by simp only [Rep, veq]) h)
theorem o_vne {a b : V} {Q : V → Nat → Prop} (la : lay a = true) (lb : lay b = true) (da : deep a ≤ 64) (db : deep b ≤ 64) (h : Q (.bool (!veq a b)) σ) : O2 prog w C ρ Rep (compareOp .NotEq) a b σ X Q := fun ok s own Qc Ec v u st r q po _ => by
  obtain ⟨as, ra⟩ := rep_reads r la
  obtain ⟨bs, rb⟩ := rep_reads q lb
  have hu := ok.units
  exact SeqAt.compareNe_shaped ra rb (by unfold SeqAt.shaped; rw [lay_can la, Bool.true_and]; exact decide_eq_true da) (by unfold SeqAt.shaped; rw [lay_can lb, Bool.true_and]; exact decide_eq_true db) (by lia) (po _ (.bool (!veq a b)) σ s st.self (by simp only [Rep, veq]) h)
theorem veq_int (a b : Int) : veq (.int a) (.int b) = (a == b) := by simp [veq, pd, PyData.eqv]
theorem veq_pr (p q : Int × Int) : veq (pr p) (pr q) = decide (p = q) := by
  obtain ⟨a, b⟩ := p; obtain ⟨c, d⟩ := q
  simp only [veq, pr, pd, pds, PyData.eqv, PyData.eqvAll, Bool.and_true, Prod.mk.injEq]
  by_cases h1 : a = c <;> by_cases h2 : b = d <;> simp [h1, h2]
theorem eqvAll_prs : ∀ (ps qs : List (Int × Int)), PyData.eqvAll (pds (ps.map pr)) (pds (qs.map pr)) = decide (ps = qs)
  | [], [] => by simp [pds, PyData.eqvAll]
  | [], q :: qs => by simp [pds, PyData.eqvAll]
  | p :: ps, [] => by simp [pds, PyData.eqvAll]
  | p :: ps, q :: qs => by
    have e := veq_pr p q
    unfold veq at e
    simp only [List.map_cons, pds, PyData.eqvAll, eqvAll_prs ps qs, e, List.cons.injEq]
    by_cases h1 : p = q <;> by_cases h2 : ps = qs <;> simp [h1, h2]
theorem veq_prs (ps qs : List (Int × Int)) : veq (.tup (ps.map pr)) (.tup (qs.map pr)) = decide (ps = qs) := by
  simp only [veq, pd, PyData.eqv]; exact eqvAll_prs ps qs
theorem eqvAll_bools : ∀ (ps qs : List Bool), PyData.eqvAll (pds (ps.map V.bool)) (pds (qs.map V.bool)) = decide (ps = qs)
  | [], [] => by simp [pds, PyData.eqvAll]
  | [], q :: qs => by simp [pds, PyData.eqvAll]
  | p :: ps, [] => by simp [pds, PyData.eqvAll]
  | p :: ps, q :: qs => by
    simp only [List.map_cons, pds, pd, PyData.eqvAll, PyData.eqv, eqvAll_bools ps qs, List.cons.injEq]
    by_cases h1 : p = q <;> by_cases h2 : ps = qs <;> simp [h1, h2]
theorem veq_bools (ps qs : List Bool) : veq (.lst (ps.map V.bool)) (.lst (qs.map V.bool)) = decide (ps = qs) := by
  simp only [veq, pd, PyData.eqv]; exact eqvAll_bools ps qs
theorem veq_nil (Ws : List V) : veq (.lst Ws) (.lst []) = Ws.isEmpty := by
  cases Ws <;> simp [veq, pd, pds, PyData.eqv, PyData.eqvAll]
theorem lays_prs : ∀ ps : List (Int × Int), lays (ps.map pr) = true
  | [] => rfl
  | p :: ps => by simp only [List.map_cons, lays, lays_prs ps, pr, lay, Bool.and_self]
theorem depthAll_prs : ∀ ps : List (Int × Int), PyData.depthAll (pds (ps.map pr)) ≤ 1
  | [] => by simp [pds, PyData.depthAll]
  | p :: ps => by
    have := depthAll_prs ps
    simp only [List.map_cons, pds, pr, pd, PyData.depthAll, PyData.depth] at this ⊢
    lia
theorem deep_prs (ps : List (Int × Int)) : deep (.tup (ps.map pr)) ≤ 64 := by
  have := depthAll_prs ps
  simp only [deep, pd, PyData.depth]; lia
theorem deep_prsL (ps : List (Int × Int)) : deep (.lst (ps.map pr)) ≤ 64 := by
  have := depthAll_prs ps
  simp only [deep, pd, PyData.depth]; lia
theorem lays_ints : ∀ ps : List Int, lays (ps.map V.int) = true
  | [] => rfl
  | p :: ps => by simp only [List.map_cons, lays, lays_ints ps, lay, Bool.and_self]
theorem lays_bools : ∀ ps : List Bool, lays (ps.map V.bool) = true
  | [] => rfl
  | p :: ps => by simp only [List.map_cons, lays, lays_bools ps, lay, Bool.and_self]
theorem depthAll_ints : ∀ ps : List Int, PyData.depthAll (pds (ps.map V.int)) = 0
  | [] => by simp [pds, PyData.depthAll]
  | p :: ps => by simp [pds, pd, PyData.depthAll, PyData.depth, depthAll_ints ps]
theorem depthAll_bools : ∀ ps : List Bool, PyData.depthAll (pds (ps.map V.bool)) = 0
  | [] => by simp [pds, PyData.depthAll]
  | p :: ps => by simp [pds, pd, PyData.depthAll, PyData.depth, depthAll_bools ps]
theorem deep_ints (ps : List Int) : deep (.lst (ps.map V.int)) ≤ 64 := by simp [deep, pd, PyData.depth, depthAll_ints]
theorem deep_bools (ps : List Bool) : deep (.lst (ps.map V.bool)) ≤ 64 := by simp [deep, pd, PyData.depth, depthAll_bools]

/-- x in a tuple of ints -/
theorem o_in {i : Int} {ns : List Int} {Q : V → Nat → Prop} (h : Q (.bool (ns.contains i)) σ) : O2 prog w C ρ Rep (compareOp .In) (.int i) (.tup (ns.map V.int)) σ X Q := fun ok s own Qc Ec v u st r q po _ => by
  obtain ⟨bs, rb⟩ := rep_reads q (by simp only [lay]; exact lays_ints ns)
  obtain ⟨as, ra⟩ := rep_reads r rfl
  have hu := ok.units
  have e : ∀ ns : List Int, (pds (ns.map V.int)).any (fun y => PyData.eqv y (pd (.int i))) = ns.contains i := by
    intro ns
    induction ns with
    | nil => rfl
    | cons n ns ih => simp only [List.map_cons, pds, pd, List.any_cons, PyData.eqv, List.contains_cons] at ih ⊢; rw [ih, beq_flip]
  rw [pd] at rb
  refine SeqAt.in_tuple_reads rb ra (lays_can (lays_ints ns)) rfl (by have := Nat.min_le_left (PyData.depthAll (pds (ns.map V.int))) (pd (.int i)).depth; rw [depthAll_ints] at this; rw [depthAll_ints]; lia) (po _ (.bool _) σ s st.self (by simp only [Rep]; rw [e]) h)
theorem o_notin {i : Int} {ns : List Int} {Q : V → Nat → Prop} (h : Q (.bool (!ns.contains i)) σ) : O2 prog w C ρ Rep (compareOp .NotIn) (.int i) (.tup (ns.map V.int)) σ X Q := fun ok s own Qc Ec v u st r q po _ => by
  obtain ⟨bs, rb⟩ := rep_reads q (by simp only [lay]; exact lays_ints ns)
  obtain ⟨as, ra⟩ := rep_reads r rfl
  have hu := ok.units
  have e : ∀ ns : List Int, (pds (ns.map V.int)).any (fun y => PyData.eqv y (pd (.int i))) = ns.contains i := by
    intro ns
    induction ns with
    | nil => rfl
    | cons n ns ih => simp only [List.map_cons, pds, pd, List.any_cons, PyData.eqv, List.contains_cons] at ih ⊢; rw [ih, beq_flip]
  rw [pd] at rb
  refine SeqAt.notIn_tuple_reads rb ra (lays_can (lays_ints ns)) rfl (by have := Nat.min_le_left (PyData.depthAll (pds (ns.map V.int))) (pd (.int i)).depth; rw [depthAll_ints] at this; rw [depthAll_ints]; lia) (po _ (.bool _) σ s st.self (by simp only [Rep]; rw [e]) h)

theorem rsl_rep {mu : List Addr} {h : Heap} {av : Addr → Prop} {b : Bool × List V} {v : Value} (r : RSL mu h av b v) : Rep h (fun _ => False) (if b.1 then .tup b.2 else .lst b.2) v := by
  obtain ⟨a, vs, n, rfl, _, g, r⟩ := r
  have r' : RepL h (fun _ => False) b.2 vs := RepL.mono (fun _ _ e _ _ => e) (fun _ _ _ h => h) r
  cases hb : b.1 <;> rw [hb] at g <;> simp only [if_true, Bool.false_eq_true, if_false, Rep] at g ⊢ <;> exact ⟨a, vs, n, rfl, id, g, r'⟩

/-- a list against [] -/
theorem nil_ne {l : Expr} {pos pos' : Pos} {Q : Bool → Nat → Prop} (h : WL prog w C ρ l σ X (fun b τ => b.1 = false ∧ lays b.2 = true ∧ deep (.lst b.2) ≤ 64 ∧ Q (!b.2.isEmpty) τ)) : WT prog w C ρ (.Compare l [.NotEq] [.List [] pos'] pos) σ X Q := fun ok s own Qc Ec st po ex =>
  wpAny_isTrue_Compare1 (h ok s own _ _ st (fun v b τ s₁ t₁ r₁ ⟨hb, hl, hd, q⟩ => by
    refine wpAny_List_spliced (Calls.spliced_nil ⟨Nat.zero_le _, ?_⟩)
    obtain ⟨t₂, r₂, g, na⟩ := (st.to t₁).new ok (T := "list") (Vs := []) (vs := []) (by simp only [RepL])
    have rv := rsl_rep (r₁.kp t₂.kp (fun a ha => .inl ha))
    rw [hb] at rv; simp only [Bool.false_eq_true, if_false] at rv
    obtain ⟨as, ra⟩ := rep_reads rv (by simpa only [lay] using hl)
    obtain ⟨bs, rb⟩ := rep_reads (show Rep (s₁.heap.push (lstO [] 0)) (Av C own) (.lst []) (.ref s₁.heap.objs.size) by simp only [Rep]; exact ⟨_, [], 0, rfl, na, g, r₂⟩) rfl
    have hu := ok.units
    refine SeqAt.compareNe_shaped ra rb (by unfold SeqAt.shaped; rw [lay_can (by simpa only [lay] using hl), Bool.true_and]; exact decide_eq_true hd) rfl (by lia) ?_
    rw [show PyData.eqv (pd (.lst b.2)) (pd (.lst [])) = b.2.isEmpty from veq_nil b.2]
    exact wpAny_truthy_bool ((po.to t₁) _ _ τ _ t₂ rfl q)) ex) rfl

theorem c_tuple {b : Bool × List V} {Q : V → Nat → Prop} (hb : b.1 = false) (hz : b.2.length ≤ 1000000) (h : Q (.tup b.2) σ) : C1 (α := Unit) prog w C ρ (RSL C.mu) (.type "tuple") b σ X Q := fun ok s own Qc Ec v st r po ex => by
  obtain ⟨a, vs, n, rfl, na, g, rl⟩ := r
  rw [hb] at g; simp only [Bool.false_eq_true, if_false] at g
  refine call_tuple_list (items := vs.toArray) ⟨_, g, rfl, n, rfl⟩ (fun h' hk => ?_) (by rw [List.size_toArray, rl.length, sizeLine_eq]; lia)
  have t₁ : To C σ s { s with heap := h' } := st.ext ok (h := h') (tk := s.toks) hk
  obtain ⟨t₂, r₂, g₂, n₂⟩ := (st.to t₁).new ok (T := "tuple") (t₁.kp.repL (fun a ha => .inl ha) rl)
  refine (po.to t₁) _ (.tup b.2) σ _ t₂ ?_ h
  simp only [Rep]; exact ⟨_, vs, 0, rfl, n₂, g₂, r₂⟩
theorem c_list {b : Bool × List V} {Q : V → Nat → Prop} (hz : b.2.length ≤ 1000000) (h : Q (.lst b.2) σ) : C1 (α := Unit) prog w C ρ (RSL C.mu) (.type "list") b σ X Q := fun ok s own Qc Ec v st r po ex => by
  obtain ⟨a, vs, n, rfl, na, g, rl⟩ := r
  refine call_list_seq (T := if b.1 then "tuple" else "list") (items := vs.toArray) (n := n) a (by cases b.1 <;> simp) g rfl rfl (fun h' c' hk hD => ?_) (by rw [List.size_toArray, rl.length, sizeLine_eq]; lia)
  have t₁ : To C σ s { s with heap := h' } := st.ext ok (h := h') (tk := s.toks) hk
  refine po _ (.lst b.2) σ _ t₁ ?_ h
  simp only [Rep]; exact ⟨_, vs, c', rfl, st.avoid_fresh none_of_size, hD, t₁.kp.repL (fun a ha => .inl ha) rl⟩

theorem add_lists {own : Own} {s : Shared} {Qc Ec : Value → Shared → Prop} {v u : Value} {Ws Us : List V} (ok : C.Ok) (st : St C ρ own σ s) (r : RSL C.mu s.heap (Av C own) (false, Ws) v) (q : RSL C.mu s.heap (Av C own) (false, Us) u) (hz : Ws.length + Us.length ≤ 1000000)
    (h : ∀ a vs s', v ≠ .ref a → To C σ s s' → ¬ Av C own a → s.heap.get? a = none → s'.heap.get? a = some (lstO vs 0) → RepL s'.heap (fun b => Av C own b ∨ b = a) (Ws ++ Us) vs → Qc (.ref a) s') : wpAny (model prog w) C.A (binaryOp .Add v u) Qc Ec s := by
  obtain ⟨a, vs, n, rfl, na, g, rl⟩ := r
  obtain ⟨b, us, m, rfl, nb, g', ql⟩ := q
  simp only [Bool.false_eq_true, if_false] at g g'
  refine PySem.P.add_list (items := vs.toArray) (items2 := us.toArray) (n := n) (n2 := m) g g' ?_ (by rw [List.size_toArray, List.size_toArray, rl.length, ql.length, sizeLine_eq]; simp only []; lia)
  obtain ⟨t₂, r₂, g₂, n₂⟩ := st.new ok (T := "list") (rl.append ql)
  rw [show vs.toArray ++ us.toArray = (vs ++ us).toArray by simp]
  refine h _ _ _ ?_ t₂ n₂ none_of_size g₂ (RepL.mono (fun b o e _ nb => (t₂.kp.keep b o e fun q => nb (.inl q)).exact (DD.nodict ‹_›)) (fun b e nb q => q.elim nb fun q => by rw [q, none_of_size] at e; cases e) (rl.append ql))
  intro e
  have : a = s.heap.objs.size := by injection e
  rw [this, none_of_size] at g; cases g
theorem we_addL {l r : Expr} {pos : Pos} {Q : V → Nat → Prop} (h : WL prog w C ρ l σ X (fun b τ => WL prog w C ρ r τ X (fun c υ => b.1 = false ∧ c.1 = false ∧ b.2.length + c.2.length ≤ 1000000 ∧ Q (.lst (b.2 ++ c.2)) υ))) : WE prog w C ρ (.BinOp l .Add r pos) σ X Q := fun ok s own Qc Ec st po ex =>
  wpAny_BinOp (h ok s own _ _ st (fun v b τ s₁ t₁ r₁ h₁ => h₁ ok s₁ own _ _ (st.to t₁) (fun u c υ s₂ t₂ r₂ ⟨hb, hc, hz, q⟩ => by
    obtain ⟨b1, Ws⟩ := b; obtain ⟨c1, Us⟩ := c
    simp only at hb hc; subst hb hc
    refine add_lists ok ((st.to t₁).to t₂) (r₁.kp t₂.kp (fun a ha => .inl ha)) r₂ hz fun a vs s' _ t₃ na _ g rr => ((po.to t₁).to t₂) _ (.lst (Ws ++ Us)) υ _ t₃ ?_ q
    simp only [Rep]; exact ⟨a, vs, 0, rfl, na, g, RepL.mono (fun _ _ e _ _ => e) (fun b _ h q => h (.inl q)) rr⟩) (ex.to st.ap t₁)) ex)
theorem o_addT {Ws Us : List V} {Q : V → Nat → Prop} (hz : Ws.length + Us.length ≤ 1000000) (h : Q (.tup (Ws ++ Us)) σ) : O2 prog w C ρ Rep (binaryOp .Add) (.tup Ws) (.tup Us) σ X Q := fun ok s own Qc Ec v u st r q po _ => by
  have r' := r; have q' := q
  simp only [Rep] at r q
  obtain ⟨a, vs, n, rfl, na, g, rl⟩ := r
  obtain ⟨b, us, m, rfl, nb, g', ql⟩ := q
  have T1 : s.TypeIs (.ref a) "tuple" := ⟨_, g, rfl⟩
  have T2 : s.TypeIs (.ref b) "tuple" := ⟨_, g', rfl⟩
  by_cases hv : Ws = []
  · subst hv
    rw [RepL] at rl; subst rl
    exact concat_meets T1 T2 noFill_tuple_add seq_tuple_add PySem.F.slot_tuple_add PySem.F.entry_tuple_add (PySem.F.args_tuple_add_2 _ _) (AutoSeq1.tuple___add___tuple_tuple_0 a _ n b us.toArray m rfl) ⟨g, g', po _ (.tup Us) σ s st.self q' h⟩
  · have hvs : ¬ vs.toArray.isEmpty = true := by
      intro e
      have : vs = [] := by simpa using e
      subst this
      have := rl.length
      exact hv (List.eq_nil_of_length_eq_zero this.symm)
    by_cases hw : Us = []
    · subst hw
      rw [RepL] at ql; subst ql
      refine concat_meets T1 T2 noFill_tuple_add seq_tuple_add PySem.F.slot_tuple_add PySem.F.entry_tuple_add (PySem.F.args_tuple_add_2 _ _) (AutoSeq1.tuple___add___tuple_tuple_1 a vs.toArray n b _ m hvs rfl) ⟨g, g', po _ (.tup Ws) σ s st.self r' (by simpa using h)⟩
    · have hus : ¬ us.toArray.isEmpty = true := by
        intro e
        have : us = [] := by simpa using e
        subst this
        have := ql.length
        exact hw (List.eq_nil_of_length_eq_zero this.symm)
      refine PySem.P.add_tuple (items := vs.toArray) (items2 := us.toArray) (n := n) (n2 := m) g g' hvs hus ?_ (by rw [List.size_toArray, List.size_toArray, rl.length, ql.length, sizeLine_eq]; lia)
      obtain ⟨t₂, r₂, g₂, n₂⟩ := st.new ok (T := "tuple") (rl.append ql)
      rw [show vs.toArray ++ us.toArray = (vs ++ us).toArray by simp]
      refine po _ (.tup (Ws ++ Us)) σ _ t₂ ?_ h
      simp only [Rep]; exact ⟨_, _, 0, rfl, n₂, g₂, r₂⟩

theorem tup_iter {s : Shared} {a : Addr} {xs : Array (Int × Tok)} {Q E : Value → Shared → Prop} {A : Around} (ht : s.heap.IsTuple a (intItems xs))
    (h : ∀ s₂ : Shared, s₂ = { s with heap := s.heap.push { cls := .type "tuple_iterator", data := .fields #[.ref a, .int 0 0] } } →
      (s₂.heap.IsTupleIter s.heap.objs.size a 0 ∧ s₂.heap.IsTuple a (intItems xs)) → (∀ b ∈ [s.heap.objs.size, a], b < s₂.heap.objs.size) → a ≠ s.heap.objs.size → Q (.ref s.heap.objs.size) s₂) :
    wpAny (model prog w) A (pyIter (.ref a)) Q E s := by
  have hlt : a < s.heap.objs.size := by obtain ⟨_, e, _⟩ := ht; exact Heap.lt_size e
  refine wpAny_pyIter_tuple ht (h _ rfl ⟨⟨_, Heap.get?_push_size _ rfl, rfl, rfl⟩, ht.push _⟩ (fun b hb => ?_) (Nat.ne_of_lt hlt))
  show b < (s.heap.push _).objs.size
  rw [Heap.size_push]
  simp only [List.mem_cons, List.not_mem_nil, or_false] at hb
  rcases hb with rfl | rfl
  · exact Nat.lt_succ_self _
  · exact Nat.lt_succ_of_lt hlt
theorem c_min2 {a b : Int} {Q : V → Nat → Prop} (h : Q (.int (min a b)) σ) : C1 (α := Unit) prog w C ρ Rep (.builtin "min") (.tup [.int a, .int b]) σ X Q := fun ok s own Qc Ec v st r po ex => by
  simp only [Rep, RepL] at r
  obtain ⟨d, _, n, rfl, na, g, _, _, rfl, ⟨t, rfl⟩, _, _, rfl, ⟨u, rfl⟩, rfl⟩ := r
  have ht : s.heap.IsTuple d (intItems #[(a, t), (b, u)]) := ⟨_, g, rfl, n, by simp [intItems]⟩
  refine call_min_walk (tup_iter ht fun s₂ e stt hfp hne => ?_)
  subst e
  refine ⟨_, _, _, _, _, _, _, rfl, Walks.tuple (A := C.A.in1) ok.hd _ d hne (intItems #[(a, t), (b, u)]), stt, hfp, by simp [intItems], CmpOf.ints_lt (numAt #[(a, t), (b, u)]) (fun _ _ => intItems_at), fun v h' tk hP hk => ?_⟩
  have hk' : ∀ b o, s.heap.get? b = some o → h'.get? b = some o := fun b o e => by
    refine hk b o (fun hm => ?_) (Heap.get?_push_of_some _ e)
    simp only [List.mem_singleton] at hm
    exact absurd (hm ▸ Heap.lt_size e) (Nat.lt_irrefl _)
  refine po _ (.int (min a b)) σ _ (st.ext ok hk') ?_ h
  have hP' : (intItems #[(a, t), (b, u)])[argBest (fun i j => decide (numAt #[(a, t), (b, u)] i < numAt #[(a, t), (b, u)] j)) 1]? = some v := by
    have hsz2 : (intItems #[(a, t), (b, u)]).size - 1 = 1 := by simp [intItems]
    rw [← hsz2]; exact hP
  simp only [Rep]
  by_cases hba : b < a
  · have e : argBest (fun i j => decide (numAt #[(a, t), (b, u)] i < numAt #[(a, t), (b, u)] j)) 1 = 1 := by simp [argBest, numAt, hba]
    rw [e] at hP'
    exact ⟨u, by rw [Int.min_eq_right (by lia)]; simpa [intItems] using hP'.symm⟩
  · have e : argBest (fun i j => decide (numAt #[(a, t), (b, u)] i < numAt #[(a, t), (b, u)] j)) 1 = 0 := by simp [argBest, numAt, hba]
    rw [e] at hP'
    exact ⟨t, by rw [Int.min_eq_left (by lia)]; simpa [intItems] using hP'.symm⟩
theorem c_max2 {a b : Int} {Q : V → Nat → Prop} (h : Q (.int (max a b)) σ) : C1 (α := Unit) prog w C ρ Rep (.builtin "max") (.tup [.int a, .int b]) σ X Q := fun ok s own Qc Ec v st r po ex => by
  simp only [Rep, RepL] at r
  obtain ⟨d, _, n, rfl, na, g, _, _, rfl, ⟨t, rfl⟩, _, _, rfl, ⟨u, rfl⟩, rfl⟩ := r
  have ht : s.heap.IsTuple d (intItems #[(a, t), (b, u)]) := ⟨_, g, rfl, n, by simp [intItems]⟩
  refine call_max_walk (tup_iter ht fun s₂ e stt hfp hne => ?_)
  subst e
  refine ⟨_, _, _, _, _, _, _, rfl, Walks.tuple (A := C.A.in1) ok.hd _ d hne (intItems #[(a, t), (b, u)]), stt, hfp, by simp [intItems], CmpOf.ints_gt (numAt #[(a, t), (b, u)]) (fun _ _ => intItems_at), fun v h' tk hP hk => ?_⟩
  have hk' : ∀ b o, s.heap.get? b = some o → h'.get? b = some o := fun b o e => by
    refine hk b o (fun hm => ?_) (Heap.get?_push_of_some _ e)
    simp only [List.mem_singleton] at hm
    exact absurd (hm ▸ Heap.lt_size e) (Nat.lt_irrefl _)
  refine po _ (.int (max a b)) σ _ (st.ext ok hk') ?_ h
  have hP' : (intItems #[(a, t), (b, u)])[argBest (fun i j => decide (numAt #[(a, t), (b, u)] i > numAt #[(a, t), (b, u)] j)) 1]? = some v := by
    have hsz2 : (intItems #[(a, t), (b, u)]).size - 1 = 1 := by simp [intItems]
    rw [← hsz2]; exact hP
  simp only [Rep]
  by_cases hba : b > a
  · have e : argBest (fun i j => decide (numAt #[(a, t), (b, u)] i > numAt #[(a, t), (b, u)] j)) 1 = 1 := by simp [argBest, numAt, hba]
    rw [e] at hP'
    exact ⟨u, by rw [Int.max_eq_right (by lia)]; simpa [intItems] using hP'.symm⟩
  · have e : argBest (fun i j => decide (numAt #[(a, t), (b, u)] i > numAt #[(a, t), (b, u)] j)) 1 = 0 := by simp [argBest, numAt, hba]
    rw [e] at hP'
    exact ⟨t, by rw [Int.max_eq_left (by lia)]; simpa [intItems] using hP'.symm⟩
end
end Mini
end

section
open PySem PySem.W PyProof.Rows
set_option maxRecDepth 100000
namespace Mini

inductive Out where
  | next | cont | brk | ret (W : V)

/-- facts of a frame whose locals the block stores -/
structure Cx.Sp (C : Cx) : Prop where
  LB : C.B.get? C.env.locals = none
  Lt : ∀ env ∈ C.outer.tail, env.frame ≠ some C.env.locals
  cB : ∀ x c, C.env.cells.lookup x = some c → C.B.get? c = none
  LG : C.G.heap.get? C.env.locals = none
  cG : ∀ x c, C.env.cells.lookup x = some c → C.G.heap.get? c = none
  cap : ∀ x y c, C.env.cells.lookup x = some c → C.env.cells.lookup y = some c → x = y

structure SK (C : Cx) (own : Own) (s : Shared) (own' : Own) (s' : Shared) : Prop where
  same : ∃ h tk, s' = { s with heap := h, toks := tk }
  keep : ∀ b o, s.heap.get? b = some o → b ∉ C.mu → b ∉ own.map (·.2) → b ≠ C.env.locals → (∀ x, C.env.cells.lookup x ≠ some b) → Kept o (s'.heap.get? b)
  live : ∀ b, (s.heap.get? b).isSome → (s'.heap.get? b).isSome
  grow : ∀ a ∈ own'.map (·.2), a ∈ own.map (·.2) ∨ s.heap.get? a = none

theorem SK.refl (C : Cx) (own : Own) (s : Shared) : SK C own s own s := ⟨⟨_, _, rfl⟩, fun _ _ e _ _ _ _ => .inl e, fun _ e => e, fun _ h => .inl h⟩
theorem SK.of_kp {C : Cx} {own : Own} {s s' : Shared} (k : Kp C.mu s s') : SK C own s own s' := ⟨k.same, fun b o e h _ _ _ => k.keep b o e h, k.live, fun _ h => .inl h⟩
theorem SK.fresh {C : Cx} {own own' : Own} {s s' : Shared} (x : SK C own s own' s') {a : Addr} (h : s'.heap.get? a = none) : s.heap.get? a = none := by
  cases q : s.heap.get? a with
  | none => rfl
  | some o => have := x.live a (by rw [q]; rfl); rw [h] at this; cases this
theorem SK.trans {C : Cx} {o₁ o₂ o₃ : Own} {s₁ s₂ s₃ : Shared} (x : SK C o₁ s₁ o₂ s₂) (y : SK C o₂ s₂ o₃ s₃) : SK C o₁ s₁ o₃ s₃ := by
  obtain ⟨h, tk, e⟩ := x.same
  obtain ⟨h', tk', e'⟩ := y.same
  refine ⟨⟨h', tk', by rw [e', e]⟩, fun b o g h1 h2 h3 h4 => (x.keep b o g h1 h2 h3 h4).trans fun o' g' => y.keep b o' g' h1 (fun q => ?_) h3 h4, fun b g => y.live b (x.live b g), fun a ha => ?_⟩
  · rcases x.grow b q with q | q
    · exact h2 q
    · rw [g] at q; cases q
  · rcases y.grow a ha with q | q
    · exact x.grow a q
    · exact .inr (x.fresh q)
theorem SK.sub {C : Cx} {o₁ o₂ o₃ : Own} {s s' : Shared} (x : SK C o₁ s o₃ s') (h : ∀ a ∈ o₁.map (·.2), a ∈ o₂.map (·.2)) : SK C o₂ s o₃ s' :=
  ⟨x.same, fun b o g h1 h2 h3 h4 => x.keep b o g h1 (fun q => h2 (h b q)) h3 h4, x.live, fun a ha => (x.grow a ha).imp (h a) id⟩

noncomputable def OutRep (C : Cx) (own : Own) (s : Shared) : Out → Flow → Prop
  | .next, f => f = .next
  | .cont, f => f = .cont
  | .brk, f => f = .brk
  | .ret W, f => ∃ v, f = .ret v ∧ Rep s.heap (fun a => a ∈ C.mu) W v

noncomputable def Ps (C : Cx) (own : Own) (Q : Out → Rho → Nat → Prop) (s : Shared) (Qc : Flow → Shared → Prop) : Prop :=
  ∀ f o ρ' σ' s' own', St C ρ' own' σ' s' → SK C own s own' s' → OutRep C own' s' o f → Q o ρ' σ' → Qc f s'
theorem Ps.sk {C : Cx} {own own₁ : Own} {Q : Out → Rho → Nat → Prop} {s s₁ : Shared} {Qc : Flow → Shared → Prop} (p : Ps C own Q s Qc) (k : SK C own s own₁ s₁) : Ps C own₁ Q s₁ Qc :=
  fun f o ρ' σ' s' own' st k' r q => p f o ρ' σ' s' own' st (k.trans k') r q

section
variable {prog : Program} {w : World}
noncomputable def JS (prog : Program) (w : World) (C : Cx) (ρ : Rho) (t : Sem Flow) (σ : Nat) (X : Int → Prop) (Q : Out → Rho → Nat → Prop) : Prop :=
  C.Ok → C.Sp → ∀ s own Qc Ec, St C ρ own σ s → Ps C own Q s Qc → Ex C X s Ec → wpAny (model prog w) C.A t Qc Ec s
noncomputable abbrev WS (prog : Program) (w : World) (C : Cx) (ρ : Rho) (b : List Stmt) (σ : Nat) (X : Int → Prop) (Q : Out → Rho → Nat → Prop) : Prop := JS prog w C ρ (execs b C.env) σ X Q
noncomputable abbrev W1 (prog : Program) (w : World) (C : Cx) (ρ : Rho) (b : Stmt) (σ : Nat) (X : Int → Prop) (Q : Out → Rho → Nat → Prop) : Prop := JS prog w C ρ (exec b C.env) σ X Q
theorem Ex.sk {C : Cx} {X : Int → Prop} {s s₁ : Shared} {Ec : Value → Shared → Prop} {own own' : Own} {ρ : Rho} {σ : Nat} (x : Ex C X s Ec) (sp : C.Sp) (st : St C ρ own σ s) (k : SK C own s own' s₁) : Ex C X s₁ Ec := x

noncomputable def Sub : Rho → Rho → Prop
  | [], _ => True
  | (x, b) :: r, ρ => ρ.lookup x = some b ∧ Sub r ρ
theorem Sub.look {ρ : Rho} : ∀ {ρ' : Rho}, Sub ρ' ρ → ∀ x b, ρ'.lookup x = some b → ρ.lookup x = some b
  | [], _, _, _, h => by cases h
  | (y, c) :: r, ⟨h1, h2⟩, x, b, h => by
    rw [List.lookup_cons] at h
    cases e : x == y with
    | true => rw [e] at h; cases h; rw [beq_iff_eq.mp e]; exact h1
    | false => rw [e] at h; exact Sub.look h2 x b h
theorem St.sub {C : Cx} {ρ ρ' : Rho} {own : Own} {σ : Nat} {s : Shared} (h : Sub ρ' ρ) (st : St C ρ own σ s) : St C ρ' own σ s :=
  ⟨st.ap, st.inv, st.i, ⟨fun x b hx => st.loc.look x b (h.look x b hx), st.loc.ns, st.loc.cells, st.loc.ownok, st.loc.nodup, st.loc.ownG⟩, st.ml, st.gs, st.gk⟩

section
variable {C : Cx} {ρ : Rho} {σ : Nat} {X : Int → Prop} {Q : Out → Rho → Nat → Prop}
theorem JS.mono {t : Sem Flow} {X' : Int → Prop} {Q' : Out → Rho → Nat → Prop} (h : JS prog w C ρ t σ X Q) (hq : ∀ o ρ τ, Q o ρ τ → Q' o ρ τ) (hx : ∀ n, X n → X' n) : JS prog w C ρ t σ X' Q' :=
  fun ok sp s own Qc Ec st ps ex => h ok sp s own Qc Ec st (fun f o ρ' σ' s' own' st' k r q => ps f o ρ' σ' s' own' st' k r (hq _ _ _ q)) fun n e b s' x f => ex n e b s' (hx n x) f
theorem JS.sub {t : Sem Flow} {ρ' : Rho} (hs : Sub ρ' ρ) (h : JS prog w C ρ' t σ X Q) : JS prog w C ρ t σ X Q :=
  fun ok sp s own Qc Ec st ps ex => h ok sp s own Qc Ec (st.sub hs) ps ex

theorem ws_nil (h : Q .next ρ σ) : WS prog w C ρ [] σ X Q := fun ok sp s own Qc Ec st ps _ => wpAny_execs_nil (ps .next .next ρ σ s own st (SK.refl _ _ _) rfl h)
theorem ws_cons {b : Stmt} {r : List Stmt} (h : W1 prog w C ρ b σ X (fun o ρ' τ => match o with | .next => WS prog w C ρ' r τ X Q | o => Q o ρ' τ)) : WS prog w C ρ (b :: r) σ X Q := fun ok sp s own Qc Ec st ps ex =>
  wpAny_execs_cons (h ok sp s own _ _ st (fun f o ρ' τ s' own' st' k r q => by
    cases o with
    | next => cases r; exact q ok sp s' own' Qc Ec st' (ps.sk k) (ex.sk sp st k)
    | cont => cases r; exact ps .cont .cont ρ' τ s' own' st' k rfl q
    | brk => cases r; exact ps .brk .brk ρ' τ s' own' st' k rfl q
    | ret W => obtain ⟨v, rfl, r⟩ := r; exact ps (.ret v) (.ret W) ρ' τ s' own' st' k ⟨v, rfl, r⟩ q) ex)

noncomputable def del (x : Str) (ρ : Rho) : Rho := ρ.filter fun p => !(p.1 == x)
theorem lookup_del (x y : Str) : ∀ ρ : Rho, (del x ρ).lookup y = if y = x then none else ρ.lookup y
  | [] => by simp [del]
  | (z, b) :: r => by
    have ih := lookup_del x y r
    unfold del at ih ⊢
    rw [List.filter_cons]
    by_cases hz : z = x
    · subst hz
      simp only [beq_self_eq_true, Bool.not_true, Bool.false_eq_true, if_false, ih, List.lookup_cons]
      by_cases hy : y = z
      · simp [hy]
      · rw [if_neg hy, if_neg hy]
        have : (y == z) = false := by simpa using hy
        rw [this]
    · have : (z == x) = false := by simpa using hz
      simp only [this, Bool.not_false, if_true, List.lookup_cons, ih]
      by_cases hy : y = z
      · subst hy
        simp [hz]
      · have : (y == z) = false := by simpa using hy
        rw [this]
theorem St.del {own : Own} {s : Shared} (x : Str) (st : St C ρ own σ s) : St C (del x ρ) own σ s :=
  ⟨st.ap, st.inv, st.i, ⟨fun y b hy => by
    rw [lookup_del] at hy
    split at hy
    · cases hy
    · exact st.loc.look y b hy, st.loc.ns, st.loc.cells, st.loc.ownok, st.loc.nodup, st.loc.ownG⟩, st.ml, st.gs, st.gk⟩
theorem ns_uniq {h : Heap} {a : Addr} {m m' : Str → Option Value} (x : h.Ns a m) (y : h.Ns a m') : m = m' := by
  obtain ⟨o, es, ep, ho, hd, _, hm⟩ := x
  obtain ⟨o', es', ep', ho', hd', _, hm'⟩ := y
  rw [ho] at ho'; cases ho'
  rw [hd] at hd'; cases hd'
  funext n
  rw [← hm, ← hm']

/-- the frame's locals after a name is stored -/
theorem St.put {own : Own} {s : Shared} {h : Heap} {tk : Nat} {x : Str} {b : Bd} {v : Value} {d : Addr} (ok : C.Ok) (sp : C.Sp) (st : St C (Mini.del x ρ) own σ s) (hs : Heap.SameBut d s.heap h)
    (hd : (d = C.env.locals ∧ C.env.kindOf x = some .local ∧ ∃ m, s.heap.Ns C.env.locals m ∧ h.Ns C.env.locals (fun y => if y = x then some v else m y)) ∨ (C.env.kindOf x = some .cell ∧ C.env.cells.lookup x = some d ∧ h.IsCell d (some v)))
    (hb : BdRep s.heap (Av C own) own x b v) : St C ((x, b) :: ρ) own σ { s with heap := h, toks := tk } ∧ SK C own s own { s with heap := h, toks := tk } := by
  have hdd : ∀ a o, s.heap.get? a = some o → DD o → h.get? a = some o := fun a o e dd => by
    rw [hs.2 a ?_]; · exact e
    rintro rfl
    rcases hd with ⟨rfl, _, m, ⟨o', es, n, g, hd', _⟩, _⟩ | ⟨_, hc, _⟩
    · rw [e] at g; cases g; exact dd.nodict _ _ hd'
    · obtain ⟨u, o', g, hd'⟩ := st.loc.cells x _ hc
      rw [e] at g; cases g
      rcases dd with ⟨xs, n, q⟩ | ⟨_, vs, q⟩ <;> rw [hd'] at q <;> cases q
  have hdB : C.B.get? d = none := by
    rcases hd with ⟨rfl, _⟩ | ⟨_, hc, _⟩
    · exact sp.LB
    · exact sp.cB x d hc
  have hdG : C.G.heap.get? d = none := by
    rcases hd with ⟨rfl, _⟩ | ⟨_, hc, _⟩
    · exact sp.LG
    · exact sp.cG x d hc
  have hdm : d ∉ C.mu := by
    rcases hd with ⟨rfl, _⟩ | ⟨_, hc, _⟩
    · exact st.ap.Lmu
    · exact st.ap.cmu x d hc
  have hrep : ∀ {W : V} {u : Value}, Rep s.heap (Av C own) W u → Rep h (Av C own) W u := fun r => Rep.mono (fun a o e dd _ => hdd a o e dd) (fun _ _ h => h) r
  have hrepL : ∀ {Ws : List V} {us : List Value}, RepL s.heap (Av C own) Ws us → RepL h (Av C own) Ws us := fun r => RepL.mono (fun a o e dd _ => hdd a o e dd) (fun _ _ h => h) r
  have hbd : ∀ y c u, BdRep s.heap (Av C own) own y c u → BdRep h (Av C own) own y c u := fun y c u r => by
    cases c with
    | val W => exact hrep r
    | own Ws => obtain ⟨a, vs, n, e, ho, g, rl⟩ := r; exact ⟨a, vs, n, e, ho, hdd a _ g (.inl ⟨_, _, rfl⟩), hrepL rl⟩
    | dct ks => exact r.elim
  have hcell : ∀ y c w, C.env.cells.lookup y = some c → c ≠ d → s.heap.IsCell c w → h.IsCell c w := fun y c w _ hne ⟨o, g, q⟩ => ⟨o, (hs.2 c hne).trans g, q⟩
  have hLc : ∀ y c, C.env.cells.lookup y = some c → c ≠ C.env.locals := fun y c hc e => by
    obtain ⟨u, o, g, q⟩ := st.loc.cells y c hc
    obtain ⟨m, o', es, n, g', q', _⟩ := st.loc.ns
    rw [← e, g] at g'; cases g'
    rw [q] at q'; cases q'
  have hns : ∀ m, s.heap.Ns C.env.locals m → d ≠ C.env.locals → h.Ns C.env.locals m := fun m hn hne => hn.sameBut hs (Ne.symm hne)
  have hother : ∀ y u, y ≠ x → Look C.env s.heap y u → Look C.env h y u := fun y u hy l => by
    rcases l with ⟨a, m, hn, q⟩ | ⟨a, c, hc, q⟩
    · rcases hd with ⟨rfl, _, m', hn', hn''⟩ | ⟨_, hc', _⟩
      · refine .inl ⟨a, _, hn'', ?_⟩
        rw [if_neg hy, ← ns_uniq hn hn']; exact q
      · exact .inl ⟨a, m, hns m hn (hLc x d hc'), q⟩
    · refine .inr ⟨a, c, hc, hcell y c _ hc (fun e => ?_) q⟩
      rcases hd with ⟨rfl, _⟩ | ⟨_, hc', _⟩
      · exact hLc y c hc e
      · exact hy (sp.cap y x c hc (by rw [e]; exact hc'))
  have hnew : Look C.env h x v := by
    rcases hd with ⟨rfl, hk, m', _, hn''⟩ | ⟨hk, hc', q⟩
    · exact .inl ⟨hk, _, hn'', by simp⟩
    · exact .inr ⟨.inl hk, d, hc', q⟩
  have hlive : ∀ a, (s.heap.get? a).isSome → (h.get? a).isSome := fun a e => by
    by_cases ha : a = d
    · subst ha
      rcases hd with ⟨rfl, _, m', _, o, _, _, g, _⟩ | ⟨_, _, o, g, _⟩ <;> rw [g] <;> rfl
    · rw [hs.2 a ha]; exact e
  refine ⟨⟨st.ap, ⟨fun b' o e => (hs.2 b' (fun q => by rw [q] at e; rw [hdB] at e; cases e)).trans (st.inv.base b' o e), st.inv.frs.mono fun b' m hn _ => ?_⟩,
    ok.Iloc σ s.heap h (fun a ha o e => (hs.2 a (fun q => hdm (q ▸ ha))).trans e) st.i, ⟨fun y c hy => ?_, ?_, fun y c hc => ?_, fun p hp => ?_, st.loc.nodup, st.loc.ownG⟩, fun a ha => hlive a (st.ml a ha), by obtain ⟨h', tk', e⟩ := st.gs; exact ⟨h, tk, by rw [e]⟩, fun b' o e hb' => ?_⟩,
    ⟨⟨h, tk, rfl⟩, fun b' o e _ _ hL hc => .inl ((hs.2 b' (fun q => ?_)).trans e), hlive, fun a ha => .inl ha⟩⟩
  · by_cases hbd' : b' = d
    · subst hbd'
      rcases hd with ⟨rfl, _, m', _, hn''⟩ | ⟨_, hc', _⟩
      · exact ⟨_, hn''⟩
      · obtain ⟨u, o, g, q⟩ := st.loc.cells x _ hc'
        obtain ⟨o', es, n, g', q', _⟩ := hn
        rw [g] at g'; cases g'
        rw [q] at q'; cases q'
    · exact ⟨m, hn.sameBut hs hbd'⟩
  · rw [List.lookup_cons] at hy
    cases e : y == x with
    | true =>
      rw [e] at hy; cases hy
      rw [beq_iff_eq.mp e]
      exact ⟨v, hnew, hbd x _ v hb⟩
    | false =>
      rw [e] at hy
      have hne : y ≠ x := by simpa using e
      obtain ⟨u, l, r⟩ := st.loc.look y c (by rw [lookup_del, if_neg hne]; exact hy)
      exact ⟨u, hother y u hne l, hbd y c u r⟩
  · rcases hd with ⟨rfl, _, m', _, hn''⟩ | ⟨_, hc', _⟩
    · exact ⟨_, hn''⟩
    · obtain ⟨m, hn⟩ := st.loc.ns
      exact ⟨m, hns m hn (hLc x d hc')⟩
  · by_cases hcd : c = d
    · subst hcd
      rcases hd with ⟨rfl, _⟩ | ⟨_, _, q⟩
      · exact absurd rfl (hLc y _ hc)
      · exact ⟨_, q⟩
    · obtain ⟨u, q⟩ := st.loc.cells y c hc
      exact ⟨u, hcell y c u hc hcd q⟩
  · obtain ⟨a, b', vs, n, g⟩ := st.loc.ownok p hp
    exact ⟨a, b', vs, n, hdd _ _ g (.inl ⟨_, _, rfl⟩)⟩
  · rw [hs.2 b' (fun q => by rw [q] at e; rw [hdG] at e; cases e)]
    exact st.gk b' o e hb'
  · rcases hd with ⟨rfl, _⟩ | ⟨_, hc', _⟩
    · exact hL q
    · exact hc x (by rw [q]; exact hc')

/-- can the name be stored here -/
noncomputable def Sto (C : Cx) (x : Str) : Prop := C.env.kindOf x = some .local ∨ (C.env.kindOf x = some .cell ∧ (C.env.cells.lookup x).isSome = true)
theorem store_ {own : Own} {s : Shared} {x : Str} {b : Bd} {v : Value} {Qc : Unit → Shared → Prop} {Ec : Value → Shared → Prop} (ok : C.Ok) (sp : C.Sp) (st : St C (Mini.del x ρ) own σ s) (hx : Sto C x) (hb : BdRep s.heap (Av C own) own x b v)
    (h : ∀ s', St C ((x, b) :: ρ) own σ s' → SK C own s own s' → Qc () s') : wpAny (model prog w) C.A (storeName C.env x v) Qc Ec s := by
  rcases hx with hk | ⟨hk, hc⟩
  · obtain ⟨m, hn⟩ := st.loc.ns
    refine wpAny_storeName_local hk hn (fun h' hn' hs => ?_) (by rw [ok.kind]; rfl)
    obtain ⟨a, b⟩ := st.put (tk := s.toks + 1) ok sp hs (.inl ⟨rfl, hk, m, hn, hn'⟩) hb
    exact h _ a b
  · obtain ⟨c, hc⟩ := Option.isSome_iff_exists.mp hc
    obtain ⟨u, hu⟩ := st.loc.cells x c hc
    refine wpAny_storeName_cell ok.kind hk hc hu fun h' hn' hs => ?_
    obtain ⟨a, b⟩ := st.put (tk := s.toks) ok sp hs (.inr ⟨hk, hc, hn'⟩) hb
    exact h _ a b

theorem s_assign {x : Str} {p pos : Pos} {value : Expr} (hx : Sto C x) (h : WE prog w C ρ value σ X (fun W τ => Q .next ((x, .val W) :: ρ) τ))
    (hs : ∀ env, swapsWith value (some (.Name x p)) pos.line env = pure false := by intro _; rfl) : W1 prog w C ρ (.Assign [.Name x p] value pos) σ X Q := fun ok sp s own Qc Ec st ps ex =>
  wpAny_Assign_Name (h ok s own _ _ st (fun v W τ s₁ t₁ r₁ q => store_ ok sp ((st.to t₁).del x) hx (b := .val W) r₁ fun s' st' k => ps .next .next _ τ s' own st' ((SK.of_kp t₁.kp).trans k) rfl q) ex) (hs _)
theorem s_return {value : Expr} {pos : Pos} (h : WE prog w C ρ value σ X (fun W τ => Q (.ret W) ρ τ)) : W1 prog w C ρ (.Return (some value) pos) σ X Q := fun ok sp s own Qc Ec st ps ex =>
  wpAny_Return_some (h ok s own _ _ st (fun v W τ s₁ t₁ r₁ q => ps (.ret v) (.ret W) ρ τ s₁ own (st.to t₁) (SK.of_kp t₁.kp) ⟨v, rfl, Rep.mono (fun _ _ e _ _ => e) (fun _ _ h q => h (.inl q)) r₁⟩ q) ex)
theorem s_if {test : Expr} {body orelse : List Stmt} {pos : Pos} (h : WT prog w C ρ test σ X (fun c τ => if c then WS prog w C ρ body τ X Q else WS prog w C ρ orelse τ X Q)) : W1 prog w C ρ (.If test body orelse pos) σ X Q := fun ok sp s own Qc Ec st ps ex =>
  wpAny_If (h ok s own _ _ st (fun c c' τ s₁ t₁ r₁ q => by
    cases r₁
    cases c with
    | true => simp only [if_true] at q ⊢; exact q ok sp s₁ own _ _ (st.to t₁) (ps.sk (SK.of_kp t₁.kp)) (ex.to st.ap t₁)
    | false => simp only [Bool.false_eq_true, if_false] at q ⊢; exact q ok sp s₁ own _ _ (st.to t₁) (ps.sk (SK.of_kp t₁.kp)) (ex.to st.ap t₁)) ex)
theorem s_cont {pos : Pos} (h : Q .cont ρ σ) : W1 prog w C ρ (.Continue pos) σ X Q := fun ok sp s own Qc Ec st ps ex =>
  wpAny_bind (wpAny_standAt (wpAny_pure (ps .cont .cont ρ σ s own st (SK.refl _ _ _) rfl h)))
theorem s_pass {pos : Pos} (h : Q .next ρ σ) : W1 prog w C ρ (.Pass pos) σ X Q := fun ok sp s own Qc Ec st ps ex =>
  wpAny_Pass (ps .next .next ρ σ s own st (SK.refl _ _ _) rfl h)
end
end
end Mini
end

section
open PySem PySem.W PyProof.Rows
set_option maxRecDepth 100000
namespace Mini
section
variable {prog : Program} {w : World} {C : Cx} {e : Addr} {n : Int}

theorem Fly.next {b b' : Bool} {s : Shared} {h' : Heap} (ok : C.Ok) (f : Fly C e n b s) (ex : List Addr) (hex : ∀ x ∈ ex, C.G.heap.get? x = none ∧ x ∉ C.mu ∧ ∃ o vs, s.heap.get? x = some o ∧ o.data = .fields vs)
    (k : ∀ c o, s.heap.get? c = some o → c ∉ ex → h'.get? c = some o ∨ (c ∈ C.outer.filterMap (·.frame) ∧ ∃ sl, h'.get? c = some { o with slots := sl })) (trc : Trc C e n b' h') : Fly C e n b' { s with heap := h' } := by
  have atf : ∀ c o, s.heap.get? c = some o → c ∈ C.outer.filterMap (·.frame) → C.B.get? c = none ∧ ∃ es n, o.data = .dict es n := fun c o g hc => by
    obtain ⟨env, he, hf⟩ := List.mem_filterMap.mp hc
    obtain ⟨hB, m, o', es, ep, g', hd, _⟩ := f.frs.at he hf
    rw [g] at g'; cases g'
    exact ⟨hB, es, ep, hd⟩
  have kk : ∀ c o, s.heap.get? c = some o → c ∉ ex → Kept o (h'.get? c) := fun c o g hc => by
    rcases k c o g hc with q | ⟨hm, sl, q⟩
    · exact .inl q
    · exact .inr ⟨(atf c o g hm).2, sl, q⟩
  refine ⟨?_, fun c o g => ?_, f.frs.mono fun c m hn hB => ?_, f.newe, fun c o g hc => ?_, fun a ha => ?_, ?_, trc⟩
  · obtain ⟨h, tk, q⟩ := f.same
    exact ⟨h', tk, by rw [q]⟩
  · rcases k c o (f.base c o g) (fun q => by have := ok.bg c o g; rw [(hex c q).1] at this; cases this) with q | ⟨hm, sl, q⟩
    · exact q
    · have := (atf c o (f.base c o g) hm).1
      rw [g] at this; cases this
  · refine ⟨m, Kept.ns hn fun o g => kk c o g fun q => ?_⟩
    obtain ⟨_, _, o', vs, g', hd⟩ := hex c q
    obtain ⟨o'', es, ep, g'', hd', _⟩ := hn
    rw [g'] at g''; cases g''; rw [hd] at hd'; cases hd'
  · have hc' := f.gk c o g hc
    refine hc'.trans fun o' g' => kk c o' g' fun q => ?_
    rw [(hex c q).1] at g; cases g
  · obtain ⟨o, g⟩ := Option.isSome_iff_exists.mp (f.ml a ha)
    exact (kk a o g fun q => (hex a q).2.1 ha).there
  · obtain ⟨σ, hi⟩ := f.i
    refine ⟨σ, ok.Iloc σ s.heap h' (fun a ha o g => ?_) hi⟩
    rcases k a o g (fun q => (hex a q).2.1 ha) with q | ⟨hm, _⟩
    · exact q
    · obtain ⟨env, he, hf⟩ := List.mem_filterMap.mp hm
      exact absurd ha (ok.fmu env he a hf)

theorem flight_ {b : Bool} {s : Shared} {A : Around} {x : Option Addr} {Q : Unit → Shared → Prop} {E : Value → Shared → Prop} (ok : C.Ok) (f : Fly C e n b s) (h : ∀ s', Fly C e n b s' → Q () s') : wpAny (model prog w) A (setFlight (.ref e) x) Q E s := by
  obtain ⟨oe, vs, d, m, t, ge, hc, hd, h1, hdd, hfr, gd, ha, hb⟩ := id f.trc
  unfold setFlight
  rcases hb with ⟨rfl, hv⟩ | ⟨rfl, T, oT, ts, hv, hGT, hmT, hTe, gT, hdT, h3⟩
  · refine wpAny_bind (wpAny_field ge hd hv ?_)
    rw [if_neg (by decide)]
    exact wpAny_pure (h _ f)
  · refine wpAny_bind (wpAny_field ge hd hv ?_)
    rw [if_pos (show (Value.ref T != Value.none) = true from by simp)]
    refine wpAny_setField gT hdT h3 (h _ ?_)
    have oth : ∀ c, c ≠ T → (s.heap.update T (Obj.mapFields (·.setIfInBounds 3 (x.elim Value.none fun f => rawInt f)))).get? c = s.heap.get? c := fun c hc => Heap.get?_update_other _ _ (Ne.symm hc)
    refine f.next ok [T] (fun x hx => ?_) (fun c o g hc => .inl ((oth c (by simpa using hc)).trans g)) ?_
    · obtain rfl := List.mem_singleton.mp hx
      exact ⟨hGT, hmT, oT, ts, gT, hdT⟩
    · refine ⟨oe, vs, d, m, t, (oth e (Ne.symm hTe)).trans ge, hc, hd, h1, hdd, hfr, gd.at' fun o e => (oth d fun q => ?_).trans e, ha, .inr ⟨rfl, T, _, _, hv, hGT, hmT, hTe, Heap.get?_update_self _ gT (Obj.isFreed_of_fields (Obj.data_mapFields hdT _)), Obj.data_mapFields hdT _, by simpa using h3⟩⟩
      obtain ⟨o', es', ep', g', hd', _⟩ := gd; rw [q, gT] at g'; cases g'; rw [hdT] at hd'; cases hd'

theorem note_ {b : Bool} {s : Shared} {env : Env} {Q : Unit → Shared → Prop} {E : Value → Shared → Prop} (ok : C.Ok) (hfe : env.frame = C.env.frame) (f : Fly C e n b s) (h : ∀ s', Fly C e n true s' → Q () s') : wpAny (model prog w) C.A (noteFrame (.ref e) env) Q E s := by
  obtain ⟨L, e0, rest, ho, h0, hL⟩ := ok.fra
  have hf : env.frame = some L := hfe.trans hL
  have entry : ∀ (head : Value) (hn : Bool) (b' : Bool) (s : Shared) (f : Fly C e n b' s),
      wpAny (model prog w) C.A (do let a ← PySem.frameOf env; let pl ← entryPlaceOf L hn; let b ← EntryCells.newEntry head a .none (rawInt L) .none pl; setField (.ref e) 1 b) Q E s := fun head hn b' s f => by
    obtain ⟨oe, vs, d, m, t, ge, hc, hd, h1, hdd, hfr, gd, ha, hb⟩ := id f.trc
    have hfn := f.frs.fun
    have nof : ∀ c o vs, s.heap.get? c = some o → o.data = .fields vs → c ∉ C.outer.filterMap (·.frame) := fun c o vs g hv hm => by
      obtain ⟨env', he', hf'⟩ := List.mem_filterMap.mp hm
      obtain ⟨hB, m, o', es', ep, g', hd', _⟩ := f.frs.at he' hf'
      rw [g] at g'; cases g'; rw [hv] at hd'; cases hd'
    have hframe : ∀ Q' : Value → Shared → Prop, (∀ h', Heap.SlotsOnly (C.outer.filterMap (·.frame)) s.heap h' → Q' (.ref L) { s with heap := h' }) → wpAny (model prog w) C.A (PySem.frameOf env) Q' E s := fun Q' hq => by
      unfold PySem.frameOf
      refine wpAny_bind (wpAny_frameEnvs ok.fr ?_)
      have hdw : (C.outer.dropWhile fun x => x.frame != env.frame) = C.outer := by rw [ho]; simp [List.dropWhile, h0, hf]
      rw [hdw]
      unfold frameObject
      rw [ho] at hfn hq ⊢
      refine wpAny_bind (wpAny_bind (wpAny_readyFrames_fun hfn fun h₁ hs₁ => wpAny_pure ?_))
      rw [h0]
      exact wpAny_pure (hq h₁ hs₁)
    refine wpAny_bind (hframe _ fun h₁ hs₁ => ?_)
    refine wpAny_bind (wpAny_entryPlaceOf fun pl hpl => ?_)
    unfold EntryCells.newEntry newFields
    refine wpAny_bind (wpAny_newObj_type ?_ (hpl.sizeOk5 _ _ _ _ _))
    have he₁ : h₁.get? e = some oe := (hs₁.2.1 e (nof e oe vs ge hd)).trans ge
    have he₂ := Heap.get?_push_of_some (h := h₁) { cls := .type "traceback", dict := none, data := .fields ([head, .ref L, .none, rawInt L, .none] ++ (if pl.isEmpty then List.replicate 6 Value.none else pl)).toArray } he₁
    refine wpAny_setField he₂ hd h1 (h { s with heap := _ } ?_)
    have hTe : h₁.objs.size ≠ e := Nat.ne_of_gt (Heap.lt_size he₁)
    have hd₃ := Obj.data_mapFields hd (·.setIfInBounds 1 (Value.ref h₁.objs.size))
    have he₃ := Heap.get?_update_self (Obj.mapFields (·.setIfInBounds 1 (Value.ref h₁.objs.size))) he₂ (Obj.isFreed_of_fields hd₃)
    have oth : ∀ c o, c ≠ e → h₁.get? c = some o → ((h₁.push { cls := .type "traceback", dict := none, data := .fields ([head, .ref L, .none, rawInt L, .none] ++ (if pl.isEmpty then List.replicate 6 Value.none else pl)).toArray }).update e (Obj.mapFields (·.setIfInBounds 1 (Value.ref h₁.objs.size)))).get? c = some o := fun c o hce g => by
      rw [Heap.get?_update_other _ _ (Ne.symm hce)]; exact Heap.get?_push_of_some _ g
    have hsz : h₁.objs.size = s.heap.objs.size := hs₁.1
    have hnone : s.heap.get? h₁.objs.size = none := by rw [hsz]; exact none_of_size
    refine f.next ok [e] (fun x hx => ?_) (fun c o g hc' => ?_) ?_
    · obtain rfl := List.mem_singleton.mp hx
      exact ⟨f.newe.1, f.newe.2, oe, vs, ge, hd⟩
    · have hce : c ≠ e := by simpa using hc'
      by_cases hm : c ∈ C.outer.filterMap (·.frame)
      · obtain ⟨sl, g'⟩ := hs₁.2.2 c o g
        exact .inr ⟨hm, sl, oth c _ hce g'⟩
      · exact .inl (oth c o hce ((hs₁.2.1 c hm).trans g))
    · have hdne : d ≠ e := fun q => by obtain ⟨o', es', ep', g', hd', _⟩ := gd; rw [q, ge] at g'; cases g'; rw [hd] at hd'; cases hd'
      have hdm : d ∉ C.outer.filterMap (·.frame) := fun hm => by
        obtain ⟨env', he', hf'⟩ := List.mem_filterMap.mp hm
        exact hfr env' he' hf'
      refine ⟨_, _, d, m, t, he₃, (Obj.cls_mapFields _ _).trans hc, hd₃, by simpa using h1, ?_, hfr, gd.at' fun o g => oth d _ hdne ((hs₁.2.1 d hdm).trans g), ha, .inr ⟨rfl, h₁.objs.size, _, _, by simp [h1], ?_, fun q => ?_, hTe, (Heap.get?_update_other _ _ (Ne.symm hTe)).trans (Heap.get?_push_size h₁ rfl), rfl, ?_⟩⟩
      · obtain ⟨c1, d1, dt1, sl1⟩ := oe; cases hd; exact hdd
      · obtain ⟨_, _, q⟩ := f.same
        cases g : C.G.heap.get? h₁.objs.size with
        | none => rfl
        | some o =>
          by_cases hm : h₁.objs.size ∈ C.mu
          · have := f.ml _ hm; rw [hnone] at this; cases this
          · have := (f.gk _ o g hm).there; rw [hnone] at this; cases this
      · have := f.ml _ q; rw [hnone] at this; cases this
      · simp only [List.size_toArray, List.length_append, List.length_cons, List.length_nil]; lia
  obtain ⟨oe, vs, d, m, t, ge, hc, hd, h1, hdd, hfr, gd, ha, hb⟩ := id f.trc
  unfold noteFrame
  simp only [hf]
  rcases hb with ⟨rfl, hv⟩ | ⟨rfl, T, oT, ts, hv, hGT, hmT, hTe, gT, hdT, h3⟩
  · refine wpAny_bind (wpAny_field ge hd hv ?_)
    rw [if_neg (by decide)]
    exact entry _ _ _ _ f
  · refine wpAny_bind (wpAny_field ge hd hv ?_)
    rw [if_pos (show (Value.ref T != Value.none) = true from by simp)]
    obtain ⟨x, hx⟩ : ∃ x, ts[3]? = some x := ⟨ts[3], Array.getElem?_eq_getElem h3⟩
    refine wpAny_bind (wpAny_field gT hdT hx ?_)
    by_cases hq : (x == rawInt L) = true
    · rw [if_pos hq]
      exact wpAny_pure (h _ f)
    · rw [if_neg hq]
      refine wpAny_bind (wpAny_setField gT hdT h3 ?_)
      have oth : ∀ c, c ≠ T → (s.heap.update T (Obj.mapFields (·.setIfInBounds 3 Value.none))).get? c = s.heap.get? c := fun c hc => Heap.get?_update_other _ _ (Ne.symm hc)
      refine entry _ _ true _ (f.next ok [T] (fun x hx => ?_) (fun c o g hc => .inl ((oth c (by simpa using hc)).trans g)) ?_)
      · obtain rfl := List.mem_singleton.mp hx
        exact ⟨hGT, hmT, oT, ts, gT, hdT⟩
      · refine ⟨oe, vs, d, m, t, (oth e (Ne.symm hTe)).trans ge, hc, hd, h1, hdd, hfr, gd.at' fun o e => (oth d fun q => ?_).trans e, ha, .inr ⟨rfl, T, _, _, hv, hGT, hmT, hTe, Heap.get?_update_self _ gT (Obj.isFreed_of_fields (Obj.data_mapFields hdT _)), Obj.data_mapFields hdT _, by simpa using h3⟩⟩
        obtain ⟨o', es', ep', g', hd', _⟩ := gd; rw [q, gT] at g'; cases g'; rw [hdT] at hd'; cases hd'

theorem leaving_ {b : Bool} {s : Shared} {Q : Unit → Shared → Prop} {E : Value → Shared → Prop} (ok : C.Ok) (f : Fly C e n b s) (h : ∀ s' b', Fly C e n b' s' → Q () s') : wpAny (model prog w) C.A (leaving C.env (.ref e)) Q E s := by
  unfold leaving
  exact wpAny_bind (note_ ok rfl f fun s' f' => flight_ ok f' fun s'' f'' => h s'' true f'')
/-- notedBy -/
theorem Ex.noted {X : Int → Prop} {s s' : Shared} {env : Env} {Ec : Value → Shared → Prop} (ok : C.Ok) (hfe : env.frame = C.env.frame) (x : Ex C X s Ec) : Ex C X s' (notedBy (model prog w) C.A env Ec) := fun n e b s' hx f =>
  note_ ok hfe f fun s'' f'' => x n e true s'' hx f''
/-- a fault that leaves a loop -/
theorem Ex.loop {X : Int → Prop} {s s' : Shared} {env : Env} {Ec : Value → Shared → Prop} (ok : C.Ok) (hfe : env.frame = C.env.frame) (x : Ex C X s Ec) : Ex C X s' (notedBy (model prog w) C.A env (cameBackBy (model prog w) C.A env Ec)) := fun n e b s' hx f => by
  refine note_ ok hfe f fun s'' f'' => ?_
  obtain ⟨oe, vs, d, m, t, ge, hc, hd, h1, hdd, hfr, gd, ha, hb⟩ := id f''.trc
  rcases hb with ⟨h, _⟩ | ⟨_, T, oT, ts, hv, _⟩
  · cases h
  · refine wpAny_bind (wpAny_field ge hd hv ?_)
    rw [if_neg (show ¬ ((Value.ref T == Value.none) = true) from Bool.false_ne_true)]
    exact flight_ ok f'' fun s3 f3 => x n e true s3 hx f3
end
end Mini
end

section
open PySem PySem.W PyProof.Rows
set_option maxRecDepth 100000
namespace Mini

noncomputable def Cx.callee (C : Cx) (env : Env) (own : Own) (s : Shared) : Cx :=
  { B := C.B, A := C.A.deeper env, env, outer := env :: C.outer, mu := C.mu ++ own.map (·.2), I := fun σ h => C.I σ h ∧ ∀ a ∈ own.map (·.2), ∀ o, s.heap.get? a = some o → h.get? a = some o,
    mg := C.mg, mb := C.mb, r := C.r - 1, K := C.K, G := s }

section
variable {C : Cx} {ρ : Rho} {σ : Nat} {own : Own} {s : Shared}

theorem own_list {a : Addr} (st : St C ρ own σ s) (ha : a ∈ own.map (·.2)) : ∃ vs n, s.heap.get? a = some (lstO vs n) := by
  obtain ⟨p, hp, rfl⟩ := List.mem_map.mp ha
  obtain ⟨_, _, vs, n, g⟩ := st.loc.ownok p hp
  exact ⟨vs, n, g⟩
theorem callee_ok {env : Env} {L : Addr} (ok : C.Ok) (st : St C ρ own σ s) (hL : s.heap.get? L = none) (hr : 0 < C.r) (hk : env.scope.kind = .function) (hg : env.globals = mainGlobals) (hb : env.builtins = builtinsNs) (hf : env.frame = some L) : (C.callee env own s).Ok where
  fr := Around.frames_deeper ok.fr
  hd := ok.hd
  room := by have := ok.room; show C.A.depth + 1 + (C.r - 1) < _; lia
  units := by have := ok.units; show C.A.units + 3 + 100 + 8 * (C.r - 1) < _; lia
  kind := hk
  g := ok.g
  b := ok.b
  lim := ok.lim
  glob := hg
  blt := hb
  mutB := fun a ha => by
    rcases List.mem_append.mp ha with h | h
    · exact ok.mutB a h
    · obtain ⟨p, hp, rfl⟩ := List.mem_map.mp h
      exact (st.loc.ownok p hp).2.1
  kin := ok.kin
  bg := st.inv.base
  fra := ⟨L, env, C.outer, rfl, hf, hf⟩
  fmu := fun env' he L' hf' ha => by
    have he' : env' = env ∨ env' ∈ C.outer := List.mem_cons.mp he
    rcases List.mem_append.mp ha with q | q
    · rcases he' with rfl | he'
      · rw [hf] at hf'; cases hf'
        have := st.ml L q; rw [hL] at this; cases this
      · exact st.ap.fmu env' he' L' hf' q
    · obtain ⟨vs, n, g⟩ := own_list st q
      rcases he' with rfl | he'
      · rw [hf] at hf'; cases hf'
        rw [hL] at g; cases g
      · obtain ⟨_, m', o', es, n', g', hd', _⟩ := st.inv.frs.at he' hf'
        rw [g] at g'; cases g'; cases hd'
  Iloc := fun σ' h h' k hi => ⟨ok.Iloc σ' h h' (fun a ha => k a (List.mem_append_left _ ha)) hi.1, fun a ha o g => k a (List.mem_append_right _ ha) o (hi.2 a ha o g)⟩


/-- the callee's first state -/
theorem callee_st {env : Env} {L : Addr} {ρ' : Rho} {h₁ : Heap} {tk : Nat} (st : St C ρ own σ s) (ok : C.Ok) (hk : env.scope.kind ≠ .module) (hf : env.frame = some L) (hl : env.locals = L) (hL : s.heap.get? L = none) {m : Str → Option Value} (hm : h₁.Ns L m)
    (kp : ∀ b o, s.heap.get? b = some o → h₁.get? b = some o) (hc : ∀ x c, env.cells.lookup x = some c → (s.heap.get? c = none ∨ ¬ Av C own c) ∧ ∃ v, h₁.IsCell c v)
    (look : ∀ x b, ρ'.lookup x = some b → ∃ v W, b = .val W ∧ Look env h₁ x v ∧ Rep h₁ (Av C own) W v) : St (C.callee env own s) ρ' [] σ { s with heap := h₁, toks := tk } := by
  have kB : ∀ {a : Addr}, s.heap.get? a = none → C.B.get? a = none := fun {a} h => by
    cases q : C.B.get? a with
    | none => rfl
    | some o => have := st.inv.base a o q; rw [h] at this; cases this
  have ml : ∀ a ∈ (C.callee env own s).mu, (s.heap.get? a).isSome := fun a ha => by
    rcases List.mem_append.mp ha with h | h
    · exact st.ml a h
    · obtain ⟨vs, n, g⟩ := own_list st h
      rw [g]; rfl
  have nmu : ∀ a, s.heap.get? a = none → a ∉ (C.callee env own s).mu := fun a e ha => by have := ml a ha; rw [e] at this; cases this
  refine ⟨⟨?_, fun x c hx => ?_, fun env' he L' hf' ha => ?_⟩, ⟨fun b o e => kp b o (st.inv.base b o e), ⟨⟨hk, L, m, hf, kB hL, hm⟩, st.inv.frs.mono fun b m hn _ => ⟨m, hn.keeps kp⟩⟩⟩, ⟨ok.Iloc σ s.heap h₁ (fun a _ o e => kp a o e) st.i, fun a _ o e => kp a o e⟩,
    ⟨fun x b hx => ?_, ⟨m, ?_⟩, fun x c hx => (hc x c hx).2, fun p hp => (nomatch hp), .nil, fun p hp => (nomatch hp)⟩, fun a ha => ?_, ⟨h₁, tk, rfl⟩, fun b o e _ => .inl (kp b o e)⟩
  · show env.locals ∉ _
    rw [hl]; exact nmu L hL
  · rcases (hc x c hx).1 with h | h
    · exact nmu c h
    · intro q
      exact h (List.mem_append.mp q)
  · have he' : env' = env ∨ env' ∈ C.outer := List.mem_cons.mp he
    rcases he' with rfl | he'
    · rw [hf] at hf'; cases hf'; exact nmu L hL ha
    · rcases List.mem_append.mp ha with q | q
      · exact st.ap.fmu env' he' L' hf' q
      · obtain ⟨_, m', o', es, n', g', hd', _⟩ := st.inv.frs.at he' hf'
        obtain ⟨vs, n, g⟩ := own_list st q
        rw [g] at g'; cases g'; cases hd'
  · obtain ⟨v, W, rfl, l, r⟩ := look x b hx
    refine ⟨v, l, Rep.mono (fun _ _ e _ _ => e) (fun c _ hn hc => hn ?_) r⟩
    rcases hc with hc | hc
    · exact List.mem_append.mp hc
    · simp at hc
  · show h₁.Ns env.locals m
    rw [hl]; exact hm
  · obtain ⟨o, g⟩ := Option.isSome_iff_exists.mp (ml a ha)
    show (h₁.get? a).isSome
    rw [kp a o g]; rfl

/-- what the callee leaves -/
theorem callee_to {env : Env} {ρ' : Rho} {own' : Own} {σ' : Nat} {s' : Shared} (ok : C.Ok) (st : St C ρ own σ s) (st' : St (C.callee env own s) ρ' own' σ' s') : To C σ' s s' := by
  have keep : ∀ b o, s.heap.get? b = some o → b ∉ C.mu → Kept o (s'.heap.get? b) := fun b o e hb => by
    by_cases hm : b ∈ own.map (·.2)
    · exact .inl (st'.i.2 b hm o e)
    · exact st'.gk b o e fun q => (List.mem_append.mp q).elim hb hm
  refine ⟨⟨st'.gs, keep, fun b e => ?_⟩, ⟨st'.inv.base, st'.inv.frs.2⟩, st'.i.1⟩
  by_cases hb : b ∈ C.mu
  · exact st'.ml b (List.mem_append_left _ hb)
  · obtain ⟨o, g⟩ := Option.isSome_iff_exists.mp e
    exact (keep b o g hb).there

theorem callee_fly {env : Env} {e : Addr} {n : Int} {b : Bool} {s' : Shared} (ok : C.Ok) (st : St C ρ own σ s) (f : Fly (C.callee env own s) e n b s') : Fly C e n b s' := by
  have keep : ∀ b o, s.heap.get? b = some o → b ∉ C.mu → Kept o (s'.heap.get? b) := fun b o e hb => by
    by_cases hm : b ∈ own.map (·.2)
    · obtain ⟨τ, hi⟩ := f.i
      exact .inl (hi.2 b hm o e)
    · exact f.gk b o e fun q => (List.mem_append.mp q).elim hb hm
  have gfresh : ∀ a, s.heap.get? a = none → a ∉ C.mu → C.G.heap.get? a = none := fun a h hm => by
    cases q : C.G.heap.get? a with
    | none => rfl
    | some o => have := (st.gk a o q hm).there; rw [h] at this; cases this
  have nm : ∀ {a : Addr}, a ∉ (C.callee env own s).mu → a ∉ C.mu := fun h q => h (List.mem_append_left _ q)
  obtain ⟨h, tk, e1⟩ := st.gs
  obtain ⟨h', tk', e2⟩ := f.same
  refine ⟨⟨h', tk', by rw [e2]; show { s with heap := h', toks := tk' } = _; rw [e1]⟩, f.base, f.frs.2, ⟨gfresh e f.newe.1 (nm f.newe.2), nm f.newe.2⟩, fun c o g hc => (st.gk c o g hc).trans fun o' g' => keep c o' g' hc, fun a ha => f.ml a (List.mem_append_left _ ha), ?_, ?_⟩
  · obtain ⟨τ, hi⟩ := f.i
    exact ⟨τ, hi.1⟩
  · obtain ⟨oe, vs, d, m, t, ge, hc, hd, h1, hdd, hfr, gd, ha, hb⟩ := f.trc
    refine ⟨oe, vs, d, m, t, ge, hc, hd, h1, hdd, fun env' he => hfr env' (List.mem_cons_of_mem _ he), gd, ha, ?_⟩
    rcases hb with hb | ⟨hb, T, oT, ts, hv, hGT, hmT, r⟩
    · exact .inl hb
    · exact .inr ⟨hb, T, oT, ts, hv, gfresh T hGT (nm hmT), nm hmT, r⟩
end

/-- a function object of the heap's part, without a closure; its parameters -/
structure Fn (K : Frag) (f : Addr) (fd : FuncData) (body : List Stmt) (xs : List Str) : Prop where
  obj : ∃ o, K.lookup f = some o ∧ o.data = .func fd
  code : codeIn K fd.code fd.qualname = true
  body : fd.body = .stmts body
  clo : fd.closure = []
  glob : fd.globals = mainGlobals
  blt : fd.builtins = builtinsNs
  co : fd.scope.isCoroutine = false
  gen : fd.scope.isGenerator = false
  kind : fd.scope.kind = .function
  bind : ∀ vs : List Value, vs.length = xs.length → bindArgs fd ⟨vs, []⟩ = pure (xs.zip vs)
  kinds : ∀ x ∈ xs, fd.scope.names.lookup x = some .local ∨ (fd.scope.names.lookup x = some .cell ∧ ((cellsFrom 0 fd.scope.names []).lookup x).isSome = true)
  nodup : xs.Nodup

theorem lookup_map_isSome {α : Type} : ∀ {l l' : List (Str × α)} {x : Str}, l.map (·.1) = l'.map (·.1) → (l.lookup x).isSome = (l'.lookup x).isSome
  | [], [], _, _ => rfl
  | [], _ :: _, _, h => by cases h
  | _ :: _, [], _, h => by cases h
  | (a, b) :: r, (c, d) :: r', x, h => by
    simp only [List.map_cons, List.cons.injEq] at h
    rw [List.lookup_cons, List.lookup_cons, h.1]
    cases x == c with
    | true => rfl
    | false => exact lookup_map_isSome h.2

theorem bindL_other {k : Str → Option NameKind} : ∀ {r : List (Str × Value)} {m : Str → Option Value} {x : Str}, x ∉ r.map (·.1) → bindL k r m x = m x
  | [], _, _, _ => rfl
  | (n, v) :: r, m, x, h => by
    simp only [List.map_cons, List.mem_cons, not_or] at h
    rw [bindL, bindL_other h.2]
    split
    · exact if_neg h.1
    · rfl
theorem bindC_other {k : Str → Option NameKind} : ∀ {r : List (Str × Value)} {m : Str → Option Value} {x : Str}, x ∉ r.map (·.1) → bindC k r m x = m x
  | [], _, _, _ => rfl
  | (n, v) :: r, m, x, h => by
    simp only [List.map_cons, List.mem_cons, not_or] at h
    rw [bindC, bindC_other h.2]
    split
    · rfl
    · exact if_neg h.1
theorem bindL_get {k : Str → Option NameKind} : ∀ {r : List (Str × Value)} {m : Str → Option Value} {x : Str} {v : Value}, (r.map (·.1)).Nodup → (x, v) ∈ r → k x = some .local → bindL k r m x = some v
  | (n, u) :: r, m, x, v, hn, hm, hk => by
    simp only [List.map_cons, List.nodup_cons] at hn
    rw [bindL]
    rcases List.mem_cons.mp hm with e | hm
    · cases e
      rw [bindL_other hn.1, if_pos hk]; simp
    · exact bindL_get hn.2 hm hk
theorem bindC_get {k : Str → Option NameKind} : ∀ {r : List (Str × Value)} {m : Str → Option Value} {x : Str} {v : Value}, (r.map (·.1)).Nodup → (x, v) ∈ r → k x = some .cell → bindC k r m x = some v
  | [] => fun _ hm => (List.not_mem_nil hm).elim
  | (n, u) :: r => fun hn hm hk => by
    simp only [List.map_cons, List.nodup_cons] at hn
    rw [bindC]
    rcases List.mem_cons.mp hm with e | hm
    · cases e
      rw [bindC_other hn.1, if_neg (by rw [hk]; decide)]; simp
    · exact bindC_get hn.2 hm hk
theorem map_fst_zip' {α β : Type} : ∀ {xs : List α} {vs : List β}, vs.length = xs.length → (xs.zip vs).map (·.1) = xs
  | [], [], _ => rfl
  | x :: xs, v :: vs, h => by simp only [List.zip_cons_cons, List.map_cons, List.cons.injEq, true_and]; exact map_fst_zip' (by simpa using h)
/-- what a name of the parameters means, at the call -/
theorem zip_look {h : Heap} {av : Addr → Prop} : ∀ {xs : List Str} {Vs : List V} {vs : List Value} {x : Str} {b : Bd}, RepL h av Vs vs → (xs.zip (Vs.map Bd.val)).lookup x = some b → ∃ v W, b = .val W ∧ (x, v) ∈ xs.zip vs ∧ Rep h av W v ∧ x ∈ xs
  | [], _, _, _, _, _, e => by simp at e
  | _ :: _, [], _, _, _, _, e => by simp at e
  | y :: xs, W :: Vs, _, x, b, r, e => by
    simp only [RepL] at r
    obtain ⟨v, us, rfl, r1, r2⟩ := r
    simp only [List.map_cons, List.zip_cons_cons, List.lookup_cons] at e
    cases q : x == y with
    | true =>
      rw [q] at e; cases e
      rw [beq_iff_eq.mp q]
      exact ⟨v, W, rfl, by simp, r1, by simp⟩
    | false =>
      rw [q] at e
      obtain ⟨v', W', h1, h2, h3, h4⟩ := zip_look r2 e
      exact ⟨v', W', h1, by simp [h2], h3, by simp [h4]⟩

section
variable {prog : Program} {w : World} {C : Cx} {ρ : Rho} {σ : Nat} {X : Int → Prop} {Q : V → Nat → Prop}

/-- what a body gives back -/
noncomputable def Ret (Q : V → Nat → Prop) : Out → Rho → Nat → Prop := fun o _ τ => match o with | .ret W => Q W τ | .next => Q .none τ | _ => False

/-- a block, told by what it leaves alone -/
noncomputable def JW (prog : Program) (w : World) (C : Cx) (ρ : Rho) (t : Sem Flow) (σ : Nat) (X : Int → Prop) (Q : Out → Rho → Nat → Prop) : Prop :=
  C.Ok → C.Sp → ∀ s own Qc Ec, St C ρ own σ s → (∀ f o ρ' σ' s' own', St C ρ' own' σ' s' → OutRep C own' s' o f → Q o ρ' σ' → Qc f s') → Ex C X s Ec → wpAny (model prog w) C.A t Qc Ec s
theorem JW.of {t : Sem Flow} {Q : Out → Rho → Nat → Prop} (h : JS prog w C ρ t σ X Q) : JW prog w C ρ t σ X Q := fun ok sp s own Qc Ec st ps ex =>
  h ok sp s own Qc Ec st (fun f o ρ' σ' s' own' st' _ r q => ps f o ρ' σ' s' own' st' r q) ex
theorem jw_cons {b : Stmt} {r : List Stmt} {Q : Out → Rho → Nat → Prop} (h : JW prog w C ρ (exec b C.env) σ X (fun o ρ' τ => match o with | .next => JW prog w C ρ' (execs r C.env) τ X Q | o => Q o ρ' τ)) : JW prog w C ρ (execs (b :: r) C.env) σ X Q := fun ok sp s own Qc Ec st ps ex =>
  wpAny_execs_cons (h ok sp s own _ _ st (fun f o ρ' τ s' own' st' r q => by
    cases o with
    | next => cases r; exact q ok sp s' own' Qc Ec st' ps ex
    | cont => cases r; exact ps .cont .cont ρ' τ s' own' st' rfl q
    | brk => cases r; exact ps .brk .brk ρ' τ s' own' st' rfl q
    | ret W => obtain ⟨v, rfl, r⟩ := r; exact ps (.ret v) (.ret W) ρ' τ s' own' st' ⟨v, rfl, r⟩ q) ex)
theorem call_core {f : Addr} {fd : FuncData} {body : List Stmt} {xs : List Str} {Vs : List V} (F : Fn C.K f fd body xs) (hlen : Vs.length = xs.length) (hr : 0 < C.r) (ok : C.Ok) {s : Shared} {own : Own} {vs : List Value} {Qc Ec : Value → Shared → Prop} (st : St C ρ own σ s) (r : RepL s.heap (Av C own) Vs vs) (ex : Ex C X s Ec)
    (h : ∀ L s₁, (C.callee (callEnvC fd L f) own s).Ok → (C.callee (callEnvC fd L f) own s).Sp → St (C.callee (callEnvC fd L f) own s) (xs.zip (Vs.map .val)) [] σ s₁ → ∀ (Q1 : Flow → Shared → Prop) (E1 : Value → Shared → Prop), (∀ v s', Qc v s' → Q1 (.ret v) s') → (∀ s', Qc .none s' → Q1 .next s') → Ex (C.callee (callEnvC fd L f) own s) X s₁ E1 →
      wpAny (model prog w) (C.callee (callEnvC fd L f) own s).A (execs body (callEnvC fd L f)) Q1 E1 s₁) : wpAny (model prog w) C.A (call (.ref f) vs) Qc Ec s := by
  obtain ⟨o, ho, hd⟩ := F.obj
  have hvl : vs.length = xs.length := r.length.trans hlen
  refine wpAny_call (codeAny_call_cells (by have := ok.room; lia) (st.inv.base _ _ (ok.kin _ _ ho)) hd (ok.lim.keeps st.inv.base) ((codeRec_of ok.kin F.code).keeps st.inv.base) F.body (F.bind vs hvl) F.clo (fun x hx => ?_) (fun s₁ ic => ?_) F.co F.gen F.kind)
  · rcases F.kinds x.1 (List.of_mem_zip hx).1 with h | ⟨h, h'⟩
    · exact .inl h
    · exact .inr ⟨h, by rw [lookup_map_isSome (cellsFrom_names fd.scope.names 0 (s.heap.objs.size + 1) [] [] rfl).symm]; exact h'⟩
  · obtain ⟨h₁, tk, rfl, kp⟩ := ic.done
    have hE : ∀ x c, (callEnvC fd s.heap.objs.size f).cells.lookup x = some c → (h₁.IsCell c (bindC (callEnvC fd s.heap.objs.size f).kindOf (xs.zip vs) (fun _ => none) x)) ∧ s.heap.get? c = none := fun x c hx => by
      refine ⟨ic.cell x c hx, ?_⟩
      cases q : s.heap.get? c with
      | none => rfl
      | some o => exact absurd (Heap.lt_size q) (Nat.not_lt.mpr (Nat.le_of_lt (ic.above x c (mem_of_lookup hx))))
    have ok' : (C.callee (callEnvC fd s.heap.objs.size f) own s).Ok := callee_ok (L := s.heap.objs.size) ok st none_of_size hr F.kind F.glob F.blt rfl
    have rk := RepL.mono (h' := h₁) (av' := Av C own) (fun b o e _ _ => kp b o e) (fun _ _ h => h) r
    have st' : St (C.callee (callEnvC fd s.heap.objs.size f) own s) (xs.zip (Vs.map .val)) [] σ { s with heap := h₁, toks := tk } := by
      refine callee_st (L := s.heap.objs.size) st ok (by show fd.scope.kind ≠ _; rw [F.kind]; decide) rfl rfl none_of_size ic.toInCall.ns kp (fun x c hx => ⟨.inl (hE x c hx).2, _, (hE x c hx).1⟩) fun x b hx => ?_
      obtain ⟨v, W, e, hm, rv, hxs⟩ := zip_look rk hx
      refine ⟨v, W, e, ?_, rv⟩
      have nd : ((xs.zip vs).map (·.1)).Nodup := by rw [map_fst_zip' hvl]; exact F.nodup
      rcases F.kinds x hxs with hk | ⟨hk, hk'⟩
      · exact .inl ⟨hk, _, ic.toInCall.ns, bindL_get nd hm hk⟩
      · rw [lookup_map_isSome (cellsFrom_names fd.scope.names 0 (s.heap.objs.size + 1) [] [] rfl)] at hk'
        obtain ⟨c, hc⟩ := Option.isSome_iff_exists.mp hk'
        refine .inr ⟨.inl hk, c, hc, ?_⟩
        have := ic.cell x c hc
        rw [bindC_get nd hm hk] at this
        exact this
    have fresh : ∀ {a : Addr}, s.heap.get? a = none → C.B.get? a = none := fun {a} h => by
      cases q : C.B.get? a with
      | none => rfl
      | some o => have := st.inv.base a o q; rw [h] at this; cases this
    have sp' : (C.callee (callEnvC fd s.heap.objs.size f) own s).Sp := by
      refine ⟨fresh none_of_size, fun env he hf => ?_, fun x c hx => fresh (hE x c hx).2, none_of_size, fun x c hx => (hE x c hx).2, fun x y c hx hy => ?_⟩
      · obtain ⟨_, m, hn⟩ := st.inv.frs.at he hf
        exact absurd hn.lt (Nat.lt_irrefl _)
      · exact name_of_addr ic.apart (mem_of_lookup hx) (mem_of_lookup hy)
    refine h s.heap.objs.size _ ok' sp' st' _ _ (fun v s' q => q) (fun s' q => q) fun n e b s' hx f' => ?_
    exact leaving_ ok' f' fun s'' b' f'' => ex n e b' s'' hx (callee_fly ok st f'')
theorem call_fnW {f : Addr} {fd : FuncData} {body : List Stmt} {xs : List Str} {Vs : List V} (F : Fn C.K f fd body xs) (hlen : Vs.length = xs.length) (hr : 0 < C.r)
    (h : ∀ L own s, JW prog w (C.callee (callEnvC fd L f) own s) (xs.zip (Vs.map .val)) (execs body (callEnvC fd L f)) σ X (Ret Q)) : CJ prog w C ρ (.ref f) Vs σ X Q := fun ok s own Qc Ec vs st r po ex =>
  call_core F hlen hr ok st r ex fun L s₁ ok' sp' st' Q1 E1 q1 q2 ex' => h L own s ok' sp' _ [] _ _ st' (fun fl oo ρ' σ' s' own' st'' rr q => by
    have t := callee_to ok st st''
    cases oo with
    | next => cases rr; exact q2 _ (po .none .none σ' s' t (by simp only [Rep]) q)
    | cont => exact q.elim
    | brk => exact q.elim
    | ret W =>
      obtain ⟨v, rfl, rr⟩ := rr
      exact q1 _ _ (po v W σ' s' t (Rep.mono (fun _ _ e _ _ => e) (fun c _ hn hc => hn (List.mem_append.mpr hc)) rr) q)) ex'
theorem call_fn {f : Addr} {fd : FuncData} {body : List Stmt} {xs : List Str} {Vs : List V} (F : Fn C.K f fd body xs) (hlen : Vs.length = xs.length) (hr : 0 < C.r)
    (h : ∀ L own s, WS prog w (C.callee (callEnvC fd L f) own s) (xs.zip (Vs.map .val)) body σ X (Ret Q)) : CJ prog w C ρ (.ref f) Vs σ X Q := call_fnW F hlen hr fun L own s => JW.of (h L own s)

/-- the urn's count stands still -/
noncomputable def Cx.fix (C : Cx) (σ : Nat) : Cx := { C with I := fun _ h => C.I σ h }
theorem CJ.fix {f : Value} {Vs : List V} (h : CJ prog w (C.fix σ) ρ f Vs 0 X (fun W _ => Q W σ)) : CJ prog w C ρ f Vs σ X Q := fun ok s own Qc Ec vs st r po ex =>
  h ⟨ok.fr, ok.hd, ok.room, ok.units, ok.kind, ok.g, ok.b, ok.lim, ok.glob, ok.blt, ok.mutB, ok.kin, ok.bg, ok.fra, ok.fmu, fun _ => ok.Iloc σ⟩ s own Qc Ec vs
    ⟨⟨st.ap.Lmu, st.ap.cmu, st.ap.fmu⟩, ⟨st.inv.base, st.inv.frs⟩, st.i, ⟨st.loc.look, st.loc.ns, st.loc.cells, st.loc.ownok, st.loc.nodup, st.loc.ownG⟩, st.ml, st.gs, st.gk⟩ r
    (fun v W _ s' t rr q => po v W σ s' ⟨t.kp, ⟨t.inv.base, t.inv.frs⟩, t.i⟩ rr q)
    (fun n e b s' hx f => ex n e b s' hx ⟨f.same, f.base, f.frs, f.newe, f.gk, f.ml, f.i.elim fun _ hi => ⟨σ, hi⟩, f.trc⟩)
end
end Mini
end

section
open PySem PySem.W PyProof.Rows
set_option maxRecDepth 100000
namespace Mini

section
variable {C : Cx} {ρ : Rho} {σ : Nat} {own : Own} {s : Shared}
theorem St.turn {I : Addr} {h' : Heap} {tk : Nat} (ok : C.Ok) (st : St C ρ own σ s) (hI : ∃ o, s.heap.get? I = some o ∧ ¬ DD o ∧ (∀ es n, o.data ≠ .dict es n) ∧ ∀ v, o.data ≠ .cell v) (hG : C.G.heap.get? I = none) (hM : I ∉ C.mu)
    (k : ∀ b o, b ≠ I → s.heap.get? b = some o → h'.get? b = some o) : St C ρ own σ { s with heap := h', toks := tk } := by
  obtain ⟨oI, gI, nD, nd, nc⟩ := hI
  have kdd : ∀ b o, s.heap.get? b = some o → DD o → h'.get? b = some o := fun b o e dd => k b o (fun q => by rw [q, gI] at e; cases e; exact nD dd) e
  have kns : ∀ b m, s.heap.Ns b m → h'.Ns b m := fun b m hn => hn.at' fun o e => k b o (fun q => by
    obtain ⟨o', es, n, g, hd, _⟩ := hn
    rw [q, gI] at g; cases g; exact nd _ _ hd) e
  have kc : ∀ b v, s.heap.IsCell b v → h'.IsCell b v := fun b v ⟨o, g, hd⟩ => ⟨o, k b o (fun q => by rw [q, gI] at g; cases g; exact nc _ hd) g, hd⟩
  have kb : ∀ x b v, BdRep s.heap (Av C own) own x b v → BdRep h' (Av C own) own x b v := fun x b v r => by
    cases b with
    | val W => exact Rep.mono (fun b o e dd _ => kdd b o e dd) (fun _ _ h => h) r
    | own Ws => obtain ⟨a, vs, n, e, ho, g, rl⟩ := r; exact ⟨a, vs, n, e, ho, kdd a _ g (.inl ⟨_, _, rfl⟩), RepL.mono (fun b o e dd _ => kdd b o e dd) (fun _ _ h => h) rl⟩
    | dct ks => exact r.elim
  have hB : ∀ b o, C.B.get? b = some o → b ≠ I := fun b o g q => by have := ok.bg b o g; rw [q, hG] at this; cases this
  obtain ⟨hh, tk', e⟩ := st.gs
  refine ⟨st.ap, ⟨fun b o g => k b o (hB b o g) (st.inv.base b o g), st.inv.frs.mono fun b m hn _ => ⟨m, kns b m hn⟩⟩, ok.Iloc σ s.heap h' (fun a ha o g => ?_) st.i,
    ⟨fun x b hx => ?_, ?_, fun x c hc => ?_, fun p hp => ?_, st.loc.nodup, st.loc.ownG⟩, fun a ha => by obtain ⟨o', g'⟩ := Option.isSome_iff_exists.mp (st.ml a ha); show (h'.get? a).isSome; rw [k a o' (fun q => hM (q ▸ ha)) g']; rfl, ⟨h', tk, by rw [e]⟩, fun b o g hb => ?_⟩
  · exact k a o (fun q => hM (q ▸ ha)) g
  · obtain ⟨v, l, r⟩ := st.loc.look x b hx
    exact ⟨v, l.mono (fun m hn => kns _ m hn) (fun y c w _ hw => kc c w hw), kb x b v r⟩
  · obtain ⟨m, hn⟩ := st.loc.ns
    exact ⟨m, kns _ m hn⟩
  · obtain ⟨v, hv⟩ := st.loc.cells x c hc
    exact ⟨v, kc c v hv⟩
  · obtain ⟨a, b, vs, n, g⟩ := st.loc.ownok p hp
    exact ⟨a, b, vs, n, kdd _ _ g (.inl ⟨_, _, rfl⟩)⟩
  · exact (st.gk b o g hb).trans fun o' g' => .inl (k b o' (fun q => by rw [q, hG] at g; cases g) g')
theorem SK.turn {own' : Own} {s' : Shared} {I : Addr} {h' : Heap} {tk : Nat} (x : SK C own s own' s') (hI : s.heap.get? I = none) (k : ∀ b o, b ≠ I → s'.heap.get? b = some o → h'.get? b = some o) : SK C own s own' { s' with heap := h', toks := tk } := by
  obtain ⟨hh, tk', e⟩ := x.same
  refine ⟨⟨h', tk, by rw [e]⟩, fun b o g h1 h2 h3 h4 => (x.keep b o g h1 h2 h3 h4).trans fun o' g' => .inl (k b o' (fun q => by rw [q, hI] at g; cases g) g'), fun b e => ?_, x.grow⟩
  by_cases hb : b = I
  · rw [hb, hI] at e; cases e
  · obtain ⟨o, g⟩ := Option.isSome_iff_exists.mp (x.live b e)
    show (h'.get? b).isSome
    rw [k b o hb g]; rfl
end

section
variable {prog : Program} {w : World}
/-- a walk over a source -/
structure Wk (prog : Program) (w : World) (A : Around) (I : Addr) (fp : List Addr) (n : Nat) (P : Nat → Value → Prop) (T : Nat → Heap → Prop) : Prop where
  base : Walks prog w A I fp [I] n P T
  go : ∀ i target v (s : Shared) (Q : Unit → Shared → Prop) (E : Value → Shared → Prop), T i s.heap → Q () s → wpAny (model prog w) A (letOwnedTupleGo target (.ref I) v) Q E s
  obj : ∀ i h, T i h → ∀ b ∈ fp, ∃ o, h.get? b = some o ∧ (∀ es n, o.data ≠ .dict es n) ∧ (∀ v, o.data ≠ .cell v)
  it : ∀ i h, T i h → ∃ o, h.get? I = some o ∧ ¬ DD o ∧ (∀ es n, o.data ≠ .dict es n) ∧ (∀ v, o.data ≠ .cell v)

theorem letGo_any {A : Around} {E : Value → Shared → Prop} {target : Expr} {I : Addr} {T : String} {fs : Array Value} {o : Obj} {v : Value} {Q' : Unit → Shared → Prop} {s' : Shared} (ho : s'.heap.get? I = some o) (hc : o.cls = .type T) (hd : o.data = .fields fs)
    (hn : (["enumerate", "zip", "dict_itemiterator", "dict_reverseitemiterator", "odict_iterator", "itertools.zip_longest", "itertools.pairwise"].contains T) = false) (h : Q' () s') :
    wpAny (model prog w) A (letOwnedTupleGo target (.ref I) v) Q' E s' := by
  unfold letOwnedTupleGo
  cases target <;> first
    | exact wpAny_pure h
    | (cases v <;> first
        | exact wpAny_pure h
        | (refine wpAny_bind (wpAny_load ho ?_)
           rw [hc, hd]
           dsimp only
           rw [hn]
           exact wpAny_pure h))

theorem Wk.list {A : Around} (hh : A.handled = none) (I ax : Addr) (hne : ax ≠ I) (items : Array Value) :
    Wk prog w A I [I, ax] items.size (fun i v => items[i]? = some v) (fun i h => h.IsListIter I ax i ∧ h.IsList ax items) where
  base := Walks.list hh I ax hne items
  go := fun i target v s Q E t h => by obtain ⟨o, ho, hc, hd⟩ := t.1; exact letGo_any ho hc hd (by decide) h
  obj := fun i h t b hb => by
    rcases List.mem_cons.mp hb with rfl | hb
    · obtain ⟨o, ho, hc, hd⟩ := t.1
      exact ⟨o, ho, by rw [hd]; simp, by rw [hd]; simp⟩
    · obtain rfl := List.mem_singleton.mp hb
      obtain ⟨o, ho, hc, n, hd⟩ := t.2
      exact ⟨o, ho, by rw [hd]; simp, by rw [hd]; simp⟩
  it := fun i h t => by
    obtain ⟨o, ho, hc, hd⟩ := t.1
    exact ⟨o, ho, by rintro (⟨xs, n, q⟩ | ⟨q, _⟩); · rw [hd] at q; cases q
                     · rw [hc] at q; rcases q with q | q <;> simp at q, by rw [hd]; simp, by rw [hd]; simp⟩
theorem Wk.tuple {A : Around} (hh : A.handled = none) (I ax : Addr) (hne : ax ≠ I) (items : Array Value) :
    Wk prog w A I [I, ax] items.size (fun i v => items[i]? = some v) (fun i h => h.IsTupleIter I ax i ∧ h.IsTuple ax items) where
  base := Walks.tuple hh I ax hne items
  go := fun i target v s Q E t h => by obtain ⟨o, ho, hc, hd⟩ := t.1; exact letGo_any ho hc hd (by decide) h
  obj := fun i h t b hb => by
    rcases List.mem_cons.mp hb with rfl | hb
    · obtain ⟨o, ho, hc, hd⟩ := t.1
      exact ⟨o, ho, by rw [hd]; simp, by rw [hd]; simp⟩
    · obtain rfl := List.mem_singleton.mp hb
      obtain ⟨o, ho, hc, n, hd⟩ := t.2
      exact ⟨o, ho, by rw [hd]; simp, by rw [hd]; simp⟩
  it := fun i h t => by
    obtain ⟨o, ho, hc, hd⟩ := t.1
    exact ⟨o, ho, by rintro (⟨xs, n, q⟩ | ⟨q, _⟩); · rw [hd] at q; cases q
                     · rw [hc] at q; rcases q with q | q <;> simp at q, by rw [hd]; simp, by rw [hd]; simp⟩
theorem Wk.range {A : Around} (hh : A.handled = none) (I : Addr) (n : Nat) :
    Wk prog w A I [I] n (fun i v => ∃ t, v = .int (0 + i * 1) t) (fun i h => IsRangeIter h I (0 + (i : Nat) * 1) ((n : Int) - (i : Nat)) 1) where
  base := Walks.range hh I 0 1 n
  go := fun i target v s Q E t h => letGo_any (T := "range_iterator") t rfl rfl (by decide) h
  obj := fun i h t b hb => by
    obtain rfl := List.mem_singleton.mp hb
    exact ⟨_, t, by simp, by simp⟩
  it := fun i h t => ⟨_, t, by rintro (⟨xs, n, q⟩ | ⟨q, _⟩); · cases q
                               · rcases q with q | q <;> simp at q, by simp, by simp⟩

noncomputable def elems : V → Option (List V)
  | .tup Ws => some Ws
  | .lst Ws => some Ws
  | .rng n => some ((List.range n).map fun i : Nat => .int i)
  | _ => none

theorem RepL.get' {h : Heap} {av : Addr → Prop} : ∀ {Vs : List V} {vs : List Value} {i : Nat} {v : Value}, RepL h av Vs vs → vs[i]? = some v → ∃ W, Vs[i]? = some W ∧ Rep h av W v
  | [], _, i, v, r, e => by rw [RepL] at r; subst r; simp at e
  | _ :: _, _, 0, v, r, e => by
    simp only [RepL] at r
    obtain ⟨v', us, rfl, a, b⟩ := r
    simp only [List.getElem?_cons_zero, Option.some.injEq] at e
    subst e
    exact ⟨_, rfl, a⟩
  | _ :: _, _, i + 1, v, r, e => by
    simp only [RepL] at r
    obtain ⟨v', us, rfl, a, b⟩ := r
    simp only [List.getElem?_cons_succ] at e ⊢
    exact RepL.get' b e

section
variable {C : Cx} {ρ : Rho} {σ : Nat} {X : Int → Prop}

/-- the source's iterator, made -/
theorem iter_ {s : Shared} {own : Own} {W : V} {v : Value} {Ws : List V} {Qc Ec : Value → Shared → Prop} (ok : C.Ok) (st : St C ρ own σ s) (r : Rep s.heap (Av C own) W v) (hW : elems W = some Ws)
    (h : ∀ I fp T s', To C σ s s' → s.heap.get? I = none → (∀ b ∈ fp, b = I ∨ (¬ Av C own b ∧ (s.heap.get? b).isSome)) → Wk prog w C.A I fp Ws.length (fun i v => ∃ W, Ws[i]? = some W ∧ Rep s.heap (Av C own) W v) T → T 0 s'.heap → Qc (.ref I) s') : wpAny (model prog w) C.A (pyIter v) Qc Ec s := by
  cases W with
  | tup Vs =>
    cases hW
    simp only [Rep] at r
    obtain ⟨a, vs, n, rfl, na, g, rl⟩ := r
    have ht : s.heap.IsTuple a vs.toArray := ⟨_, g, rfl, n, rfl⟩
    refine wpAny_pyIter_tuple ht (h s.heap.objs.size [s.heap.objs.size, a] (fun i h' => h'.IsTupleIter s.heap.objs.size a i ∧ h'.IsTuple a vs.toArray) _ (st.ext ok (h := s.heap.push _) (tk := s.toks) isSome_push) none_of_size (fun b hb => ?_) ?_ ⟨⟨_, Heap.get?_push_size _ rfl, rfl, rfl⟩, _, Heap.get?_push_of_some _ g, rfl, n, rfl⟩)
    · rcases List.mem_cons.mp hb with rfl | hb
      · exact .inl rfl
      · obtain rfl := List.mem_singleton.mp hb; exact .inr ⟨na, by rw [g]; rfl⟩
    · have W := Wk.tuple (prog := prog) (w := w) ok.hd s.heap.objs.size a (Nat.ne_of_lt (Heap.lt_size g)) vs.toArray
      have e : vs.toArray.size = Ws.length := by rw [List.size_toArray, rl.length]
      rw [e] at W
      refine { W with base := { W.base with item := fun i s' Q E hi t hQ => W.base.item i s' Q E hi t fun v h' tk hv => hQ v h' tk ?_ } }
      simp only [List.getElem?_toArray] at hv
      exact rl.get' hv
  | lst Vs =>
    cases hW
    simp only [Rep] at r
    obtain ⟨a, vs, n, rfl, na, g, rl⟩ := r
    have ht : s.heap.IsList a vs.toArray := ⟨_, g, rfl, n, rfl⟩
    refine wpAny_pyIter_list ht (h s.heap.objs.size [s.heap.objs.size, a] (fun i h' => h'.IsListIter s.heap.objs.size a i ∧ h'.IsList a vs.toArray) _ (st.ext ok (h := s.heap.push _) (tk := s.toks) isSome_push) none_of_size (fun b hb => ?_) ?_ ⟨⟨_, Heap.get?_push_size _ rfl, rfl, rfl⟩, _, Heap.get?_push_of_some _ g, rfl, n, rfl⟩)
    · rcases List.mem_cons.mp hb with rfl | hb
      · exact .inl rfl
      · obtain rfl := List.mem_singleton.mp hb; exact .inr ⟨na, by rw [g]; rfl⟩
    · have W := Wk.list (prog := prog) (w := w) ok.hd s.heap.objs.size a (Nat.ne_of_lt (Heap.lt_size g)) vs.toArray
      have e : vs.toArray.size = Ws.length := by rw [List.size_toArray, rl.length]
      rw [e] at W
      refine { W with base := { W.base with item := fun i s' Q E hi t hQ => W.base.item i s' Q E hi t fun v h' tk hv => hQ v h' tk ?_ } }
      simp only [List.getElem?_toArray] at hv
      exact rl.get' hv
  | rng n =>
    cases hW
    simp only [Rep] at r
    obtain ⟨a, t, u, x, rfl, na, g, hn⟩ := r
    have e : Builtin.Range.rangeSize 0 (n : Int) 1 = (n : Int) := by rw [rangeSize_nat]; lia
    refine wpAny_pyIter_range g (small_one (by lia) (by lia) (by lia) (by lia)) (h s.heap.objs.size [s.heap.objs.size] (fun i h => IsRangeIter h s.heap.objs.size (0 + (i : Nat) * 1) ((n : Int) - (i : Nat)) 1) _ (st.ext ok (h := s.heap.push _) (tk := s.toks) isSome_push) none_of_size (fun b hb => .inl (List.mem_singleton.mp hb)) ?_ ?_)
    · have W := Wk.range (prog := prog) (w := w) ok.hd s.heap.objs.size n
      rw [List.length_map, List.length_range]
      refine { W with base := { W.base with item := fun i s' Q E hi t hQ => W.base.item i s' Q E hi t fun v h' tk hv => hQ v h' tk ?_ } }
      obtain ⟨t, rfl⟩ := hv
      exact ⟨.int i, by simp [hi], by simp only [Rep]; exact ⟨t, by simp⟩⟩
    · show IsRangeIter _ _ _ _ _
      rw [e]
      simpa using Heap.get?_push_size _ rfl
  | _ => cases hW

/-- a store to a target -/
noncomputable def AS (prog : Program) (w : World) (C : Cx) (ρ : Rho) (target : Expr) (W : V) (ρ' : Rho) : Prop :=
  C.Ok → C.Sp → ∀ s own (Qc : Unit → Shared → Prop) (Ec : Value → Shared → Prop) v σ, St C ρ own σ s → Rep s.heap (Av C own) W v → (∀ s', St C ρ' own σ s' → SK C own s own s' → Qc () s') → wpAny (model prog w) C.A (assign target C.env v) Qc Ec s
theorem as_name {x : Str} {p : Pos} {W : V} (hx : Sto C x) : AS prog w C ρ (.Name x p) W ((x, .val W) :: ρ) := fun ok sp s own Qc Ec v σ st r h =>
  wpAny_assign_Name (store_ ok sp (st.del x) hx (b := .val W) r h)
/-- names in a row take values in a row -/
noncomputable def bindAll : List Str → List V → Rho → Rho
  | x :: xs, W :: Ws, ρ => bindAll xs Ws ((x, .val W) :: ρ)
  | _, _, ρ => ρ
theorem inOrder_ : ∀ {xs : List Str} {fs : List (Value → Sem Unit)} {Ws : List V} {vs : List Value} {ρ : Rho} {s : Shared} {own : Own} {Qc : Unit → Shared → Prop} {Ec : Value → Shared → Prop}, C.Ok → C.Sp → (∀ x ∈ xs, Sto C x) →
    fs.length = xs.length → (∀ (i : Nat) (x : Str) (f : Value → Sem Unit) (v : Value) (Q : Unit → Shared → Prop) (E : Value → Shared → Prop) (s : Shared), xs[i]? = some x → fs[i]? = some f → wpAny (model prog w) C.A (storeName C.env x v) Q E s → wpAny (model prog w) C.A (f v) Q E s) → xs.length = Ws.length → St C ρ own σ s → RepL s.heap (Av C own) Ws vs →
    (∀ s', St C (bindAll xs Ws ρ) own σ s' → SK C own s own s' → Qc () s') → wpAny (model prog w) C.A (assignInOrder fs vs) Qc Ec s
  | [], [], [] => fun ok sp a1 a2 a3 a4 st r h => by
    rename_i vs ρ s own Qc Ec
    rw [RepL] at r; subst r
    exact assignInOrder_nil (h s st (SK.refl _ _ _))
  | x :: xs, f :: fs, W :: Ws => fun ok sp hx hl hf hw st r h => by
    rename_i vs ρ s own Qc Ec
    simp only [RepL] at r
    obtain ⟨v, us, rfl, r1, r2⟩ := r
    refine assignInOrder_cons (hf 0 x f v _ _ _ rfl rfl (store_ ok sp (st.del x) (hx x (by simp)) (b := .val W) r1 fun s' st' k => ?_))
    have r2' : RepL s'.heap (Av C own) Ws us := RepL.mono (fun b o g dd hb => ?_) (fun _ _ h => h) r2
    · exact inOrder_ ok sp (fun y hy => hx y (by simp [hy])) (by simpa using hl) (fun i y g u Q E s h1 h2 => hf (i + 1) y g u Q E s (by simpa using h1) (by simpa using h2)) (by simpa using hw) st' r2' fun s'' st'' k' => h s'' st'' (k.trans k')
    · refine (k.keep b o g (fun q => hb (.inl q)) (fun q => hb (.inr q)) (fun q => ?_) (fun y q => ?_)).exact dd.nodict
      · obtain ⟨m, o', es, n, g', hd, _⟩ := st.loc.ns
        rw [q] at g; rw [g] at g'; cases g'; exact dd.nodict _ _ hd
      · obtain ⟨u, o', g', hd⟩ := st.loc.cells y b q
        rw [g] at g'; cases g'
        rcases dd with ⟨_, _, e⟩ | ⟨_, _, e⟩ <;> rw [hd] at e <;> cases e
  | [], _ :: _, _ => fun _ _ _ hl => by simp at hl
  | _ :: _, [], _ => fun _ _ _ hl => by simp at hl
  | [], [], _ :: _ => fun _ _ _ _ _ hw => by simp at hw
  | _ :: _, _ :: _, [] => fun _ _ _ _ _ hw => by simp at hw
theorem as_tuple {xs : List Str} {elts : List Expr} {k : Nat} {pos : Pos} {Ws : List V} (hx : ∀ x ∈ xs, Sto C x) (hl : xs.length = Ws.length) (he : ∀ env, (assignEach elts env).length = xs.length ∧ (assignEach elts env).findIdx? (·.1) = none)
    (hf : ∀ (env : Env) (i : Nat) (x : Str) (f : Value → Sem Unit), xs[i]? = some x → ((assignEach elts env).map (·.2))[i]? = some f → ∃ p, f = assign (.Name x p) env) : AS prog w C ρ (.Tuple elts k pos) (.tup Ws) (bindAll xs Ws ρ) := fun ok sp s own Qc Ec v σ st r h => by
  simp only [Rep] at r
  obtain ⟨a, vs, n, rfl, na, g, rl⟩ := r
  refine wpAny_assign_Tuple ok.hd ⟨_, g, rfl, n, rfl⟩ (by rw [(he _).1, List.size_toArray, rl.length, hl]) (he _).2 fun h' ex => ?_
  have t : To C σ s { s with heap := h', toks := s.toks } := st.ext ok fun b o e => ex b o (Nat.ne_of_lt (Heap.lt_size e)) e
  refine inOrder_ (xs := xs) ok sp hx (by rw [List.length_map, (he _).1]) (fun i x f v Q E s h1 h2 hh => ?_) hl (st.to t) (t.kp.repL (fun _ h => .inl h) rl) fun s' st' k => h s' st' ((SK.of_kp t.kp).trans k)
  obtain ⟨p, rfl⟩ := hf _ i x f h1 h2
  exact wpAny_assign_Name hh

theorem for_core {target : Expr} {body : List Stmt} {Q : Out → Rho → Nat → Prop} {S : Type} (bnd : S → Rho) (I : List V → Nat → S → Nat → Prop) {s₁ : Shared} {own : Own} {v : Value} {W : V} {Ws : List V} {τ : Nat} {z0 : S} {Qc : Flow → Shared → Prop} {Ec : Value → Shared → Prop}
    (ok : C.Ok) (sp : C.Sp) (st : St C ρ own τ s₁) (r₁ : Rep s₁.heap (Av C own) W v) (hW : elems W = some Ws) (hz0 : Sub (bnd z0) ρ) (hI0 : I Ws 0 z0 τ)
    (hb : ∀ i W z τ, Ws[i]? = some W → I Ws i z τ → ∃ ρ', AS prog w C (bnd z) target W ρ' ∧ WS prog w C ρ' body τ X (fun o ρ2 υ => match o with | .next => ∃ z', Sub (bnd z') ρ2 ∧ I Ws (i + 1) z' υ | .cont => ∃ z', Sub (bnd z') ρ2 ∧ I Ws (i + 1) z' υ | .brk => Q .next ρ2 υ | .ret v => Q (.ret v) ρ2 υ))
    (hend : ∀ z τ, I Ws Ws.length z τ → Q .next (bnd z) τ) (ps : Ps C own Q s₁ Qc) (ex : Ex C X s₁ Ec) :
    wpAny (model prog w) C.A (pyIter v) (fun it s₂ => codeAny (model prog w) C.A (.forLoop target it body [] C.env) (fun r s' => match r with | .ok f => Qc f s' | .error e => cameBackBy (model prog w) C.A C.env Ec e s') s₂) Ec s₁ := by
  have t₁ : To C τ s₁ s₁ := st.self
  refine iter_ ok (st.to t₁) r₁ hW fun It fp T s₂ t₂ hIt hfp WK hT0 => ?_
  have st₂ := ((st.to t₁).to t₂)
  have hGI : C.G.heap.get? It = none := by
    cases q : C.G.heap.get? It with
    | none => rfl
    | some o =>
      by_cases hm : It ∈ C.mu
      · have := (st.to t₁).ml _ hm; rw [hIt] at this; cases this
      · have := ((st.to t₁).gk _ o q hm).there; rw [hIt] at this; cases this
  have hMI : It ∉ C.mu := fun hm => by have := (st.to t₁).ml _ hm; rw [hIt] at this; cases this
  have sk0 : SK C own s₁ own s₁ := SK.of_kp t₁.kp
  have Iav : ∀ {ρ own σ} {s : Shared}, St C ρ own σ s → (∃ o, s.heap.get? It = some o ∧ ¬ DD o ∧ (∀ es n, o.data ≠ .dict es n) ∧ (∀ v, o.data ≠ .cell v)) → It ∉ C.mu ∧ It ∉ own.map (·.2) ∧ It ≠ C.env.locals ∧ ∀ x, C.env.cells.lookup x ≠ some It := fun {ρ own σ s} st ⟨o, g, nd, n1, n2⟩ => by
    refine ⟨hMI, fun q => ?_, fun q => ?_, fun x q => ?_⟩
    · obtain ⟨vs, n, g'⟩ := own_list st q
      rw [g] at g'; cases g'; exact nd (.inl ⟨_, _, rfl⟩)
    · obtain ⟨m, o', es, n, g', hd, _⟩ := st.loc.ns
      rw [← q, g] at g'; cases g'; exact n1 _ _ hd
    · obtain ⟨u, o', g', hd⟩ := st.loc.cells x It q
      rw [g] at g'; cases g'; exact n2 _ hd
  refine codeAny_forLoop_any (fun k s' => ∃ i z υ own', i ≤ Ws.length ∧ k = Ws.length + 1 - i ∧ I Ws i z υ ∧ St C (bnd z) own' υ s' ∧ SK C own s₁ own' s' ∧ T i s'.heap) ?_ (Ws.length + 1) ⟨0, z0, τ, own, Nat.zero_le _, rfl, hI0, st₂.sub hz0, SK.of_kp t₂.kp, hT0⟩
  rintro k s' ⟨i, z, υ, own', hi, rfl, hI, st', sk, hT⟩
  have hnI := Iav st' (WK.it i _ hT)
  -- what later stays of the source
  have Tmv : ∀ {ρ : Rho} {o o' : Own} {σ : Nat} {j : Nat} {sa sb : Shared}, St C ρ o σ sa → SK C own s₁ o sa → SK C o sa o' sb → T j sa.heap → T j sb.heap := fun {ρ o o' σ j sa sb} sta ska skb hT => by
    refine WK.base.frame j _ _ hT fun b hb ob g => ?_
    obtain ⟨ob', g', n1, n2⟩ := WK.obj j _ hT b hb
    rw [g] at g'; cases g'
    have : b ∉ C.mu ∧ b ∉ o.map (·.2) := by
      rcases hfp b hb with rfl | hb'
      · exact ⟨(Iav sta (WK.it j _ hT)).1, (Iav sta (WK.it j _ hT)).2.1⟩
      · refine ⟨fun q => hb'.1 (.inl q), fun q => ?_⟩
        rcases ska.grow b q with q | q
        · exact hb'.1 (.inr q)
        · have := hb'.2; rw [q] at this; cases this
    exact (skb.keep b ob g this.1 this.2 (fun q => by
      obtain ⟨m, o', es, n, g', hd, _⟩ := sta.loc.ns
      rw [← q, g] at g'; cases g'; exact n1 _ _ hd) (fun x q => by
      obtain ⟨u, o', g', hd⟩ := sta.loc.cells x b q
      rw [g] at g'; cases g'; exact n2 _ hd)).exact n1
  by_cases hlt : i < Ws.length
  · refine WK.base.item i s' _ _ hlt hT fun v h₁ tk ⟨W, hWi, rW⟩ hT1 hk1 => ?_
    have hk1' : ∀ b o, b ≠ It → s'.heap.get? b = some o → h₁.get? b = some o := fun b o hb g => hk1 b o (by simpa using hb) g
    have st1 := st'.turn (tk := tk) ok (WK.it i _ hT) hGI hMI hk1'
    have sk1 := sk.turn (tk := tk) hIt hk1'
    dsimp only
    refine WK.go (i + 1) target v _ _ _ hT1 ?_
    obtain ⟨ρ', has, hbody⟩ := hb i W z υ hWi hI
    -- the element, as it stood at the head, still stands
    have rW' : Rep h₁ (Av C own') W v := Rep.mono (fun b o g dd hb => ?_) (fun b e hb hb' => ?_) rW
    · refine has ok sp _ own' _ _ v υ st1 rW' fun s3 st3 k3 => ?_
      refine hbody ok sp s3 own' _ _ st3 (fun fl oo ρ2 τ2 s4 own4 st4 k4 rr q => ?_) ((ex.sk sp st sk0).loop ok rfl)
      have kk : SK C own s₁ own4 s4 := sk1.trans (k3.trans k4)
      have hT4 : T (i + 1) s4.heap := Tmv st1 sk1 (k3.trans k4) hT1
      cases oo with
      | next =>
        cases rr
        obtain ⟨z', hz', hI'⟩ := q
        exact ⟨Ws.length + 1 - (i + 1), by lia, i + 1, z', τ2, own4, hlt, rfl, hI', st4.sub hz', kk, hT4⟩
      | cont =>
        cases rr
        obtain ⟨z', hz', hI'⟩ := q
        exact ⟨Ws.length + 1 - (i + 1), by lia, i + 1, z', τ2, own4, hlt, rfl, hI', st4.sub hz', kk, hT4⟩
      | brk => cases rr; exact ps .next .next ρ2 τ2 s4 own4 st4 (sk0.trans kk) rfl q
      | ret W' => obtain ⟨v', rfl, rr⟩ := rr; exact ps (.ret v') (.ret W') ρ2 τ2 s4 own4 st4 (sk0.trans kk) ⟨v', rfl, rr⟩ q
    · exact hk1' b o (fun q => by rw [q, hIt] at g; cases g) ((sk.keep b o g (fun q => hb (.inl q)) (fun q => hb (.inr q)) (fun q => by
        obtain ⟨m, o', es, n, g', hd, _⟩ := (st.to t₁).loc.ns
        rw [← q, g] at g'; cases g'; exact dd.nodict _ _ hd) (fun x q => by
        obtain ⟨u, o', g', hd⟩ := (st.to t₁).loc.cells x b q
        rw [g] at g'; cases g'
        rcases dd with ⟨_, _, e⟩ | ⟨_, _, e⟩ <;> rw [hd] at e <;> cases e)).exact dd.nodict)
    · rcases hb' with q | q
      · exact hb (.inl q)
      · rcases sk.grow b q with q | q
        · exact hb (.inr q)
        · rw [q] at e; cases e
  · have hie : i = Ws.length := by lia
    subst hie
    refine WK.base.done s' _ _ hT fun h₁ tk hk1 => ?_
    have hk1' : ∀ b o, b ≠ It → s'.heap.get? b = some o → h₁.get? b = some o := fun b o hb g => hk1 b o (by simpa using hb) g
    have st1 := st'.turn (tk := tk) ok (WK.it _ _ hT) hGI hMI hk1'
    exact wpAny_execs_nil (ps .next .next _ υ _ own' st1 (sk0.trans (sk.turn hIt hk1')) rfl (hend z υ hI))
theorem s_for {target iter : Expr} {body : List Stmt} {pos : Pos} {Q : Out → Rho → Nat → Prop} {S : Type} (bnd : S → Rho) (I : List V → Nat → S → Nat → Prop)
    (h : WE prog w C ρ iter σ X (fun W τ => ∃ Ws, elems W = some Ws ∧ (∃ z, Sub (bnd z) ρ ∧ I Ws 0 z τ) ∧
      (∀ i W z τ, Ws[i]? = some W → I Ws i z τ → ∃ ρ', AS prog w C (bnd z) target W ρ' ∧ WS prog w C ρ' body τ X (fun o ρ2 υ => match o with | .next => ∃ z', Sub (bnd z') ρ2 ∧ I Ws (i + 1) z' υ | .cont => ∃ z', Sub (bnd z') ρ2 ∧ I Ws (i + 1) z' υ | .brk => Q .next ρ2 υ | .ret v => Q (.ret v) ρ2 υ)) ∧
      (∀ z τ, I Ws Ws.length z τ → Q .next (bnd z) τ)))
    (hs : ∀ env x, foldedSetIterable iter env x = pure x := by intro _ _; rfl) : W1 prog w C ρ (.For target iter body [] pos) σ X Q := fun ok sp s own Qc Ec st ps ex =>
  wpAny_For (h ok s own _ _ st (fun v W τ s₁ t₁ r₁ q => by
    obtain ⟨Ws, hW, ⟨z0, hz0, hI0⟩, hb, hend⟩ := q
    exact for_core bnd I ok sp (st.to t₁) r₁ hW hz0 hI0 hb hend (ps.sk (SK.of_kp t₁.kp)) (ex.to st.ap t₁)) ex) (hs _)
end
end
end Mini
end

section
open PySem PySem.W PyProof.Rows
set_option maxRecDepth 100000
namespace Mini

section
variable {C : Cx} {ρ : Rho} {σ : Nat} {own : Own} {s : Shared}
theorem own_uniq : ∀ {own : Own} {x y : Str} {a : Addr}, (own.map (·.2)).Nodup → (x, a) ∈ own → (y, a) ∈ own → x = y
  | (z, b) :: r, x, y, a, nd, h1, h2 => by
    simp only [List.map_cons, List.nodup_cons] at nd
    rcases List.mem_cons.mp h1 with e1 | h1 <;> rcases List.mem_cons.mp h2 with e2 | h2
    · cases e1; cases e2; rfl
    · cases e1; exact absurd (List.mem_map_of_mem (f := (·.2)) h2) nd.1
    · cases e2; exact absurd (List.mem_map_of_mem (f := (·.2)) h1) nd.1
    · exact own_uniq nd.2 h1 h2

/-- one of the frame's own lists is changed; the locals' dict may be another object of the same names -/
theorem St.shift {h' : Heap} {tk : Nat} {x : Str} {a : Addr} {Ws : List V} {vs : List Value} {n : Nat} (ok : C.Ok) (sp : C.Sp) (st : St C ρ own σ s) (hx : own.lookup x = some a) (hρ : ∃ Ws0, ρ.lookup x = some (.own Ws0))
    (k : ∀ b o, b ≠ a → b ≠ C.env.locals → s.heap.get? b = some o → h'.get? b = some o) (kL : ∀ m, s.heap.Ns C.env.locals m → h'.Ns C.env.locals m) (g : h'.get? a = some (lstO vs n)) (r : RepL h' (Av C own) Ws vs) :
    St C ((x, .own Ws) :: ρ) own σ { s with heap := h', toks := tk } ∧ SK C own s own { s with heap := h', toks := tk } := by
  have ha : (x, a) ∈ own := mem_of_lookup hx
  have ha' : a ∈ own.map (·.2) := List.mem_map_of_mem (f := (·.2)) ha
  obtain ⟨m0, hn0⟩ := st.loc.ns
  obtain ⟨oL, eL, pL, gL, dL, _⟩ := id hn0
  have kdd : ∀ b o, s.heap.get? b = some o → DD o → ¬ Av C own b → h'.get? b = some o := fun b o e dd nb => k b o (fun q => nb (.inr (q ▸ ha'))) (fun q => by rw [q, gL] at e; cases e; exact dd.nodict _ _ dL) e
  have kR : ∀ {W : V} {u : Value}, Rep s.heap (Av C own) W u → Rep h' (Av C own) W u := fun r => Rep.mono kdd (fun _ _ h => h) r
  have kRL : ∀ {Ws : List V} {u : List Value}, RepL s.heap (Av C own) Ws u → RepL h' (Av C own) Ws u := fun r => RepL.mono kdd (fun _ _ h => h) r
  obtain ⟨aM, aB, vs0, n0, g0⟩ := st.loc.ownok _ ha
  have kns : ∀ b m, s.heap.Ns b m → h'.Ns b m := fun b m hn => by
    by_cases hb : b = C.env.locals
    · rw [hb] at hn ⊢; exact kL m hn
    · exact hn.at' fun o e => k b o (fun q => by
        obtain ⟨o', es, n, g', hd, _⟩ := hn
        rw [q] at g'; simp only at g0; rw [g0] at g'; cases g'; cases hd) hb e
  have kc : ∀ b v, s.heap.IsCell b v → h'.IsCell b v := fun b v ⟨o, g', hd⟩ => ⟨o, k b o (fun q => by rw [q] at g'; simp only at g0; rw [g0] at g'; cases g'; cases hd) (fun q => by rw [q, gL] at g'; cases g'; rw [dL] at hd; cases hd) g', hd⟩
  have live : ∀ b, (s.heap.get? b).isSome → (h'.get? b).isSome := fun b e => by
    by_cases h1 : b = a
    · rw [h1, g]; rfl
    · by_cases h2 : b = C.env.locals
      · obtain ⟨o, _, _, g', _⟩ := kL m0 hn0
        rw [h2, g']; rfl
      · obtain ⟨o, g'⟩ := Option.isSome_iff_exists.mp e
        rw [k b o h1 h2 g']; rfl
  obtain ⟨hh, tk', e⟩ := st.gs
  have nB : ∀ b o, C.B.get? b = some o → b ≠ a ∧ b ≠ C.env.locals := fun b o g' => ⟨(fun q => by rw [q] at g'; simp only at aB; rw [aB] at g'; cases g'), (fun q => by rw [q, sp.LB] at g'; cases g')⟩
  have nG : ∀ b o, C.G.heap.get? b = some o → b ≠ a ∧ b ≠ C.env.locals := fun b o g' => ⟨(fun q => by have := st.loc.ownG _ ha; simp only at this; rw [q, this] at g'; cases g'), (fun q => by rw [q, sp.LG] at g'; cases g')⟩
  refine ⟨⟨st.ap, ⟨fun b o g' => k b o (nB b o g').1 (nB b o g').2 (st.inv.base b o g'), st.inv.frs.mono fun b m hn _ => ⟨m, kns b m hn⟩⟩, ok.Iloc σ s.heap h' (fun b hb o g' => k b o (fun q => aM (by rw [q] at hb; exact hb)) (fun q => st.ap.Lmu (q ▸ hb)) g') st.i,
    ⟨fun y b hy => ?_, ⟨m0, kL m0 hn0⟩, fun y c hc => ?_, fun p hp => ?_, st.loc.nodup, st.loc.ownG⟩, fun b hb => live b (st.ml b hb), ⟨h', tk, by rw [e]⟩, fun b o g' hb => (st.gk b o g' hb).trans fun o' g2 => .inl (k b o' (nG b o g').1 (nG b o g').2 g2)⟩,
    ⟨⟨h', tk, rfl⟩, fun b o g' h1 h2 h3 h4 => .inl (k b o (fun q => h2 (q ▸ ha')) h3 g'), live, fun b hb => .inl hb⟩⟩
  · rw [List.lookup_cons] at hy
    cases hyx : y == x with
    | true =>
      rw [hyx] at hy; cases hy
      obtain ⟨Ws0, hρ⟩ := hρ
      obtain ⟨v, l, a', vs', n', ev, ho, _, _⟩ := st.loc.look x _ hρ
      rw [hx] at ho; cases ho
      rw [beq_iff_eq.mp hyx]
      exact ⟨v, l.mono (fun m hn => kns _ m hn) (fun y c w _ hw => kc c w hw), a, vs, n, ev, hx, g, r⟩
    | false =>
      rw [hyx] at hy
      obtain ⟨v, l, rb⟩ := st.loc.look y b hy
      refine ⟨v, l.mono (fun m hn => kns _ m hn) (fun y c w _ hw => kc c w hw), ?_⟩
      cases b with
      | val W => exact kR rb
      | own Us =>
        obtain ⟨a', vs', n', ev, ho, g', rl⟩ := rb
        have hne : a' ≠ a := fun q => by
          have := own_uniq st.loc.nodup (mem_of_lookup ho) (q ▸ ha)
          rw [this] at hyx; simp at hyx
        exact ⟨a', vs', n', ev, ho, k a' _ hne (fun q => by rw [q, gL] at g'; cases g'; cases dL) g', kRL rl⟩
      | dct ks => exact rb.elim
  · obtain ⟨v, hv⟩ := st.loc.cells y c hc
    exact ⟨v, kc c v hv⟩
  · obtain ⟨h1, h2, vs', n', g'⟩ := st.loc.ownok p hp
    by_cases hpa : p.2 = a
    · exact ⟨h1, h2, vs, n, hpa ▸ g⟩
    · exact ⟨h1, h2, vs', n', k _ _ hpa (fun q => by rw [q, gL] at g'; cases g'; cases dL) g'⟩

/-- one list more is the frame's own -/
theorem St.mkown {ρ : Rho} {own : Own} {σ τ : Nat} {s₁ s₂ : Shared} {x : Str} {a : Addr} {vs : List Value} {n : Nat} (st : St C ρ own σ s₁) (t : To C τ s₁ s₂) (hx : ρ.lookup x = none) (h1 : s₁.heap.get? a = none) (h2 : s₂.heap.get? a = some (lstO vs n)) : St C ρ ((x, a) :: own) τ s₂ := by
  have st₂ := st.to t
  have nmu : a ∉ C.mu := fun q => by have := st.ml a q; rw [h1] at this; cases this
  have nG : C.G.heap.get? a = none := by
    cases q : C.G.heap.get? a with
    | none => rfl
    | some o => have := (st.gk a o q nmu).there; rw [h1] at this; cases this
  have nB : C.B.get? a = none := by
    cases q : C.B.get? a with
    | none => rfl
    | some o => have := st.inv.base a o q; rw [h1] at this; cases this
  have nO : a ∉ own.map (·.2) := fun q => by obtain ⟨vs, n, g⟩ := own_list st q; rw [h1] at g; cases g
  have ka : ∀ b, (s₁.heap.get? b).isSome → ¬ Av C own b → ¬ Av C ((x, a) :: own) b := fun b e nb q => by
    rcases q with q | q
    · exact nb (.inl q)
    · rcases List.mem_cons.mp q with q | q
      · simp only at q; rw [q, h1] at e; cases e
      · exact nb (.inr q)
  have kd : ∀ b o, s₁.heap.get? b = some o → DD o → ¬ Av C own b → s₂.heap.get? b = some o := fun b o e dd nb => (t.kp.keep b o e fun q => nb (.inl q)).exact dd.nodict
  refine ⟨st₂.ap, st₂.inv, st₂.i, ⟨fun y b hy => ?_, st₂.loc.ns, st₂.loc.cells, fun p hp => ?_, ?_, fun p hp => ?_⟩, st₂.ml, st₂.gs, st₂.gk⟩
  · obtain ⟨v, l, r⟩ := st.loc.look y b hy
    refine ⟨v, l.mono (fun m hn => Kept.ns hn fun o e => t.kp.keep _ o e st.ap.Lmu) (fun y c w hc hw => Kept.cell hw fun o e => t.kp.keep _ o e (st.ap.cmu y c hc)), ?_⟩
    cases b with
    | val W => exact Rep.mono kd ka r
    | own Us =>
      obtain ⟨a', vs', n', ev, ho, g', rl⟩ := r
      have hyx : (y == x) = false := by
        cases q : y == x with
        | false => rfl
        | true => rw [beq_iff_eq.mp q, hx] at hy; cases hy
      refine ⟨a', vs', n', ev, by rw [List.lookup_cons, hyx]; exact ho, (t.kp.keep _ _ g' (st.loc.ownok _ (mem_of_lookup ho)).1).exact (fun es n e => by cases e), RepL.mono kd ka rl⟩
    | dct ks => exact r.elim
  · rcases List.mem_cons.mp hp with rfl | hp
    · exact ⟨nmu, nB, vs, n, h2⟩
    · exact st₂.loc.ownok p hp
  · exact List.nodup_cons.mpr ⟨nO, st.loc.nodup⟩
  · rcases List.mem_cons.mp hp with rfl | hp
    · exact nG
    · exact st.loc.ownG p hp

theorem mem_filter_own {own : Own} {x : Str} {p : Str × Addr} (h : p ∈ own.filter fun p => !(p.1 == x)) : p ∈ own := (List.mem_filter.mp h).1
theorem lookup_filter {α : Type} (x y : Str) (hy : (y == x) = false) : ∀ l : List (Str × α), (l.filter fun p => !(p.1 == x)).lookup y = l.lookup y
  | [] => rfl
  | (z, b) :: r => by
    have ih := lookup_filter x y hy r
    rw [List.filter_cons]
    by_cases hz : (z == x) = true
    · have : (y == z) = false := by
        rw [beq_iff_eq.mp hz]; exact hy
      simp only [hz, Bool.not_true, Bool.false_eq_true, if_false, List.lookup_cons, this]
      exact ih
    · have hz' : (z == x) = false := by simpa using hz
      simp only [hz', Bool.not_false, if_true, List.lookup_cons, ih]
/-- an own list becomes a value -/
theorem St.freeze {x : Str} {Ws : List V} (st : St C ρ own σ s) (hx : ρ.lookup x = some (.own Ws)) : ∃ own', St C ((x, .val (.lst Ws)) :: Mini.del x ρ) own' σ s ∧ SK C own s own' s := by
  have hav : ∀ b, ¬ Av C own b → ¬ Av C (own.filter fun p => !(p.1 == x)) b := fun b nb q => by
    rcases q with q | q
    · exact nb (.inl q)
    · obtain ⟨p, hp, rfl⟩ := List.mem_map.mp q
      exact nb (.inr (List.mem_map_of_mem (f := (·.2)) (mem_filter_own hp)))
  refine ⟨own.filter fun p => !(p.1 == x), ⟨st.ap, st.inv, st.i, ⟨fun y b hy => ?_, st.loc.ns, st.loc.cells, fun p hp => st.loc.ownok p (mem_filter_own hp), ?_, fun p hp => st.loc.ownG p (mem_filter_own hp)⟩, st.ml, st.gs, st.gk⟩,
    ⟨st.gs.elim fun _ _ => ⟨_, _, rfl⟩, fun _ _ e _ _ _ _ => .inl e, fun _ e => e, fun a ha => .inl ?_⟩⟩
  · rw [List.lookup_cons] at hy
    cases hyx : y == x with
    | true =>
      rw [hyx] at hy; cases hy
      obtain ⟨v, l, a, vs, n, ev, ho, g, rl⟩ := st.loc.look x _ hx
      rw [beq_iff_eq.mp hyx]
      refine ⟨v, l, ?_⟩
      simp only [BdRep, Rep]
      refine ⟨a, vs, n, ev, fun q => ?_, g, RepL.mono (fun _ _ e _ _ => e) (fun b _ h => hav b h) rl⟩
      rcases q with q | q
      · exact (st.loc.ownok _ (mem_of_lookup ho)).1 q
      · obtain ⟨p, hp, e⟩ := List.mem_map.mp q
        obtain ⟨z, b⟩ := p
        simp only at e; subst e
        have := own_uniq st.loc.nodup (mem_filter_own hp) (mem_of_lookup ho)
        subst this
        simp at hp
    | false =>
      rw [hyx] at hy
      have hne : y ≠ x := by simpa using hyx
      rw [lookup_del, if_neg hne] at hy
      obtain ⟨v, l, r⟩ := st.loc.look y b hy
      refine ⟨v, l, ?_⟩
      cases b with
      | val W => exact Rep.mono (fun _ _ e _ _ => e) (fun b _ h => hav b h) r
      | own Us => obtain ⟨a, vs, n, ev, ho, g, rl⟩ := r; exact ⟨a, vs, n, ev, by rw [lookup_filter x y hyx]; exact ho, g, RepL.mono (fun _ _ e _ _ => e) (fun b _ h => hav b h) rl⟩
      | dct ks => exact r.elim
  · have : (own.filter fun p => !(p.1 == x)).map (·.2) |>.Sublist (own.map (·.2)) := List.Sublist.map _ List.filter_sublist
    exact this.nodup st.loc.nodup
  · obtain ⟨p, hp, rfl⟩ := List.mem_map.mp ha
    exact List.mem_map_of_mem (f := (·.2)) (mem_filter_own hp)
end

section
variable {prog : Program} {w : World} {C : Cx} {ρ : Rho} {σ : Nat} {X : Int → Prop} {Q : Out → Rho → Nat → Prop}

theorem JS.freeze {t : Sem Flow} {x : Str} {Ws : List V} (hx : ρ.lookup x = some (.own Ws)) (h : JS prog w C ((x, .val (.lst Ws)) :: del x ρ) t σ X Q) : JS prog w C ρ t σ X Q := fun ok sp s own Qc Ec st ps ex => by
  obtain ⟨own', st', k⟩ := st.freeze hx
  exact h ok sp s own' Qc Ec st' (ps.sk k) (ex.sk sp st k)

/-- a new list -/
noncomputable def WN (prog : Program) (w : World) (C : Cx) (ρ : Rho) (t : Sem Value) (σ : Nat) (X : Int → Prop) (Q : List V → Nat → Prop) : Prop :=
  C.Ok → ∀ s own (Qc : Value → Shared → Prop) Ec, St C ρ own σ s → (∀ a Ws τ τ' s₁ s₂ vs n, To C τ s s₁ → To C τ' s₁ s₂ → s₁.heap.get? a = none → s₂.heap.get? a = some (lstO vs n) → RepL s₂.heap (fun b => Av C own b ∨ b = a) Ws vs → Q Ws τ' → Qc (.ref a) s₂) → Ex C X s Ec → wpAny (model prog w) C.A t Qc Ec s
theorem wn_nil {pos : Pos} {Q : List V → Nat → Prop} (h : Q [] σ) : WN prog w C ρ (eval (.List [] pos) C.env) σ X Q := fun ok s own Qc Ec st po ex => by
  refine wpAny_List_spliced (Calls.spliced_nil ⟨Nat.zero_le _, ?_⟩)
  exact po s.heap.objs.size [] σ σ s _ [] 0 st.self (st.ext ok (h := s.heap.push _) (tk := s.toks) isSome_push) none_of_size (Heap.get?_push_size _ rfl) (by simp only [RepL]) h
theorem wn_add {l r : Expr} {pos : Pos} {Q : List V → Nat → Prop} (h : WL prog w C ρ l σ X (fun b τ => WL prog w C ρ r τ X (fun c υ => b.1 = false ∧ c.1 = false ∧ b.2.length + c.2.length ≤ 1000000 ∧ Q (b.2 ++ c.2) υ))) : WN prog w C ρ (eval (.BinOp l .Add r pos) C.env) σ X Q := fun ok s own Qc Ec st po ex =>
  wpAny_BinOp (h ok s own _ _ st (fun v b τ s₁ t₁ r₁ h₁ => h₁ ok s₁ own _ _ (st.to t₁) (fun u c υ s₂ t₂ r₂ ⟨hb, hc, hz, q⟩ => by
    obtain ⟨b1, Ws⟩ := b; obtain ⟨c1, Us⟩ := c
    simp only at hb hc; subst hb hc
    refine add_lists ok ((st.to t₁).to t₂) (r₁.kp t₂.kp (fun a ha => .inl ha)) r₂ hz fun a vs s' _ t₃ na hn g rr => ?_
    exact po a (Ws ++ Us) υ υ s₂ s' vs 0 (t₁.trans t₂) t₃ hn g rr q) (ex.to st.ap t₁)) ex)
end
end Mini
end

section
open PySem PySem.W PyProof.Rows
set_option maxRecDepth 100000
namespace Mini
section
variable {prog : Program} {w : World} {C : Cx} {ρ : Rho} {σ : Nat} {X : Int → Prop} {Q : Out → Rho → Nat → Prop}

theorem noint (ok : C.Ok) : interactive C.env = false := by unfold interactive; rw [ok.kind]; rfl

theorem s_own {x : Str} {p pos : Pos} {value : Expr} (hx : Sto C x) (h : WN prog w C ρ (eval value C.env) σ X (fun Ws τ => Q .next ((x, .own Ws) :: del x ρ) τ))
    (hs : ∀ env, swapsWith value (some (.Name x p)) pos.line env = pure false := by intro _; rfl) : W1 prog w C ρ (.Assign [.Name x p] value pos) σ X Q := fun ok sp s own Qc Ec st ps ex =>
  wpAny_Assign_Name (h ok s own _ _ st (fun a Ws τ τ' s₁ s₂ vs n t₁ t₂ h1 h2 r q => by
    have st₁ := (st.to t₁)
    have hfresh : s.heap.get? a = none := t₁.kp.fresh h1
    have st₂ := (st₁.del x).mkown t₂ (x := x) (by rw [lookup_del, if_pos rfl]) h1 h2
    have hb : BdRep s₂.heap (Av C ((x, a) :: own)) ((x, a) :: own) x (.own Ws) (.ref a) := by
      refine ⟨a, vs, n, rfl, by simp, h2, RepL.mono (fun _ _ e _ _ => e) (fun b _ hn hb => hn ?_) r⟩
      rcases hb with q | q
      · exact .inl (.inl q)
      · rcases List.mem_cons.mp q with q | q
        · exact .inr q
        · exact .inl (.inr q)
    refine store_ ok sp (st₂.del x) hx hb fun s' st' k => ps .next .next _ τ' s' _ st' (SK.trans (o₂ := (x, a) :: own) ⟨(t₁.trans t₂).kp.same, fun b o e h1 _ _ _ => (t₁.trans t₂).kp.keep b o e h1, (t₁.trans t₂).kp.live, fun b hb => ?_⟩ k) rfl q
    rcases List.mem_cons.mp hb with q | q
    · exact .inr (by simp only at q; rw [q]; exact hfresh)
    · exact .inl q) ex) (hs _)

/-- the method's name looked up on one of the own lists -/
theorem own_method {x : Str} {p p2 p3 : Pos} {name : Str} {id : String} {args : List Expr} {Ws : List V} {s : Shared} {own : Own} {Qc Ec : Value → Shared → Prop} (ok : C.Ok) (st : St C ρ own σ s) (hx : ρ.lookup x = some (.own Ws)) (slot : Slot "list" name id) (hty : typeOf (.builtin id) = pure (.type "method_descriptor")) (pl : Sem Bool)
    (he : eval (.Call (.Attribute (.Name x p) name p2) args [] p3) C.env = (do
      let ov ← eval (.Name x p) C.env
      standAt p2.atName
      let (f, first) ← holding [ov] (getMethod ov name pl)
      callWith p3 f first (backTo p3 (starEach args C.env)) (backToKw p3 (keywordEach [] C.env)))) (hd : (x == ("__debug__" : Str)) = false)
    (h : ∀ a vs n, own.lookup x = some a → s.heap.get? a = some (lstO vs n) → RepL s.heap (Av C own) Ws vs → wpAny (model prog w) C.A (callWith p3 (.builtin id) [.ref a] (backTo p3 (starEach args C.env)) []) Qc Ec s) :
    wpAny (model prog w) C.A (eval (.Call (.Attribute (.Name x p) name p2) args [] p3) C.env) Qc Ec s := by
  obtain ⟨v, l, a, vs, n, rfl, ho, g, rl⟩ := st.loc.look x _ hx
  refine methodCall_KW (look_name ok l ?_ hd) he
  refine getMethod_builtin ⟨_, g, rfl⟩ PySem.F.plainAttrs_list slot hty (fun b e => by cases e; exact ⟨_, g, rfl⟩) ?_
  exact h a vs n ho g rl

theorem s_append {x : Str} {p p2 p3 pos : Pos} {e : Expr} {Ws : List V} (hx : ρ.lookup x = some (.own Ws)) (hz : Ws.length ≤ 1000000) (h : WE prog w C ρ e σ X (fun W τ => Q .next ((x, .own (Ws ++ [W])) :: ρ) τ))
    (hd : (x == ("__debug__" : Str)) = false := by decide) (he : ∀ env, backTo p3 (starEach [e] env) = [(false, eval e env)] := by intro _; rfl)
    (hc : ∀ env, ∃ pl, eval (.Call (.Attribute (.Name x p) "append" p2) [e] [] p3) env = (do
      let ov ← eval (.Name x p) env
      standAt p2.atName
      let (f, first) ← holding [ov] (getMethod ov "append" pl)
      callWith p3 f first (backTo p3 (starEach [e] env)) (backToKw p3 (keywordEach [] env))) := by intro _; exact ⟨_, rfl⟩) : W1 prog w C ρ (.Expr (.Call (.Attribute (.Name x p) "append" p2) [e] [] p3) pos) σ X Q := fun ok sp s own Qc Ec st ps ex => by
  refine wpAny_Expr_any (env := C.env) ?_ (noint ok) rfl
  obtain ⟨pl, hc⟩ := hc C.env
  refine own_method ok st hx PySem.F.slot_list_append (by rfl) pl hc hd fun a vs n ho g rl => ?_
  rw [he]
  refine PySem.P.append_list (h ok s own _ _ st (fun v W τ s₁ t₁ r₁ q => ?_) ex)
  have st₁ := st.to t₁
  have g₁ : s₁.heap.get? a = some (lstO vs n) := (t₁.kp.keep a _ g (st.loc.ownok _ (mem_of_lookup ho)).1).exact (fun es n e => by cases e)
  have rl₁ := t₁.kp.repL (fun _ h => .inl h) rl
  refine ⟨vs.toArray, n, by rw [List.size_toArray, rl.length, sizeLine_eq]; lia, g₁, ?_⟩
  have g₂ := PySem.IsL.update (l := a) (items := vs.toArray) (n := n) g₁ (fun xs => xs.push v)
  have up : ∀ b o, b ≠ a → s₁.heap.get? b = some o → (s₁.heap.update a (Obj.mapSeq fun xs => xs.push v)).get? b = some o := fun b o hb e => (Heap.get?_update_other _ _ (Ne.symm hb)).trans e
  have hav : a ∈ own.map (·.2) := List.mem_map_of_mem (f := (·.2)) (mem_of_lookup ho)
  have kr : ∀ {W : V} {u : Value}, Rep s₁.heap (Av C own) W u → Rep (s₁.heap.update a (Obj.mapSeq fun xs => xs.push v)) (Av C own) W u := fun r => Rep.mono (fun b o e dd nb => up b o (fun q => nb (.inr (q ▸ hav))) e) (fun _ _ h => h) r
  have krl : RepL (s₁.heap.update a (Obj.mapSeq fun xs => xs.push v)) (Av C own) Ws vs := RepL.mono (fun b o e dd nb => up b o (fun q => nb (.inr (q ▸ hav))) e) (fun _ _ h => h) rl₁
  obtain ⟨oL, eL, pL, gL, dL, _⟩ := st₁.loc.ns.choose_spec
  have haL : C.env.locals ≠ a := fun q => by rw [q, g₁] at gL; cases gL; cases dL
  obtain ⟨st₂, k₂⟩ := st₁.shift (x := x) (a := a) (Ws := Ws ++ [W]) (vs := vs ++ [v]) (n := if (vs.toArray.push v).size == vs.toArray.size then n else n + 1) (tk := s₁.toks) ok sp ho ⟨Ws, hx⟩ (fun b o h1 _ e => up b o h1 e) (fun m hn => hn.at' fun o e => up _ o haL e)
    (by rw [g₂]; simp) (krl.append (RepL.one (kr r₁)))
  exact ps .next .next _ τ _ own st₂ ((SK.of_kp t₁.kp).trans k₂) rfl q

/-- x[i] = e, of one of the own lists -/
theorem s_setat {x : Str} {p p2 pos : Pos} {i value : Expr} {Ws : List V} (hx : ρ.lookup x = some (.own Ws))
    (h : WE prog w C ρ value σ X (fun W τ => WE prog w C ρ i τ X (fun U υ => ∃ (k : Int) (j : Nat), U = .int k ∧ Ws.length < 2 ^ 60 ∧ j < Ws.length ∧ ((k = j) ∨ (k < 0 ∧ k + Ws.length = j)) ∧ Q .next ((x, .own (Ws.set j W)) :: ρ) υ)))
    (hd : (x == ("__debug__" : Str)) = false := by decide) (hs : ∀ env, swapsWith value (some (.Subscript (.Name x p) i p2)) pos.line env = pure false := by intro _; rfl) : W1 prog w C ρ (.Assign [.Subscript (.Name x p) i p2] value pos) σ X Q := fun ok sp s own Qc Ec st ps ex => by
  refine wpAny_Assign_Subscript (h ok s own _ _ st (fun v W τ s₁ t₁ r₁ h₁ => ?_) ex) (hs _)
  have st₁ := st.to t₁
  obtain ⟨_, l, a, vs, n, rfl, ho, g, rl⟩ := st₁.loc.look x _ hx
  refine look_name ok l ?_ hd
  refine h₁ ok s₁ own _ _ st₁ (fun u U υ s₂ t₂ r₂ ⟨k, j, e, hz, hj, hk, q⟩ => ?_) (ex.to st.ap t₁)
  subst e; simp only [Rep] at r₂; obtain ⟨t, rfl⟩ := r₂
  have st₂ := st₁.to t₂
  have g₂ : s₂.heap.get? a = some (lstO vs n) := (t₂.kp.keep a _ g (st₁.loc.ownok _ (mem_of_lookup ho)).1).exact (fun es n e => by cases e)
  have rl₂ := t₂.kp.repL (fun _ h => .inl h) rl
  have r₁' := t₂.kp.rep (fun _ h => .inl h) r₁
  have hlen : vs.length = Ws.length := rl.length
  have fin : Q .next ((x, .own (Ws.set j W)) :: ρ) υ → Qc .next { s₂ with heap := s₂.heap.update a (Obj.mapSeq (·.setIfInBounds j v)) } := fun q => by
    have g₃ := PySem.IsL.update (l := a) (items := vs.toArray) (n := n) g₂ (·.setIfInBounds j v)
    have up : ∀ b o, b ≠ a → s₂.heap.get? b = some o → (s₂.heap.update a (Obj.mapSeq (·.setIfInBounds j v))).get? b = some o := fun b o hb e => (Heap.get?_update_other _ _ (Ne.symm hb)).trans e
    have hav : a ∈ own.map (·.2) := List.mem_map_of_mem (f := (·.2)) (mem_of_lookup ho)
    have krl : RepL (s₂.heap.update a (Obj.mapSeq (·.setIfInBounds j v))) (Av C own) Ws vs := RepL.mono (fun b o e dd nb => up b o (fun q => nb (.inr (q ▸ hav))) e) (fun _ _ h => h) rl₂
    have kr : Rep (s₂.heap.update a (Obj.mapSeq (·.setIfInBounds j v))) (Av C own) W v := Rep.mono (fun b o e dd nb => up b o (fun q => nb (.inr (q ▸ hav))) e) (fun _ _ h => h) r₁'
    obtain ⟨oL, eL, pL, gL, dL, _⟩ := st₂.loc.ns.choose_spec
    have haL : C.env.locals ≠ a := fun q => by rw [q, g₂] at gL; cases gL; cases dL
    obtain ⟨st₃, k₃⟩ := st₂.shift (x := x) (a := a) (Ws := Ws.set j W) (vs := vs.set j v) (n := if (vs.toArray.setIfInBounds j v).size == vs.toArray.size then n else n + 1) (tk := s₂.toks) ok sp ho ⟨Ws, hx⟩ (fun b o h1 _ e => up b o h1 e) (fun m hn => hn.at' fun o e => up _ o haL e)
      (by rw [g₃]; simp) (krl.set j kr)
    exact ps .next .next _ υ _ own st₃ ((SK.of_kp (t₁.trans t₂).kp).trans k₃) rfl q
  have hsz : vs.toArray.size = Ws.length := by rw [List.size_toArray, hlen]
  rcases hk with hk | ⟨hk0, hk⟩
  · refine ki_setAt (n := n) g₂ (by lia) (by lia) (by rw [hsz]; lia) ?_
    have : k.toNat = j := by lia
    rw [this]
    exact fin q
  · refine ki_setBack (n := n) g₂ hk0 (by rw [hsz]; lia) (by lia) ?_
    have : (k + vs.toArray.size).toNat = j := by rw [hsz]; lia
    rw [this]
    exact fin q

/-- x.append(y.pop(e)) -/
theorem s_append_pop {x y : Str} {p p2 p3 p4 p5 p6 pos : Pos} {e : Expr} {Ws Us : List V} (hx : ρ.lookup x = some (.own Ws)) (hy : ρ.lookup y = some (.own Us)) (hxy : y ≠ x) (hz : Ws.length ≤ 100000 ∧ Us.length ≤ 100000)
    (h : WE prog w C ρ e σ X (fun W τ => ∃ j : Nat, W = .int j ∧ ∃ U, Us[j]? = some U ∧ Q .next ((x, .own (Ws ++ [U])) :: (y, .own (Us.eraseIdx j)) :: ρ) τ))
    (hd : (x == ("__debug__" : Str)) = false := by decide) (hd' : (y == ("__debug__" : Str)) = false := by decide) (he : ∀ env, backTo p3 (starEach [(.Call (.Attribute (.Name y p4) "pop" p5) [e] [] p6)] env) = [(false, eval (.Call (.Attribute (.Name y p4) "pop" p5) [e] [] p6) env)] := by intro _; rfl)
    (he' : ∀ env, backTo p6 (starEach [e] env) = [(false, eval e env)] := by intro _; rfl)
    (hc : ∀ env, ∃ pl, eval (.Call (.Attribute (.Name x p) "append" p2) [(.Call (.Attribute (.Name y p4) "pop" p5) [e] [] p6)] [] p3) env = (do
      let ov ← eval (.Name x p) env
      standAt p2.atName
      let (f, first) ← holding [ov] (getMethod ov "append" pl)
      callWith p3 f first (backTo p3 (starEach [(.Call (.Attribute (.Name y p4) "pop" p5) [e] [] p6)] env)) (backToKw p3 (keywordEach [] env))) := by intro _; exact ⟨_, rfl⟩)
    (hc' : ∀ env, ∃ pl, eval (.Call (.Attribute (.Name y p4) "pop" p5) [e] [] p6) env = (do
      let ov ← eval (.Name y p4) env
      standAt p5.atName
      let (f, first) ← holding [ov] (getMethod ov "pop" pl)
      callWith p6 f first (backTo p6 (starEach [e] env)) (backToKw p6 (keywordEach [] env))) := by intro _; exact ⟨_, rfl⟩) : W1 prog w C ρ (.Expr (.Call (.Attribute (.Name x p) "append" p2) [(.Call (.Attribute (.Name y p4) "pop" p5) [e] [] p6)] [] p3) pos) σ X Q := fun ok sp s own Qc Ec st ps ex => by
  refine wpAny_Expr_any (env := C.env) ?_ (noint ok) rfl
  obtain ⟨pl, hc⟩ := hc C.env
  obtain ⟨pl', hc'⟩ := hc' C.env
  refine own_method ok st hx PySem.F.slot_list_append (by rfl) pl hc hd fun a vs n ho g rl => ?_
  rw [he]
  refine PySem.P.append_list ?_
  refine own_method ok st hy PySem.F.slot_list_pop (by rfl) pl' hc' hd' fun b us m hob gb rlb => ?_
  rw [he']
  refine PySem.P.pop_at_list (h ok s own _ _ st (fun v W τ s₁ t₁ r₁ ⟨j, eW, U, hU, q⟩ => ?_) ex)
  subst eW; simp only [Rep] at r₁; obtain ⟨t, rfl⟩ := r₁
  have st₁ := st.to t₁
  have gb₁ : s₁.heap.get? b = some (lstO us m) := (t₁.kp.keep b _ gb (st.loc.ownok _ (mem_of_lookup hob)).1).exact (fun es n e => by cases e)
  have ga₁ : s₁.heap.get? a = some (lstO vs n) := (t₁.kp.keep a _ g (st.loc.ownok _ (mem_of_lookup ho)).1).exact (fun es n e => by cases e)
  have rlb₁ := t₁.kp.repL (fun _ h => .inl h) rlb
  have rl₁ := t₁.kp.repL (fun _ h => .inl h) rl
  obtain ⟨u, hu, ru⟩ := rlb₁.get hU
  have hlb : us.length = Us.length := rlb.length
  have hj : j < us.length := by
    obtain ⟨h, _⟩ := List.getElem?_eq_some_iff.mp hu; exact h
  have hab : a ≠ b := fun q => hxy (own_uniq st.loc.nodup (mem_of_lookup hob) (q ▸ mem_of_lookup ho))
  refine ⟨us.toArray, m, (j : Int), t, j, u, by rw [List.size_toArray, hlb, sizeLine_eq]; lia, rfl, gb₁, ?_, ?_, by simpa using hu, ?_⟩
  · have : (j : Int) < 2 ^ 63 := by lia
    unfold Builtin.List.listFitsIndex
    simp <;> lia
  · unfold seqIndex?
    simp <;> lia
  have g₂ := PySem.IsL.update (l := b) (items := us.toArray) (n := m) gb₁ (fun xs => xs.eraseIdxIfInBounds j)
  have er : us.toArray.eraseIdxIfInBounds j = (us.eraseIdx j).toArray := by simp [Array.eraseIdxIfInBounds, hj]
  rw [er] at g₂
  have up : ∀ c o, c ≠ b → s₁.heap.get? c = some o → (s₁.heap.update b (Obj.mapSeq fun xs => xs.eraseIdxIfInBounds j)).get? c = some o := fun c o hb e => (Heap.get?_update_other _ _ (Ne.symm hb)).trans e
  have hbv : b ∈ own.map (·.2) := List.mem_map_of_mem (f := (·.2)) (mem_of_lookup hob)
  have hav : a ∈ own.map (·.2) := List.mem_map_of_mem (f := (·.2)) (mem_of_lookup ho)
  obtain ⟨oL, eL, pL, gL, dL, _⟩ := st₁.loc.ns.choose_spec
  have hbL : C.env.locals ≠ b := fun q => by rw [q, gb₁] at gL; cases gL; cases dL
  have haL : C.env.locals ≠ a := fun q => by rw [q, ga₁] at gL; cases gL; cases dL
  have kdd : ∀ c o, s₁.heap.get? c = some o → DD o → ¬ Av C own c → (s₁.heap.update b (Obj.mapSeq fun xs => xs.eraseIdxIfInBounds j)).get? c = some o := fun c o e dd nb => up c o (fun q => nb (.inr (q ▸ hbv))) e
  obtain ⟨st₂, k₂⟩ := st₁.shift (x := y) (a := b) (Ws := Us.eraseIdx j) (vs := us.eraseIdx j) (n := _) (tk := s₁.toks) ok sp hob ⟨Us, hy⟩ (fun c o h1 _ e => up c o h1 e) (fun m hn => hn.at' fun o e => up _ o hbL e) g₂ (RepL.mono kdd (fun _ _ h => h) (rlb₁.eraseIdx j))
  have ga₂ := up a _ hab ga₁
  have rl₂ : RepL (s₁.heap.update b (Obj.mapSeq fun xs => xs.eraseIdxIfInBounds j)) (Av C own) Ws vs := RepL.mono kdd (fun _ _ h => h) rl₁
  have ru₂ : Rep (s₁.heap.update b (Obj.mapSeq fun xs => xs.eraseIdxIfInBounds j)) (Av C own) U u := Rep.mono kdd (fun _ _ h => h) ru
  refine ⟨vs.toArray, n, by rw [List.size_toArray, rl.length, sizeLine_eq]; lia, ga₂, ?_⟩
  have g₃ := PySem.IsL.update (l := a) (items := vs.toArray) (n := n) ga₂ (fun xs => xs.push u)
  have up₃ : ∀ c o, c ≠ a → (s₁.heap.update b (Obj.mapSeq fun xs => xs.eraseIdxIfInBounds j)).get? c = some o → ((s₁.heap.update b (Obj.mapSeq fun xs => xs.eraseIdxIfInBounds j)).update a (Obj.mapSeq fun xs => xs.push u)).get? c = some o := fun c o hb e => (Heap.get?_update_other _ _ (Ne.symm hb)).trans e
  have kdd₃ : ∀ c o, (s₁.heap.update b (Obj.mapSeq fun xs => xs.eraseIdxIfInBounds j)).get? c = some o → DD o → ¬ Av C own c → ((s₁.heap.update b (Obj.mapSeq fun xs => xs.eraseIdxIfInBounds j)).update a (Obj.mapSeq fun xs => xs.push u)).get? c = some o := fun c o e dd nb => up₃ c o (fun q => nb (.inr (q ▸ hav))) e
  obtain ⟨st₃, k₃⟩ := st₂.shift (x := x) (a := a) (Ws := Ws ++ [U]) (vs := vs ++ [u]) (n := if (vs.toArray.push u).size == vs.toArray.size then n else n + 1) (tk := s₁.toks) ok sp ho ⟨Ws, by rw [List.lookup_cons, show (x == y) = false by simpa using Ne.symm hxy]; exact hx⟩ (fun c o h1 _ e => up₃ c o h1 e) (fun m hn => hn.at' fun o e => up₃ _ o haL e)
    (by rw [g₃]; simp) ((RepL.mono kdd₃ (fun _ _ h => h) rl₂).append (RepL.one (Rep.mono kdd₃ (fun _ _ h => h) ru₂)))
  exact ps .next .next _ τ _ own st₃ ((SK.of_kp t₁.kp).trans (k₂.trans k₃)) rfl q

theorem s_tuple {elts : List Expr} {k : Nat} {tpos pos : Pos} {value : Expr} (h : WE prog w C ρ value σ X (fun W τ => ∃ ρ', AS prog w C ρ (.Tuple elts k tpos) W ρ' ∧ Q .next ρ' τ))
    (hs : ∀ env, swapsWithSole [.Tuple elts k tpos] value pos.line env = pure false := by intro _; rfl) (hw : swappedStores [.Tuple elts k tpos] value C.env = pure none := by rfl) : W1 prog w C ρ (.Assign [.Tuple elts k tpos] value pos) σ X Q := fun ok sp s own Qc Ec st ps ex =>
  Assign_Tuple (h ok s own _ _ st (fun v W τ s₁ t₁ r₁ ⟨ρ', ha, q⟩ => ha ok sp s₁ own _ _ v τ (st.to t₁) r₁ fun s' st' k => ps .next .next ρ' τ s' own st' ((SK.of_kp t₁.kp).trans k) rfl q) ex) (hs _) hw

theorem repL_rev {h : Heap} {av : Addr → Prop} : ∀ {Vs : List V} {vs : List Value}, RepL h av Vs vs → RepL h av Vs.reverse vs.reverse
  | [], _, r => by rw [RepL] at r; subst r; simp [RepL]
  | _ :: _, _, r => by
    simp only [RepL] at r
    obtain ⟨v, us, rfl, a, b⟩ := r
    simp only [List.reverse_cons]
    exact (repL_rev b).append (RepL.one a)
/-- names stored backwards -/
theorem s_swap {elts : List Expr} {k : Nat} {tpos pos : Pos} {value : Expr} {names : List Str} (hx : ∀ x ∈ names, Sto C x) (h : WE prog w C ρ value σ X (fun W τ => ∃ Ws, W = .tup Ws ∧ Ws.length = names.length ∧ Q .next (bindAll names.reverse Ws.reverse ρ) τ))
    (hs : ∀ env, swapsWithSole [.Tuple elts k tpos] value pos.line env = pure false := by intro _; rfl) (hw : swappedStores [.Tuple elts k tpos] value C.env = pure (some names) := by rfl) : W1 prog w C ρ (.Assign [.Tuple elts k tpos] value pos) σ X Q := fun ok sp s own Qc Ec st ps ex =>
  Assign_Tuple_swapped (h ok s own _ _ st (fun v W τ s₁ t₁ r₁ ⟨Ws, e, hl, q⟩ => by
    subst e; simp only [Rep] at r₁
    obtain ⟨a, vs, n, rfl, na, g, rl⟩ := r₁
    have st₁ := st.to t₁
    have hsz : names.length = vs.toArray.size := by rw [List.size_toArray, rl.length, hl]
    rw [hsz]
    refine unpackItems_tuple ok.hd ⟨_, g, rfl, n, rfl⟩ fun h' ex' => ?_
    have t : To C τ s₁ { s₁ with heap := h', toks := s₁.toks } := st₁.ext ok fun b o e => ex' b o (Nat.ne_of_lt (Heap.lt_size e)) e
    refine inOrder_ (xs := names.reverse) (Ws := Ws.reverse) ok sp (fun x hx' => hx x (by simpa using hx')) (by simp) (fun i x f v Q E s h1 h2 hh => ?_) (by simp [hl]) (st₁.to t) (by simpa using repL_rev (t.kp.repL (fun _ h => .inl h) rl)) fun s' st' k => ps .next .next _ τ s' own st' ((SK.of_kp (t₁.trans t).kp).trans k) rfl q
    rw [List.getElem?_map] at h2
    rw [h1] at h2
    cases h2
    exact wpAny_bindName hh) ex) (hs _) hw

theorem look_load {s : Shared} {x : Str} {v : Value} {Qc : Value → Shared → Prop} {Ec : Value → Shared → Prop} (ok : C.Ok) (l : Look C.env s.heap x v) (h : Qc v s) : wpAny (model prog w) C.A (loadName C.env x) Qc Ec s := by
  rcases l with ⟨a, m, b, c⟩ | ⟨a | ⟨a, a'⟩, c, b, d⟩
  · exact wpAny_loadName_local ok.kind a b c h
  · exact wpAny_loadName_cell ok.kind a b d h
  · exact wpAny_loadName_free ok.kind a b d h a'
theorem s_iadd {x : Str} {p pos : Pos} {value : Expr} {a : Int} (hs : Sto C x) (hx : ρ.lookup x = some (.val (.int a))) (h : WE prog w C ρ value σ X (fun W τ => ∃ b, W = .int b ∧ Q .next ((x, .val (.int (a + b))) :: ρ) τ)) : W1 prog w C ρ (.AugAssign (.Name x p) .Add value pos) σ X Q := fun ok sp s own Qc Ec st ps ex => by
  obtain ⟨v, l, r⟩ := st.loc.look x _ hx
  simp only [BdRep, Rep] at r; obtain ⟨t, rfl⟩ := r
  refine wpAny_AugAssign_Name (look_load ok l (h ok s own _ _ st (fun u W τ s₁ t₁ r₁ ⟨b, e, q⟩ => ?_) ex))
  subst e; simp only [Rep] at r₁; obtain ⟨t', rfl⟩ := r₁
  have st₁ := st.to t₁
  have t₂ : To C τ s₁ { s₁ with toks := s₁.toks + 1 } := st₁.toks ok
  exact PyProof.Rows.iadd_int (store_ ok sp ((st₁.to t₂).del x) hs (b := .val (.int (a + b))) (by simp only [BdRep, Rep]; exact ⟨_, rfl⟩) fun s' st' k => ps .next .next _ τ s' own st' ((SK.of_kp (t₁.trans t₂).kp).trans k) rfl q)
theorem s_isub {x : Str} {p pos : Pos} {value : Expr} {a : Int} (hs : Sto C x) (hx : ρ.lookup x = some (.val (.int a))) (h : WE prog w C ρ value σ X (fun W τ => ∃ b, W = .int b ∧ Q .next ((x, .val (.int (a - b))) :: ρ) τ)) : W1 prog w C ρ (.AugAssign (.Name x p) .Sub value pos) σ X Q := fun ok sp s own Qc Ec st ps ex => by
  obtain ⟨v, l, r⟩ := st.loc.look x _ hx
  simp only [BdRep, Rep] at r; obtain ⟨t, rfl⟩ := r
  refine wpAny_AugAssign_Name (look_load ok l (h ok s own _ _ st (fun u W τ s₁ t₁ r₁ ⟨b, e, q⟩ => ?_) ex))
  subst e; simp only [Rep] at r₁; obtain ⟨t', rfl⟩ := r₁
  have st₁ := st.to t₁
  have t₂ : To C τ s₁ { s₁ with toks := s₁.toks + 1 } := st₁.toks ok
  exact PyProof.Rows.isub_int (store_ ok sp ((st₁.to t₂).del x) hs (b := .val (.int (a - b))) (by simp only [BdRep, Rep]; exact ⟨_, rfl⟩) fun s' st' k => ps .next .next _ τ s' own st' ((SK.of_kp (t₁.trans t₂).kp).trans k) rfl q)

/-- a loop by a measure -/
theorem s_while {test : Expr} {body : List Stmt} {pos : Pos} {S : Type} (bnd : S → Rho) (μ : S → Nat → Nat) (I : S → Nat → Prop) (h0 : ∃ z, Sub (bnd z) ρ ∧ I z σ)
    (h : ∀ z τ, I z τ → WT prog w C (bnd z) test τ X (fun c υ => if c then WS prog w C (bnd z) body υ X (fun o ρ2 φ => match o with | .next => ∃ z', Sub (bnd z') ρ2 ∧ I z' φ ∧ μ z' φ < μ z τ | .cont => ∃ z', Sub (bnd z') ρ2 ∧ I z' φ ∧ μ z' φ < μ z τ | .brk => Q .next ρ2 φ | .ret v => Q (.ret v) ρ2 φ)
      else Q .next (bnd z) υ)) : W1 prog w C ρ (.While test body [] pos) σ X Q := fun ok sp s own Qc Ec st ps ex => by
  obtain ⟨z0, hz0, hI0⟩ := h0
  refine wpAny_While (codeAny_whileLoop (fun k s' => ∃ z υ own', k = μ z υ ∧ I z υ ∧ St C (bnd z) own' υ s' ∧ SK C own s own' s') ?_ (μ z0 σ) ⟨z0, σ, own, rfl, hI0, st.sub hz0, SK.refl _ _ _⟩)
  rintro k s' ⟨z, υ, own', rfl, hI, st', sk⟩
  refine h z υ hI ok s' own' _ _ st' (fun c c' φ s₁ t₁ r₁ q => ?_) ((ex.sk sp st sk).loop ok rfl)
  cases r₁
  cases c with
  | false =>
    simp only [Bool.false_eq_true, if_false] at q ⊢
    exact wpAny_execs_nil (ps .next .next _ φ s₁ own' (st'.to t₁) (sk.trans (SK.of_kp t₁.kp)) rfl q)
  | true =>
    simp only [if_true] at q ⊢
    refine q ok sp s₁ own' _ _ (st'.to t₁) (fun fl oo ρ2 τ2 s4 own4 st4 k4 rr q => ?_) ((ex.sk sp st sk).loop ok rfl)
    have kk := (sk.trans (SK.of_kp t₁.kp)).trans k4
    cases oo with
    | next => cases rr; obtain ⟨z', hz', hI', hm⟩ := q; exact ⟨_, hm, z', τ2, own4, rfl, hI', st4.sub hz', kk⟩
    | cont => cases rr; obtain ⟨z', hz', hI', hm⟩ := q; exact ⟨_, hm, z', τ2, own4, rfl, hI', st4.sub hz', kk⟩
    | brk => cases rr; exact ps .next .next ρ2 τ2 s4 own4 st4 kk rfl q
    | ret W' => obtain ⟨v', rfl, rr⟩ := rr; exact ps (.ret v') (.ret W') ρ2 τ2 s4 own4 st4 kk ⟨v', rfl, rr⟩ q
end
end Mini
end

section
open PySem PySem.W PyProof.Rows
set_option maxRecDepth 100000
namespace Mini

theorem Frames.keep {B h h' : Heap} : ∀ {l : List Env}, Frames B l h → (∀ env ∈ l, ∀ L, env.frame = some L → ∀ o, h.get? L = some o → h'.get? L = some o) → Frames B l h'
  | [], _, _ => trivial
  | env :: r, ⟨⟨hk, L, m, hf, hB, hn⟩, hr⟩, k => ⟨⟨hk, L, m, hf, hB, hn.at' fun o e => k env (by simp) L hf o e⟩, Frames.keep hr fun e he => k e (by simp [he])⟩
section
variable {C : Cx} {ρ : Rho} {σ : Nat} {own : Own} {s : Shared}
/-- fresh objects of the frame's own turn; they are no value's -/
theorem St.alter {F : Addr → Prop} {h' : Heap} {tk : Nat} (ok : C.Ok) (st : St C ρ own σ s) (hF : ∀ a, F a → C.G.heap.get? a = none ∧ a ∉ C.mu ∧ a ≠ C.env.locals ∧ (∀ x, C.env.cells.lookup x ≠ some a) ∧ (∀ x a', own.lookup x = some a' → (∃ Ws, ρ.lookup x = some (.own Ws)) → a' ≠ a) ∧ (∀ o, s.heap.get? a = some o → DD o → a ∈ own.map (·.2)))
    (k : ∀ b o, ¬ F b → s.heap.get? b = some o → h'.get? b = some o) (kn : ∀ env ∈ C.outer, ∀ L, env.frame = some L → ¬ F L) (ko : ∀ p ∈ own, F p.2 → ∃ vs n, h'.get? p.2 = some (lstO vs n)) : St C ρ own σ { s with heap := h', toks := tk } := by
  have kdd : ∀ b o, s.heap.get? b = some o → DD o → ¬ Av C own b → h'.get? b = some o := fun b o e dd nb => k b o (fun q => nb (.inr ((hF b q).2.2.2.2.2 o e dd))) e
  have kns : ∀ b m, ¬ F b → s.heap.Ns b m → h'.Ns b m := fun b m nf hn => hn.at' fun o e => k b o nf e
  have nL : ¬ F C.env.locals := fun q => (hF _ q).2.2.1 rfl
  have nC : ∀ x c, C.env.cells.lookup x = some c → ¬ F c := fun x c hc q => (hF c q).2.2.2.1 x hc
  have kc : ∀ b v, ¬ F b → s.heap.IsCell b v → h'.IsCell b v := fun b v nf ⟨o, g, hd⟩ => ⟨o, k b o nf g, hd⟩
  have nB : ∀ b o, C.B.get? b = some o → ¬ F b := fun b o g q => by have := ok.bg b o g; rw [(hF b q).1] at this; cases this
  obtain ⟨hh, tk', e⟩ := st.gs
  refine ⟨st.ap, ⟨fun b o g => k b o (nB b o g) (st.inv.base b o g), st.inv.frs.keep fun env he L hf o g => k L o (kn env he L hf) g⟩, ok.Iloc σ s.heap h' (fun a ha o g => k a o (fun q => (hF a q).2.1 ha) g) st.i,
    ⟨fun x b hx => ?_, ?_, fun x c hc => ?_, fun p hp => ?_, st.loc.nodup, st.loc.ownG⟩, fun a ha => ?_, ⟨h', tk, by rw [e]⟩, fun b o g hb => (st.gk b o g hb).trans fun o' g' => .inl (k b o' (fun q => by rw [(hF b q).1] at g; cases g) g')⟩
  · obtain ⟨v, l, r⟩ := st.loc.look x b hx
    refine ⟨v, l.mono (fun m hn => kns _ m nL hn) (fun y c w hc hw => kc c w (nC y c hc) hw), ?_⟩
    cases b with
    | val W => exact Rep.mono kdd (fun _ _ h => h) r
    | own Ws =>
      obtain ⟨a, vs, n, ev, ho, g, rl⟩ := r
      exact ⟨a, vs, n, ev, ho, k a _ (fun q => (hF a q).2.2.2.2.1 x a ho ⟨Ws, hx⟩ rfl) g, RepL.mono kdd (fun _ _ h => h) rl⟩
    | dct ks => exact r.elim
  · obtain ⟨m, hn⟩ := st.loc.ns
    exact ⟨m, kns _ m nL hn⟩
  · obtain ⟨v, hv⟩ := st.loc.cells x c hc
    exact ⟨v, kc c v (nC x c hc) hv⟩
  · obtain ⟨a, b, vs, n, g⟩ := st.loc.ownok p hp
    by_cases hf : F p.2
    · exact ⟨a, b, ko p hp hf⟩
    · exact ⟨a, b, vs, n, k _ _ hf g⟩
  · obtain ⟨o, g⟩ := Option.isSome_iff_exists.mp (st.ml a ha)
    show (h'.get? a).isSome
    rw [k a o (fun q => (hF a q).2.1 ha) g]; rfl

theorem lookup_append_some {α : Type} : ∀ {l r : List (Str × α)} {x : Str} {a : α}, l.lookup x = some a → (l ++ r).lookup x = some a
  | (y, b) :: l, r, x, a, h => by
    rw [List.cons_append, List.lookup_cons]
    rw [List.lookup_cons] at h
    cases q : x == y with
    | true => rw [q] at h; exact h
    | false => rw [q] at h; exact lookup_append_some h

/-- a fresh list, owned under no name -/
theorem St.hold {τ : Nat} {s₁ s₂ : Shared} {a : Addr} {vs : List Value} {n : Nat} (st : St C ρ own σ s₁) (t : To C τ s₁ s₂) (h1 : s₁.heap.get? a = none) (h2 : s₂.heap.get? a = some (lstO vs n)) : St C ρ (own ++ [(("" : Str), a)] : Own) τ s₂ := by
  have st₂ := st.to t
  have nmu : a ∉ C.mu := fun q => by have := st.ml a q; rw [h1] at this; cases this
  have nG : C.G.heap.get? a = none := by
    cases q : C.G.heap.get? a with
    | none => rfl
    | some o => have := (st.gk a o q nmu).there; rw [h1] at this; cases this
  have nB : C.B.get? a = none := by
    cases q : C.B.get? a with
    | none => rfl
    | some o => have := st.inv.base a o q; rw [h1] at this; cases this
  have nO : a ∉ own.map (·.2) := fun q => by obtain ⟨vs, n, g⟩ := own_list st q; rw [h1] at g; cases g
  have ka : ∀ b, (s₁.heap.get? b).isSome → ¬ Av C own b → ¬ Av C (own ++ [(("" : Str), a)] : Own) b := fun b e nb q => by
    rcases q with q | q
    · exact nb (.inl q)
    · rw [List.map_append] at q
      rcases List.mem_append.mp q with q | q
      · exact nb (.inr q)
      · have : b = a := by simpa using q
        rw [this, h1] at e; cases e
  have kd : ∀ b o, s₁.heap.get? b = some o → DD o → ¬ Av C own b → s₂.heap.get? b = some o := fun b o e dd nb => (t.kp.keep b o e fun q => nb (.inl q)).exact dd.nodict
  refine ⟨st₂.ap, st₂.inv, st₂.i, ⟨fun y b hy => ?_, st₂.loc.ns, st₂.loc.cells, fun p hp => ?_, ?_, fun p hp => ?_⟩, st₂.ml, st₂.gs, st₂.gk⟩
  · obtain ⟨v, l, r⟩ := st.loc.look y b hy
    refine ⟨v, l.mono (fun m hn => Kept.ns hn fun o e => t.kp.keep _ o e st.ap.Lmu) (fun y c w hc hw => Kept.cell hw fun o e => t.kp.keep _ o e (st.ap.cmu y c hc)), ?_⟩
    cases b with
    | val W => exact Rep.mono kd ka r
    | own Us =>
      obtain ⟨a', vs', n', ev, ho, g', rl⟩ := r
      exact ⟨a', vs', n', ev, lookup_append_some ho, (t.kp.keep _ _ g' (st.loc.ownok _ (mem_of_lookup ho)).1).exact (fun es n e => by cases e), RepL.mono kd ka rl⟩
    | dct ks => exact r.elim
  · rcases List.mem_append.mp hp with hp | hp
    · exact st₂.loc.ownok p hp
    · obtain rfl := List.mem_singleton.mp hp; exact ⟨nmu, nB, vs, n, h2⟩
  · rw [List.map_append]
    refine List.nodup_append.mpr ⟨st.loc.nodup, by simp, fun x hx y hy => ?_⟩
    have : y = a := by simpa using hy
    intro e
    exact nO (this ▸ e ▸ hx)
  · rcases List.mem_append.mp hp with hp | hp
    · exact st₂.loc.ownG p hp
    · obtain rfl := List.mem_singleton.mp hp; exact nG
end

noncomputable def Cx.comp (C : Cx) (scope : Scope) (cl : List (Str × Addr)) (Ca : Addr) : Cx := { C with env := compEnvC scope cl Ca C.env }

section
variable {prog : Program} {w : World}
theorem compLoop_any {A : Around} {R : Result → Shared → Prop} {s : Shared} {elt target iter : Expr} {ifs : List Expr} {scope : Scope} {pos : Pos} {it acc : Value} {env : Env} (I : Nat → Shared → Prop)
    (turn : ∀ n s, I n s → wpAny (model prog w) A (pyNext it) (fun r s₁ => match r with
      | none => R (.ok .next) s₁
      | some v => wpAny (model prog w) A (letOwnedTupleGo target it v) (fun _ s₀ => wpAny (model prog w) A (assign target env v) (fun _ s₂ =>
          wpAny (model prog w) A (forIn ifs true fun c r => if r = true then do let ok ← isTrue c env (eval c env); pure (ForInStep.yield ok) else pure (ForInStep.yield r)) (fun ok s₃ =>
            if ok = true then wpAny (model prog w) A (eval elt env) (fun x s₄ =>
              wpAny (model prog w) A (call (.builtin "list.append") [acc, x]) (fun _ s₅ => ∃ m, m < n ∧ I m s₅) (notedBy (model prog w) A env fun e s' => R (.error e) s') s₄) (notedBy (model prog w) A env fun e s' => R (.error e) s') s₃
            else ∃ m, m < n ∧ I m s₃) (notedBy (model prog w) A env fun e s' => R (.error e) s') s₂) (notedBy (model prog w) A env fun e s' => R (.error e) s') s₀) (notedBy (model prog w) A env fun e s' => R (.error e) s') s₁) (notedBy (model prog w) A env fun e s' => R (.error e) s') s)
    (n : Nat) (h : I n s) :
    codeAny (model prog w) A (.compLoop (.ListComp elt [⟨target, iter, ifs, 0⟩] scope pos) 0 it acc env) R s := by
  refine codeAny_loop rfl I (fun n s hI => ?_) n h
  show wpAny _ A ((compTurn (.ListComp elt [⟨target, iter, ifs, 0⟩] scope pos) 0 it acc env).onRaise (fun x => do noteFrame x env; theTreesLotGoes x)) _ _ s
  refine wpAny_noted ?_
  rw [compTurn_list]
  refine wpAny_bind (wpAny_standAt (wpAny_bind (wpAny_mono (turn n s hI) (fun r s₁ h₁ => ?_) fun _ _ h' => h')))
  cases r with
  | none => exact wpAny_pure h₁
  | some v =>
    refine wpAny_bind (wpAny_mono h₁ (fun _ s₀ h₀ => ?_) fun _ _ h' => h')
    refine wpAny_bind (wpAny_mono h₀ (fun _ s₂ h₂ => wpAny_bind (wpAny_mono h₂ (fun ok s₃ h₃ => ?_) fun _ _ h' => h')) fun _ _ h' => h')
    cases ok with
    | false => exact wpAny_pure ⟨rfl, h₃⟩
    | true =>
      exact wpAny_bind (wpAny_bind (wpAny_mono h₃ (fun x s₄ h₄ => wpAny_bind (wpAny_mono h₄ (fun _ s₅ h₅ => wpAny_pure (wpAny_pure ⟨rfl, h₅⟩)) fun _ _ h' => h')) fun _ _ h' => h'))

/-- names stored in a row, in a dict of their own -/
theorem storesL {A : Around} {E : Value → Shared → Prop} {env : Env} (hk : env.scope.kind = .function) : ∀ {xs : List Str} {fs : List (Value → Sem Unit)} {vs : List Value} {s : Shared} {m : Str → Option Value} {Q : Unit → Shared → Prop}, (∀ x ∈ xs, env.kindOf x = some .local) → xs.Nodup →
    fs.length = xs.length → (∀ (i : Nat) (x : Str) (f : Value → Sem Unit) (v : Value) (Q : Unit → Shared → Prop) (E : Value → Shared → Prop) (s : Shared), xs[i]? = some x → fs[i]? = some f → wpAny (model prog w) A (storeName env x v) Q E s → wpAny (model prog w) A (f v) Q E s) → xs.length = vs.length → s.heap.Ns env.locals m →
    (∀ h' tk m', h'.Ns env.locals m' → (∀ x v, (x, v) ∈ xs.zip vs → m' x = some v) → (∀ x, x ∉ xs → m' x = m x) → (∀ b o, b ≠ env.locals → s.heap.get? b = some o → h'.get? b = some o) → Q () { s with heap := h', toks := tk }) → wpAny (model prog w) A (assignInOrder fs vs) Q E s
  | [], [], [] => fun _ _ _ _ _ hn h => assignInOrder_nil (h _ _ _ hn (fun x v hm => by simp at hm) (fun _ _ => rfl) fun _ _ _ e => e)
  | x :: xs, f :: fs, v :: vs => fun hx nd hl hf hw hn h => by
    rename_i s m Q
    obtain ⟨n1, n2⟩ := List.nodup_cons.mp nd
    refine assignInOrder_cons (hf 0 x f v _ _ _ rfl rfl (wpAny_storeName_local (hx x (by simp)) hn (fun h₁ hn₁ hs₁ => ?_) (by rw [hk]; rfl)))
    refine storesL hk (m := fun y => if y = x then some v else m y) (fun y hy => hx y (by simp [hy])) n2 (by simpa using hl) (fun i y g u Q E s h1 h2 => hf (i + 1) y g u Q E s (by simpa using h1) (by simpa using h2)) (by simpa using hw) hn₁ fun h' tk m' hn' hz ho hk' => ?_
    refine h h' tk m' hn' (fun y u hm => ?_) (fun y hy => ?_) fun b o hb e => hk' b o hb (hs₁.extBut b o hb e)
    · rw [List.zip_cons_cons] at hm
      rcases List.mem_cons.mp hm with e | hm
      · cases e
        rw [ho x n1]; simp
      · exact hz y u hm
    · simp only [List.mem_cons, not_or] at hy
      rw [ho y hy.2]
      exact if_neg hy.1
  | [], _ :: _, _ => fun _ _ hl => by simp at hl
  | _ :: _, [], _ => fun _ _ hl => by simp at hl
  | [], [], _ :: _ => fun _ _ _ _ hw => by simp at hw
  | _ :: _, _ :: _, [] => fun _ _ _ _ hw => by simp at hw

/-- a target of names -/
inductive Tg : Expr → List Str → Bool → Prop
  | name (x : Str) (p : Pos) : Tg (.Name x p) [x] false
  | tup (elts : List Expr) (k : Nat) (pos : Pos) (xs : List Str) (he : ∀ env, (assignEach elts env).length = xs.length ∧ (assignEach elts env).findIdx? (·.1) = none)
      (hf : ∀ (env : Env) (i : Nat) (x : Str) (f : Value → Sem Unit), xs[i]? = some x → ((assignEach elts env).map (·.2))[i]? = some f → ∃ p, f = assign (.Name x p) env) : Tg (.Tuple elts k pos) xs true
noncomputable def tgV (t : Bool) (W : V) : Option (List V) := if t then (match W with | .tup Us => some Us | _ => none) else some [W]

noncomputable def ClOk (env : Env) : List (Str × Addr) → Prop
  | [] => True
  | (x, c) :: r => env.cells.lookup x = some c ∧ ClOk env r
theorem ClOk.look {env : Env} : ∀ {cl : List (Str × Addr)}, ClOk env cl → ∀ {x c}, cl.lookup x = some c → env.cells.lookup x = some c
  | (y, d) :: r, ⟨h1, h2⟩, x, c, h => by
    rw [List.lookup_cons] at h
    cases q : x == y with
    | true => rw [q] at h; cases h; rw [beq_iff_eq.mp q]; exact h1
    | false => rw [q] at h; exact ClOk.look h2 h
/-- the names that the comprehension closes over -/
noncomputable def RfOk (C : Cx) (scope : Scope) (cl : List (Str × Addr)) (ρ : Rho) : Rho → Prop
  | [] => True
  | (x, b) :: r => ((∃ W, b = .val W) ∧ ρ.lookup x = some b ∧ C.env.kindOf x = some .cell ∧ (∀ Ca, (compEnvC scope cl Ca C.env).kindOf x = some .cell) ∧ (cl.lookup x).isSome = true) ∧ RfOk C scope cl ρ r
theorem RfOk.look {C : Cx} {scope : Scope} {cl : List (Str × Addr)} {ρ : Rho} : ∀ {ρf : Rho}, RfOk C scope cl ρ ρf → ∀ {x b}, ρf.lookup x = some b → (∃ W, b = .val W) ∧ ρ.lookup x = some b ∧ C.env.kindOf x = some .cell ∧ (∀ Ca, (compEnvC scope cl Ca C.env).kindOf x = some .cell) ∧ (cl.lookup x).isSome = true
  | (y, d) :: r, ⟨h1, h2⟩, x, b, h => by
    rw [List.lookup_cons] at h
    cases q : x == y with
    | true => rw [q] at h; cases h; rw [beq_iff_eq.mp q]; exact h1
    | false => rw [q] at h; exact RfOk.look h2 h

noncomputable def WIf (prog : Program) (w : World) (C : Cx) (ρ : Rho) (ifs : List Expr) (σ : Nat) (X : Int → Prop) (Q : Bool → Nat → Prop) : Prop := match ifs with
  | [] => Q true σ
  | [c] => WT prog w C ρ c σ X Q
  | _ => False

/-- what holds between two turns of a list's comprehension -/
inductive CompI (C : Cx) (ρ : Rho) (own : Own) (D Ca : Addr) (Ws : List V) (I : List V → Nat → Nat → Prop) (T : Nat → Heap → Prop) (s₁ : Shared) (k : Nat) (s' : Shared) : Prop
  | mk (i : Nat) (acc : List V) (τ : Nat) (vs : List Value) (n : Nat) (m : Str → Option Value) (h1 : i ≤ Ws.length) (h2 : k = Ws.length + 1 - i) (h3 : I acc i τ) (h4 : St C ρ (own ++ [(("" : Str), D)] : Own) τ s') (h5 : T i s'.heap)
    (h6 : s'.heap.Ns Ca m) (h7 : s'.heap.get? D = some (lstO vs n)) (h8 : RepL s'.heap (Av C (own ++ [(("" : Str), D)] : Own)) acc vs) (h9 : acc.length ≤ i) (h10 : Kp C.mu s₁ s') : CompI C ρ own D Ca Ws I T s₁ k s'

section
variable {C : Cx} {ρ : Rho} {σ : Nat}

/-- the turns of a list's comprehension -/
theorem comp_loop {elt target iter : Expr} {ifs : List Expr} {scope : Scope} {pos : Pos} {xs : List Str} {t : Bool} {cl : List (Str × Addr)} {ρf : Rho} {Ws : List V} {W0 : V} {v0 : Value} {s₁ : Shared} {own : Own} {E : Value → Shared → Prop} {RR : Value → Addr → Result → Shared → Prop}
    (I : List V → Nat → Nat → Prop) (ok : C.Ok) (st : St C ρ own σ s₁) (r0 : Rep s₁.heap (Av C own) W0 v0) (hW : elems W0 = some Ws) (hz : Ws.length ≤ 100000)
    (hcell : ∀ y ∈ scope.names, y.2 ≠ .cell) (hkind : scope.kind = .function) (hcl : ClOk C.env cl) (hf : RfOk C scope cl ρ ρf) (hxs : ∀ x ∈ xs, scope.names.lookup x = some .local) (hnd : xs.Nodup) (ht : Tg target xs t) (h0 : I [] 0 σ)
    (hstep : ∀ i W acc τ, Ws[i]? = some W → I acc i τ → ∃ Us, tgV t W = some Us ∧ Us.length = xs.length ∧ ∀ Ca, WIf prog w (C.comp scope cl Ca) (xs.zip (Us.map .val) ++ ρf) ifs τ (fun _ => False) (fun c υ => if c = true then WE prog w (C.comp scope cl Ca) (xs.zip (Us.map .val) ++ ρf) elt υ (fun _ => False) (fun U φ => I (acc ++ [U]) (i + 1) φ) else I acc (i + 1) υ))
    (hRR : ∀ D Ca s₂ acc vs n τ, To C τ s₁ s₂ → s₁.heap.get? D = none → s₁.heap.get? Ca = none → D ≠ Ca → s₂.heap.get? D = some (lstO vs n) → RepL s₂.heap (fun b => Av C own b ∨ b = D) acc vs → (∃ m, s₂.heap.Ns Ca m) → I acc Ws.length τ → RR (.ref D) Ca (.ok .next) s₂) :
    wpAny (model prog w) C.A (pyIter v0) (fun it s₂ => wpAny (model prog w) C.A (newList []) (fun acc s₃ => wpAny (model prog w) C.A (newFunctionEnv scope C.env.globals cl [] C.env.qual none .none (some C.env)) (fun cenv s₄ =>
      codeAny (model prog w) C.A (.compStart (.ListComp elt [⟨target, iter, ifs, 0⟩] scope pos) 0 it acc { cenv with scope := relabel scope C.env }) (RR acc cenv.locals) s₄) E s₃) E s₂) E s₁ := by
  refine iter_ ok st r0 hW fun It fp T s₂ t₂ hIt hfp WK hT0 => ?_
  refine wpAny_newObj_type (wpAny_newFunctionEnv hcell (by intro y hy; simp at hy) (fun h₁ hns₁ hsb₁ => ?_) hkind)
  dsimp only at hns₁ hsb₁ ⊢
  generalize hH2 : s₂.heap.push { cls := .type "list", dict := none, data := .seq ([] : List Value).toArray } = H2 at hns₁ hsb₁ ⊢
  generalize hD : s₂.heap.objs.size = D at *
  have hCaD : H2.objs.size = D + 1 := by rw [← hH2, Heap.size_push, hD]
  generalize hCa : H2.objs.size = Ca at *
  have st₂ := st.to t₂
  have nD : s₂.heap.get? D = none := by rw [← hD]; exact none_of_size
  have nCa : s₂.heap.get? Ca = none := by
    cases q : s₂.heap.get? Ca with
    | none => rfl
    | some o => have hq := Heap.lt_size q; rw [hD, hCaD] at hq; exact absurd hq (Nat.not_lt.mpr (Nat.le_succ D))
  have kH : ∀ b o, s₂.heap.get? b = some o → H2.get? b = some o := fun b o e => by rw [← hH2]; exact Heap.get?_push_of_some _ e
  have k₁ : ∀ b o, s₂.heap.get? b = some o → h₁.get? b = some o := fun b o e => hsb₁.extBut b o (fun q => by rw [q, nCa] at e; cases e) (Heap.get?_push_of_some _ (kH b o e))
  have hDCa : D ≠ Ca := by lia
  have gD : h₁.get? D = some (lstO [] 0) := hsb₁.extBut _ _ hDCa (Heap.get?_push_of_some _ (by rw [← hH2, ← hD]; exact Heap.get?_push_size _ rfl))
  have t₄ : To C σ s₂ { s₂ with heap := h₁, toks := s₂.toks + ([] : List (Str × Value)).length } := st₂.ext ok k₁
  have st₄ := st₂.hold t₄ nD gD
  have nD₁ := t₂.kp.fresh nD
  have nCa₁ := t₂.kp.fresh nCa
  have gfresh : ∀ a, s₁.heap.get? a = none → C.G.heap.get? a = none ∧ a ∉ C.mu ∧ a ≠ C.env.locals ∧ (∀ x, C.env.cells.lookup x ≠ some a) := fun a h => by
    have hm : a ∉ C.mu := fun q => by have := st.ml a q; rw [h] at this; cases this
    refine ⟨?_, hm, fun q => ?_, fun x q => ?_⟩
    · cases q : C.G.heap.get? a with
      | none => rfl
      | some o => have := (st.gk a o q hm).there; rw [h] at this; cases this
    · obtain ⟨m, o, es, n, g, _⟩ := st.loc.ns
      rw [← q, h] at g; cases g
    · obtain ⟨v, o, g, _⟩ := st.loc.cells x a q
      rw [h] at g; cases g
  have fI := gfresh It hIt
  have fD := gfresh D nD₁
  have fCa := gfresh Ca nCa₁
  have hav : ∀ b, Av C (own ++ [(("" : Str), D)] : Own) b ↔ (Av C own b ∨ b = D) := fun b => by
    unfold Av
    rw [List.map_append, List.mem_append]
    simp [or_assoc]
  have kturn : ∀ {s' : Shared} {z : Addr} {h' : Heap} {tk : Nat}, Kp C.mu s₁ s' → s₁.heap.get? z = none → (∀ b o, b ≠ z → s'.heap.get? b = some o → h'.get? b = some o) → Kp C.mu s₁ { s' with heap := h', toks := tk } := fun {s' z h' tk} kp hz k => by
    obtain ⟨hh, tt, e⟩ := kp.same
    refine ⟨⟨h', tk, by rw [e]⟩, fun b o g hb => (kp.keep b o g hb).trans fun o' g' => .inl (k b o' (fun q => by rw [q, hz] at g; cases g) g'), fun b e => ?_⟩
    obtain ⟨o, g⟩ := Option.isSome_iff_exists.mp (kp.live b e)
    show (h'.get? b).isSome
    rw [k b o (fun q => by rw [q, hz] at e; cases e) g]; rfl
  have hDown : D ∉ own.map (·.2) := fun q => by obtain ⟨vs, n, g⟩ := own_list st₂ q; rw [nD] at g; cases g
  have altD : ∀ {s' : Shared} {τ : Nat} {h' : Heap} {tk : Nat} {vs : List Value} {n : Nat}, St C ρ (own ++ [(("" : Str), D)] : Own) τ s' → (∃ vs n, s'.heap.get? D = some (lstO vs n)) → (∀ b o, b ≠ D → s'.heap.get? b = some o → h'.get? b = some o) → h'.get? D = some (lstO vs n) → St C ρ (own ++ [(("" : Str), D)] : Own) τ { s' with heap := h', toks := tk } := fun {s' τ h' tk vs n} st' ⟨vs', n', g'⟩ k g => by
    refine st'.alter (F := (· = D)) ok (fun a e => ?_) (fun b o hb g => k b o hb g) (fun env he L hf e => ?_) (fun p hp e => ⟨vs, n, by rw [show p.2 = D from e]; exact g⟩)
    · subst e
      refine ⟨fD.1, fD.2.1, fD.2.2.1, fD.2.2.2, fun x a' h1 ⟨Us, h2⟩ q => ?_, fun o _ _ => by simp⟩
      obtain ⟨v, l, a0, vs0, n0, ev, ho, _⟩ := st₂.loc.look x _ h2
      rw [lookup_append_some ho] at h1; cases h1
      exact hDown (q ▸ List.mem_map_of_mem (f := (·.2)) (mem_of_lookup ho))
    · obtain ⟨_, m, o, es, ep, g2, hd, _⟩ := st'.inv.frs.at he hf
      rw [show L = D from e, g'] at g2; cases g2; cases hd
  have altC : ∀ {s' : Shared} {τ : Nat} {h' : Heap} {tk : Nat} {m m' : Str → Option Value}, St C ρ (own ++ [(("" : Str), D)] : Own) τ s' → s'.heap.Ns Ca m → (∀ b o, b ≠ Ca → s'.heap.get? b = some o → h'.get? b = some o) → h'.Ns Ca m' → St C ρ (own ++ [(("" : Str), D)] : Own) τ { s' with heap := h', toks := tk } := fun {s' τ h' tk m m'} st' hn k hn' => by
    obtain ⟨oC, eC, pC, gC, dC, _⟩ := id hn
    have nown : ∀ p ∈ (own ++ [(("" : Str), D)] : Own), p.2 ≠ Ca := fun p hp e => by
      obtain ⟨_, _, vs, n, g⟩ := st'.loc.ownok p hp
      rw [e, gC] at g; cases g; cases dC
    refine st'.alter (F := (· = Ca)) ok (fun a e => ?_) (fun b o hb g => k b o hb g) (fun env he L hf e => by obtain ⟨_, m, o, es, ep, g2, hd, _⟩ := st.inv.frs.at he hf; rw [show L = Ca from e, nCa₁] at g2; cases g2) (fun p hp e => (nown p hp e).elim)
    subst e
    refine ⟨fCa.1, fCa.2.1, fCa.2.2.1, fCa.2.2.2, fun x a' h1 _ q => nown _ (mem_of_lookup h1) q, fun o g dd => ?_⟩
    rw [gC] at g; cases g
    exact (dd.nodict _ _ dC).elim
  -- the loop
  have loop : codeAny (model prog w) C.A (.compLoop (.ListComp elt [⟨target, iter, ifs, 0⟩] scope pos) 0 (.ref It) (.ref D) (compEnvC scope cl Ca C.env)) (RR (.ref D) Ca) { s₂ with heap := h₁, toks := s₂.toks + ([] : List (Str × Value)).length } := by
    have hT₁ : T 0 h₁ := WK.base.frame 0 _ _ hT0 fun b hb o e => k₁ b o e
    refine compLoop_any (CompI C ρ own D Ca Ws I T s₁) ?_ (Ws.length + 1)
      ⟨0, [], σ, [], 0, _, Nat.zero_le _, rfl, h0, st₄, hT₁, hns₁, gD, by simp only [RepL], Nat.le_refl _, t₂.kp.trans t₄.kp⟩
    rintro k s' ⟨i, acc, τ, vs, n, m, hi, rfl, hI, st', hT, hn, gD', hacc, hal, kp⟩
    have hDI : D ≠ It := fun q => by
      obtain ⟨o, g, nd, _⟩ := WK.it _ _ hT
      rw [← q, gD'] at g; cases g; exact nd (.inl ⟨_, _, rfl⟩)
    have hCI : Ca ≠ It := fun q => by
      obtain ⟨o, g, nd, n1, _⟩ := WK.it _ _ hT
      obtain ⟨o', es, ep, g', hd, _⟩ := hn
      rw [q, g] at g'; cases g'; exact n1 _ _ hd
    by_cases hlt : i < Ws.length
    · refine WK.base.item i s' _ _ hlt hT fun v h₂ tk ⟨W, hWi, rW⟩ hT2 hk2 => ?_
      have hk2' : ∀ b o, b ≠ It → s'.heap.get? b = some o → h₂.get? b = some o := fun b o hb g => hk2 b o (by simpa using hb) g
      have sta := st'.turn (tk := tk) ok (WK.it i _ hT) fI.1 fI.2.1 hk2'
      have kpa := kturn (tk := tk) kp hIt hk2'
      have hna : h₂.Ns Ca m := hn.at' fun o e => hk2' _ o hCI e
      have gDa := hk2' D _ hDI gD'
      have hacca : RepL h₂ (Av C (own ++ [(("" : Str), D)] : Own)) acc vs := RepL.mono (fun b o g dd nb => hk2' b o (fun q => by
        obtain ⟨o', g', nd, _⟩ := WK.it _ _ hT
        rw [q, g'] at g; cases g; exact nd dd) g) (fun _ _ h => h) hacc
      dsimp only
      refine WK.go (i + 1) target v _ _ _ hT2 ?_
      obtain ⟨Us, hUs, hlen, hstep⟩ := hstep i W acc τ hWi hI
      have rWa : Rep h₂ (Av C (own ++ [(("" : Str), D)] : Own)) W v := Rep.mono (fun b o g dd nb => (kpa.keep b o g fun q => nb (.inl q)).exact dd.nodict) (fun b e nb q => by
        rcases (hav b).mp q with q | q
        · exact nb q
        · rw [q, nD₁] at e; cases e) rW
      -- after the names are stored
      have after : ∀ (us : List Value) h₃ tk₃ m₃, RepL h₂ (Av C (own ++ [(("" : Str), D)] : Own)) Us us → h₃.Ns Ca m₃ → (∀ x v, (x, v) ∈ xs.zip us → m₃ x = some v) → (∀ b o, b ≠ Ca → h₂.get? b = some o → h₃.get? b = some o) →
          wpAny (model prog w) C.A (forIn ifs true fun c r => if r = true then do let ok ← isTrue c (compEnvC scope cl Ca C.env) (eval c (compEnvC scope cl Ca C.env)); pure (ForInStep.yield ok) else pure (ForInStep.yield r)) (fun ok s₃ =>
            if ok = true then wpAny (model prog w) C.A (eval elt (compEnvC scope cl Ca C.env)) (fun x s₄ =>
              wpAny (model prog w) C.A (call (.builtin "list.append") [.ref D, x]) (fun _ s₅ => ∃ mm, mm < Ws.length + 1 - i ∧ CompI C ρ own D Ca Ws I T s₁ mm s₅) (notedBy (model prog w) C.A (compEnvC scope cl Ca C.env) fun e s' => RR (.ref D) Ca (.error e) s') s₄) (notedBy (model prog w) C.A (compEnvC scope cl Ca C.env) fun e s' => RR (.ref D) Ca (.error e) s') s₃
            else ∃ mm, mm < Ws.length + 1 - i ∧ CompI C ρ own D Ca Ws I T s₁ mm s₃) (notedBy (model prog w) C.A (compEnvC scope cl Ca C.env) fun e s' => RR (.ref D) Ca (.error e) s') { s' with heap := h₃, toks := tk₃ } := fun us h₃ tk₃ m₃ hus hn₃ hz₃ hk3 => by
        have stb : St C ρ (own ++ [(("" : Str), D)] : Own) τ { s' with heap := h₃, toks := tk₃ } := altC (s' := { s' with heap := h₂, toks := tk }) sta hna hk3 hn₃
        have kpb : Kp C.mu s₁ { s' with heap := h₃, toks := tk₃ } := kturn (s' := { s' with heap := h₂, toks := tk }) kpa nCa₁ hk3
        have ndC : ∀ b o, h₂.get? b = some o → DD o → b ≠ Ca := fun b o g dd q => by
          obtain ⟨o', es, ep, g', hd, _⟩ := hna
          rw [q, g'] at g; cases g; exact dd.nodict _ _ hd
        have gDb : h₃.get? D = some (lstO vs n) := hk3 D _ hDCa gDa
        have haccb : RepL h₃ (Av C (own ++ [(("" : Str), D)] : Own)) acc vs := RepL.mono (fun b o g dd _ => hk3 b o (ndC b o g dd) g) (fun _ _ h => h) hacca
        have husb : RepL h₃ (Av C (own ++ [(("" : Str), D)] : Own)) Us us := RepL.mono (fun b o g dd _ => hk3 b o (ndC b o g dd) g) (fun _ _ h => h) hus
        have hTb : T (i + 1) h₃ := WK.base.frame _ _ _ hT2 fun b hb o g => hk3 b o (fun q => by
          obtain ⟨o', g', n1, _⟩ := WK.obj _ _ hT2 b hb
          obtain ⟨o2, es, ep, g2, hd, _⟩ := hna
          rw [q, g2] at g'; cases g'; exact n1 _ _ hd) g
        have okc : (C.comp scope cl Ca).Ok := ⟨ok.fr, ok.hd, ok.room, ok.units, hkind, ok.g, ok.b, ok.lim, ok.glob, ok.blt, ok.mutB, ok.kin, ok.bg, ok.fra, ok.fmu, ok.Iloc⟩
        have stc : St (C.comp scope cl Ca) (xs.zip (Us.map .val) ++ ρf) (own ++ [(("" : Str), D)] : Own) τ { s' with heap := h₃, toks := tk₃ } := by
          refine ⟨⟨fCa.2.1, fun x c hc => st.ap.cmu x c (hcl.look hc), st.ap.fmu⟩, ⟨stb.inv.base, stb.inv.frs⟩, stb.i, ⟨fun x b hx => ?_, ⟨m₃, hn₃⟩, fun x c hc => stb.loc.cells x c (hcl.look hc), stb.loc.ownok, stb.loc.nodup, stb.loc.ownG⟩, stb.ml, stb.gs, stb.gk⟩
          cases q : (xs.zip (Us.map Bd.val)).lookup x with
          | some b' =>
            rw [lookup_append_some q] at hx; cases hx
            obtain ⟨u, U, e, hm, ru, hxm⟩ := zip_look husb q
            subst e
            exact ⟨u, .inl ⟨lookup_relabel_local (hxs x hxm), m₃, hn₃, hz₃ x u hm⟩, ru⟩
          | none =>
            have hx' : ρf.lookup x = some b := by
              rw [List.lookup_append, q] at hx; simpa using hx
            obtain ⟨⟨U, e⟩, h1, h2, h3, h4⟩ := hf.look hx'
            subst e
            obtain ⟨u, l, ru⟩ := stb.loc.look x _ h1
            obtain ⟨c, hc⟩ := Option.isSome_iff_exists.mp h4
            refine ⟨u, .inr ⟨.inl (h3 Ca), c, hc, ?_⟩, ru⟩
            rcases l with ⟨a, _⟩ | ⟨_, c', hc', hcell⟩
            · rw [h2] at a; cases a
            · rw [hcl.look hc] at hc'; cases hc'; exact hcell
        have toC : ∀ {υ : Nat} {sa sb : Shared}, To (C.comp scope cl Ca) υ sa sb → To C υ sa sb := fun t => ⟨t.kp, ⟨t.inv.base, t.inv.frs⟩, t.i⟩
        have fpm : ∀ b ∈ fp, b ∉ C.mu := fun b hb q => by
          rcases hfp b hb with rfl | h
          · exact fI.2.1 q
          · exact h.1 (.inl q)
        have hTto : ∀ {υ : Nat} {sa sb : Shared}, To C υ sa sb → T (i + 1) sa.heap → T (i + 1) sb.heap := fun {υ sa sb} t hT => WK.base.frame _ _ _ hT fun b hb o g => by
          obtain ⟨o', g', n1, _⟩ := WK.obj _ _ hT b hb
          rw [g] at g'; cases g'
          exact (t.kp.keep b o g (fpm b hb)).exact n1
        have test : wpAny (model prog w) C.A (forIn ifs true fun c r => if r = true then do let ok ← isTrue c (compEnvC scope cl Ca C.env) (eval c (compEnvC scope cl Ca C.env)); pure (ForInStep.yield ok) else pure (ForInStep.yield r)) (fun ok s₃ => ∃ υ, To C υ { s' with heap := h₃, toks := tk₃ } s₃ ∧ (if ok = true then WE prog w (C.comp scope cl Ca) (xs.zip (Us.map .val) ++ ρf) elt υ (fun _ => False) (fun U φ => I (acc ++ [U]) (i + 1) φ) else I acc (i + 1) υ)) (notedBy (model prog w) C.A (compEnvC scope cl Ca C.env) fun e s' => RR (.ref D) Ca (.error e) s') { s' with heap := h₃, toks := tk₃ } := by
          have hs := hstep Ca
          unfold WIf at hs
          split at hs
          · exact wpAny_tests_nil ⟨τ, stb.self, hs⟩
          · refine wpAny_tests_one (hs okc _ (own ++ [(("" : Str), D)] : Own) _ _ stc (fun b b' υ s4 t4 e q => ?_) fun n e b s' hx => hx.elim)
            cases e
            exact ⟨υ, toC t4, q⟩
          · exact hs.elim
        refine wpAny_mono test (fun okv s4 h4 => ?_) fun _ _ e => e
        obtain ⟨υ, t4, hq⟩ := h4
        have st4 := stb.to t4
        have hT4 := hTto t4 hTb
        have hn4 : s4.heap.Ns Ca m₃ := Kept.ns hn₃ fun o e => t4.kp.keep _ o e fCa.2.1
        have gD4 : s4.heap.get? D = some (lstO vs n) := (t4.kp.keep _ _ gDb fD.2.1).exact (fun es n e => by cases e)
        have hacc4 := t4.kp.repL (fun _ h => .inl h) haccb
        have kp4 := kpb.trans t4.kp
        cases okv with
        | false =>
          simp only [Bool.false_eq_true, if_false] at hq ⊢
          exact ⟨Ws.length + 1 - (i + 1), by lia, i + 1, acc, υ, vs, n, m₃, hlt, rfl, hq, st4, hT4, hn4, gD4, hacc4, by lia, kp4⟩
        | true =>
          simp only [if_true] at hq ⊢
          have stc4 : St (C.comp scope cl Ca) (xs.zip (Us.map .val) ++ ρf) (own ++ [(("" : Str), D)] : Own) υ s4 := stc.to ⟨t4.kp, ⟨t4.inv.base, t4.inv.frs⟩, t4.i⟩
          refine hq okc s4 (own ++ [(("" : Str), D)] : Own) _ _ stc4 (fun u U φ s5 t5 ru q => ?_) fun n e b s' hx => hx.elim
          have t5' := toC t5
          have st5 := st4.to t5'
          have gD5 : s5.heap.get? D = some (lstO vs n) := (t5'.kp.keep _ _ gD4 fD.2.1).exact (fun es n e => by cases e)
          have hacc5 := t5'.kp.repL (fun _ h => .inl h) hacc4
          have hvl : vs.length = acc.length := hacc5.length
          refine wpAny_list_append_plain (hsz := by rw [List.size_toArray, hvl, sizeLine_eq]; lia) ⟨n, gD5⟩ fun h₆ ⟨n6, g6⟩ hs6 => ?_
          have k6 : ∀ b o, b ≠ D → s5.heap.get? b = some o → h₆.get? b = some o := fun b o hb e => hs6.extBut b o hb e
          have g6' : h₆.get? D = some (lstO (vs ++ [u]) n6) := by rw [g6]; simp
          have kdd6 : ∀ b o, s5.heap.get? b = some o → DD o → ¬ Av C (own ++ [(("" : Str), D)] : Own) b → h₆.get? b = some o := fun b o e dd nb => k6 b o (fun q => nb ((hav b).mpr (.inr q))) e
          have hT5 := hTto t5' hT4
          have hT6 : T (i + 1) h₆ := WK.base.frame _ _ _ hT5 fun b hb o g => k6 b o (fun q => by
            rcases hfp b hb with e | h
            · exact hDI (q.symm.trans e)
            · have := h.2; rw [q, nD₁] at this; cases this) g
          have hn5 : s5.heap.Ns Ca m₃ := Kept.ns hn4 fun o e => t5'.kp.keep _ o e fCa.2.1
          exact ⟨Ws.length + 1 - (i + 1), by lia, i + 1, acc ++ [U], φ, vs ++ [u], n6, m₃, hlt, rfl, q, altD st5 ⟨_, _, gD5⟩ k6 g6', hT6, hn5.at' fun o e => k6 _ o (Ne.symm hDCa) e, g6', (RepL.mono kdd6 (fun _ _ h => h) hacc5).append (RepL.one (Rep.mono kdd6 (fun _ _ h => h) ru)), by rw [List.length_append, List.length_singleton]; lia, kturn (kp4.trans t5'.kp) nD₁ k6⟩
      -- the names
      cases ht with
      | name x p =>
        cases hUs
        refine wpAny_assign_Name (wpAny_storeName_local (lookup_relabel_local (hxs x (by simp))) hna (fun h₃ hn₃ hs₃ => ?_) (by simp [compEnvC, relabel, hkind]))
        exact after [v] h₃ _ _ (RepL.one rWa) hn₃ (fun y u hm => by simp at hm; rw [hm.1, hm.2]; simp) fun b o hb e => hs₃.extBut b o hb e
      | tup elts kk tpos xs he hf' =>
        cases W with
        | tup Us' =>
          cases hUs
          simp only [Rep] at rWa
          obtain ⟨a, us, nn, rfl, na, g, rl⟩ := rWa
          refine wpAny_assign_Tuple ok.hd ⟨_, g, rfl, nn, rfl⟩ (by rw [(he _).1, List.size_toArray, rl.length, hlen]) (he _).2 fun h3 ex3 => ?_
          have k3 : ∀ b o, h₂.get? b = some o → h3.get? b = some o := fun b o e => ex3 b o (Nat.ne_of_lt (Heap.lt_size e)) e
          refine storesL (env := compEnvC scope cl Ca C.env) (m := m) (by simp [compEnvC, relabel, hkind]) (fun x hx => lookup_relabel_local (hxs x hx)) hnd (by rw [List.length_map, (he _).1]) (fun i x f v Q E s h1 h2 hh => ?_) (by rw [← hlen, rl.length]) (hna.keeps k3) fun h₄ tk₄ m₄ hn₄ hz₄ _ hk4 => ?_
          · obtain ⟨p, rfl⟩ := hf' _ i x f h1 h2
            exact wpAny_assign_Name hh
          · exact after us h₄ tk₄ m₄ rl hn₄ hz₄ fun b o hb e => hk4 b o hb (k3 b o e)
        | _ => cases hUs
    · have hie : i = Ws.length := by lia
      subst hie
      refine WK.base.done s' _ _ hT fun h₂ tk hk2 => ?_
      have hk2' : ∀ b o, b ≠ It → s'.heap.get? b = some o → h₂.get? b = some o := fun b o hb g => hk2 b o (by simpa using hb) g
      have sta := st'.turn (tk := tk) ok (WK.it _ _ hT) fI.1 fI.2.1 hk2'
      have kpa := kturn (tk := tk) kp hIt hk2'
      refine hRR D Ca { s' with heap := h₂, toks := tk } acc vs n τ ⟨kpa, sta.inv, sta.i⟩ nD₁ nCa₁ hDCa (hk2' D _ hDI gD') (RepL.mono (fun b o g dd nb => hk2' b o (fun q => by
        obtain ⟨o', g', nd, _⟩ := WK.it _ _ hT
        rw [q, g'] at g; cases g; exact nd dd) g) (fun b _ nb q => nb ((hav b).mpr q)) hacc) ⟨m, hn.at' fun o e => hk2' _ o hCI e⟩ hI
  exact codeAny_compStart_list loop (WK.base.self 0 _ _ _ (WK.base.frame 0 _ _ hT0 fun b hb o e => k₁ b o e) loop)
end
end
end Mini
end

section
open PySem PySem.W PyProof.Rows
set_option maxRecDepth 100000
namespace Mini
section
variable {prog : Program} {w : World} {C : Cx} {ρ : Rho} {σ : Nat} {X : Int → Prop}

noncomputable def ScOk (scope : Scope) (xs : List Str) : Prop := (∀ y ∈ scope.names, y.2 ≠ .cell) ∧ scope.kind = .function ∧ (∀ y ∈ scope.names, y.2 = .local → scope.names.lookup y.1 = some .local) ∧ (∀ x ∈ xs, scope.names.lookup x = some .local) ∧ xs.Nodup

/-- one turn of a comprehension -/
noncomputable def Turn (prog : Program) (w : World) (C : Cx) (scope : Scope) (cl : List (Str × Addr)) (ρf : Rho) (xs : List Str) (t : Bool) (ifs : List Expr) (elt : Expr) (I : List V → Nat → Nat → Prop) (i : Nat) (W : V) (acc : List V) (τ : Nat) : Prop :=
  ∃ Us, tgV t W = some Us ∧ Us.length = xs.length ∧ ∀ Ca, WIf prog w (C.comp scope cl Ca) (xs.zip (Us.map .val) ++ ρf) ifs τ (fun _ => False) (fun c υ => if c = true then WE prog w (C.comp scope cl Ca) (xs.zip (Us.map .val) ++ ρf) elt υ (fun _ => False) (fun U φ => I (acc ++ [U]) (i + 1) φ) else I acc (i + 1) υ)

theorem alt_comp {own : Own} {s : Shared} {Ca : Addr} {m : Str → Option Value} {h' : Heap} {tk : Nat} (ok : C.Ok) (st : St C ρ own σ s) (hG : C.G.heap.get? Ca = none) (hm : Ca ∉ C.mu) (hL : Ca ≠ C.env.locals) (hc : ∀ x, C.env.cells.lookup x ≠ some Ca) (hn : s.heap.Ns Ca m)
    (k : ∀ b o, b ≠ Ca → s.heap.get? b = some o → h'.get? b = some o) (hfr : ∀ env ∈ C.outer, env.frame ≠ some Ca) : St C ρ own σ { s with heap := h', toks := tk } := by
  obtain ⟨oC, eC, pC, gC, dC, _⟩ := id hn
  have nown : ∀ p ∈ own, p.2 ≠ Ca := fun p hp e => by
    obtain ⟨_, _, vs, n, g⟩ := st.loc.ownok p hp
    rw [e, gC] at g; cases g; cases dC
  refine st.alter (F := (· = Ca)) ok (fun a e => ?_) (fun b o hb g => k b o hb g) (fun env he L hf e => hfr env he (by rw [hf, show L = Ca from e])) (fun p hp e => (nown p hp e).elim)
  subst e
  refine ⟨hG, hm, hL, hc, fun x a' h1 _ q => nown _ (mem_of_lookup h1) q, fun o g dd => ?_⟩
  rw [gC] at g; cases g
  exact (dd.nodict _ _ dC).elim

theorem fresh_facts {own : Own} {s : Shared} (st : St C ρ own σ s) {a : Addr} (h : s.heap.get? a = none) : C.G.heap.get? a = none ∧ a ∉ C.mu ∧ a ≠ C.env.locals ∧ (∀ x, C.env.cells.lookup x ≠ some a) ∧ C.B.get? a = none ∧ a ∉ own.map (·.2) := by
  have hm : a ∉ C.mu := fun q => by have := st.ml a q; rw [h] at this; cases this
  refine ⟨?_, hm, fun q => ?_, fun x q => ?_, ?_, fun q => ?_⟩
  · cases q : C.G.heap.get? a with
    | none => rfl
    | some o => have := (st.gk a o q hm).there; rw [h] at this; cases this
  · obtain ⟨m, o, es, n, g, _⟩ := st.loc.ns
    rw [← q, h] at g; cases g
  · obtain ⟨v, o, g, _⟩ := st.loc.cells x a q
    rw [h] at g; cases g
  · cases q : C.B.get? a with
    | none => rfl
    | some o => have := st.inv.base a o q; rw [h] at this; cases this
  · obtain ⟨vs, n, g⟩ := own_list st q
    rw [h] at g; cases g

/-- a list's comprehension, a new list -/
theorem wn_comp {elt target iter : Expr} {ifs : List Expr} {scope : Scope} {pos : Pos} {cl : List (Str × Addr)} {Q : List V → Nat → Prop} (xs : List Str) (t : Bool) (ρf : Rho) (I : List V → List V → Nat → Nat → Prop)
    (hclos : closureFor scope C.env = pure cl) (hsc : ScOk scope xs) (hcl : ClOk C.env cl) (hf : RfOk C scope cl ρ ρf) (ht : Tg target xs t)
    (h : WE prog w C ρ iter σ X (fun W0 τ => ∃ Ws, elems W0 = some Ws ∧ Ws.length ≤ 100000 ∧ I Ws [] 0 τ ∧ (∀ i W acc τ, Ws[i]? = some W → I Ws acc i τ → Turn prog w C scope cl ρf xs t ifs elt (I Ws) i W acc τ) ∧ (∀ acc υ, I Ws acc Ws.length υ → Q acc υ)))
    (hs : ∀ env x, foldedSetIterable iter env x = pure x := by intro _ _; rfl) : WN prog w C ρ (eval (.ListComp elt [⟨target, iter, ifs, 0⟩] scope pos) C.env) σ X Q := fun ok s own Qc Ec st po ex => by
  rw [eval_ListComp]
  obtain ⟨h1, h2, h3, h4, h5⟩ := hsc
  refine wpAny_comprehension_free (use := none) rfl (hs _) hclos h2 h3 (h ok s own _ _ st (fun v W0 τ s₁ t₁ r₁ hq => ?_) ex)
  obtain ⟨Ws, hW, hz, hI0, hstep, hend⟩ := hq
  have st₁ := st.to t₁
  refine comp_loop (E := Ec) (RR := fun acc Ca => compPost (model prog w) C.A Ec none Qc acc Ca) (I Ws) ok st₁ r₁ hW hz h1 h2 hcl hf h4 h5 ht hI0 hstep fun D Ca s₂ acc vs n υ t₂ nD nCa hDC gD rl ⟨m, hn⟩ hI => ?_
  refine ⟨m, hn, fun h' hs' => ?_⟩
  have st₂ := st₁.to t₂
  obtain ⟨f1, f2, f3, f4, _⟩ := fresh_facts st₁ nCa
  have k : ∀ b o, b ≠ Ca → s₂.heap.get? b = some o → h'.get? b = some o := fun b o hb e => hs'.extBut b o hb e
  have kp' : Kp C.mu s₁ { s₂ with heap := h' } := by
    obtain ⟨hh, tt, e⟩ := t₂.kp.same
    refine ⟨⟨h', s₂.toks, by rw [e]⟩, fun b o g hb => (t₂.kp.keep b o g hb).trans fun o' g' => .inl (k b o' (fun q => by rw [q, nCa] at g; cases g) g'), fun b e => ?_⟩
    obtain ⟨o, g⟩ := Option.isSome_iff_exists.mp (t₂.kp.live b e)
    show (h'.get? b).isSome
    rw [k b o (fun q => by rw [q, nCa] at e; cases e) g]; rfl
  have ndC : ∀ b o, s₂.heap.get? b = some o → DD o → b ≠ Ca := fun b o g dd q => by
    obtain ⟨o', es, ep, g', hd, _⟩ := hn
    rw [q, g'] at g; cases g; exact dd.nodict _ _ hd
  have inv : Inv C { s₂ with heap := h' } := ⟨fun b o g => k b o (fun q => by have := ok.bg b o g; rw [q, f1] at this; cases this) (st₂.inv.base b o g), st₂.inv.frs.keep fun env he L hfr o g => k L o (fun q => by
    obtain ⟨_, m', o', _, _, g', _⟩ := st₁.inv.frs.at he hfr
    rw [q, nCa] at g'; cases g') g⟩
  refine po D acc τ υ s₁ { s₂ with heap := h' } vs n t₁ ⟨kp', inv, ok.Iloc υ s₂.heap h' (fun a ha o g => k a o (fun q => f2 (q ▸ ha)) g) st₂.i⟩ nD (k D _ hDC gD) (RepL.mono (fun b o g dd _ => k b o (ndC b o g dd) g) (fun _ _ h => h) rl) (hend acc υ hI)

theorem we_wn {e : Expr} {Q : V → Nat → Prop} (h : WN prog w C ρ (eval e C.env) σ X (fun Ws τ => Q (.lst Ws) τ)) : WE prog w C ρ e σ X Q := fun ok s own Qc Ec st po ex =>
  h ok s own _ _ st (fun a Ws τ τ' s₁ s₂ vs n t₁ t₂ h1 h2 r q => po (.ref a) (.lst Ws) τ' s₂ (t₁.trans t₂) (by
    simp only [Rep]
    refine ⟨a, vs, n, rfl, (st.to t₁).avoid_fresh h1, h2, RepL.mono (fun _ _ e _ _ => e) (fun b _ hn hb => hn (.inl hb)) r⟩) q) ex

/-- x = [..], of a local name: the list is stored before the comprehension's names go -/
theorem s_comp {x : Str} {p spos : Pos} {elt target iter : Expr} {ifs : List Expr} {scope : Scope} {pos : Pos} {cl : List (Str × Addr)} {Q : Out → Rho → Nat → Prop} (xs : List Str) (t : Bool) (ρf : Rho) (I : List V → List V → Nat → Nat → Prop) (hx : C.env.kindOf x = some .local)
    (hsw : swapsWith (.ListComp elt [⟨target, iter, ifs, 0⟩] scope pos) (some (.Name x p)) spos.line C.env = pure true)
    (hclos : closureFor scope C.env = pure cl) (hsc : ScOk scope xs) (hcl : ClOk C.env cl) (hf : RfOk C scope cl ρ ρf) (ht : Tg target xs t)
    (h : WE prog w C ρ iter σ X (fun W0 τ => ∃ Ws, elems W0 = some Ws ∧ Ws.length ≤ 100000 ∧ I Ws [] 0 τ ∧ (∀ i W acc τ, Ws[i]? = some W → I Ws acc i τ → Turn prog w C scope cl ρf xs t ifs elt (I Ws) i W acc τ) ∧ (∀ acc υ, I Ws acc Ws.length υ → Q .next ((x, .own acc) :: del x ρ) υ)))
    (hs : ∀ env x, foldedSetIterable iter env x = pure x := by intro _ _; rfl) : W1 prog w C ρ (.Assign [.Name x p] (.ListComp elt [⟨target, iter, ifs, 0⟩] scope pos) spos) σ X Q := fun ok sp s own Qc Ec st ps ex => by
  rw [exec_Assign_Name_used _ _ _ _ hsw]
  refine wpAny_bind (wpAny_standAt (wpAny_bind ?_))
  show wpAny _ C.A (do let _ ← comprehension (.ListComp elt [⟨target, iter, ifs, 0⟩] scope pos) scope C.env _ (newList []) false (eval iter C.env) (some (assign (.Name x p) C.env))) _ _ s
  obtain ⟨h1, h2, h3, h4, h5⟩ := hsc
  refine wpAny_bind (wpAny_mono (wpAny_comprehension_free (use := some (assign (.Name x p) C.env)) (Q := fun _ s' => Qc .next s') rfl (hs _) hclos h2 h3 (h ok s own _ _ st (fun v W0 τ s₁ t₁ r₁ ⟨Ws, hW, hz, hI0, hstep, hend⟩ => ?_) ex)) (fun _ s' hq => wpAny_pure (wpAny_pure hq)) fun _ _ e => e)
  have st₁ := st.to t₁
  refine comp_loop (E := Ec) (RR := fun acc Ca => compPost (model prog w) C.A Ec (some (assign (.Name x p) C.env)) (fun _ s' => Qc .next s') acc Ca) (I Ws) ok st₁ r₁ hW hz h1 h2 hcl hf h4 h5 ht hI0 hstep fun D Ca s₂ acc vs n υ t₂ nD nCa hDC gD rl ⟨m, hn⟩ hI => ?_
  show wpAny _ C.A (assign (.Name x p) C.env (.ref D)) _ _ _
  obtain ⟨f1, f2, f3, f4, f5, f6⟩ := fresh_facts st₁ nCa
  have st₂ := (st₁.del x).mkown t₂ (x := x) (by rw [lookup_del, if_pos rfl]) nD gD
  have hb : BdRep s₂.heap (Av C ((x, D) :: own)) ((x, D) :: own) x (.own acc) (.ref D) := by
    refine ⟨D, vs, n, rfl, by simp, gD, RepL.mono (fun _ _ e _ _ => e) (fun b _ hn hb => hn ?_) rl⟩
    rcases hb with q | q
    · exact .inl (.inl q)
    · rcases List.mem_cons.mp q with q | q
      · exact .inr q
      · exact .inl (.inr q)
  refine wpAny_assign_Name (store_ ok sp (st₂.del x) (.inl hx) hb fun s3 st3 k3 => ?_)
  have hCown : Ca ∉ ((x, D) :: own : Own).map (·.2) := fun q => by
    rcases List.mem_cons.mp q with q | q
    · exact hDC q.symm
    · exact f6 q
  have hn3 : s3.heap.Ns Ca m := Kept.ns hn fun o e => k3.keep Ca o e f2 hCown f3 f4
  refine ⟨m, hn3, fun h' hs' => ?_⟩
  have k : ∀ b o, b ≠ Ca → s3.heap.get? b = some o → h'.get? b = some o := fun b o hb e => hs'.extBut b o hb e
  have st4 := alt_comp (tk := s3.toks) ok st3 f1 f2 f3 f4 hn3 k fun env he hfr => by
    obtain ⟨_, m', o', _, _, g', _⟩ := st₁.inv.frs.at he hfr
    rw [nCa] at g'; cases g'
  have k0 : SK C own s ((x, D) :: own) s₂ := ⟨(t₁.trans t₂).kp.same, fun b o e h1 _ _ _ => (t₁.trans t₂).kp.keep b o e h1, (t₁.trans t₂).kp.live, fun b hb => by
    rcases List.mem_cons.mp hb with q | q
    · exact .inr (by rw [show b = D from q]; exact t₁.kp.fresh nD)
    · exact .inl q⟩
  exact ps .next .next _ υ _ _ st4 ((k0.trans k3).turn (tk := s3.toks) (t₁.kp.fresh nCa) k) rfl (hend acc υ hI)
end
end Mini
end

section
open PySem PySem.W PyProof.Rows
set_option maxRecDepth 100000
namespace Mini

/-- pairs in order -/
noncomputable def ple (a b : Int × Int) : Prop := a.1 < b.1 ∨ (a.1 = b.1 ∧ a.2 ≤ b.2)
noncomputable def pltb (a b : Int × Int) : Bool := if a.1 = b.1 then decide (a.2 < b.2) else decide (a.1 < b.1)
noncomputable def ltOf (ps : List (Int × Int)) (i j : Nat) : Bool := pltb (ps.getD i (0, 0)) (ps.getD j (0, 0))
theorem ltOf_tot (ps : List (Int × Int)) : Tot (ltOf ps) := by
  constructor
  · intro a b c
    unfold ltOf pltb
    generalize ps.getD a (0, 0) = x; generalize ps.getD b (0, 0) = y; generalize ps.getD c (0, 0) = z
    split <;> split <;> split <;> simp only [decide_eq_false_iff_not] <;> lia
  · intro a b
    unfold ltOf pltb
    generalize ps.getD a (0, 0) = x; generalize ps.getD b (0, 0) = y
    split <;> split <;> simp only [decide_eq_false_iff_not, decide_eq_true_iff] <;> lia
theorem pltb_ple {a b : Int × Int} (h : pltb b a = false) : ple a b := by
  unfold pltb at h; unfold ple
  split at h <;> simp only [decide_eq_false_iff_not] at h <;> lia

section
variable {prog : Program} {w : World} {A : Around} {E : Value → Shared → Prop}

/-- a pair, laid -/
noncomputable def PrAt (h : Heap) (p : Int × Int) (v : Value) : Prop := ∃ a t u n, v = .ref a ∧ h.get? a = some (tupO [.int p.1 t, .int p.2 u] n)
theorem lex_int {s : Shared} {a a' : Int} {t t' : Tok} {r : List (Value × Value)} {i : Nat} {fin : Bool} {C : Bool → Shared → Prop} (h1 : a = a' → KatLex prog w A true fin C r (i + 1) s) (h2 : a ≠ a' → C (decide (a < a')) s) : KatLex prog w A true fin C ((.int a t, .int a' t') :: r) i s := by
  refine kat_cons (wpAny_eqBool_int ?_)
  by_cases e : a = a'
  · rw [show (a == a') = true by simpa using e]
    exact kat_yes (h1 e)
  · rw [show (a == a') = false by simpa using e]
    refine kat_no ?_
    cases hi : (i == 0) with
    | true => exact oneLt_int (h2 e)
    | false => exact kat_one _ _ (PySem.P.lt_int (h2 e))
theorem keyLt_pr {s : Shared} {x y : Value} {p q : Int × Int} {C : Bool → Shared → Prop} (hx : PrAt s.heap p x) (hy : PrAt s.heap q y) (h : C (pltb p q) s) : wpAny (model prog w) A (keyLt' (tuples' true) x y) C E s := by
  obtain ⟨a, t, u, n, rfl, ga⟩ := hx
  obtain ⟨a', t', u', n', rfl, ga'⟩ := hy
  refine kat_lt ga rfl ga' rfl ?_
  refine lex_int (fun e1 => lex_int (fun e2 => kat_nil ?_) fun e2 => ?_) fun e1 => ?_
  · have : pltb p q = decide ((#[Value.int p.1 t, .int p.2 u] : Array Value).size < (#[Value.int q.1 t', .int q.2 u'] : Array Value).size) := by
      unfold pltb; rw [if_pos e1, e2]; simp
    rw [this] at h; exact h
  · unfold pltb at h; rw [if_pos e1] at h; exact h
  · unfold pltb at h; rw [if_neg e1] at h; exact h
end

theorem repL_map {α : Type} {h : Heap} {av : Addr → Prop} {f : α → V} {g : α → Value} : ∀ {l : List α}, (∀ i ∈ l, Rep h av (f i) (g i)) → RepL h av (l.map f) (l.map g)
  | [], _ => by simp only [List.map_nil, RepL]
  | a :: l, hh => by
    simp only [List.map_cons, RepL]
    exact ⟨g a, _, rfl, hh a (by simp), repL_map fun i hi => hh i (by simp [hi])⟩
theorem rep_pr {h : Heap} {av : Addr → Prop} {p : Int × Int} {v : Value} (r : Rep h av (pr p) v) : PrAt h p v := by
  simp only [pr, Rep, RepL] at r
  obtain ⟨a, vs, n, rfl, _, g, _, _, rfl, ⟨t, rfl⟩, _, _, rfl, ⟨u, rfl⟩, rfl⟩ := r
  exact ⟨a, t, u, n, rfl, g⟩
theorem katTups_of {h : Heap} {av : Addr → Prop} : ∀ {ps : List (Int × Int)} {vs : List Value}, RepL h av (ps.map pr) vs → ∃ fs, KatTups h vs fs ∧ fs.length = ps.length ∧ ∀ v ∈ fs, ∃ i t, v = .int i t
  | [], _, r => by simp only [List.map_nil, RepL] at r; subst r; exact ⟨[], KatTups.nil, rfl, fun v hv => (nomatch hv)⟩
  | p :: ps, _, r => by
    simp only [List.map_cons, RepL] at r
    obtain ⟨v, us, rfl, r1, r2⟩ := r
    obtain ⟨a, t, u, n, rfl, g⟩ := rep_pr r1
    obtain ⟨fs, h1, h2, h3⟩ := katTups_of r2
    refine ⟨.int p.1 t :: fs, KatTups.cons g rfl rfl rfl h1, by simp [h2], fun v hv => ?_⟩
    rcases List.mem_cons.mp hv with rfl | hv
    · exact ⟨_, _, rfl⟩
    · exact h3 v hv
theorem getD_pr {h : Heap} {av : Addr → Prop} {ps : List (Int × Int)} {vs : List Value} (r : RepL h av (ps.map pr) vs) {i : Nat} (hi : i < ps.length) : Rep h av (pr (ps.getD i (0, 0))) (vs.getD i .none) := by
  obtain ⟨v, hv, rv⟩ := r.get (i := i) (W := pr ps[i]) (by simp [hi])
  have e1 : ps.getD i (0, 0) = ps[i] := by simp [hi]
  have e2 : vs.getD i .none = v := by rw [List.getD_eq_getElem?_getD, hv]; rfl
  rw [e1, e2]; exact rv

/-- all the objects but two -/
noncomputable def others (h : Heap) (L a : Addr) : List (Addr × Obj) := (List.range h.objs.size).filterMap fun b => if b = L ∨ b = a then none else (h.get? b).map fun o => (b, o)
theorem mem_others {h : Heap} {L a b : Addr} {o : Obj} : (b, o) ∈ others h L a ↔ (b ≠ L ∧ b ≠ a ∧ h.get? b = some o) := by
  unfold others
  rw [List.mem_filterMap]
  constructor
  · rintro ⟨c, hc, e⟩
    split at e
    · cases e
    · rename_i hn
      cases q : h.get? c with
      | none => rw [q] at e; cases e
      | some o' => rw [q] at e; cases e; exact ⟨fun h => hn (.inl h), fun h => hn (.inr h), q⟩
  · rintro ⟨h1, h2, h3⟩
    refine ⟨b, by simpa using Heap.lt_size h3, ?_⟩
    rw [if_neg (by rintro (h | h); exact h1 h; exact h2 h), h3]; rfl

section
variable {prog : Program} {w : World} {C : Cx} {ρ : Rho} {σ : Nat} {X : Int → Prop} {Q : Out → Rho → Nat → Prop}
theorem s_sort {x : Str} {p p2 p3 pos : Pos} {ps : List (Int × Int)} (hx : ρ.lookup x = some (.own (ps.map pr))) (hz : ps.length < 64) (h : ∀ qs : List (Int × Int), qs.Perm ps → qs.Pairwise ple → Q .next ((x, .own (qs.map pr)) :: ρ) σ)
    (hd : (x == ("__debug__" : Str)) = false := by decide)
    (hc : ∀ env, ∃ pl, eval (.Call (.Attribute (.Name x p) "sort" p2) [] [] p3) env = (do
      let ov ← eval (.Name x p) env
      standAt p2.atName
      let (f, first) ← holding [ov] (getMethod ov "sort" pl)
      callWith p3 f first (backTo p3 (starEach [] env)) (backToKw p3 (keywordEach [] env))) := by intro _; exact ⟨_, rfl⟩) : W1 prog w C ρ (.Expr (.Call (.Attribute (.Name x p) "sort" p2) [] [] p3) pos) σ X Q := fun ok sp s own Qc Ec st ps' ex => by
  refine wpAny_Expr_any (env := C.env) ?_ (noint ok) rfl
  obtain ⟨pl, hc⟩ := hc C.env
  refine own_method ok st hx PyProof.Rows.slot_list_sort (by rfl) pl hc hd fun a vs n ho g rl => ?_
  have hlen : vs.length = ps.length := by rw [rl.length, List.length_map]
  have hav : a ∈ own.map (·.2) := List.mem_map_of_mem (f := (·.2)) (mem_of_lookup ho)
  obtain ⟨m, hn⟩ := st.loc.ns
  obtain ⟨oL, eL, pL, gL, dL, _⟩ := id hn
  have haL : a ≠ C.env.locals := fun q => by rw [q, gL] at g; cases g; cases dL
  -- the end: the list in order
  have fin : ∀ (qs : List (Int × Int)) (us : List Value) (h' : Heap) (tk c : Nat), qs.Perm ps → qs.Pairwise ple → RepL s.heap (Av C own) (qs.map pr) us → (∀ b o, b ≠ a → b ≠ C.env.locals → s.heap.get? b = some o → h'.get? b = some o) → (∀ m, s.heap.Ns C.env.locals m → h'.Ns C.env.locals m) → h'.get? a = some (lstO us c) → Qc .next { s with heap := h', toks := tk } := fun qs us h' tk c hp hs r k kL g' => by
    have kdd : ∀ b o, s.heap.get? b = some o → DD o → ¬ Av C own b → h'.get? b = some o := fun b o e dd nb => k b o (fun q => nb (.inr (q ▸ hav))) (fun q => by rw [q, gL] at e; cases e; exact dd.nodict _ _ dL) e
    obtain ⟨st', sk⟩ := st.shift (x := x) (a := a) (Ws := qs.map pr) (vs := us) (n := c) (tk := tk) ok sp ho ⟨_, hx⟩ k kL g' (RepL.mono kdd (fun _ _ h => h) r)
    exact ps' .next .next _ σ _ own st' sk rfl (h qs hp hs)
  refine Calls.callWith_builtin rfl ?_
  refine evalArgs_empty ?_
  by_cases h2 : 2 ≤ ps.length
  · have F : Fr ({ s.heap with objs := #[] } : Heap) C.env.locals s.heap m := ⟨hn, (fun b o e => by simp [Heap.get?] at e), Nat.zero_le _⟩
    have em : ∀ b, ({ s.heap with objs := #[] } : Heap).get? b = none := fun b => by simp [Heap.get?]
    have N : News ({ s.heap with objs := #[] } : Heap) C.env.locals s.heap (others s.heap C.env.locals a) := fun q hq => by
      obtain ⟨b, o⟩ := q
      obtain ⟨h1, h2, h3⟩ := mem_others.mp hq
      exact ⟨h3, h1, em b⟩
    refine wpAny_call_entry PyProof.Rows.slot_list_sort ⟨_, g, rfl⟩ PyProof.Rows.entry_list_sort (kat_list_sort F N g haL (em a) (fun q hq => (mem_others.mp (show (q.1, q.2) ∈ _ from hq)).2.1) (by lia) (by lia) (fun e1 h' F' N' => ?_)) (args_list_sort _)
    have kN : ∀ {h'' : Heap} {o1 : Obj}, News ({ s.heap with objs := #[] } : Heap) C.env.locals h'' ((a, o1) :: others s.heap C.env.locals a) → ∀ b o, b ≠ a → b ≠ C.env.locals → s.heap.get? b = some o → h''.get? b = some o := fun {h'' o1} N'' b o h1 h2 e => (N'' (b, o) (List.mem_cons_of_mem _ (mem_others.mpr ⟨h2, h1, e⟩))).1
    have k' := kN N'
    have kdd : ∀ b o, s.heap.get? b = some o → DD o → ¬ Av C own b → h'.get? b = some o := fun b o e dd nb => k' b o (fun q => nb (.inr (q ▸ hav))) (fun q => by rw [q, gL] at e; cases e; exact dd.nodict _ _ dL) e
    have r' : RepL h' (Av C own) (ps.map pr) vs := RepL.mono kdd (fun _ _ h => h) rl
    obtain ⟨fs, t1, t2, t3⟩ := katTups_of r'
    refine kat_kind (T := .type "int") t1 (by lia) (fun v hv => ?_) rfl ?_
    · obtain ⟨i, t, rfl⟩ := t3 v hv
      exact Looks.of_pure (by rfl)
    rw [show (Value.type "int" != Value.type "tuple") = true from by decide]
    rw [hlen]
    refine kasP_wp (n := ps.length) (lt := ltOf ps) (Q := fun p => PR ps.length p ∧ Srt (ltOf ps) p ps.length) (fun i j Cc hi hj hC => ?_) (sort_ok (ltOf_tot ps) h2 fun p h1 h2 => ⟨h1, h2⟩) fun p ⟨hp, hs⟩ => ?_
    · unfold kas_ask
      exact keyLt_pr (rep_pr (getD_pr r' hi)) (rep_pr (getD_pr r' hj)) hC
    · refine KasFin.intro F' N' (.head fun q hq => (mem_others.mp (show (q.1, q.2) ∈ _ from hq)).2.1) fun h'' c F'' N'' => ⟨_, rfl, ?_⟩
      have hsz := hp.size
      refine fin (p.toList.map fun i => ps.getD i (0, 0)) (p.toList.map fun i => vs.getD i .none) h'' s.toks c ?_ ?_ ?_ (kN N'') (fun m' hm' => ?_) (N'' _ List.mem_cons_self).1
      · have e1 : (p.toList.map fun i => ps.getD i (0, 0)).Perm ((List.range ps.length).map fun i => ps.getD i (0, 0)) := by
          refine List.Perm.map _ ?_
          have := Array.perm_iff_toList_perm.mp hp
          simpa using this
        refine e1.trans (List.Perm.of_eq ?_)
        refine List.ext_getElem (by simp) fun i h1 h2 => ?_
        simp at h1
        simp [h1]
      · rw [List.pairwise_iff_getElem]
        intro i j hi hj hij
        simp only [List.length_map, Array.length_toList] at hi hj
        simp only [List.getElem_map, Array.getElem_toList]
        have := hs i j (by lia) (by lia)
        have e1 : K p i = p[i] := by unfold K; simp [Array.getD, hi]
        have e2 : K p j = p[j] := by unfold K; simp [Array.getD, hj]
        rw [e1, e2] at this
        exact pltb_ple this
      · rw [List.map_map]
        refine repL_map fun i hi => ?_
        obtain ⟨k, hk, e⟩ := Array.getElem_of_mem (Array.mem_toList_iff.mp hi)
        have := hp.bd (by lia) k
        have e1 : K p k = p[k] := by unfold K; simp [Array.getD, hk]
        rw [e1, e] at this
        exact getD_pr rl this
      · rw [ns_uniq hm' hn]; exact F''.ns
  · refine wpAny_call_entry PyProof.Rows.slot_list_sort ⟨_, g, rfl⟩ PyProof.Rows.entry_list_sort ?_ (args_list_sort _)
    show wpAny _ _ (Builtin.«list.sort» ⟨[.ref a], []⟩) _ _ _
    rw [list_sort_plain]
    have ha : a < s.heap.objs.size := Heap.lt_size g
    obtain ⟨e1, ho1⟩ : ∃ e1, (s.heap.update a (Obj.mapSeq fun _ => (#[] : Array Value))).get? a = some (seqObj "list" #[] e1) := ⟨_, get?_update_seq g fun _ => #[]⟩
    refine wpAny_bind (listItems_at g rfl ?_)
    refine wpAny_bind (listUpdate_at g rfl ?_ (by rw [List.size_toArray, sizeLine_eq]; lia) (Nat.zero_le _))
    refine wpAny_bind (seqEpoch_at ho1 rfl ?_)
    refine wpAny_bind (wpAny_newTuple ?_ (by show vs.length ≤ _; rw [sizeLine_eq]; lia))
    refine wpAny_bind (wpAny_newList ?_ (Nat.zero_le _))
    refine wpAny_holding ?_
    show wpAny _ _ _ _ _ { s with heap := ((s.heap.update a (Obj.mapSeq fun _ => (#[] : Array Value))).push (seqObj "tuple" vs.toArray 0)).push (seqObj "list" #[] 0) }
    dsimp only
    have hn2 : vs.toArray.size < 2 := by rw [List.size_toArray]; lia
    have ho6 : (((s.heap.update a (Obj.mapSeq fun _ => (#[] : Array Value))).push (seqObj "tuple" vs.toArray 0)).push (seqObj "list" #[] 0)).get? a = some (seqObj "list" #[] e1) := Heap.get?_push_of_some _ (Heap.get?_push_of_some _ ho1)
    have upd : ∀ b o, b ≠ a → s.heap.get? b = some o → (((s.heap.update a (Obj.mapSeq fun _ => (#[] : Array Value))).push (seqObj "tuple" vs.toArray 0)).push (seqObj "list" #[] 0)).get? b = some o := fun b o hb e =>
      Heap.get?_push_of_some _ (Heap.get?_push_of_some _ ((Heap.get?_update_other _ _ (Ne.symm hb)).trans e))
    generalize ((s.heap.update a (Obj.mapSeq fun _ => (#[] : Array Value))).push (seqObj "tuple" vs.toArray 0)).push (seqObj "list" #[] 0) = H at ho6 upd ⊢
    rw [if_pos hn2, if_pos hn2]
    refine wpAny_bind (wpAny_pure ?_)
    rw [StateT.run_pure]
    refine wpAny_bind (wpAny_pure ?_)
    dsimp only
    refine wpAny_bind (seqEpoch_at ho6 rfl ?_)
    refine wpAny_bind (listUpdate_at ho6 rfl ?_ (Nat.zero_le _) (by rw [Array.size_map]; show (vs.toArray.zip vs.toArray).size ≤ _; simp only [Array.size_zip, List.size_toArray, Nat.min_self]; rw [sizeLine_eq]; lia))
    simp only [bne_self_eq_false, Bool.false_eq_true, if_false]
    refine wpAny_pure ⟨_, rfl, ?_⟩
    have eo : ((vs.toArray.zip vs.toArray).map (·.2)) = vs.toArray := by
      apply Array.ext (by simp)
      intro i h1 h2
      simp
    obtain ⟨c2, hc2⟩ : ∃ c2, (H.update a (Obj.mapSeq fun _ => (vs.toArray.zip vs.toArray).map (·.2))).get? a = some (seqObj "list" ((vs.toArray.zip vs.toArray).map (·.2)) c2) := ⟨_, get?_update_seq ho6 fun _ => (vs.toArray.zip vs.toArray).map (·.2)⟩
    have hg3 := hc2.trans (congrArg (fun z => some (seqObj "list" z c2)) eo)
    have k3 : ∀ b o, b ≠ a → b ≠ C.env.locals → s.heap.get? b = some o → (H.update a (Obj.mapSeq fun _ => (vs.toArray.zip vs.toArray).map (·.2))).get? b = some o := fun b o h1 _ e => (Heap.get?_update_other _ _ (Ne.symm h1)).trans (upd b o h1 e)
    have kn : ∀ m', s.heap.Ns C.env.locals m' → (H.update a (Obj.mapSeq fun _ => (vs.toArray.zip vs.toArray).map (·.2))).Ns C.env.locals m' := fun m' hm' => hm'.at' fun o e => (Heap.get?_update_other _ _ haL).trans (upd _ o (Ne.symm haL) e)
    refine fin ps vs _ s.toks c2 (List.Perm.refl _) ?_ rl k3 kn hg3
    match ps, h2 with
    | [], _ => exact .nil
    | [x], _ => exact List.pairwise_singleton _ _
    | _ :: _ :: _, h2 => simp at h2
end
end Mini
end

section
open PySem PySem.W PyProof.Rows
set_option maxRecDepth 100000
namespace Mini
theorem map_get {α β : Type} {f : α → β} {l : List α} {i : Nat} {U : β} (h : (l.map f)[i]? = some U) : ∃ hi : i < l.length, U = f l[i] := by
  rw [List.getElem?_map] at h
  cases q : l[i]? with
  | none => rw [q] at h; cases h
  | some x =>
    rw [q] at h; cases h
    obtain ⟨hi, e⟩ := List.getElem?_eq_some_iff.mp q
    exact ⟨hi, by rw [e]⟩
theorem range_get {n i : Nat} {U : V} (h : ((List.range n).map fun i : Nat => V.int i)[i]? = some U) : i < n ∧ U = .int i := by
  obtain ⟨hi, e⟩ := map_get h
  simp at hi
  exact ⟨hi, by simpa using e⟩
theorem br2 {P : Prop} {i : Decidable P} {A B : Prop} (h1 : P → A) (h2 : ¬ P → B) : if @decide P i = true then A else B := by
  by_cases h : P
  · rw [if_pos (by simpa using h)]; exact h1 h
  · rw [if_neg (by simpa using h)]; exact h2 h
theorem br2n {P : Prop} {i : Decidable P} {A B : Prop} (h1 : ¬ P → A) (h2 : P → B) : if (!@decide P i) = true then A else B := by
  by_cases h : P
  · rw [if_neg (by simpa using h)]; exact h2 h
  · rw [if_pos (by simpa using h)]; exact h1 h
theorem br {c : Bool} {A B : Prop} (h1 : c = true → A) (h2 : c = false → B) : if c = true then A else B := by
  cases c with
  | true => exact h1 rfl
  | false => exact h2 rfl
section
variable {prog : Program} {w : World} {C : Cx} {ρ : Rho} {σ : Nat} {X : Int → Prop}
theorem o_eq' {a b : Int} {Q : V → Nat → Prop} (h : Q (.bool (decide (a = b))) σ) : O2 prog w C ρ Rep (compareOp .Eq) (.int a) (.int b) σ X Q := o_eq (by rw [show (a == b) = decide (a = b) from by by_cases h : a = b <;> simp [h]]; exact h)
theorem o_ne' {a b : Int} {Q : V → Nat → Prop} (h : Q (.bool (decide (a ≠ b))) σ) : O2 prog w C ρ Rep (compareOp .NotEq) (.int a) (.int b) σ X Q := o_ne (by rw [show (a != b) = decide (a ≠ b) from by by_cases h : a = b <;> simp [h]]; exact h)
theorem as_pair {x y : Str} {p q pos : Pos} {k : Nat} {W U : V} (hx : Sto C x) (hy : Sto C y) : AS prog w C ρ (.Tuple [.Name x p, .Name y q] k pos) (.tup [W, U]) ((y, .val U) :: (x, .val W) :: ρ) := by
  refine as_tuple (xs := [x, y]) (fun z hz => ?_) rfl (fun env => ⟨rfl, rfl⟩) fun env i z f h1 h2 => ?_
  · rcases List.mem_cons.mp hz with rfl | hz
    · exact hx
    · obtain rfl := List.mem_singleton.mp hz; exact hy
  · match i with
    | 0 => cases h1; cases h2; exact ⟨_, rfl⟩
    | 1 => cases h1; cases h2; exact ⟨_, rfl⟩
    | n + 2 => simp at h1
theorem as_triple {x y z : Str} {p q r pos : Pos} {k : Nat} {W U T : V} (hx : Sto C x) (hy : Sto C y) (hz : Sto C z) : AS prog w C ρ (.Tuple [.Name x p, .Name y q, .Name z r] k pos) (.tup [W, U, T]) ((z, .val T) :: (y, .val U) :: (x, .val W) :: ρ) := by
  refine as_tuple (xs := [x, y, z]) (fun v hv => ?_) rfl (fun env => ⟨rfl, rfl⟩) fun env i v f h1 h2 => ?_
  · rcases List.mem_cons.mp hv with rfl | hv
    · exact hx
    · rcases List.mem_cons.mp hv with rfl | hv
      · exact hy
      · obtain rfl := List.mem_singleton.mp hv; exact hz
  · match i with
    | 0 => cases h1; cases h2; exact ⟨_, rfl⟩
    | 1 => cases h1; cases h2; exact ⟨_, rfl⟩
    | 2 => cases h1; cases h2; exact ⟨_, rfl⟩
    | n + 3 => simp at h1
theorem tg_pair {x y : Str} {p q pos : Pos} {k : Nat} : Tg (.Tuple [.Name x p, .Name y q] k pos) [x, y] true := by
  refine .tup _ _ _ _ (fun env => ⟨rfl, rfl⟩) fun env i z f h1 h2 => ?_
  match i with
  | 0 => cases h1; cases h2; exact ⟨_, rfl⟩
  | 1 => cases h1; cases h2; exact ⟨_, rfl⟩
  | n + 2 => simp at h1
theorem o_isnot_none {W : V} {b : Bool} {Q : V → Nat → Prop} (hb : (W = .none ∧ b = false) ∨ ((∃ Vs, W = .tup Vs) ∧ b = true)) (h : Q (.bool b) σ) : O2 prog w C ρ Rep (compareOp .IsNot) W .none σ X Q := fun ok s own Qc Ec v u st r q po _ => by
  simp only [Rep] at q; subst q
  rcases hb with ⟨rfl, rfl⟩ | ⟨⟨Vs, rfl⟩, rfl⟩
  · simp only [Rep] at r; subst r
    exact wpAny_isNot_self (by decide) (po _ (.bool false) σ _ st.self (by simp only [Rep]) h)
  · simp only [Rep] at r
    obtain ⟨a, vs, n, rfl, _⟩ := r
    exact isnot_none_ne (by intro x; cases x) (po _ (.bool true) σ _ st.self (by simp only [Rep]) h)
theorem at_nat {i n : Nat} (h : i < n) : at? (i : Int) n = some i := by
  unfold at? seqIndex?
  simp <;> lia
theorem at_last {n : Nat} (h : 0 < n) : at? (-1) n = some (n - 1) := by
  unfold at? seqIndex?
  simp <;> lia
theorem we_at {value slice : Expr} {pos : Pos} {Q : V → Nat → Prop} (h : WL prog w C ρ value σ X (fun b τ => WE prog w C ρ slice τ X (fun U υ => ∃ i : Nat, U = .int i ∧ b.2.length < 2 ^ 60 ∧ ∃ W, b.2[i]? = some W ∧ Q W υ)))
    (hs : ∀ o i, subscripted slice false o i = operate [o, i] (getItem o i) := by intro _ _; with_unfolding_all rfl) : WE prog w C ρ (.Subscript value slice pos) σ X Q :=
  we_sub (J.mono h (fun b τ hb => J.mono hb (fun U υ ⟨i, e, hl, W, hW, q⟩ => by
    have hi : i < b.2.length := (List.getElem?_eq_some_iff.mp hW).1
    exact ⟨i, i, W, e, ⟨by lia, by lia⟩, at_nat hi, hW, q⟩) fun _ h => h) fun _ h => h) hs
theorem we_p0 {value : Expr} {k : Nat} {p pos : Pos} {Q : V → Nat → Prop} (h : WE prog w C ρ value σ X (fun W τ => ∃ a b, W = .tup [a, b] ∧ Q a τ)) : WE prog w C ρ (.Subscript value (.Constant (.int 0) k p) pos) σ X Q :=
  we_at (wl_of (J.mono h (fun W τ ⟨a, b, e, q⟩ => ⟨(true, [a, b]), by rw [e]; rfl, we_int ⟨0, rfl, by simp, a, rfl, q⟩⟩) fun _ h => h))
theorem we_p1 {value : Expr} {k : Nat} {p pos : Pos} {Q : V → Nat → Prop} (h : WE prog w C ρ value σ X (fun W τ => ∃ a b, W = .tup [a, b] ∧ Q b τ)) : WE prog w C ρ (.Subscript value (.Constant (.int 1) k p) pos) σ X Q :=
  we_at (wl_of (J.mono h (fun W τ ⟨a, b, e, q⟩ => ⟨(true, [a, b]), by rw [e]; rfl, we_int ⟨1, rfl, by simp, b, rfl, q⟩⟩) fun _ h => h))
theorem we_last {x : Str} {k : Nat} {p1 p2 p3 pos : Pos} {Ws : List V} {W : V} {Q : V → Nat → Prop} (hx : ρ.lookup x = some (.own Ws)) (hl : Ws.getLast? = some W) (h : Q W σ) (hd : (x == ("__debug__" : Str)) = false := by decide) : WE prog w C ρ (.Subscript (.Name x p1) (.UnaryOp .USub (.Constant (.int 1) k p2) p3) pos) σ X Q := by
  have hn : 0 < Ws.length := by
    cases Ws with
    | nil => simp at hl
    | cons a l => simp
  refine we_sub (wl_own hx (we_un <| we_int <| o_neg ⟨-1, Ws.length - 1, W, rfl, ⟨by decide, by decide⟩, at_last hn, ?_, h⟩) hd)
  rw [← List.getLast?_eq_getElem?]; exact hl
theorem JS.via {t : Sem Flow} {ρ' : Rho} {Q : Out → Rho → Nat → Prop} (h : JS prog w C ρ' t σ X Q) (hs : Sub ρ' ρ) : JS prog w C ρ t σ X Q := JS.sub hs h
end
end Mini
end

section
open PySem PySem.W PyProof.Rows
set_option maxRecDepth 100000
namespace Mini
noncomputable abbrev KP (w : Params) : Frag := hd.heap_1 w
noncomputable def fdAt (o : Option Obj) : FuncData := match o with | some ⟨_, _, .func fd, _⟩ => fd | _ => default
noncomputable def bodyAt (fd : FuncData) : List Stmt := match fd.body with | .stmts b => b | _ => []
-- a part of a body, without a matcher at its place of use
noncomputable def inner (x : Stmt) : List Stmt := match x with | .For _ _ b _ _ => b | .While _ b _ _ => b | .If _ b _ _ => b | _ => []
noncomputable def testOf (x : Stmt) : Expr := match x with | .If c _ _ _ => c | _ => .Constant .none 0 default
noncomputable def parts (e : Expr) : List Expr := match e with | .BoolOp _ l _ => l | _ => []
noncomputable def nth (l : List Stmt) (n : Nat) : Stmt := l.getD n (.Pass default)
set_option maxHeartbeats 400000
end Mini
end

section
open PySem PySem.W PyProof.Rows
set_option maxRecDepth 100000
namespace Mini
-- the rules anew, their continuations named: a walk's term stays small
section
variable (prog : Program) (w : World) (C : Cx) (ρ : Rho) (X : Int → Prop)
noncomputable abbrev KS (r : List Stmt) (Q : Out → Rho → Nat → Prop) : Out → Rho → Nat → Prop := fun o ρ' τ => match o with | .next => WS prog w C ρ' r τ X Q | o => Q o ρ' τ
noncomputable abbrev KO2 (f : Value → Value → Sem Value) (W : V) (Q : V → Nat → Prop) : V → Nat → Prop := fun U υ => O2 prog w C ρ Rep f W U υ X Q
noncomputable abbrev KB (r : Expr) (f : Value → Value → Sem Value) (Q : V → Nat → Prop) : V → Nat → Prop := fun W τ => WE prog w C ρ r τ X (KO2 prog w C ρ X f W Q)
noncomputable abbrev KT (Q : Bool → Nat → Prop) : V → Nat → Prop := fun Y φ => ∃ c, Y = .bool c ∧ Q c φ
noncomputable abbrev KIf (b o : List Stmt) (Q : Out → Rho → Nat → Prop) : Bool → Nat → Prop := fun c τ => if c then WS prog w C ρ b τ X Q else WS prog w C ρ o τ X Q
noncomputable abbrev KIfE (b o : Expr) (Q : V → Nat → Prop) : Bool → Nat → Prop := fun c τ => if c then WE prog w C ρ b τ X Q else WE prog w C ρ o τ X Q
noncomputable abbrev KAnd (rest : List Expr) (pos : Pos) (Q : Bool → Nat → Prop) : Bool → Nat → Prop := fun c τ => if c then WT prog w C ρ (.BoolOp .And rest pos) τ X Q else Q false τ
noncomputable abbrev KOr (rest : List Expr) (pos : Pos) (Q : Bool → Nat → Prop) : Bool → Nat → Prop := fun c τ => if c then Q true τ else WT prog w C ρ (.BoolOp .Or rest pos) τ X Q
noncomputable abbrev KNot (Q : Bool → Nat → Prop) : Bool → Nat → Prop := fun c τ => Q (!c) τ
noncomputable abbrev KA2 (W : V) (Q : List V → Nat → Prop) : List V → Nat → Prop := fun Ws υ => Q (W :: Ws) υ
noncomputable abbrev KA (pos : Pos) (rest : List Expr) (Q : List V → Nat → Prop) : V → Nat → Prop := fun W τ => WA prog w C ρ pos rest τ X (KA2 W Q)
noncomputable abbrev KTup (Q : V → Nat → Prop) : List V → Nat → Prop := fun Ws τ => Ws.length ≤ 1000 ∧ Q (.tup Ws) τ
noncomputable abbrev KLst (Q : V → Nat → Prop) : List V → Nat → Prop := fun Ws τ => Ws.length ≤ 1000 ∧ Q (.lst Ws) τ
noncomputable abbrev KAsg (x : Str) (Q : Out → Rho → Nat → Prop) : V → Nat → Prop := fun W τ => Q .next ((x, .val W) :: ρ) τ
noncomputable abbrev KOwn (x : Str) (Q : Out → Rho → Nat → Prop) : List V → Nat → Prop := fun Ws τ => Q .next ((x, .own Ws) :: del x ρ) τ
noncomputable abbrev KApp (x : Str) (Ws : List V) (Q : Out → Rho → Nat → Prop) : V → Nat → Prop := fun W τ => Q .next ((x, .own (Ws ++ [W])) :: ρ) τ
noncomputable abbrev KSw (names : List Str) (Q : Out → Rho → Nat → Prop) : V → Nat → Prop := fun W τ => ∃ Ws, W = .tup Ws ∧ Ws.length = names.length ∧ Q .next (bindAll names.reverse Ws.reverse ρ) τ
noncomputable abbrev KRet (Q : Out → Rho → Nat → Prop) : V → Nat → Prop := fun W τ => Q (.ret W) ρ τ
noncomputable abbrev KSeq (Q : Bool × List V → Nat → Prop) : V → Nat → Prop := fun W τ => ∃ b, SeqV W = some b ∧ Q b τ
noncomputable abbrev KCall (f : Value) (Q : V → Nat → Prop) : List V → Nat → Prop := fun Ws τ => CJ prog w C ρ f Ws τ X Q
noncomputable abbrev KC1 {β : Type} (R : Heap → (Addr → Prop) → β → Value → Prop) (f : Value) (Q : V → Nat → Prop) : β → Nat → Prop := fun b τ => C1 (α := Unit) prog w C ρ R f b τ X Q
noncomputable abbrev KAt2 (Ws : List V) (Q : V → Nat → Prop) : V → Nat → Prop := fun U υ => ∃ i : Nat, U = .int i ∧ Ws.length < 2 ^ 60 ∧ ∃ W, Ws[i]? = some W ∧ Q W υ
noncomputable abbrev KAt (slice : Expr) (Q : V → Nat → Prop) : Bool × List V → Nat → Prop := fun b τ => WE prog w C ρ slice τ X (KAt2 b.2 Q)
noncomputable abbrev KLoop {S : Type} (bnd : S → Rho) (J : S → Nat → Prop) (Q : Out → Rho → Nat → Prop) : Out → Rho → Nat → Prop := fun o ρ2 υ => match o with | .next => ∃ z', Sub (bnd z') ρ2 ∧ J z' υ | .cont => ∃ z', Sub (bnd z') ρ2 ∧ J z' υ | .brk => Q .next ρ2 υ | .ret v => Q (.ret v) ρ2 υ
noncomputable abbrev KFor {S : Type} (target : Expr) (body : List Stmt) (bnd : S → Rho) (I : List V → Nat → S → Nat → Prop) (Q : Out → Rho → Nat → Prop) : V → Nat → Prop := fun W τ => ∃ Ws, elems W = some Ws ∧ (∃ z, Sub (bnd z) ρ ∧ I Ws 0 z τ) ∧
  (∀ i W z τ, Ws[i]? = some W → I Ws i z τ → ∃ ρ', AS prog w C (bnd z) target W ρ' ∧ WS prog w C ρ' body τ X (KLoop bnd (I Ws (i + 1)) Q)) ∧ (∀ z τ, I Ws Ws.length z τ → Q .next (bnd z) τ)
noncomputable abbrev KWhile {S : Type} (body : List Stmt) (bnd : S → Rho) (J : S → Nat → Prop) (z : S) (Q : Out → Rho → Nat → Prop) : Bool → Nat → Prop := fun c υ => if c then WS prog w C (bnd z) body υ X (KLoop bnd J Q) else Q .next (bnd z) υ
noncomputable abbrev KP0 (Q : V → Nat → Prop) : V → Nat → Prop := fun W τ => ∃ a b, W = .tup [a, b] ∧ Q a τ
noncomputable abbrev KP1 (Q : V → Nat → Prop) : V → Nat → Prop := fun W τ => ∃ a b, W = .tup [a, b] ∧ Q b τ
noncomputable abbrev KInc (x : Str) (a : Int) (Q : Out → Rho → Nat → Prop) : V → Nat → Prop := fun W τ => ∃ b, W = .int b ∧ Q .next ((x, .val (.int (a + b))) :: ρ) τ
end
section
variable {prog : Program} {w : World} {C : Cx} {ρ : Rho} {σ : Nat} {X : Int → Prop}
section
variable {Q : Out → Rho → Nat → Prop}
theorem ws_cons' {b : Stmt} {r : List Stmt} (h : W1 prog w C ρ b σ X (KS prog w C X r Q)) : WS prog w C ρ (b :: r) σ X Q := ws_cons h
theorem s_if' {test : Expr} {body orelse : List Stmt} {pos : Pos} (h : WT prog w C ρ test σ X (KIf prog w C ρ X body orelse Q)) : W1 prog w C ρ (.If test body orelse pos) σ X Q := s_if h
theorem s_assign' {x : Str} {p pos : Pos} {value : Expr} (hx : Sto C x) (h : WE prog w C ρ value σ X (KAsg ρ x Q)) (hs : ∀ env, swapsWith value (some (.Name x p)) pos.line env = pure false := by intro _; rfl) : W1 prog w C ρ (.Assign [.Name x p] value pos) σ X Q := s_assign hx h hs
theorem s_own' {x : Str} {p pos : Pos} {value : Expr} (hx : Sto C x) (h : WN prog w C ρ (eval value C.env) σ X (KOwn ρ x Q)) (hs : ∀ env, swapsWith value (some (.Name x p)) pos.line env = pure false := by intro _; rfl) : W1 prog w C ρ (.Assign [.Name x p] value pos) σ X Q := s_own hx h hs
theorem s_return' {value : Expr} {pos : Pos} (h : WE prog w C ρ value σ X (KRet ρ Q)) : W1 prog w C ρ (.Return (some value) pos) σ X Q := s_return h
theorem s_iadd' {x : Str} {p pos : Pos} {value : Expr} {a : Int} (hs : Sto C x) (hx : ρ.lookup x = some (.val (.int a))) (h : WE prog w C ρ value σ X (KInc ρ x a Q)) : W1 prog w C ρ (.AugAssign (.Name x p) .Add value pos) σ X Q := s_iadd hs hx h
theorem s_for' {target iter : Expr} {body : List Stmt} {pos : Pos} {S : Type} (bnd : S → Rho) (I : List V → Nat → S → Nat → Prop) (h : WE prog w C ρ iter σ X (KFor prog w C ρ X target body bnd I Q))
    (hs : ∀ env x, foldedSetIterable iter env x = pure x := by intro _ _; rfl) : W1 prog w C ρ (.For target iter body [] pos) σ X Q := s_for bnd I h hs
theorem s_while' {test : Expr} {body : List Stmt} {pos : Pos} {S : Type} (bnd : S → Rho) (μ : S → Nat → Nat) (I : S → Nat → Prop) (h0 : ∃ z, Sub (bnd z) ρ ∧ I z σ)
    (h : ∀ z τ, I z τ → WT prog w C (bnd z) test τ X (KWhile prog w C X body bnd (fun z' φ => I z' φ ∧ μ z' φ < μ z τ) z Q)) : W1 prog w C ρ (.While test body [] pos) σ X Q := s_while bnd μ I h0 h
theorem s_swap' {elts : List Expr} {k : Nat} {tpos pos : Pos} {value : Expr} {names : List Str} (hx : ∀ x ∈ names, Sto C x) (h : WE prog w C ρ value σ X (KSw ρ names Q))
    (hs : ∀ env, swapsWithSole [.Tuple elts k tpos] value pos.line env = pure false := by intro _; rfl) (hw : swappedStores [.Tuple elts k tpos] value C.env = pure (some names) := by rfl) : W1 prog w C ρ (.Assign [.Tuple elts k tpos] value pos) σ X Q := s_swap hx h hs hw
theorem s_append' {x : Str} {p p2 p3 pos : Pos} {e : Expr} {Ws : List V} (hx : ρ.lookup x = some (.own Ws)) (hz : Ws.length ≤ 1000000) (h : WE prog w C ρ e σ X (KApp ρ x Ws Q))
    (hd : (x == ("__debug__" : Str)) = false := by decide) (he : ∀ env, backTo p3 (starEach [e] env) = [(false, eval e env)] := by intro _; rfl)
    (hc : ∀ env, ∃ pl, eval (.Call (.Attribute (.Name x p) "append" p2) [e] [] p3) env = (do
      let ov ← eval (.Name x p) env
      standAt p2.atName
      let (f, first) ← holding [ov] (getMethod ov "append" pl)
      callWith p3 f first (backTo p3 (starEach [e] env)) (backToKw p3 (keywordEach [] env))) := by intro _; exact ⟨_, rfl⟩) : W1 prog w C ρ (.Expr (.Call (.Attribute (.Name x p) "append" p2) [e] [] p3) pos) σ X Q := s_append hx hz h hd he hc
end
section
variable {Q : V → Nat → Prop}
theorem we_bin' {l r : Expr} {op : Operator} {pos : Pos} (h : WE prog w C ρ l σ X (KB prog w C ρ X r (binaryOp op) Q)) : WE prog w C ρ (.BinOp l op r pos) σ X Q := we_bin h
theorem we_cmp' {l r : Expr} {op : CmpOp} {pos : Pos} (h : WE prog w C ρ l σ X (KB prog w C ρ X r (compareOp op) Q)) (hm : behindInMarks op r = false := by with_unfolding_all rfl) : WE prog w C ρ (.Compare l [op] [r] pos) σ X Q := we_cmp h hm
theorem we_if' {test body orelse : Expr} {pos : Pos} (h : WT prog w C ρ test σ X (KIfE prog w C ρ X body orelse Q)) : WE prog w C ρ (.IfExp test body orelse pos) σ X Q := we_if h
theorem we_tuple' {es : List Expr} {k : Nat} {pos : Pos} (h : WA prog w C ρ pos es σ X (KTup Q)) : WE prog w C ρ (.Tuple es k pos) σ X Q := we_tuple h
theorem we_list' {es : List Expr} {pos : Pos} (h : WA prog w C ρ pos es σ X (KLst Q)) : WE prog w C ρ (.List es pos) σ X Q := we_list h
theorem we_at' {value slice : Expr} {pos : Pos} (h : WL prog w C ρ value σ X (KAt prog w C ρ X slice Q)) (hs : ∀ o i, subscripted slice false o i = operate [o, i] (getItem o i) := by intro _ _; with_unfolding_all rfl) : WE prog w C ρ (.Subscript value slice pos) σ X Q := we_at h hs
theorem we_p0' {value : Expr} {k : Nat} {p pos : Pos} (h : WE prog w C ρ value σ X (KP0 Q)) : WE prog w C ρ (.Subscript value (.Constant (.int 0) k p) pos) σ X Q := we_p0 h
theorem we_p1' {value : Expr} {k : Nat} {p pos : Pos} (h : WE prog w C ρ value σ X (KP1 Q)) : WE prog w C ρ (.Subscript value (.Constant (.int 1) k p) pos) σ X Q := we_p1 h
theorem we_call1' {β : Type} {R : Heap → (Addr → Prop) → β → Value → Prop} {x : Str} {p pos : Pos} {id : String} {e : Expr} (hx : C.env.kindOf x = some .globalImplicit) (hg : C.mg x = none ∧ C.mb x = some (.builtin id))
    (h : J prog w C ρ R (eval e C.env) σ X (KC1 prog w C ρ X R (.builtin id) Q)) (hd : (x == ("__debug__" : Str)) = false := by decide)
    (he : ∀ env, starEach [e] env = [(false, eval e env)] := by intro _; rfl) : WE prog w C ρ (.Call (.Name x p) [e] [] pos) σ X Q := we_call1 hx hg h hd he
theorem we_callT1' {β : Type} {R : Heap → (Addr → Prop) → β → Value → Prop} {x : Str} {p pos : Pos} {T : String} {e : Expr} (hx : C.env.kindOf x = some .globalImplicit) (hg : C.mg x = none ∧ C.mb x = some (.type T))
    (h : J prog w C ρ R (eval e C.env) σ X (KC1 prog w C ρ X R (.type T) Q)) (hd : (x == ("__debug__" : Str)) = false := by decide)
    (he : ∀ env, starEach [e] env = [(false, eval e env)] := by intro _; rfl) : WE prog w C ρ (.Call (.Name x p) [e] [] pos) σ X Q := we_callT1 hx hg h hd he
theorem we_callB' {x : Str} {p pos : Pos} {id : String} {e : Expr} {rest : List Expr} (hx : C.env.kindOf x = some .globalImplicit) (hg : C.mg x = none ∧ C.mb x = some (.builtin id))
    (h : WA prog w C ρ pos (e :: rest) σ X (KCall prog w C ρ X (.builtin id) Q)) (hd : (x == ("__debug__" : Str)) = false := by decide)
    (he : ∀ env, starEach (e :: rest) env = (false, eval e env) :: starEach rest env := by intro _; rfl)
    (hp : ∀ env, (backTo pos (starEach rest env)).any (·.1) = false := by intro _; rfl) : WE prog w C ρ (.Call (.Name x p) (e :: rest) [] pos) σ X Q := we_callB hx hg h hd he hp
end
section
variable {Q : Bool → Nat → Prop}
theorem wt_cmp' {l r : Expr} {op : CmpOp} {pos : Pos} (h : WE prog w C ρ l σ X (KB prog w C ρ X r (compareOp op) (KT Q))) (hm : behindInMarks op r = false := by with_unfolding_all rfl) : WT prog w C ρ (.Compare l [op] [r] pos) σ X Q := wt_cmp h hm
theorem wt_and' {x : Expr} {rest : List Expr} {pos : Pos} (h : WT prog w C ρ x σ X (KAnd prog w C ρ X rest pos Q)) : WT prog w C ρ (.BoolOp .And (x :: rest) pos) σ X Q := wt_and h
theorem wt_or' {x : Expr} {rest : List Expr} {pos : Pos} (h : WT prog w C ρ x σ X (KOr prog w C ρ X rest pos Q)) : WT prog w C ρ (.BoolOp .Or (x :: rest) pos) σ X Q := wt_or h
theorem wt_not' {e : Expr} {pos : Pos} (h : WT prog w C ρ e σ X (KNot Q)) : WT prog w C ρ (.UnaryOp .Not e pos) σ X Q := wt_not h
end
theorem wa_cons' {pos : Pos} {e : Expr} {rest : List Expr} {Q : List V → Nat → Prop} (h : WE prog w C ρ e σ X (KA prog w C ρ X pos rest Q)) (he : ∀ env, starEach (e :: rest) env = (false, eval e env) :: starEach rest env := by intro _; rfl) : WA prog w C ρ pos (e :: rest) σ X Q := wa_cons h he
theorem wl_of' {e : Expr} {Q : Bool × List V → Nat → Prop} (h : WE prog w C ρ e σ X (KSeq Q)) : WL prog w C ρ e σ X Q := wl_of h
end
end Mini
end

section
open PySem PySem.W PyProof.Rows Builtin Builtin.ObjectAttr
set_option maxRecDepth 100000
namespace Mini
noncomputable abbrev excTail : List Value := [.ref 46, .type "Exception", .type "BaseException", .type "object"]
section
variable {prog : Program} {w : World} {A : Around} {E : Value → Shared → Prop} {h : Heap} {g : Array GenState} {d : Drawn} {t : Nat} {os : OsState}
variable {nm q : Str} {C N : Addr} {bs bm : List Value} {hdct : Bool} {sn : List Str} {sub : List Value} {ab : Bool} {col : Option Bool} {dd : Option Addr} {k0 k1 k2 k3 k5 : Option Value}

theorem fault_check {M : Model} {rest : List Value} {Q : Unit → Shared → Prop} (hC : h.get? C = some (excClassObj nm q C N bs excTail hdct sn sub ab col dd k0 k1 k2 k3 k5 "Exception.__new__"))
    (hq : Q () ⟨h, g, d, t, os⟩) : wpAny M A (checkBuiltinCall "Exception.__new__" ⟨.ref C :: rest, []⟩) Q E ⟨h, g, d, t, os⟩ := by
  have F := PySem.F.excBase_Exception
  have hcont : (Value.ref C :: excTail).contains (.type "Exception") = true := by simp
  have hstar := F.noStar
  simp only [checkBuiltinCall, F.newKind, F.newSplit, F.newRow]
  repeat (first | refine wpAny_loadPart_at hC ?_ | (refine wpAny_isSubtype_exc hC ?_; rw [hcont]) | refine wpAny_staticBase_exc hC ?_ | refine wpAny_madeBy_exc hC ?_ | simp only [bne_self_eq_false, Bool.false_eq_true, if_false] | wp_step)
  exact hq

theorem fault_new {R : Result → Shared → Prop} {rest : List Value} (hC : h.get? C = some (excClassObj nm q C N bs excTail hdct sn sub ab col dd k0 k1 k2 k3 k5 "Exception.__new__"))
    (hq : R (.ok (.ret (.ref (h.objs.size + 1)))) ⟨(h.push { cls := .type "tuple", data := .seq rest.toArray }).push
      { cls := .ref C, data := .fields #[.ref h.objs.size, .none, .none, .none, .bool false, .none] }, g, d, t, os⟩) (hrest : rest.length ≤ sizeLine) :
    codeAny (model prog w) A (.builtin "Exception.__new__" ⟨.ref C :: rest, []⟩) R ⟨h, g, d, t, os⟩ := by
  have F := PySem.F.excBase_Exception
  have hends := F.ends
  have hcB : (Value.ref C :: excTail).contains (.type "Exception") = true := by simp
  have hcA : (Value.ref C :: excTail).contains (.type "AttributeError") = false := by simp
  have hcN : (Value.ref C :: excTail).contains (.type "NameError") = false := by simp
  refine PySem.codeAny_builtinAt F.entry ?_
  unfold Builtin.«BaseException.__new__»
  refine PySem.wpAt_bind ?_
  show PySem.wpAt _ _ _ (stack >>= _) _ _ _
  refine PySem.wpAt_bind (PySem.wpAt_stack fun p below => PySem.wpAt_of_wpAny ?_)
  wp_walk
  refine PySem.wpAt_of_wpAny ?_
  rw [F.owner]
  repeat (first | with_reducible refine wpAny_madeHere_exc F.canon hC ?_ | with_reducible refine wpAny_loadPart_at hC ?_ | (with_reducible refine wpAny_isSubtype_exc hC ?_; first | rw [hcB] | rw [hcA] | rw [hcN]) | wp_step)
  show R _ _
  rw [Heap.size_push]
  exact hq

theorem fault_type_call {rest : List Value} {K : Frag} {f : Addr} {Q : PySem.Fin → Shared → Prop} (X : K.In h) (hi : findIn K (.ref C) "__init__" = some (some (.ref f))) (hf : typeIn K (.ref f) = some (.type "function"))
    (hC : h.get? C = some (excClassObj nm q C N bs excTail hdct sn sub ab col dd k0 k1 k2 k3 k5 "Exception.__new__"))
    (hq : ∀ h' e, Heap.MadeExcOf h h' e (.ref C) rest →
      wpAny (model prog w) A (call (.ref f) (.ref e :: rest)) (fun r s' => r = .none ∧ Q (.done (.ret (.ref e))) s') E ⟨h', g, d, t, os⟩) (hrest : rest.length ≤ sizeLine) :
    wpAny (model prog w) A (Builtin.«type.__call__» ⟨.ref C :: rest, []⟩) Q E ⟨h, g, d, t, os⟩ := by
  have F := PySem.F.excBase_Exception
  repeat (first | with_reducible refine wpAny_loadPart_at hC ?_ | with_reducible refine wpAny_madeBy_exc hC ?_ | wp_step)
  refine codeAny_call_builtin_code (Code.quiet_builtin _ F.quiet) (fault_check hC ?_)
  refine fault_new hC ?_ hrest
  show wpAny _ _ _ _ _ _
  have kp : ∀ b o, h.get? b = some o → ((h.push { cls := .type "tuple", data := .seq rest.toArray }).push { cls := .ref C, data := .fields #[.ref h.objs.size, .none, .none, .none, .bool false, .none] }).get? b = some o := fun b o e => Heap.get?_push_of_some _ (Heap.get?_push_of_some _ e)
  have hC₁ := kp _ _ hC
  have X₁ := X.keeps kp
  have hget : ((h.push { cls := .type "tuple", data := .seq rest.toArray }).push
      { cls := .ref C, data := .fields #[.ref h.objs.size, .none, .none, .none, .bool false, .none] }).get? (h.objs.size + 1) = some
      { cls := .ref C, data := .fields #[.ref h.objs.size, .none, .none, .none, .bool false, .none] } := by heap_get
  have hcC : (Value.ref C :: excTail).contains (.ref C) = true := by simp
  unfold isInstance
  repeat (first | with_reducible refine wpAny_loadPart_at hget ?_ | (with_reducible refine wpAny_isSubtype_exc hC₁ ?_; rw [hcC]) | wp_step)
  show wpAny _ _ (typeLookup (.ref C) _) _ _ _
  refine (looks_findIn X₁ hi).here ?_
  refine wpAny_holding (wpAny_bind ((bind_fn X₁ _ hf).here ?_))
  refine wpAny_bind (wpAny_mono (hq _ (h.objs.size + 1) ⟨kp, Heap.get?_none_of_le (Nat.le_succ _), h.objs.size, hget, Heap.get?_none_of_le (Nat.le_refl _), ?_⟩) (fun r s' hr => ?_) fun _ _ x => x)
  · exact Heap.get?_push_of_some _ (Heap.get?_push_at rfl rfl)
  · obtain ⟨rfl, hQ⟩ := hr
    wp_walk
    exact hQ

theorem fault_call {rest : List Value} {K : Frag} {f : Addr} {Q : Value → Shared → Prop} (X : K.In h) (hi : findIn K (.ref C) "__init__" = some (some (.ref f))) (hf : typeIn K (.ref f) = some (.type "function"))
    (hC : h.get? C = some (excClassObj nm q C N bs excTail hdct sn sub ab col dd k0 k1 k2 k3 k5 "Exception.__new__"))
    (hq : ∀ h' e, Heap.MadeExcOf h h' e (.ref C) rest →
      wpAny (model prog w) (A.under (.builtin "type.__call__" ⟨.ref C :: rest, []⟩)) (call (.ref f) (.ref e :: rest)) (fun r s' => r = .none ∧ Q (.ref e) s') E ⟨h', g, d, t, os⟩) (hrest : rest.length ≤ sizeLine) :
    wpAny (model prog w) A (call (.ref C) rest) Q E ⟨h, g, d, t, os⟩ := by
  have f1 := tc_lookup
  have f2 := tc_bind (.ref C)
  have hT : (⟨h, g, d, t, os⟩ : Shared).TypeIs (.ref C) "type" := ⟨_, hC, rfl⟩
  refine wpAny_call (codeAny_of_tree ?_)
  show wpAny _ _ (callAny (.ref C) _) _ _ _
  repeat (any_goals (first | assumption | with_reducible refine wpAny_loadPart_at hC ?_ | wp_step))
  refine ⟨rfl, ?_⟩
  refine codeAny_call_builtin_at (Code.quiet_builtin _ (by decide +kernel)) entry_typeCall (wpAny_check_type_call_sub hC (fault_type_call (hrest := hrest) X hi hf hC fun h' e hm => ?_))
  exact hq h' e hm

/-- a name stored on an exception of an own class -/
theorem fault_set {s : Shared} {K : Frag} {x : Addr} {ox : Obj} {name : Str} {v : Value} {cd : ClassData} {mA : Str → Option Value} {Q : Unit → Shared → Prop} (X : K.In s.heap) (hx : s.heap.get? x = some ox) (hc : ox.cls = .ref C) (hv : ∃ vs, ox.data = .fields vs)
    (hs : findIn K (.ref C) "__setattr__" = some (some (.builtin "object.__setattr__"))) (hcd : clsIn K C = some cd) (hd : cd.hasDict = true) (hm : cd.mro = .ref C :: excTail) (ht : takerIn K C name = some none)
    (hdict : (ox.dict = none ∧ ∀ n, mA n = none) ∨ ∃ dx, ox.dict = some dx ∧ dx ≠ x ∧ s.heap.Ns1 dx mA) (hw : Within mA ["what", "at"])
    (h : ∀ h' tk dx, h'.get? x = some { ox with dict := some dx } → dx ≠ x → h'.Ns1 dx (fun y => if y = name then some v else mA y) → (ox.dict = some dx ∨ (ox.dict = none ∧ s.heap.get? dx = none)) → (∀ b o, b ≠ x → b ≠ dx → s.heap.get? b = some o → h'.get? b = some o) → Q () { s with heap := h', toks := tk }) :
    wpAny (model prog w) A (setAttr (.ref x) name v) Q E s := by
  have I : ∃ od, PySem.W.InstAt s.heap x ox C od := by
    rcases hdict with ⟨h1, _⟩ | ⟨dx, h1, _, hn⟩
    · exact ⟨none, hx, hc, by obtain ⟨vs, hv⟩ := hv; obtain ⟨a, b, c, e⟩ := ox; cases hv; rfl, by rw [h1]; trivial⟩
    · obtain ⟨o, es, ep, g, _⟩ := id hn
      exact ⟨some o, hx, hc, by obtain ⟨vs, hv⟩ := hv; obtain ⟨a, b, c, e⟩ := ox; cases hv; rfl, by rw [h1]; exact g⟩
  obtain ⟨od, I⟩ := I
  obtain ⟨hp, g, dr, tk, os⟩ := s
  dsimp only at X hx hdict I h
  refine set_plain X I hs ?_
  dsimp only
  have SF := PySem.F.store_object
  have hty := I.type (M := model prog w)
  have sub : Looks (model prog w) hp (isInstance (.ref x) (.type "object")) true := hty.andThen (looks_mroIn X (by unfold mroIn; rw [hcd, Option.bind_some, hm]; rfl))
  refine codeAny_call_builtin SF.slot.plain SF.entry (@check_slot (model prog w) _ _ _ "object.__setattr__" "object" "__setattr__" (.ref x) [.str name tk, v] [] _ SF.kind SF.split sub (SF.args (.ref x) (.str name tk) v) ?_)
  obtain ⟨attr, ha, hr⟩ := Option.bind_eq_some_iff.mp ht
  have hmm : Looks (model prog w) hp (mroOf (.ref C)) cd.mro := (looks_clsIn X hcd).andThen .now
  have L3 : Looks (model prog w) hp (storeTaker? attr) none := by
    cases attr with
    | none => exact .now
    | some a =>
      obtain ⟨b, hb, hb'⟩ := Option.map_eq_some_iff.mp hr
      refine (looks_takesIn X hb).andThen ?_
      cases b with
      | true => cases hb'
      | false => exact .now
  rw [osa_eq, refuse_eq]
  refine wpAny_bind (wpAny_bind (hty.here (wpAny_bind (hmm.here ?_))))
  rw [hm, refuseLoop_ref, refuseLoop_ref, PySem.F.store_Exception.passes]
  refine wpAny_pure (wpAny_bind (hty.here (wpAny_bind ((looks_findIn X ha).here (wpAny_bind (L3.here ?_))))))
  show wpAny _ _ (storeInOwnDict (.ref x) (.ref C) (.str name tk) name v _) _ _ _
  unfold storeInOwnDict
  refine wpAny_bind (wpAny_pure ?_)
  have hb : (Value.ref C == Value.type "module") = false := rfl
  dsimp only
  rw [hb]
  refine wpAny_bind ?_
  show wpAny _ _ (instanceDict x true) _ _ _
  unfold instanceDict
  refine wpAny_bind (wpAny_loadPart hx ?_)
  obtain ⟨oc, od', oda, osl⟩ := ox
  dsimp only at hc hdict hv
  subst hc
  obtain ⟨vs, rfl⟩ := hv
  refine wpAny_bind ((looks_clsIn X hcd).here ?_)
  rw [hd, if_neg (by decide)]
  dsimp only
  rcases hdict with ⟨rfl, hmA⟩ | ⟨dx, rfl, hne, hns⟩
  · dsimp only
    have hx₁ : (hp.push { cls := .type "dict", data := .dict #[] }).get? x = some ⟨.ref C, none, .fields vs, osl⟩ := Heap.get?_push_of_some _ hx
    have hxs : x ≠ hp.objs.size := Nat.ne_of_lt (Heap.lt_size hx)
    have e1 : (!true || !typeHasDict (Value.ref C)) = false := rfl
    rw [e1, if_neg (by decide)]
    refine wpAny_bind (wpAny_alloc ?_)
    refine wpAny_bind (wpAny_update hx₁ ?_)
    refine wpAny_pure ?_
    have hgd : ((hp.push { cls := .type "dict", data := .dict #[] }).update x fun o => { cls := o.cls, dict := some hp.objs.size, data := o.data, slots := o.slots }).get? hp.objs.size
        = some { cls := .type "dict", data := .dict #[] } :=
      (Heap.get?_update_other _ _ hxs).trans (Heap.get?_push_at rfl rfl)
    have hnd : ((hp.push { cls := .type "dict", data := .dict #[] }).update x fun o => { cls := o.cls, dict := some hp.objs.size, data := o.data, slots := o.slots }).Ns hp.objs.size (fun _ => none) :=
      ⟨_, #[], _, hgd, rfl, fun e he => absurd he (by simp), fun _ => rfl⟩
    show wpAny _ _ (storeInDict hp.objs.size (.str name tk) name v) _ _ _
    unfold storeInDict newKeyGuard
    refine wpAny_bind (wpAny_pure (wpAny_bind (wpAny_nsSet1 (Heap.Ns1.of_empty hnd) fun h' hn' hs => ?_)))
    obtain ⟨oD, esD, epD, hoD, hdD, hcD⟩ := hn'.count (Within.cons name v Within.nil)
    refine wpAny_bind (wpAny_lookBehind hoD (by rw [hdD]; exact pastItsLine_dict (Nat.le_trans hcD (by rw [List.length_cons, List.length_nil, sizeLine_eq]; lia))) ?_)
    refine wpAny_pure (h h' _ hp.objs.size ?_ (Ne.symm hxs) ?_ (.inr ⟨rfl, none_of_size⟩) fun b o h1 h2 e => ?_)
    · exact (hs.2 x hxs).trans (Heap.get?_update_self _ hx₁ rfl)
    · obtain ⟨o', es, ep, e1, e2, e3, eu, e4⟩ := hn'
      exact ⟨o', es, ep, e1, e2, e3, eu, fun y => by rw [e4 y]; by_cases hy : y = name <;> simp [hy, hmA]⟩
    · exact (hs.2 b h2).trans ((Heap.get?_update_other _ _ (Ne.symm h1)).trans (Heap.get?_push_of_some _ e))
  · dsimp only
    refine wpAny_pure ?_
    show wpAny _ _ (storeInDict dx (.str name tk) name v) _ _ _
    unfold storeInDict newKeyGuard
    refine wpAny_bind (wpAny_pure (wpAny_bind (wpAny_nsSet1 hns fun h' hn' hs => ?_)))
    obtain ⟨oD, esD, epD, hoD, hdD, hcD⟩ := hn'.count (Within.cons name v hw)
    refine wpAny_bind (wpAny_lookBehind hoD (by rw [hdD]; exact pastItsLine_dict (Nat.le_trans hcD (by simp only [List.length_cons, List.length_nil]; rw [sizeLine_eq]; lia))) ?_)
    exact wpAny_pure (h h' _ dx ((hs.2 x hne.symm).trans hx) hne hn' (.inl rfl) fun b o h1 h2 e => (hs.2 b h2).trans e)
end
end Mini
end

section
open PySem PySem.W PyProof.Rows Builtin Builtin.ObjectAttr
set_option maxRecDepth 100000
namespace Mini
section
variable {prog : Program} {w : World} {A : Around} {E : Value → Shared → Prop} {h : Heap} {g : Array GenState} {d : Drawn} {t : Nat} {os : OsState}
variable {nm q : Str} {C N : Addr} {bs bm : List Value} {hdct : Bool} {sn : List Str} {sub : List Value} {ab : Bool} {col : Option Bool} {dd : Option Addr} {k0 k1 k2 k3 k5 : Option Value}

theorem fault_check_init {M : Model} {e : Addr} {oe : Obj} {rest : List Value} {Q : Unit → Shared → Prop}
    (hC : h.get? C = some (excClassObj nm q C N bs excTail hdct sn sub ab col dd k0 k1 k2 k3 k5 "Exception.__new__")) (he : h.get? e = some oe) (hcls : oe.cls = .ref C) (hq : Q () ⟨h, g, d, t, os⟩) :
    wpAny M A (checkBuiltinCall "Exception.__init__" ⟨.ref e :: rest, []⟩) Q E ⟨h, g, d, t, os⟩ := by
  have F := PySem.F.excBase_Exception
  have hcB : (Value.ref C :: excTail).contains (.type "Exception") = true := by simp
  have hshort := F.noStar
  simp only [checkBuiltinCall, F.initKind, F.initSplit, F.initRow]
  repeat (first | (with_reducible refine wpAny_loadPart_at he ?_; rw [hcls]) | with_reducible refine wpAny_loadPart_at hC ?_ | (with_reducible refine wpAny_isSubtype_exc hC ?_; rw [hcB]) | wp_step)
  refine wpAny_onRaise ?_
  rw [show ∀ (a b : String) (n : Nat), Bind.check ⟨.positional, "*", "Exception", .self, [⟨"args", .varPos, false⟩]⟩ a b n (List.map (fun x => x.fst) ({ pos := Value.ref e :: rest } : Args).kw) = pure () from
    fun a b n => check_star_args _ _ _ _ _ _]
  exact wpAny_pure hq

/-- Exception.__init__(self, what) -/
theorem base_init {e t0 : Addr} {dx : Option Addr} {v : Value} {Q : Value → Shared → Prop}
    (hC : h.get? C = some (excClassObj nm q C N bs excTail hdct sn sub ab col dd k0 k1 k2 k3 k5 "Exception.__new__")) (he : h.get? e = some { cls := .ref C, dict := dx, data := .fields #[.ref t0, .none, .none, .none, .bool false, .none] })
    (hq : ∀ h' t1, h'.get? e = some { cls := .ref C, dict := dx, data := .fields #[.ref t1, .none, .none, .none, .bool false, .none] } → (∀ b o, b ≠ e → h.get? b = some o → h'.get? b = some o) → Q .none ⟨h', g, d, t, os⟩) :
    wpAny (model prog w) A (call (.builtin "Exception.__init__") [.ref e, v]) Q E ⟨h, g, d, t, os⟩ := by
  have F := PySem.F.excBase_Exception
  refine wpAny_call (codeAny_call_builtin F.init.plain F.initEntry (fault_check_init hC he rfl ?_))
  unfold Builtin.«BaseException.__init__»
  wp_walk
  refine hq _ h.objs.size ?_ fun b o hb e => ?_
  · rw [Heap.get?_update_self _ (Heap.get?_push_of_some _ he) rfl]
    rfl
  · rw [Heap.get?_update_other _ _ (Ne.symm hb)]
    exact Heap.get?_push_of_some _ e

theorem raise_made {s : Shared} {env : Env} {x : Sem Value} {Q : Flow → Shared → Prop} (hh : A.handled = none)
    (h : wpAny (model prog w) A x (fun v s₁ => ∃ e dx t0, v = .ref e ∧ s₁.heap.get? C = some (excClassObj nm q C N bs excTail hdct sn sub ab col dd k0 k1 k2 k3 k5 "Exception.__new__") ∧
      s₁.heap.get? e = some { cls := .ref C, dict := dx, data := .fields #[.ref t0, .none, .none, .none, .bool false, .none] } ∧ E (.ref e) s₁) E s) :
    wpAny (model prog w) A (raiseStmt env (some x) none) Q E s := by
  have hcB : (Value.ref C :: excTail).contains (.type "BaseException") = true := by simp
  unfold raiseStmt
  refine wpAny_bind (wpAny_mono h (fun v s₁ h₁ => ?_) fun _ _ x => x)
  obtain ⟨e, dx, t0, rfl, hC, he, hE⟩ := h₁
  obtain ⟨hp, g, d, tk, os⟩ := s₁
  repeat (first | with_reducible refine wpAny_loadPart_at he ?_ | with_reducible refine wpAny_loadPart_at hC ?_ | (with_reducible refine wpAny_isSubtype_exc hC ?_; rw [hcB]) | wp_step)
  exact wpAny_raiseNew_none hh hE
end
end Mini
end

section
open PySem PySem.W PyProof.Rows Builtin Builtin.ObjectAttr
set_option maxRecDepth 100000
namespace Mini
/-- a context over the program's heap -/
structure Bs (p : Params) (C : Cx) : Prop where
  K : C.K = KP p
  g : ∀ x v, nsIn (KP p) mainGlobals x = some v → C.mg x = v
  b : ∀ x, x ≠ ("__name__" : Str) → C.mb x = bootBuiltins x
theorem Bs.callee {p : Params} {C : Cx} (B : Bs p C) (env : Env) (own : Own) (s : Shared) : Bs p (C.callee env own s) := ⟨B.K, B.g, B.b⟩
theorem Bs.comp {p : Params} {C : Cx} (B : Bs p C) (scope : Scope) (cl : List (Str × Addr)) (Ca : Addr) : Bs p (C.comp scope cl Ca) := ⟨B.K, B.g, B.b⟩

noncomputable def F36 (p : Params) : FuncData := fdAt ((KP p).lookup 36)
theorem l36 (p : Params) : ∃ o, (KP p).lookup 36 = some o ∧ o.data = .func (F36 p) := ⟨_, rfl, rfl⟩
theorem l29 (p : Params) : ∃ o n tk, (KP p).lookup 29 = some o ∧ o.data = .seq #[.int (-1) tk] n := ⟨_, _, _, rfl, rfl⟩
noncomputable def ld {C : Cx} := C

section
variable {prog : Program} {w : World} {A : Around} {E : Value → Shared → Prop} {p : Params}

theorem ns1_ns {h : Heap} {a : Addr} {m : Str → Option Value} (x : h.Ns1 a m) : h.Ns a m := by
  obtain ⟨o, es, ep, h1, h2, h3, _, h4⟩ := x
  exact ⟨o, es, ep, h1, h2, h3, h4⟩

/-- the fault's own making: what it leaves -/
noncomputable def Made (s : Shared) (e : Addr) (n : Int) (s' : Shared) : Prop := ∃ h' tk dx t0 m t, s' = { s with heap := h', toks := tk } ∧ s.heap.get? e = none ∧ s.heap.get? dx = none ∧ dx ≠ e ∧ (∀ b o, s.heap.get? b = some o → h'.get? b = some o) ∧
  h'.get? e = some { cls := .ref 59, dict := some dx, data := .fields #[.ref t0, .none, .none, .none, .bool false, .none] } ∧ h'.Ns dx m ∧ m "at" = some (.int n t)

theorem cls59 (p : Params) : ∃ nm q N bs hdct sn sub ab col dd k0 k1 k2 k3 k5, (KP p).lookup 59 = some (excClassObj nm q 59 N bs excTail hdct sn sub ab col dd k0 k1 k2 k3 k5 "Exception.__new__") := ⟨_, _, _, _, _, _, _, _, _, _, _, _, _, _, _, rfl⟩
theorem cd59 (p : Params) : ∃ cd, clsIn (KP p) 59 = some cd ∧ cd.hasDict = true ∧ cd.mro = .ref 59 :: excTail := ⟨_, rfl, rfl, rfl⟩

set_option maxHeartbeats 1000000 in
theorem fault_made {s : Shared} {mg mb : Str → Option Value} {msg : Str} {tm tn : Tok} {n : Int} {Q : Value → Shared → Prop} (X : (KP p).In s.heap) (hd : A.handled = none) (hroom : A.depth + 2 < recursionLimit) (hlim : s.heap.NoLimit) (hg : s.heap.Ns mainGlobals mg) (hb : s.heap.Ns builtinsNs mb)
    (hge : mg "Exception" = none) (hbe : mb "Exception" = some (.type "Exception")) (hq : ∀ e s', Made s e n s' → Q (.ref e) s') : wpAny (model prog w) A (call (.ref 59) [.str msg tm, .int n tn]) Q E s := by
  obtain ⟨hp, g, d, tk, os⟩ := s
  dsimp only at X hlim hg hb
  obtain ⟨nm, q, N, bs, hdct, sn, sub, ab, col, dd, k0, k1, k2, k3, k5, h59⟩ := cls59 p
  refine fault_call (K := KP p) (f := 36) X rfl rfl (X _ _ h59) (fun h' e hm => ?_) (by simp [sizeLine_eq])
  obtain ⟨t0, he, ht0, hgt0⟩ := hm.there
  have kp := hm.keeps
  obtain ⟨o36, h36, d36⟩ := l36 p
  have X' := X.keeps kp
  obtain ⟨o29, n29, t29, h29, d29⟩ := l29 p
  refine wpAny_call (codeAny_call_def (fd := F36 p) (body := bodyAt (F36 p)) (binds := [("self", .ref e), ("what", .str msg tm), ("at", .int n tn)]) ?_ (X' _ _ h36) d36 (hlim.keeps kp) (codeRec_of X' rfl) rfl ?_ ?_ ?_ (fun h₀ hns hk => ?_) rfl rfl rfl)
  · show A.depth + 1 < _; lia
  · exact BindsTo.of_defaults (T := 29) rfl (X' _ _ h29) d29 rfl rfl
  · intro x hx
    rcases hx with _ | ⟨_, _ | ⟨_, _ | ⟨_, _ | ⟨_, ⟨⟩⟩⟩⟩⟩ <;> (intro h; cases h)
  · intro x hx
    rcases hx with _ | ⟨_, _ | ⟨_, _ | ⟨_, ⟨⟩⟩⟩⟩ <;> rfl
  · dsimp only at hns hk ⊢
    generalize hL : h'.objs.size = L at *
    have FR : ∀ {hh : Heap}, (∀ b o, h'.get? b = some o → hh.get? b = some o) → hh.Ns L (fun x => List.lookup x [("at", Value.int n tn), ("what", .str msg tm), ("self", .ref e)]) → Fr h' L hh (fun x => List.lookup x [("at", Value.int n tn), ("what", .str msg tm), ("self", .ref e)]) := fun k hn => ⟨hn, k, Nat.le_of_eq hL⟩
    have hns' : h₀.Ns L (fun x => List.lookup x [("at", Value.int n tn), ("what", .str msg tm), ("self", .ref e)]) := hns
    have heL : e ≠ L := fun q => by rw [q] at he; have := Heap.lt_size he; rw [hL] at this; exact Nat.lt_irrefl _ this
    obtain ⟨env, hE, kS, kW, kA, kE, kK, eG, eB, eL⟩ : ∃ env, callEnv (F36 p) L 36 = env ∧ env.kindOf "self" = some .local ∧ env.kindOf "what" = some .local ∧ env.kindOf "at" = some .local ∧ env.kindOf "Exception" = some .globalImplicit ∧ env.scope.kind = .function ∧ env.globals = mainGlobals ∧ env.builtins = builtinsNs ∧ env.locals = L := ⟨_, rfl, rfl, rfl, rfl, rfl, rfl, rfl, rfl, rfl⟩
    have hI : interactive env = false := by unfold interactive; rw [kK]; rfl
    rw [hE]
    -- Exception.__init__(self, what)
    refine wpAny_execs_cons (wpAny_Expr_any (env := env) ?_ hI rfl)
    refine methodCall_KW (pl := _) ?_ rfl
    refine Calls.Name_function_global kK kE (Calls.loadGlobal_builtin (mg := mg) (mb := mb) (eG ▸ (hg.keeps kp).keeps hk) hge (eB ▸ (hb.keeps kp).keeps hk) hbe ?_) (by decide)
    refine method_type (K := KP p) (FR hk hns') X' rfl rfl rfl rfl ?_
    refine Calls.callWith_builtin rfl (Calls.evalArgs_plain ?_)
    refine Calls.spliced_cons (wpAny_Name (wpAny_loadName_local kK kS (eL ▸ hns') rfl ?_) (by decide))
    refine Calls.spliced_cons (wpAny_Name (wpAny_loadName_local kK kW (eL ▸ hns') rfl ?_) (by decide))
    refine Calls.spliced_nil ?_
    refine base_init (C := 59) (hk _ _ (kp _ _ (X _ _ h59))) (hk _ _ he) fun h₂ t1 he₂ k₂ => ?_
    have hL₂ : h₂.Ns L (fun x => List.lookup x [("at", Value.int n tn), ("what", .str msg tm), ("self", .ref e)]) := hns'.at' fun o g => k₂ L o (Ne.symm heL) g
    -- everything of old stands
    have ne : ∀ b o, hp.get? b = some o → b ≠ e := fun b o g q => by rw [q, hm.new] at g; cases g
    have keep₂ : ∀ b o, hp.get? b = some o → h₂.get? b = some o := fun b o g => k₂ b o (ne b o g) (hk b o (kp b o g))
    obtain ⟨cd, c1, c2, c3⟩ := cd59 p
    -- self.what = what
    refine wpAny_execs_cons (plainObj_wpAny_Assign_Attribute ?_ rfl)
    refine wpAny_Name (wpAny_loadName_local kK kW (eL ▸ hL₂) rfl ?_) (by decide)
    refine wpAny_Name (wpAny_loadName_local kK kS (eL ▸ hL₂) rfl ?_) (by decide)
    refine fault_set (C := 59) (K := KP p) (mA := fun _ => none) (X.keeps keep₂) he₂ rfl ⟨_, rfl⟩ rfl c1 c2 c3 rfl (.inl ⟨rfl, fun _ => rfl⟩) (fun _ h => absurd rfl h) fun h₃ tk₃ dx he₃ hde hn₃ hfresh k₃ => ?_
    rcases hfresh with hfresh | ⟨_, hfresh⟩
    · cases hfresh
    have hdL : dx ≠ L := fun q => by
      obtain ⟨o, _, _, g, _⟩ := hL₂
      dsimp only at hfresh
      rw [q, g] at hfresh; cases hfresh
    have hL₃ : h₃.Ns L (fun x => List.lookup x [("at", Value.int n tn), ("what", .str msg tm), ("self", .ref e)]) := hL₂.at' fun o g => k₃ L o (Ne.symm heL) (Ne.symm hdL) g
    have nd : ∀ b o, hp.get? b = some o → b ≠ dx := fun b o g q => by have := keep₂ b o g; dsimp only at hfresh; rw [q, hfresh] at this; cases this
    have keep₃ : ∀ b o, hp.get? b = some o → h₃.get? b = some o := fun b o g => k₃ b o (ne b o g) (nd b o g) (keep₂ b o g)
    -- self.at = at
    refine wpAny_execs_cons (plainObj_wpAny_Assign_Attribute ?_ rfl)
    refine wpAny_Name (wpAny_loadName_local kK kA (eL ▸ hL₃) rfl ?_) (by decide)
    refine wpAny_Name (wpAny_loadName_local kK kS (eL ▸ hL₃) rfl ?_) (by decide)
    refine fault_set (C := 59) (K := KP p) (X.keeps keep₃) he₃ rfl ⟨_, rfl⟩ rfl c1 c2 c3 rfl (.inr ⟨dx, rfl, hde, hn₃⟩) (fun y hy => ?_) fun h₄ tk₄ dx' he₄ hde' hn₄ hfresh' k₄ => ?_
    · by_cases q : y = "what"
      · simp [q]
      · exact absurd (if_neg q) hy
    have e2 : dx = dx' := by
      rcases hfresh' with h | ⟨h, _⟩
      · simpa using h
      · cases h
    subst e2
    have keep₄ : ∀ b o, hp.get? b = some o → h₄.get? b = some o := fun b o g => k₄ b o (ne b o g) (nd b o g) (keep₃ b o g)
    refine wpAny_execs_nil ⟨rfl, hq e _ ⟨h₄, tk₄, dx, t1, _, tn, rfl, hm.new, ?_, hde, keep₄, he₄, ns1_ns hn₄, by simp⟩⟩
    cases q : hp.get? dx with
    | none => rfl
    | some o => exact absurd rfl (nd dx o q)
end
end Mini
end

section
open PySem PySem.W PyProof.Rows Builtin Builtin.ObjectAttr
set_option maxRecDepth 100000
namespace Mini
section
variable {prog : Program} {w : World} {A : Around} {E : Value → Shared → Prop} {p : Params}
theorem fault_get {s : Shared} {x : Addr} {ox : Obj} {vs : Array Value} {dx : Addr} {m : Str → Option Value} {n : Int} {t : Tok} {Q : Value → Shared → Prop} {expr : Bool} (X : (KP p).In s.heap) (hx : s.heap.get? x = some ox) (hc : ox.cls = .ref 59) (hv : ox.data = .fields vs)
    (hd : ox.dict = some dx) (hn : s.heap.Ns dx m) (hm : m "at" = some (.int n t)) (h : ∀ tk, Q (.int n t) { s with toks := tk }) : wpAny (model prog w) A (getAttr (.ref x) "at" expr) Q E s := by
  obtain ⟨o, es, ep, g, hdd, hk, hmm⟩ := id hn
  have I : PySem.W.InstAt s.heap x ox 59 (some o) := ⟨hx, hc, by obtain ⟨a, b, c, e⟩ := ox; cases hv; rfl, by rw [hd]; exact g⟩
  obtain ⟨hp, gg, d, tk, os⟩ := s
  dsimp only at X hx hn g I h
  have L0 := I.type (M := model prog w)
  have L1 : Looks (model prog w) hp (typeLookup (.ref 59) "__getattribute__") (some (.builtin "BaseException.__getattribute__")) := looks_findIn X (by rfl)
  have L2 : Looks (model prog w) hp (typeLookup (.ref 59) "__getattr__") none := looks_findIn X (by rfl)
  unfold getAttr getAttrBy
  refine wpAny_bind (wpAny_mkText (wpAny_holding (wpAny_bind (L0.at (wpAny_bind (L1.at ?_))))))
  have hx2 : (onTheHeap (Value.ref 59) && Value.builtin "BaseException.__getattribute__" == Value.builtin "object.__getattribute__") = false := by
    have : (Value.builtin "BaseException.__getattribute__" == Value.builtin "object.__getattribute__") = false := by decide +kernel
    rw [this]; rfl
  dsimp only
  rw [hx2, if_neg (by decide)]
  unfold getAttrByItsOwn
  refine wpAny_bind ((looks_hook X (r := none) (by rfl)).at ?_)
  have e1 : (expr && onTheHeap (Value.builtin "BaseException.__getattribute__")) = false := by cases expr <;> rfl
  unfold callGetattribute boundAndCalled
  rw [e1, if_neg (by decide)]
  have fb := PySem.F.attrBase_Exception.ga.bind (.ref x)
  refine wpAny_bind (wpAny_attempt (wpAny_holding ?_))
  rw [fb]
  refine wpAny_bind (wpAny_pure (wpAny_call ?_))
  have sub : Looks (model prog w) hp (isInstance (.ref x) (.type "BaseException")) true := L0.andThen (looks_mroIn X (by rfl))
  refine codeAny_call_builtin PySem.F.attrBase_Exception.ga.plain PySem.F.entry_bexc_ga (@check_slot (model prog w) _ _ _ "BaseException.__getattribute__" "BaseException" "__getattribute__" (.ref x) [.str "at" tk] [] _ (by decide +kernel) (by decide +kernel) sub (PySem.F.args_bexc_ga _ _) ?_)
  have hl : lookIn "at" o = some (some (.int n t)) := by
    unfold lookIn
    rw [hdd]
    have h2 := hmm "at"
    rw [hm] at h2
    have look : ∀ l : List DictEntry, (l.find? fun e => e.key.isStr ("at" : Str)).map (·.val) = some (.int n t) → (match l.find? (fun e => e.key.isStr ("at" : Str)) with
        | some e => some (some e.val)
        | none => if l.any (·.refKey) then none else some none) = some (some (.int n t)) := fun l h => by
      cases q : l.find? (fun e => e.key.isStr ("at" : Str)) with
      | none => rw [q] at h; cases h
      | some en => rw [q] at h; simp only [Option.map_some, Option.some.injEq] at h; simp only [h]
    refine look es.toList ?_
    rw [Array.find?_toList]
    exact h2
  have hfo : findObj (KP p) 59 (some o) "at" = some (.value (.int n t)) := findObj_own (by rfl) (by rfl) (by rfl) hl
  have LF := looks_find (M := model prog w) X I hfo
  unfold Builtin.«object.__getattribute__»
  refine wpAny_bind (wpAny_pure ?_)
  refine wpAny_bind (wpAny_pure (wpAny_bind (L0.at (wpAny_bind (LF.at (wpAny_pure ?_))))))
  refine wpAny_pure ?_
  exact h _
end

section
variable {prog : Program} {w : World} {C : Cx} {ρ : Rho} {σ : Nat} {X : Int → Prop} {Q : Out → Rho → Nat → Prop} {p : Params}

theorem made_fly {own : Own} {s s' : Shared} {e : Addr} {n : Int} (ok : C.Ok) (st : St C ρ own σ s) (m : Made s e n s') : Fly C e n false s' := by
  obtain ⟨h', tk, dx, t0, m, t, rfl, hne, hnd, hde, k, he, hn, hm⟩ := m
  have st' := st.to (st.ext ok (tk := tk) k)
  obtain ⟨f1, f2, _⟩ := fresh_facts st hne
  refine ⟨st'.gs, st'.inv.base, st'.inv.frs, ⟨f1, f2⟩, st'.gk, st'.ml, ⟨σ, st'.i⟩, ⟨_, _, dx, m, t, he, rfl, rfl, by simp, rfl, fun env he hf => ?_, hn, hm, .inl ⟨rfl, rfl⟩⟩⟩
  obtain ⟨_, m', o, _, _, g, _⟩ := st.inv.frs.at he hf
  rw [hnd] at g; cases g

theorem s_raise {msg : Str} {k : Nat} {e2 : Expr} {np p1 cpos pos : Pos} (B : Bs p C) (hr : 1 < C.r) (hx : C.env.kindOf "SetFault" = some .globalImplicit) (h : WE prog w C ρ e2 σ X (fun W τ => ∃ n, W = .int n ∧ X n))
    (he : ∀ env, backTo cpos (starEach [(.Constant (.str msg) k p1), e2] env) = [(false, eval (.Constant (.str msg) k p1) env), (false, eval e2 env)] := by intro _; rfl) : W1 prog w C ρ (.Raise (some (.Call (.Name "SetFault" np) [.Constant (.str msg) k p1, e2] [] cpos)) none pos) σ X Q := fun ok sp s own Qc Ec st ps ex => by
  rw [arm_exec_Raise]
  simp only [evalOpt, Option.map]
  refine wpAny_bind (wpAny_standAt ?_)
  obtain ⟨nm, q, N, bs, hdct, sn, sub, ab, col, dd, k0, k1, k2, k3, k5, h59⟩ := cls59 p
  refine raise_made (C := 59) (nm := nm) (q := q) (N := N) (bs := bs) (hdct := hdct) (sn := sn) (sub := sub) (ab := ab) (col := col) (dd := dd) (k0 := k0) (k1 := k1) (k2 := k2) (k3 := k3) (k5 := k5) ok.hd ?_
  refine wpAny_bind (wpAny_Call_ofName ?_)
  refine Calls.Name_function_global ok.kind hx (Calls.loadGlobal_global (mg := C.mg) (ok.glob ▸ ok.g.keeps st.inv.base) (B.g _ _ rfl) ?_) (by decide)
  rw [he]
  unfold callWith
  refine wpAny_bind (wpAny_holding ?_)
  refine Calls.evalArgs_plain (Calls.spliced_cons (Calls.Constant_str ?_))
  have st₀ := st.to (st.toks ok (tk := s.toks + 1))
  refine Calls.spliced_cons (h ok _ own _ _ st₀ (fun v W τ s₁ t₁ r₁ ⟨n, e, hX⟩ => ?_) ex)
  subst e; simp only [Rep] at r₁; obtain ⟨tn, rfl⟩ := r₁
  have st₁ := st₀.to t₁
  refine Calls.spliced_nil (wpAny_bind (wpAny_standAt ?_))
  have X₁ : (KP p).In s₁.heap := fun a o hh => st₁.inv.base a o (ok.kin a o (by rw [B.K]; exact hh))
  obtain ⟨hp, g, d, tk, os⟩ := s₁
  simp only [List.any_cons, List.any_nil, Bool.or_false, Bool.false_eq_true, if_false]
  refine wpAny_bind (wpAny_keeperOf_exc (X₁ _ _ h59) ?_)
  refine wpAny_bind (fault_made (p := p) (mg := C.mg) (mb := C.mb) X₁ ok.hd (by have := ok.room; lia) (ok.lim.keeps st₁.inv.base) (ok.g.keeps st₁.inv.base) (ok.b.keeps st₁.inv.base) (B.g _ _ rfl) ((B.b _ (by decide)).trans rfl) fun e s' hm => ?_)
  refine wpAny_bind (wpAny_holding (wpAny_point (wpAny_pure ?_)))
  have F := made_fly ok st₁ hm
  obtain ⟨h', tk', dx, t0, m, t, rfl, hne, hnd, hde, kk, hee, hn, hma⟩ := hm
  exact wpAny_bind (wpAny_standAt (wpAny_pure ⟨e, _, t0, rfl, kk _ _ (X₁ _ _ h59), hee, ex n e false _ hX F⟩))
end
end Mini
end

section
open PySem PySem.W PyProof.Rows Builtin Builtin.ObjectAttr
set_option maxRecDepth 100000
namespace Mini
section
variable {prog : Program} {w : World} {C : Cx} {ρ : Rho} {σ : Nat} {X : Int → Prop} {Q : Out → Rho → Nat → Prop} {p : Params}
theorem Fly.toks {e : Addr} {n : Int} {b : Bool} {s : Shared} {tk : Nat} (f : Fly C e n b s) : Fly C e n b { s with toks := tk } := by
  obtain ⟨h, t, e⟩ := f.same
  exact ⟨⟨h, tk, by rw [e]⟩, f.base, f.frs, f.newe, f.gk, f.ml, f.i, f.trc⟩

/-- after the fault is told: the state -/
theorem fly_st {e : Addr} {n : Int} {b : Bool} {s : Shared} {h' : Heap} {tk : Nat} {m' : Str → Option Value} (ok : C.Ok) (sp : C.Sp) (ap : C.Ap) (hcells : C.env.cells = []) (f : Fly C e n b s) (k : ∀ b o, b ≠ C.env.locals → s.heap.get? b = some o → h'.get? b = some o) (hn : h'.Ns C.env.locals m') : ∃ τ, St C [] [] τ { s with heap := h', toks := tk } := by
  obtain ⟨τ, hi⟩ := f.i
  obtain ⟨h, t, e⟩ := f.same
  refine ⟨τ, ap, ⟨fun b o g => k b o (fun q => by rw [q, sp.LB] at g; cases g) (f.base b o g), f.frs.mono fun b m hb _ => ?_⟩, ok.Iloc τ s.heap h' (fun a ha o g => k a o (fun q => ap.Lmu (q ▸ ha)) g) hi,
    ⟨fun x b hx => (nomatch hx), ⟨m', hn⟩, (fun x c hc => by rw [hcells] at hc; cases hc), fun p hp => (nomatch hp), .nil, fun p hp => (nomatch hp)⟩, fun a ha => ?_, ⟨h', tk, by rw [e]⟩, fun b o g hb => (f.gk b o g hb).trans fun o' g' => .inl (k b o' (fun q => by rw [q, sp.LG] at g; cases g) g')⟩
  · by_cases q : b = C.env.locals
    · rw [q]; exact ⟨m', hn⟩
    · exact ⟨m, hb.at' fun o g => k b o q g⟩
  · obtain ⟨o, g⟩ := Option.isSome_iff_exists.mp (f.ml a ha)
    show (h'.get? a).isSome
    rw [k a o (fun q => ap.Lmu (q ▸ ha)) g]; rfl

theorem w_try {body : List Stmt} {np p1 p2 p3 p4 pos : Pos} {X' : Int → Prop} (B : Bs p C) (hx : C.env.kindOf "SetFault" = some .globalImplicit) (hfl : C.env.kindOf "fault" = some .local) (hcells : C.env.cells = []) (hLf : C.env.frame = some C.env.locals) (hbody : JW prog w C ρ (execs body C.env) σ X' Q) (hq : ∀ n τ, X' n → Q (.ret (.int n)) [] τ) :
    JW prog w C ρ (exec (.Try body [.ExceptHandler (some (.Name "SetFault" np)) (some "fault") [.Return (some (.Attribute (.Name "fault" p1) "at" p2)) p3] p4] [] [] pos) C.env) σ X Q := fun ok sp s own Qc Ec st ps ex => by
  refine wpAny_Try_except (hbody ok sp s own _ _ st (fun f o ρ' σ' s' own' st' r q => ?_) fun n e b s₁ hX f => ?_)
  · cases o with
    | next => cases r; exact wpAny_execs_nil (ps .next .next ρ' σ' s' own' st' rfl q)
    | cont => cases r; exact ps .cont .cont ρ' σ' s' own' st' rfl q
    | brk => cases r; exact ps .brk .brk ρ' σ' s' own' st' rfl q
    | ret W => obtain ⟨v, rfl, r⟩ := r; exact ps (.ret v) (.ret W) ρ' σ' s' own' st' ⟨v, rfl, r⟩ q
  have ap := st.ap
  refine note_ ok rfl f fun s₂ f₂ => ?_
  refine flight_ ok f₂ fun s₃ f₃ => ?_
  refine wpAny_handleBy_cons (codeAny_handlers_test ?_) (by intro q; cases q)
  refine Calls.Name_function_global ok.kind hx (Calls.loadGlobal_global (mg := C.mg) (ok.glob ▸ ok.g.keeps f₃.base) (B.g _ _ rfl) ?_) (by decide)
  have X₃ : (KP p).In s₃.heap := fun a o hh => f₃.base a o (ok.kin a o (by rw [B.K]; exact hh))
  obtain ⟨nm, q, N, bs, hdct, sn, sub, ab, col, dd, k0, k1, k2, k3, k5, h59⟩ := cls59 p
  obtain ⟨oe, vs, d, m, t, ge, hc, hd, h1, hdd, hfr, gd, ha, hb⟩ := id f₃.trc
  obtain ⟨hp3, g3, d3, tk3, os3⟩ := s₃
  refine wpAny_excMatches_sub_self (X₃ _ _ h59) ge hc (by simp) ?_
  refine codeAny_handlers_suite_as ?_
  refine flight_ ok f₃ fun s₄ f₄ => ?_
  obtain ⟨L, e0, rest, ho, h0, hL⟩ := ok.fra
  have eL : L = C.env.locals := by rw [hLf] at hL; exact (Option.some.inj hL).symm
  have hp : (C.env.scope.kind == .class || (C.env.scope.kind == .module && C.env.locals != C.env.globals)) = false := by rw [ok.kind]; rfl
  obtain ⟨_, m4, hn4⟩ := f₄.frs.at (env := e0) (by rw [ho]; exact List.mem_cons_self) h0
  rw [eL] at hn4
  refine wpAny_storeName_local hfl hn4 (fun h₅ hn₅ hs₅ => ?_) hp
  obtain ⟨oe', vs', d', m', t', ge', hc', hd', h1', hdd', hfr', gd', ha', _⟩ := id f₄.trc
  have eneL : e ≠ C.env.locals := fun q => by
    obtain ⟨o, es, ep, g, hq, _⟩ := hn4
    rw [← q, ge'] at g; cases g; rw [hd'] at hq; cases hq
  have dneL : d' ≠ C.env.locals := fun q => hfr' e0 (by rw [ho]; exact List.mem_cons_self) (by rw [h0, eL, q])
  have k₅ : ∀ b o, b ≠ C.env.locals → s₄.heap.get? b = some o → h₅.get? b = some o := fun b o hb g => hs₅.extBut b o hb g
  have X₅ : (KP p).In h₅ := fun a o hh => k₅ a o (fun q => by have := ok.kin a o (by rw [B.K]; exact hh); rw [q, sp.LB] at this; cases this) (f₄.base a o (ok.kin a o (by rw [B.K]; exact hh)))
  refine wpAny_execs_cons (wpAny_Return_some ?_)
  rw [arm_eval_Attribute]
  refine wpAny_bind ?_
  show wpAny _ _ (eval (.Name "fault" p1) C.env) _ _ _
  refine wpAny_Name (wpAny_loadName_local (v := .ref e) ok.kind hfl hn₅ (if_pos rfl) ?_) (by decide)
  refine wpAny_bind (wpAny_standAt (wpAny_bind (wpAny_holding ?_)))
  refine fault_get (p := p) X₅ (k₅ _ _ eneL ge') hc' hd' hdd' (gd'.at' fun o g => k₅ _ o dneL g) ha' fun tk6 => ?_
  refine wpAny_bind (wpAny_pure (wpAny_pure ?_))
  refine wpAny_nameGoes hfl hn₅ hp fun h₇ m₇ hn₇ hs₇ => ?_
  obtain ⟨τ, st'⟩ := fly_st (tk := tk6 + 1) ok sp ap hcells f₄ (fun b o hb g => hs₇.extBut b o hb (k₅ b o hb g)) hn₇
  exact ps (.ret (.int n t')) (.ret (.int n)) [] τ _ [] st' ⟨_, rfl, by simp only [Rep]; exact ⟨_, rfl⟩⟩ (hq n τ hX)
end
end Mini
end

section
open PySem PySem.W PyProof.Rows
set_option maxRecDepth 100000
namespace Mini
theorem arg1 {P : List Value → Prop} (h : ∀ a, P [a]) : ∀ vs : List Value, vs.length = 1 → P vs := fun vs e => by
  cases vs with
  | nil => cases e
  | cons a r =>
    have e2 : r = [] := List.length_eq_zero_iff.mp (Nat.succ.inj e)
    rw [e2]; exact h a
theorem arg2 {P : List Value → Prop} (h : ∀ a b, P [a, b]) : ∀ vs : List Value, vs.length = 2 → P vs := fun vs e => by
  cases vs with
  | nil => cases e
  | cons a r => exact arg1 (P := fun r => P (a :: r)) (h a) r (Nat.succ.inj e)
theorem arg3 {P : List Value → Prop} (h : ∀ a b c, P [a, b, c]) : ∀ vs : List Value, vs.length = 3 → P vs := fun vs e => by
  cases vs with
  | nil => cases e
  | cons a r => exact arg2 (P := fun r => P (a :: r)) (h a) r (Nat.succ.inj e)
theorem arg4 {P : List Value → Prop} (h : ∀ a b c d, P [a, b, c, d]) : ∀ vs : List Value, vs.length = 4 → P vs := fun vs e => by
  cases vs with
  | nil => cases e
  | cons a r => exact arg3 (P := fun r => P (a :: r)) (h a) r (Nat.succ.inj e)
section
variable {p : Params} {C : Cx}
theorem Bs.fn (B : Bs p C) {x : Str} {v : Value} (h : nsIn (KP p) mainGlobals x = some (some v)) : C.mg x = some v := B.g _ _ h
theorem Bs.bi (B : Bs p C) {x : Str} {v : Value} (h : nsIn (KP p) mainGlobals x = some none) (h2 : x ≠ ("__name__" : Str)) (h3 : bootBuiltins x = some v) : C.mg x = none ∧ C.mb x = some v := ⟨B.g _ _ h, (B.b _ h2).trans h3⟩
theorem Bs.ob (B : Bs p C) {a : Addr} {fd : FuncData} (h : ∃ o, (KP p).lookup a = some o ∧ o.data = .func fd) : ∃ o, C.K.lookup a = some o ∧ o.data = .func fd := B.K ▸ h
theorem n_len (B : Bs p C) : C.mg "len" = none ∧ C.mb "len" = some (.builtin "len") := B.bi (by kernel_rfl) (by decide) (by kernel_rfl)
theorem n_min (B : Bs p C) : C.mg "min" = none ∧ C.mb "min" = some (.builtin "min") := B.bi (by kernel_rfl) (by decide) (by kernel_rfl)
theorem n_max (B : Bs p C) : C.mg "max" = none ∧ C.mb "max" = some (.builtin "max") := B.bi (by kernel_rfl) (by decide) (by kernel_rfl)
theorem n_abs (B : Bs p C) : C.mg "abs" = none ∧ C.mb "abs" = some (.builtin "abs") := B.bi (by kernel_rfl) (by decide) (by kernel_rfl)
theorem n_sum (B : Bs p C) : C.mg "sum" = none ∧ C.mb "sum" = some (.builtin "sum") := B.bi (by kernel_rfl) (by decide) (by kernel_rfl)
theorem n_sorted (B : Bs p C) : C.mg "sorted" = none ∧ C.mb "sorted" = some (.builtin "sorted") := B.bi (by kernel_rfl) (by decide) (by kernel_rfl)
theorem n_int (B : Bs p C) : C.mg "int" = none ∧ C.mb "int" = some (.type "int") := B.bi (by kernel_rfl) (by decide) (by kernel_rfl)
theorem n_range (B : Bs p C) : C.mg "range" = none ∧ C.mb "range" = some (.type "range") := B.bi (by kernel_rfl) (by decide) (by kernel_rfl)
theorem n_tuple (B : Bs p C) : C.mg "tuple" = none ∧ C.mb "tuple" = some (.type "tuple") := B.bi (by kernel_rfl) (by decide) (by kernel_rfl)
theorem n_list (B : Bs p C) : C.mg "list" = none ∧ C.mb "list" = some (.type "list") := B.bi (by kernel_rfl) (by decide) (by kernel_rfl)
theorem n_MOST (B : Bs p C) : ∃ t, C.mg "MOST" = some (.int 4294967295 t) := ⟨_, B.fn rfl⟩
theorem n_ends_of (B : Bs p C) : C.mg "ends_of" = some (.ref 68) := B.fn (by kernel_rfl)
theorem n_plain_set (B : Bs p C) : C.mg "plain_set" = some (.ref 75) := B.fn (by kernel_rfl)
theorem n_settled (B : Bs p C) : C.mg "settled" = some (.ref 82) := B.fn (by kernel_rfl)
theorem n_has (B : Bs p C) : C.mg "has" = some (.ref 89) := B.fn (by kernel_rfl)
theorem n_size_of (B : Bs p C) : C.mg "size_of" = some (.ref 96) := B.fn (by kernel_rfl)
theorem n_number_at (B : Bs p C) : C.mg "number_at" = some (.ref 103) := B.fn (by kernel_rfl)
theorem n_joined_sets (B : Bs p C) : C.mg "joined_sets" = some (.ref 110) := B.fn (by kernel_rfl)
theorem n_cut_set (B : Bs p C) : C.mg "cut_set" = some (.ref 117) := B.fn (by kernel_rfl)
theorem n_less_set (B : Bs p C) : C.mg "less_set" = some (.ref 124) := B.fn (by kernel_rfl)
theorem n_matched_pairs (B : Bs p C) : C.mg "matched_pairs" = some (.ref 131) := B.fn (by kernel_rfl)
theorem n__law_urn (B : Bs p C) : C.mg "_law_urn" = some (.ref 136) := B.fn (by kernel_rfl)
theorem n__law_pull (B : Bs p C) : C.mg "_law_pull" = some (.ref 143) := B.fn (by kernel_rfl)
theorem n__law_lengths (B : Bs p C) : C.mg "_law_lengths" = some (.ref 148) := B.fn (by kernel_rfl)
theorem n__law_cut_otherwise (B : Bs p C) : C.mg "_law_cut_otherwise" = some (.ref 155) := B.fn (by kernel_rfl)
theorem n__law_stretches (B : Bs p C) : C.mg "_law_stretches" = some (.ref 160) := B.fn (by kernel_rfl)
theorem n__law_pairs (B : Bs p C) : C.mg "_law_pairs" = some (.ref 167) := B.fn (by kernel_rfl)
theorem n__law_edges (B : Bs p C) : C.mg "_law_edges" = some (.ref 174) := B.fn (by kernel_rfl)
theorem n__law_is_in (B : Bs p C) : C.mg "_law_is_in" = some (.ref 179) := B.fn (by kernel_rfl)
theorem n__law_plain (B : Bs p C) : C.mg "_law_plain" = some (.ref 186) := B.fn (by kernel_rfl)
theorem n__law_rank (B : Bs p C) : C.mg "_law_rank" = some (.ref 191) := B.fn (by kernel_rfl)
theorem n__law_counts (B : Bs p C) : C.mg "_law_counts" = some (.ref 198) := B.fn (by kernel_rfl)
theorem n__law_is_paired (B : Bs p C) : C.mg "_law_is_paired" = some (.ref 205) := B.fn (by kernel_rfl)
theorem n__law_fault (B : Bs p C) : C.mg "_law_fault" = some (.ref 212) := B.fn (by kernel_rfl)
theorem n__law_starred (B : Bs p C) : C.mg "_law_starred" = some (.ref 217) := B.fn (by kernel_rfl)
theorem n__law_stars_hold (B : Bs p C) : C.mg "_law_stars_hold" = some (.ref 222) := B.fn (by kernel_rfl)
end
/- ends_of -/
noncomputable def F68 (p : Params) : FuncData := fdAt ((KP p).lookup 68)
theorem F68_ok (p : Params) : Fn (KP p) 68 (F68 p) (bodyAt (F68 p)) ["pair", "greatest"] where
  obj := ⟨_, rfl, rfl⟩
  code := by kernel_rfl
  body := rfl
  clo := rfl
  glob := rfl
  blt := rfl
  co := rfl
  gen := rfl
  kind := rfl
  bind := arg2 fun a b => by kernel_rfl
  kinds := fun x hx => by
    rcases List.mem_cons.mp hx with rfl | hx
    · exact .inl rfl
    rcases List.mem_cons.mp hx with rfl | hx
    · exact .inl rfl
    cases hx
  nodup := by decide
theorem o68 (p : Params) : ∃ o, (KP p).lookup 68 = some o ∧ o.data = .func (F68 p) := ⟨_, rfl, rfl⟩
theorem e68 {p : Params} {C : Cx} (B : Bs p C) : ∃ o, C.K.lookup 68 = some o ∧ o.data = .func (F68 p) := B.ob (o68 p)
/- plain_set -/
noncomputable def F75 (p : Params) : FuncData := fdAt ((KP p).lookup 75)
theorem F75_ok (p : Params) : Fn (KP p) 75 (F75 p) (bodyAt (F75 p)) ["some", "greatest"] where
  obj := ⟨_, rfl, rfl⟩
  code := by kernel_rfl
  body := rfl
  clo := rfl
  glob := rfl
  blt := rfl
  co := rfl
  gen := rfl
  kind := rfl
  bind := arg2 fun a b => by kernel_rfl
  kinds := fun x hx => by
    rcases List.mem_cons.mp hx with rfl | hx
    · exact .inl rfl
    rcases List.mem_cons.mp hx with rfl | hx
    · exact .inl rfl
    cases hx
  nodup := by decide
theorem o75 (p : Params) : ∃ o, (KP p).lookup 75 = some o ∧ o.data = .func (F75 p) := ⟨_, rfl, rfl⟩
theorem e75 {p : Params} {C : Cx} (B : Bs p C) : ∃ o, C.K.lookup 75 = some o ∧ o.data = .func (F75 p) := B.ob (o75 p)
/- settled -/
noncomputable def F82 (p : Params) : FuncData := fdAt ((KP p).lookup 82)
theorem F82_ok (p : Params) : Fn (KP p) 82 (F82 p) (bodyAt (F82 p)) ["some"] where
  obj := ⟨_, rfl, rfl⟩
  code := by kernel_rfl
  body := rfl
  clo := rfl
  glob := rfl
  blt := rfl
  co := rfl
  gen := rfl
  kind := rfl
  bind := arg1 fun a => by kernel_rfl
  kinds := fun x hx => by
    rcases List.mem_cons.mp hx with rfl | hx
    · exact .inl rfl
    cases hx
  nodup := by decide
theorem o82 (p : Params) : ∃ o, (KP p).lookup 82 = some o ∧ o.data = .func (F82 p) := ⟨_, rfl, rfl⟩
theorem e82 {p : Params} {C : Cx} (B : Bs p C) : ∃ o, C.K.lookup 82 = some o ∧ o.data = .func (F82 p) := B.ob (o82 p)
/- has -/
noncomputable def F89 (p : Params) : FuncData := fdAt ((KP p).lookup 89)
theorem F89_ok (p : Params) : Fn (KP p) 89 (F89 p) (bodyAt (F89 p)) ["some", "number", "greatest"] where
  obj := ⟨_, rfl, rfl⟩
  code := by kernel_rfl
  body := rfl
  clo := rfl
  glob := rfl
  blt := rfl
  co := rfl
  gen := rfl
  kind := rfl
  bind := arg3 fun a b c => by kernel_rfl
  kinds := fun x hx => by
    rcases List.mem_cons.mp hx with rfl | hx
    · exact .inl rfl
    rcases List.mem_cons.mp hx with rfl | hx
    · exact .inl rfl
    rcases List.mem_cons.mp hx with rfl | hx
    · exact .inl rfl
    cases hx
  nodup := by decide
theorem o89 (p : Params) : ∃ o, (KP p).lookup 89 = some o ∧ o.data = .func (F89 p) := ⟨_, rfl, rfl⟩
theorem e89 {p : Params} {C : Cx} (B : Bs p C) : ∃ o, C.K.lookup 89 = some o ∧ o.data = .func (F89 p) := B.ob (o89 p)
/- size_of -/
noncomputable def F96 (p : Params) : FuncData := fdAt ((KP p).lookup 96)
theorem F96_ok (p : Params) : Fn (KP p) 96 (F96 p) (bodyAt (F96 p)) ["some"] where
  obj := ⟨_, rfl, rfl⟩
  code := by kernel_rfl
  body := rfl
  clo := rfl
  glob := rfl
  blt := rfl
  co := rfl
  gen := rfl
  kind := rfl
  bind := arg1 fun a => by kernel_rfl
  kinds := fun x hx => by
    rcases List.mem_cons.mp hx with rfl | hx
    · exact .inl rfl
    cases hx
  nodup := by decide
theorem o96 (p : Params) : ∃ o, (KP p).lookup 96 = some o ∧ o.data = .func (F96 p) := ⟨_, rfl, rfl⟩
theorem e96 {p : Params} {C : Cx} (B : Bs p C) : ∃ o, C.K.lookup 96 = some o ∧ o.data = .func (F96 p) := B.ob (o96 p)
/- number_at -/
noncomputable def F103 (p : Params) : FuncData := fdAt ((KP p).lookup 103)
theorem F103_ok (p : Params) : Fn (KP p) 103 (F103 p) (bodyAt (F103 p)) ["some", "place"] where
  obj := ⟨_, rfl, rfl⟩
  code := by kernel_rfl
  body := rfl
  clo := rfl
  glob := rfl
  blt := rfl
  co := rfl
  gen := rfl
  kind := rfl
  bind := arg2 fun a b => by kernel_rfl
  kinds := fun x hx => by
    rcases List.mem_cons.mp hx with rfl | hx
    · exact .inl rfl
    rcases List.mem_cons.mp hx with rfl | hx
    · exact .inl rfl
    cases hx
  nodup := by decide
theorem o103 (p : Params) : ∃ o, (KP p).lookup 103 = some o ∧ o.data = .func (F103 p) := ⟨_, rfl, rfl⟩
theorem e103 {p : Params} {C : Cx} (B : Bs p C) : ∃ o, C.K.lookup 103 = some o ∧ o.data = .func (F103 p) := B.ob (o103 p)
/- joined_sets -/
noncomputable def F110 (p : Params) : FuncData := fdAt ((KP p).lookup 110)
theorem F110_ok (p : Params) : Fn (KP p) 110 (F110 p) (bodyAt (F110 p)) ["one", "other"] where
  obj := ⟨_, rfl, rfl⟩
  code := by kernel_rfl
  body := rfl
  clo := rfl
  glob := rfl
  blt := rfl
  co := rfl
  gen := rfl
  kind := rfl
  bind := arg2 fun a b => by kernel_rfl
  kinds := fun x hx => by
    rcases List.mem_cons.mp hx with rfl | hx
    · exact .inl rfl
    rcases List.mem_cons.mp hx with rfl | hx
    · exact .inl rfl
    cases hx
  nodup := by decide
theorem o110 (p : Params) : ∃ o, (KP p).lookup 110 = some o ∧ o.data = .func (F110 p) := ⟨_, rfl, rfl⟩
theorem e110 {p : Params} {C : Cx} (B : Bs p C) : ∃ o, C.K.lookup 110 = some o ∧ o.data = .func (F110 p) := B.ob (o110 p)
/- cut_set -/
noncomputable def F117 (p : Params) : FuncData := fdAt ((KP p).lookup 117)
theorem F117_ok (p : Params) : Fn (KP p) 117 (F117 p) (bodyAt (F117 p)) ["one", "other"] where
  obj := ⟨_, rfl, rfl⟩
  code := by kernel_rfl
  body := rfl
  clo := rfl
  glob := rfl
  blt := rfl
  co := rfl
  gen := rfl
  kind := rfl
  bind := arg2 fun a b => by kernel_rfl
  kinds := fun x hx => by
    rcases List.mem_cons.mp hx with rfl | hx
    · exact .inl rfl
    rcases List.mem_cons.mp hx with rfl | hx
    · exact .inl rfl
    cases hx
  nodup := by decide
theorem o117 (p : Params) : ∃ o, (KP p).lookup 117 = some o ∧ o.data = .func (F117 p) := ⟨_, rfl, rfl⟩
theorem e117 {p : Params} {C : Cx} (B : Bs p C) : ∃ o, C.K.lookup 117 = some o ∧ o.data = .func (F117 p) := B.ob (o117 p)
/- less_set -/
noncomputable def F124 (p : Params) : FuncData := fdAt ((KP p).lookup 124)
theorem F124_ok (p : Params) : Fn (KP p) 124 (F124 p) (bodyAt (F124 p)) ["one", "other"] where
  obj := ⟨_, rfl, rfl⟩
  code := by kernel_rfl
  body := rfl
  clo := rfl
  glob := rfl
  blt := rfl
  co := rfl
  gen := rfl
  kind := rfl
  bind := arg2 fun a b => by kernel_rfl
  kinds := fun x hx => by
    rcases List.mem_cons.mp hx with rfl | hx
    · exact .inl rfl
    rcases List.mem_cons.mp hx with rfl | hx
    · exact .inl rfl
    cases hx
  nodup := by decide
theorem o124 (p : Params) : ∃ o, (KP p).lookup 124 = some o ∧ o.data = .func (F124 p) := ⟨_, rfl, rfl⟩
theorem e124 {p : Params} {C : Cx} (B : Bs p C) : ∃ o, C.K.lookup 124 = some o ∧ o.data = .func (F124 p) := B.ob (o124 p)
/- matched_pairs -/
noncomputable def F131 (p : Params) : FuncData := fdAt ((KP p).lookup 131)
theorem F131_ok (p : Params) : Fn (KP p) 131 (F131 p) (bodyAt (F131 p)) ["one", "other"] where
  obj := ⟨_, rfl, rfl⟩
  code := by kernel_rfl
  body := rfl
  clo := rfl
  glob := rfl
  blt := rfl
  co := rfl
  gen := rfl
  kind := rfl
  bind := arg2 fun a b => by kernel_rfl
  kinds := fun x hx => by
    rcases List.mem_cons.mp hx with rfl | hx
    · exact .inl rfl
    rcases List.mem_cons.mp hx with rfl | hx
    · exact .inl rfl
    cases hx
  nodup := by decide
theorem o131 (p : Params) : ∃ o, (KP p).lookup 131 = some o ∧ o.data = .func (F131 p) := ⟨_, rfl, rfl⟩
theorem e131 {p : Params} {C : Cx} (B : Bs p C) : ∃ o, C.K.lookup 131 = some o ∧ o.data = .func (F131 p) := B.ob (o131 p)
/- _law_urn -/
noncomputable def F136 (p : Params) : FuncData := fdAt ((KP p).lookup 136)
theorem F136_ok (p : Params) : Fn (KP p) 136 (F136 p) (bodyAt (F136 p)) ["script"] where
  obj := ⟨_, rfl, rfl⟩
  code := by kernel_rfl
  body := rfl
  clo := rfl
  glob := rfl
  blt := rfl
  co := rfl
  gen := rfl
  kind := rfl
  bind := arg1 fun a => by kernel_rfl
  kinds := fun x hx => by
    rcases List.mem_cons.mp hx with rfl | hx
    · exact .inl rfl
    cases hx
  nodup := by decide
theorem o136 (p : Params) : ∃ o, (KP p).lookup 136 = some o ∧ o.data = .func (F136 p) := ⟨_, rfl, rfl⟩
theorem e136 {p : Params} {C : Cx} (B : Bs p C) : ∃ o, C.K.lookup 136 = some o ∧ o.data = .func (F136 p) := B.ob (o136 p)
/- _law_pull -/
noncomputable def F143 (p : Params) : FuncData := fdAt ((KP p).lookup 143)
theorem F143_ok (p : Params) : Fn (KP p) 143 (F143 p) (bodyAt (F143 p)) ["urn", "many"] where
  obj := ⟨_, rfl, rfl⟩
  code := by kernel_rfl
  body := rfl
  clo := rfl
  glob := rfl
  blt := rfl
  co := rfl
  gen := rfl
  kind := rfl
  bind := arg2 fun a b => by kernel_rfl
  kinds := fun x hx => by
    rcases List.mem_cons.mp hx with rfl | hx
    · exact .inl rfl
    rcases List.mem_cons.mp hx with rfl | hx
    · exact .inl rfl
    cases hx
  nodup := by decide
theorem o143 (p : Params) : ∃ o, (KP p).lookup 143 = some o ∧ o.data = .func (F143 p) := ⟨_, rfl, rfl⟩
theorem e143 {p : Params} {C : Cx} (B : Bs p C) : ∃ o, C.K.lookup 143 = some o ∧ o.data = .func (F143 p) := B.ob (o143 p)
/- _law_lengths -/
noncomputable def F148 (p : Params) : FuncData := fdAt ((KP p).lookup 148)
theorem F148_ok (p : Params) : Fn (KP p) 148 (F148 p) (bodyAt (F148 p)) ["urn", "most"] where
  obj := ⟨_, rfl, rfl⟩
  code := by kernel_rfl
  body := rfl
  clo := rfl
  glob := rfl
  blt := rfl
  co := rfl
  gen := rfl
  kind := rfl
  bind := arg2 fun a b => by kernel_rfl
  kinds := fun x hx => by
    rcases List.mem_cons.mp hx with rfl | hx
    · exact .inr ⟨rfl, rfl⟩
    rcases List.mem_cons.mp hx with rfl | hx
    · exact .inl rfl
    cases hx
  nodup := by decide
theorem o148 (p : Params) : ∃ o, (KP p).lookup 148 = some o ∧ o.data = .func (F148 p) := ⟨_, rfl, rfl⟩
theorem e148 {p : Params} {C : Cx} (B : Bs p C) : ∃ o, C.K.lookup 148 = some o ∧ o.data = .func (F148 p) := B.ob (o148 p)
/- _law_cut_otherwise -/
noncomputable def F155 (p : Params) : FuncData := fdAt ((KP p).lookup 155)
theorem F155_ok (p : Params) : Fn (KP p) 155 (F155 p) (bodyAt (F155 p)) ["urn", "lengths"] where
  obj := ⟨_, rfl, rfl⟩
  code := by kernel_rfl
  body := rfl
  clo := rfl
  glob := rfl
  blt := rfl
  co := rfl
  gen := rfl
  kind := rfl
  bind := arg2 fun a b => by kernel_rfl
  kinds := fun x hx => by
    rcases List.mem_cons.mp hx with rfl | hx
    · exact .inl rfl
    rcases List.mem_cons.mp hx with rfl | hx
    · exact .inl rfl
    cases hx
  nodup := by decide
theorem o155 (p : Params) : ∃ o, (KP p).lookup 155 = some o ∧ o.data = .func (F155 p) := ⟨_, rfl, rfl⟩
theorem e155 {p : Params} {C : Cx} (B : Bs p C) : ∃ o, C.K.lookup 155 = some o ∧ o.data = .func (F155 p) := B.ob (o155 p)
/- _law_stretches -/
noncomputable def F160 (p : Params) : FuncData := fdAt ((KP p).lookup 160)
theorem F160_ok (p : Params) : Fn (KP p) 160 (F160 p) (bodyAt (F160 p)) ["urn", "lengths"] where
  obj := ⟨_, rfl, rfl⟩
  code := by kernel_rfl
  body := rfl
  clo := rfl
  glob := rfl
  blt := rfl
  co := rfl
  gen := rfl
  kind := rfl
  bind := arg2 fun a b => by kernel_rfl
  kinds := fun x hx => by
    rcases List.mem_cons.mp hx with rfl | hx
    · exact .inr ⟨rfl, rfl⟩
    rcases List.mem_cons.mp hx with rfl | hx
    · exact .inl rfl
    cases hx
  nodup := by decide
theorem o160 (p : Params) : ∃ o, (KP p).lookup 160 = some o ∧ o.data = .func (F160 p) := ⟨_, rfl, rfl⟩
theorem e160 {p : Params} {C : Cx} (B : Bs p C) : ∃ o, C.K.lookup 160 = some o ∧ o.data = .func (F160 p) := B.ob (o160 p)
/- _law_pairs -/
noncomputable def F167 (p : Params) : FuncData := fdAt ((KP p).lookup 167)
theorem F167_ok (p : Params) : Fn (KP p) 167 (F167 p) (bodyAt (F167 p)) ["urn", "stretches"] where
  obj := ⟨_, rfl, rfl⟩
  code := by kernel_rfl
  body := rfl
  clo := rfl
  glob := rfl
  blt := rfl
  co := rfl
  gen := rfl
  kind := rfl
  bind := arg2 fun a b => by kernel_rfl
  kinds := fun x hx => by
    rcases List.mem_cons.mp hx with rfl | hx
    · exact .inl rfl
    rcases List.mem_cons.mp hx with rfl | hx
    · exact .inl rfl
    cases hx
  nodup := by decide
theorem o167 (p : Params) : ∃ o, (KP p).lookup 167 = some o ∧ o.data = .func (F167 p) := ⟨_, rfl, rfl⟩
theorem e167 {p : Params} {C : Cx} (B : Bs p C) : ∃ o, C.K.lookup 167 = some o ∧ o.data = .func (F167 p) := B.ob (o167 p)
/- _law_edges -/
noncomputable def F174 (p : Params) : FuncData := fdAt ((KP p).lookup 174)
theorem F174_ok (p : Params) : Fn (KP p) 174 (F174 p) (bodyAt (F174 p)) ["some"] where
  obj := ⟨_, rfl, rfl⟩
  code := by kernel_rfl
  body := rfl
  clo := rfl
  glob := rfl
  blt := rfl
  co := rfl
  gen := rfl
  kind := rfl
  bind := arg1 fun a => by kernel_rfl
  kinds := fun x hx => by
    rcases List.mem_cons.mp hx with rfl | hx
    · exact .inl rfl
    cases hx
  nodup := by decide
theorem o174 (p : Params) : ∃ o, (KP p).lookup 174 = some o ∧ o.data = .func (F174 p) := ⟨_, rfl, rfl⟩
theorem e174 {p : Params} {C : Cx} (B : Bs p C) : ∃ o, C.K.lookup 174 = some o ∧ o.data = .func (F174 p) := B.ob (o174 p)
/- _law_is_in -/
noncomputable def F179 (p : Params) : FuncData := fdAt ((KP p).lookup 179)
theorem F179_ok (p : Params) : Fn (KP p) 179 (F179 p) (bodyAt (F179 p)) ["some", "number"] where
  obj := ⟨_, rfl, rfl⟩
  code := by kernel_rfl
  body := rfl
  clo := rfl
  glob := rfl
  blt := rfl
  co := rfl
  gen := rfl
  kind := rfl
  bind := arg2 fun a b => by kernel_rfl
  kinds := fun x hx => by
    rcases List.mem_cons.mp hx with rfl | hx
    · exact .inl rfl
    rcases List.mem_cons.mp hx with rfl | hx
    · exact .inr ⟨rfl, rfl⟩
    cases hx
  nodup := by decide
theorem o179 (p : Params) : ∃ o, (KP p).lookup 179 = some o ∧ o.data = .func (F179 p) := ⟨_, rfl, rfl⟩
theorem e179 {p : Params} {C : Cx} (B : Bs p C) : ∃ o, C.K.lookup 179 = some o ∧ o.data = .func (F179 p) := B.ob (o179 p)
/- _law_plain -/
noncomputable def F186 (p : Params) : FuncData := fdAt ((KP p).lookup 186)
theorem F186_ok (p : Params) : Fn (KP p) 186 (F186 p) (bodyAt (F186 p)) ["edges", "is_in"] where
  obj := ⟨_, rfl, rfl⟩
  code := by kernel_rfl
  body := rfl
  clo := rfl
  glob := rfl
  blt := rfl
  co := rfl
  gen := rfl
  kind := rfl
  bind := arg2 fun a b => by kernel_rfl
  kinds := fun x hx => by
    rcases List.mem_cons.mp hx with rfl | hx
    · exact .inl rfl
    rcases List.mem_cons.mp hx with rfl | hx
    · exact .inl rfl
    cases hx
  nodup := by decide
theorem o186 (p : Params) : ∃ o, (KP p).lookup 186 = some o ∧ o.data = .func (F186 p) := ⟨_, rfl, rfl⟩
theorem e186 {p : Params} {C : Cx} (B : Bs p C) : ∃ o, C.K.lookup 186 = some o ∧ o.data = .func (F186 p) := B.ob (o186 p)
/- _law_rank -/
noncomputable def F191 (p : Params) : FuncData := fdAt ((KP p).lookup 191)
theorem F191_ok (p : Params) : Fn (KP p) 191 (F191 p) (bodyAt (F191 p)) ["plain", "number"] where
  obj := ⟨_, rfl, rfl⟩
  code := by kernel_rfl
  body := rfl
  clo := rfl
  glob := rfl
  blt := rfl
  co := rfl
  gen := rfl
  kind := rfl
  bind := arg2 fun a b => by kernel_rfl
  kinds := fun x hx => by
    rcases List.mem_cons.mp hx with rfl | hx
    · exact .inl rfl
    rcases List.mem_cons.mp hx with rfl | hx
    · exact .inr ⟨rfl, rfl⟩
    cases hx
  nodup := by decide
theorem o191 (p : Params) : ∃ o, (KP p).lookup 191 = some o ∧ o.data = .func (F191 p) := ⟨_, rfl, rfl⟩
theorem e191 {p : Params} {C : Cx} (B : Bs p C) : ∃ o, C.K.lookup 191 = some o ∧ o.data = .func (F191 p) := B.ob (o191 p)
/- _law_counts -/
noncomputable def F198 (p : Params) : FuncData := fdAt ((KP p).lookup 198)
theorem F198_ok (p : Params) : Fn (KP p) 198 (F198 p) (bodyAt (F198 p)) ["urn", "some", "plain"] where
  obj := ⟨_, rfl, rfl⟩
  code := by kernel_rfl
  body := rfl
  clo := rfl
  glob := rfl
  blt := rfl
  co := rfl
  gen := rfl
  kind := rfl
  bind := arg3 fun a b c => by kernel_rfl
  kinds := fun x hx => by
    rcases List.mem_cons.mp hx with rfl | hx
    · exact .inl rfl
    rcases List.mem_cons.mp hx with rfl | hx
    · exact .inl rfl
    rcases List.mem_cons.mp hx with rfl | hx
    · exact .inl rfl
    cases hx
  nodup := by decide
theorem o198 (p : Params) : ∃ o, (KP p).lookup 198 = some o ∧ o.data = .func (F198 p) := ⟨_, rfl, rfl⟩
theorem e198 {p : Params} {C : Cx} (B : Bs p C) : ∃ o, C.K.lookup 198 = some o ∧ o.data = .func (F198 p) := B.ob (o198 p)
/- _law_is_paired -/
noncomputable def F205 (p : Params) : FuncData := fdAt ((KP p).lookup 205)
theorem F205_ok (p : Params) : Fn (KP p) 205 (F205 p) (bodyAt (F205 p)) ["one", "two", "first", "second"] where
  obj := ⟨_, rfl, rfl⟩
  code := by kernel_rfl
  body := rfl
  clo := rfl
  glob := rfl
  blt := rfl
  co := rfl
  gen := rfl
  kind := rfl
  bind := arg4 fun a b c d => by kernel_rfl
  kinds := fun x hx => by
    rcases List.mem_cons.mp hx with rfl | hx
    · exact .inl rfl
    rcases List.mem_cons.mp hx with rfl | hx
    · exact .inl rfl
    rcases List.mem_cons.mp hx with rfl | hx
    · exact .inl rfl
    rcases List.mem_cons.mp hx with rfl | hx
    · exact .inl rfl
    cases hx
  nodup := by decide
theorem o205 (p : Params) : ∃ o, (KP p).lookup 205 = some o ∧ o.data = .func (F205 p) := ⟨_, rfl, rfl⟩
theorem e205 {p : Params} {C : Cx} (B : Bs p C) : ∃ o, C.K.lookup 205 = some o ∧ o.data = .func (F205 p) := B.ob (o205 p)
/- _law_fault -/
noncomputable def F212 (p : Params) : FuncData := fdAt ((KP p).lookup 212)
theorem F212_ok (p : Params) : Fn (KP p) 212 (F212 p) (bodyAt (F212 p)) ["call"] where
  obj := ⟨_, rfl, rfl⟩
  code := by kernel_rfl
  body := rfl
  clo := rfl
  glob := rfl
  blt := rfl
  co := rfl
  gen := rfl
  kind := rfl
  bind := arg1 fun a => by kernel_rfl
  kinds := fun x hx => by
    rcases List.mem_cons.mp hx with rfl | hx
    · exact .inl rfl
    cases hx
  nodup := by decide
theorem o212 (p : Params) : ∃ o, (KP p).lookup 212 = some o ∧ o.data = .func (F212 p) := ⟨_, rfl, rfl⟩
theorem e212 {p : Params} {C : Cx} (B : Bs p C) : ∃ o, C.K.lookup 212 = some o ∧ o.data = .func (F212 p) := B.ob (o212 p)
/- _law_starred -/
noncomputable def F217 (p : Params) : FuncData := fdAt ((KP p).lookup 217)
theorem F217_ok (p : Params) : Fn (KP p) 217 (F217 p) (bodyAt (F217 p)) ["urn", "some"] where
  obj := ⟨_, rfl, rfl⟩
  code := by kernel_rfl
  body := rfl
  clo := rfl
  glob := rfl
  blt := rfl
  co := rfl
  gen := rfl
  kind := rfl
  bind := arg2 fun a b => by kernel_rfl
  kinds := fun x hx => by
    rcases List.mem_cons.mp hx with rfl | hx
    · exact .inl rfl
    rcases List.mem_cons.mp hx with rfl | hx
    · exact .inl rfl
    cases hx
  nodup := by decide
theorem o217 (p : Params) : ∃ o, (KP p).lookup 217 = some o ∧ o.data = .func (F217 p) := ⟨_, rfl, rfl⟩
theorem e217 {p : Params} {C : Cx} (B : Bs p C) : ∃ o, C.K.lookup 217 = some o ∧ o.data = .func (F217 p) := B.ob (o217 p)
/- _law_stars_hold -/
noncomputable def F222 (p : Params) : FuncData := fdAt ((KP p).lookup 222)
theorem F222_ok (p : Params) : Fn (KP p) 222 (F222 p) (bodyAt (F222 p)) ["starred", "other", "at", "greatest"] where
  obj := ⟨_, rfl, rfl⟩
  code := by kernel_rfl
  body := rfl
  clo := rfl
  glob := rfl
  blt := rfl
  co := rfl
  gen := rfl
  kind := rfl
  bind := arg4 fun a b c d => by kernel_rfl
  kinds := fun x hx => by
    rcases List.mem_cons.mp hx with rfl | hx
    · exact .inr ⟨rfl, rfl⟩
    rcases List.mem_cons.mp hx with rfl | hx
    · exact .inr ⟨rfl, rfl⟩
    rcases List.mem_cons.mp hx with rfl | hx
    · exact .inl rfl
    rcases List.mem_cons.mp hx with rfl | hx
    · exact .inr ⟨rfl, rfl⟩
    cases hx
  nodup := by decide
theorem o222 (p : Params) : ∃ o, (KP p).lookup 222 = some o ∧ o.data = .func (F222 p) := ⟨_, rfl, rfl⟩
theorem e222 {p : Params} {C : Cx} (B : Bs p C) : ∃ o, C.K.lookup 222 = some o ∧ o.data = .func (F222 p) := B.ob (o222 p)
theorem we_fn {prog : Program} {w : World} {C : Cx} {ρ : Rho} {σ : Nat} {X : Int → Prop} {x : Str} {p pos : Pos} {f : Addr} {e : Expr} {rest : List Expr} {fd : FuncData} {Q : V → Nat → Prop} (hx : C.env.kindOf x = some .globalImplicit) (hg : C.mg x = some (.ref f)) (hf : ∃ o, C.K.lookup f = some o ∧ o.data = .func fd)
    (h : WA prog w C ρ pos (e :: rest) σ X (KCall prog w C ρ X (.ref f) Q)) (hd : (x == ("__debug__" : Str)) = false := by decide)
    (he : ∀ env, starEach (e :: rest) env = (false, eval e env) :: starEach rest env := by intro _; rfl) : WE prog w C ρ (.Call (.Name x p) (e :: rest) [] pos) σ X Q := by
  obtain ⟨o, h1, h2⟩ := hf
  exact we_callF hx hg h1 h2 h hd he
end Mini
end

section
open PySem PySem.W PyProof.Rows
set_option maxRecDepth 100000
namespace Mini
/-- ends_of, told -/
noncomputable def endsP (a b g : Int) : Option (Int × Int) := if g = 0 ∧ (a = 0 ∨ b = 0) then none else some (min (if a = 0 then g else a) (if b = 0 then g else b), max (if a = 0 then g else a) (if b = 0 then g else b))
noncomputable def endsV (a b g : Int) : V := match endsP a b g with | none => .none | some p => pr p

section
variable {prog : Program} {w : World} {C : Cx} {ρ : Rho} {σ : Nat} {X : Int → Prop} {Q : V → Nat → Prop} {p : Params}
set_option maxHeartbeats 1000000 in
theorem f_ends {a b g : Int} (B : Bs p C) (hr : 0 < C.r) (h : Q (endsV a b g) σ) : CJ prog w C ρ (.ref 68) [.tup [.int a, .int b], .int g] σ X Q := by
  have F : Fn C.K 68 (F68 p) (bodyAt (F68 p)) ["pair", "greatest"] := B.K ▸ F68_ok p
  refine call_fn F rfl hr fun L own s => ?_
  have B' := B.callee (callEnvC (F68 p) L 68) own s
  have r4 : ∀ (a' b' : Int), Q (.tup [.int (min a' b'), .int (max a' b')]) σ → WS prog w (C.callee (callEnvC (F68 p) L 68) own s) [("low", .val (.int a')), ("high", .val (.int b'))] ((bodyAt (F68 p)).drop 4) σ X (Ret Q) := fun a' b' h3 =>
    ws_cons' <| s_return' <| we_tuple' <| wa_cons' <| we_callB' rfl (n_min B') <| wa_cons' <| we_name rfl <| wa_cons' <| we_name rfl <| wa_nil <| c_min <|
      wa_cons' <| we_callB' rfl (n_max B') <| wa_cons' <| we_name rfl <| wa_cons' <| we_name rfl <| wa_nil <| c_max <| wa_nil ⟨by simp, h3⟩
  have r3 : ∀ (a' : Int), Q (.tup [.int (min a' (if b = 0 then g else b)), .int (max a' (if b = 0 then g else b))]) σ → WS prog w (C.callee (callEnvC (F68 p) L 68) own s) [("low", .val (.int a')), ("high", .val (.int b)), ("greatest", .val (.int g))] ((bodyAt (F68 p)).drop 3) σ X (Ret Q) := fun a' h3 =>
    ws_cons' <| s_if' <| wt_cmp' <| we_name rfl <| we_int <| o_eq' ⟨_, rfl, br2 (fun hb => ws_cons' <| s_assign' (.inl rfl) <| we_name rfl <| ws_nil <| JS.via (r4 _ _ (by rw [if_pos hb] at h3; exact h3)) ⟨rfl, rfl, trivial⟩)
      fun hb => ws_nil <| JS.via (r4 _ _ (by rw [if_neg hb] at h3; exact h3)) ⟨rfl, rfl, trivial⟩⟩
  have r2 : Q (.tup [.int (min (if a = 0 then g else a) (if b = 0 then g else b)), .int (max (if a = 0 then g else a) (if b = 0 then g else b))]) σ → WS prog w (C.callee (callEnvC (F68 p) L 68) own s) [("low", .val (.int a)), ("high", .val (.int b)), ("greatest", .val (.int g))] ((bodyAt (F68 p)).drop 2) σ X (Ret Q) := fun h3 =>
    ws_cons' <| s_if' <| wt_cmp' <| we_name rfl <| we_int <| o_eq' ⟨_, rfl, br2 (fun hb => ws_cons' <| s_assign' (.inl rfl) <| we_name rfl <| ws_nil <| JS.via (r3 _ (by rw [if_pos hb] at h3; exact h3)) ⟨rfl, rfl, rfl, trivial⟩)
      fun hb => ws_nil <| JS.via (r3 _ (by rw [if_neg hb] at h3; exact h3)) ⟨rfl, rfl, rfl, trivial⟩⟩
  unfold endsV endsP at h
  refine ws_cons' <| s_tuple <| we_name rfl ⟨_, as_pair (.inl rfl) (.inl rfl), ?_⟩
  refine ws_cons' <| s_if' <| wt_and' <| wt_cmp' <| we_name rfl <| we_int <| o_eq' ⟨_, rfl, br2 (fun h1 => ?_) fun h1 => ws_nil <| JS.via (r2 ?_) ⟨rfl, rfl, rfl, trivial⟩⟩
  · refine wt_and' <| wt_or' <| wt_cmp' <| we_name rfl <| we_int <| o_eq' ⟨_, rfl, br2 (fun h2 => ?_) fun h2 => wt_or' <| wt_cmp' <| we_name rfl <| we_int <| o_eq' ⟨_, rfl, br2 (fun h3 => ?_) fun h3 => wt_or_nil ?_⟩⟩
    · rw [if_pos ⟨h1, .inl h2⟩] at h
      exact wt_and_nil <| ws_cons' <| s_return' <| we_none h
    · rw [if_pos ⟨h1, .inr h3⟩] at h
      exact wt_and_nil <| ws_cons' <| s_return' <| we_none h
    · refine ws_nil <| JS.via (r2 ?_) ⟨rfl, rfl, rfl, trivial⟩
      rw [if_neg (by rintro ⟨_, q | q⟩; exact h2 q; exact h3 q)] at h; exact h
  · rw [if_neg (fun q => h1 q.1)] at h; exact h
end
end Mini
end

section
open PySem PySem.W PyProof.Rows
set_option maxRecDepth 100000
namespace Mini
noncomputable def endsL (ps : List (Int × Int)) (g : Int) : List (Int × Int) := ps.filterMap fun q => endsP q.1 q.2 g
noncomputable def mstep (out : List (Int × Int)) (q : Int × Int) : List (Int × Int) := match out.getLast? with
  | some l => if q.1 ≤ l.2 + 1 then out.dropLast ++ [(l.1, max l.2 q.2)] else out ++ [q]
  | none => [q]
noncomputable def mergeP (qs : List (Int × Int)) : List (Int × Int) := qs.foldl mstep []
noncomputable def sortP (ps : List (Int × Int)) : List (Int × Int) := ps.mergeSort fun a b => !pltb b a
noncomputable def plainS (ps : List (Int × Int)) (g : Int) : List (Int × Int) := mergeP (sortP (endsL ps g))

theorem ple_anti {a b : Int × Int} (h : ple a b) (g : ple b a) : a = b := by
  obtain ⟨a1, a2⟩ := a; obtain ⟨b1, b2⟩ := b
  unfold ple at h g
  simp only at h g
  have : a1 = b1 := by lia
  have : a2 = b2 := by lia
  subst_vars; rfl
theorem ple_trans {a b c : Int × Int} (h : ple a b) (g : ple b c) : ple a c := by unfold ple at *; lia
theorem sorted_eq : ∀ {l m : List (Int × Int)}, l.Perm m → l.Pairwise ple → m.Pairwise ple → l = m
  | [], m, hp, _, _ => (List.nil_perm.mp hp).symm
  | a :: l, m, hp, hl, hm => by
    match m, hm with
    | [], _ => exact absurd hp.length_eq (by simp)
    | b :: m, hm =>
      obtain ⟨h1, h2⟩ := List.pairwise_cons.mp hl
      obtain ⟨g1, g2⟩ := List.pairwise_cons.mp hm
      have e : a = b := by
        have ha : a ∈ b :: m := hp.mem_iff.mp (by simp)
        have hb : b ∈ a :: l := hp.mem_iff.mpr (by simp)
        rcases List.mem_cons.mp ha with e | ha
        · exact e
        · rcases List.mem_cons.mp hb with e | hb
          · exact e.symm
          · exact ple_anti (h1 b hb) (g1 a ha)
      subst e
      rw [sorted_eq (List.Perm.cons_inv hp) h2 g2]
theorem sortP_perm (ps : List (Int × Int)) : (sortP ps).Perm ps := List.mergeSort_perm _ _
theorem sortP_sorted (ps : List (Int × Int)) : (sortP ps).Pairwise ple := by
  have := List.pairwise_mergeSort (le := fun a b : Int × Int => !pltb b a) (fun a b c h1 h2 => ?_) (fun a b => ?_) ps
  · exact this.imp fun h => pltb_ple (by simpa using h)
  · unfold pltb at *
    simp only [Bool.not_eq_true'] at *
    split at h1 <;> split at h2 <;> split <;> simp only [decide_eq_false_iff_not] at * <;> lia
  · unfold pltb
    split <;> split <;> simp <;> lia
theorem sortP_uniq {qs ps : List (Int × Int)} (h : qs.Perm ps) (hs : qs.Pairwise ple) : qs = sortP ps := sorted_eq (h.trans (sortP_perm ps).symm) hs (sortP_sorted ps)

theorem endsL_length (ps : List (Int × Int)) (g : Int) : (endsL ps g).length ≤ ps.length := List.length_filterMap_le _ _
theorem mstep_length (out : List (Int × Int)) (q : Int × Int) : (mstep out q).length ≤ out.length + 1 := by
  unfold mstep
  split
  · split <;> simp <;> lia
  · simp

section
variable {prog : Program} {w : World} {C : Cx} {ρ : Rho} {σ : Nat} {X : Int → Prop} {Q : V → Nat → Prop} {p : Params}
set_option maxHeartbeats 1000000 in
theorem f_plain_set {W : V} {ps : List (Int × Int)} {g : Int} (B : Bs p C) (hr : 1 < C.r) (hW : elems W = some (ps.map pr)) (hz : ps.length < 64) (h : Q (.tup ((plainS ps g).map pr)) σ) : CJ prog w C ρ (.ref 75) [W, .int g] σ X Q := by
  have F : Fn C.K 75 (F75 p) (bodyAt (F75 p)) ["some", "greatest"] := B.K ▸ F75_ok p
  refine call_fn F rfl (by lia) fun L own s => ?_
  have B' := B.callee (callEnvC (F75 p) L 75) own s
  refine ws_cons' <| s_own' (.inl rfl) <| wn_nil ?_
  refine ws_cons' <| s_for' (S := List (Int × Int)) (fun z => [("pairs", .own (z.map pr)), ("greatest", .val (.int g))]) (fun Ws i z τ => Ws = ps.map pr ∧ z = endsL (ps.take i) g ∧ τ = σ) <| we_name rfl ⟨_, hW, ⟨[], ⟨rfl, rfl, trivial⟩, rfl, rfl, rfl⟩, ?_, ?_⟩
  · rintro i U z τ hU ⟨_, rfl, rfl⟩
    have hi : i < ps.length := by
      obtain ⟨h, _⟩ := List.getElem?_eq_some_iff.mp hU; simpa using h
    have hU' : U = pr ps[i] := by rw [List.getElem?_map, List.getElem?_eq_getElem hi] at hU; exact (Option.some.inj hU).symm
    subst hU'
    have htk : ps.take (i + 1) = ps.take i ++ [ps[i]] := by rw [List.take_add_one, List.getElem?_eq_getElem hi]; rfl
    have hl : ((endsL (ps.take i) g).map pr).length ≤ 1000000 := by
      rw [List.length_map]; have := endsL_length (ps.take i) g; rw [List.length_take] at this; lia
    refine ⟨_, as_name (.inl rfl), ?_⟩
    refine ws_cons' <| s_assign' (.inl rfl) <| we_fn rfl (n_ends_of B') (e68 B') <| wa_cons' <| we_name rfl <| wa_cons' <| we_name rfl <| wa_nil <| f_ends B' (by show 0 < C.r - 1; lia) ?_
    have hs : endsL (ps.take i ++ [ps[i]]) g = endsL (ps.take i) g ++ (endsP ps[i].1 ps[i].2 g).toList := by
      unfold endsL; rw [List.filterMap_append]
      simp only [List.filterMap_cons, List.filterMap_nil]; cases endsP ps[i].1 ps[i].2 g <;> rfl
    refine ws_cons' <| s_if' <| wt_cmp' <| we_name rfl <| we_none <| o_isnot_none (b := (endsP ps[i].1 ps[i].2 g).isSome) ?_ ⟨_, rfl, br (fun hb => ?_) fun hb => ?_⟩
    · unfold endsV
      cases endsP ps[i].1 ps[i].2 g with
      | none => exact .inl ⟨rfl, rfl⟩
      | some q => exact .inr ⟨⟨_, rfl⟩, rfl⟩
    · obtain ⟨q, hq⟩ := Option.isSome_iff_exists.mp hb
      have hv : endsV ps[i].1 ps[i].2 g = pr q := by unfold endsV; rw [hq]
      rw [hv]
      refine ws_cons' <| s_append' rfl hl <| we_name rfl <| ws_nil <| ws_nil ⟨endsL (ps.take i) g ++ [q], ⟨by rw [List.map_append]; rfl, rfl, trivial⟩, rfl, ?_, rfl⟩
      rw [htk, hs, hq]; rfl
    · have hq : endsP ps[i].1 ps[i].2 g = none := by simpa using hb
      refine ws_nil <| ws_nil ⟨endsL (ps.take i) g, ⟨rfl, rfl, trivial⟩, rfl, ?_, rfl⟩
      rw [htk, hs, hq]; simp
  · rintro z τ ⟨_, rfl, rfl⟩
    rw [List.length_map, List.take_length]
    have hl := endsL_length ps g
    refine ws_cons' <| s_sort rfl (by lia) fun qs hp hs => ?_
    obtain rfl := sortP_uniq hp hs
    have hl2 : (sortP (endsL ps g)).length < 64 := by rw [hp.length_eq]; lia
    refine ws_cons' <| s_own' (.inl rfl) <| wn_nil ?_
    refine JS.freeze (x := "pairs") rfl ?_
    generalize hS : sortP (endsL ps g) = S at *
    refine ws_cons' <| s_for' (S := List (Int × Int)) (fun z => [("out", .own (z.map pr))]) (fun Ws i z υ => Ws = S.map pr ∧ z = (S.take i).foldl mstep [] ∧ z.length ≤ i ∧ υ = τ) <| we_name rfl ⟨_, rfl, ⟨[], ⟨rfl, trivial⟩, rfl, rfl, Nat.le_refl _, rfl⟩, ?_, ?_⟩
    · rintro i U z υ hU ⟨_, hz2, hzl, rfl⟩
      have hi : i < S.length := by
        obtain ⟨h, _⟩ := List.getElem?_eq_some_iff.mp hU; simpa using h
      have hU' : U = pr S[i] := by rw [List.getElem?_map, List.getElem?_eq_getElem hi] at hU; exact (Option.some.inj hU).symm
      subst hU'
      have hnext : (S.take (i + 1)).foldl mstep [] = mstep z S[i] := by
        rw [List.take_add_one, List.getElem?_eq_getElem hi, Option.toList_some, List.foldl_append, ← hz2]; rfl
      have hml := mstep_length z S[i]
      refine ⟨_, as_pair (.inl rfl) (.inl rfl), ?_⟩
      have hneg : ¬ ((((z.map pr).length : Int) > 0) ∧ ∃ l, z.getLast? = some l ∧ S[i].1 ≤ l.2 + 1) → mstep z S[i] = z ++ [S[i]] := fun hn => by
        unfold mstep
        cases hq : z.getLast? with
        | none => rw [List.getLast?_eq_none_iff.mp hq]; rfl
        | some l =>
          have : z ≠ [] := fun e => by rw [e] at hq; cases hq
          have hp : ((z.map pr).length : Int) > 0 := by
            rw [List.length_map]; have := List.length_pos_iff.mpr this; lia
          simp only
          rw [if_neg fun q => hn ⟨hp, l, hq, q⟩]
      have app : ¬ ((((z.map pr).length : Int) > 0) ∧ ∃ l, z.getLast? = some l ∧ S[i].1 ≤ l.2 + 1) → ∃ z', Sub [("out", Bd.own (z'.map pr))] [("out", Bd.own (z.map pr ++ [V.tup [V.int S[i].1, V.int S[i].2]])), ("high", .val (.int S[i].2)), ("low", .val (.int S[i].1)), ("out", Bd.own (z.map pr))] ∧ S.map pr = S.map pr ∧ z' = (S.take (i + 1)).foldl mstep [] ∧ z'.length ≤ i + 1 ∧ υ = υ := fun hn => by
        refine ⟨z ++ [S[i]], ⟨by simp [pr], trivial⟩, rfl, ?_, by simp; lia, rfl⟩
        rw [hnext, hneg hn]
      refine ws_cons' <| s_if' <| wt_and' <| wt_cmp' <| we_call1' rfl (n_len B') <| wl_own rfl <| c_len (by simp; lia) <| we_int <| o_gt ⟨_, rfl, br2 (fun h1 => ?_) fun h1 => ?_⟩
      · have hz0 : z ≠ [] := fun e => by subst e; simp at h1
        obtain ⟨l, hl3⟩ : ∃ l, z.getLast? = some l := ⟨z.getLast hz0, List.getLast?_eq_getLast hz0⟩
        have hl4 : (z.map pr).getLast? = some (pr l) := by rw [List.getLast?_map, hl3]; rfl
        refine wt_and' <| wt_cmp' <| we_name rfl <| we_bin' <| we_p1' <| we_last rfl hl4 ⟨_, _, rfl, we_int <| o_add <| o_le ⟨_, rfl, br2 (fun h2 => wt_and_nil ?_) fun h2 => ?_⟩⟩
        · refine ws_cons' <| s_setat rfl <| we_tuple' <| wa_cons' <| we_p0' <| we_last rfl hl4 ⟨_, _, rfl, wa_cons' <| we_callB' rfl (n_max B') <| wa_cons' <| we_p1' <| we_last rfl hl4 ⟨_, _, rfl, wa_cons' <| we_name rfl <| wa_nil <| c_max <| wa_nil ⟨by simp, we_un <| we_int <| o_neg ⟨-1, z.length - 1, rfl, by simp; lia, ?_, .inr ⟨by decide, ?_⟩, ?_⟩⟩⟩⟩
          · have := List.length_pos_iff.mpr hz0; simp; lia
          · have := List.length_pos_iff.mpr hz0; simp; lia
          · refine ws_nil <| ws_nil ⟨mstep z S[i], ⟨?_, trivial⟩, rfl, by rw [hnext], by lia, rfl⟩
            show some _ = some _
            congr 2
            unfold mstep
            rw [hl3]
            simp only
            rw [if_pos h2]
            obtain ⟨z0, rfl⟩ : ∃ z0, z = z0 ++ [l] := by
              refine ⟨z.dropLast, ?_⟩
              have := List.dropLast_concat_getLast hz0
              rw [List.getLast?_eq_getLast hz0] at hl3
              rw [Option.some.inj hl3] at this
              exact this.symm
            simp [pr]
        · refine ws_cons' <| s_append' rfl (by simp; lia) <| we_tuple' <| wa_cons' <| we_name rfl <| wa_cons' <| we_name rfl <| wa_nil ⟨by simp, ws_nil <| ws_nil <| app ?_⟩
          rintro ⟨_, l', hl', hle⟩
          rw [hl3] at hl'; cases hl'; exact h2 hle
      · exact ws_cons' <| s_append' rfl (by simp; lia) <| we_tuple' <| wa_cons' <| we_name rfl <| wa_cons' <| we_name rfl <| wa_nil ⟨by simp, ws_nil <| ws_nil <| app fun q => h1 q.1⟩
    · rintro z υ ⟨_, hz2, hzl, rfl⟩
      rw [List.length_map, List.take_length] at hz2
      refine ws_cons' <| s_return' <| we_callT1' rfl (n_tuple B') <| wl_own rfl <| c_tuple rfl ?_ ?_
      · simp only [List.length_map] at hzl ⊢; lia
      · subst hz2
        unfold plainS at h
        rw [hS] at h
        exact h
end
end Mini
end

section
open PySem PySem.W PyProof.Rows
set_option maxRecDepth 100000
namespace Mini
/-- has the pair a star -/
noncomputable def starred (q : Int × Int) : Bool := decide (q.1 = 0) || decide (q.2 = 0)
noncomputable def star? (ps : List (Int × Int)) : Option Nat := ps.findIdx? starred
noncomputable def settledS (ps : List (Int × Int)) : List (Int × Int) := plainS ps 0

theorem plainS_length (ps : List (Int × Int)) (g : Int) : (plainS ps g).length ≤ ps.length := by
  have : ∀ (qs out : List (Int × Int)), (qs.foldl mstep out).length ≤ out.length + qs.length := fun qs => by
    induction qs with
    | nil => intro out; simp
    | cons q qs ih => intro out; simp only [List.foldl_cons, List.length_cons]; have := ih (mstep out q); have := mstep_length out q; lia
  have h1 := this (sortP (endsL ps g)) []
  have h2 := (sortP_perm (endsL ps g)).length_eq
  have h3 := endsL_length ps g
  unfold plainS mergeP
  simp only [List.length_nil] at h1
  lia

section
variable {prog : Program} {w : World} {C : Cx} {ρ : Rho} {σ : Nat} {X : Int → Prop} {Q : V → Nat → Prop} {p : Params}
theorem elems_seq {W : V} {b : Bool × List V} (h : SeqV W = some b) : elems W = some b.2 := by
  cases W <;> cases h <;> rfl

set_option maxHeartbeats 1000000 in
theorem f_settled {W : V} {b : Bool} {ps : List (Int × Int)} (B : Bs p C) (hr : 3 < C.r) (hW : SeqV W = some (b, ps.map pr)) (hz : ps.length < 64) (hx : ∀ i, star? ps = some i → X i) (h : star? ps = none → Q (.tup ((settledS ps).map pr)) σ) : CJ prog w C ρ (.ref 82) [W] σ X Q := by
  have F : Fn C.K 82 (F82 p) (bodyAt (F82 p)) ["some"] := B.K ▸ F82_ok p
  refine call_fn F rfl (by lia) fun L own s => ?_
  have B' := B.callee (callEnvC (F82 p) L 82) own s
  have hr' : 2 < (C.callee (callEnvC (F82 p) L 82) own s).r := by show 2 < C.r - 1; lia
  refine ws_cons' <| s_for' (S := Unit) (fun _ => [("some", .val W)]) (fun _ i _ τ => (∀ j (h : j < ps.length), j < i → starred ps[j] = false) ∧ τ = σ) <| we_callT1' rfl (n_range B') <| we_call1' rfl (n_len B') <| wl_of' <| we_name rfl ⟨_, hW, c_len (by simp; lia) <| c_range (by simp; lia) ⟨_, rfl, ⟨(), ⟨rfl, trivial⟩, fun j _ h => absurd h (by lia), rfl⟩, ?_, ?_⟩⟩
  · rintro i U _ τ hU ⟨hj, rfl⟩
    obtain ⟨hi, rfl⟩ := range_get hU
    have hi' : i < ps.length := by simpa using hi
    have hg : (ps.map pr)[i]? = some (pr ps[i]) := by rw [List.getElem?_map, List.getElem?_eq_getElem hi']; rfl
    have bad : starred ps[i] = true → X (i : Int) := fun hs => hx i (by
      unfold star?
      rw [List.findIdx?_eq_some_iff_getElem]
      exact ⟨hi', hs, fun j hji => by rw [hj j (by lia) hji]; decide⟩)
    refine ⟨_, as_name (.inl rfl), ?_⟩
    refine ws_cons' <| s_if' <| wt_or' <| wt_cmp' <| we_p0' <| we_at' <| wl_of' <| we_name rfl ⟨_, hW, we_name rfl ⟨i, rfl, by simp; lia, _, hg, _, _, rfl, we_int <| o_eq' ⟨_, rfl, br2 (fun h1 => ?_) fun h1 => ?_⟩⟩⟩
    · exact ws_cons' <| s_raise B' (by lia) rfl <| we_name rfl ⟨_, rfl, bad (by unfold starred; simp [h1])⟩
    · refine wt_or' <| wt_cmp' <| we_p1' <| we_at' <| wl_of' <| we_name rfl ⟨_, hW, we_name rfl ⟨i, rfl, by simp; lia, _, hg, _, _, rfl, we_int <| o_eq' ⟨_, rfl, br2 (fun h2 => ?_) fun h2 => wt_or_nil ?_⟩⟩⟩
      · exact ws_cons' <| s_raise B' (by lia) rfl <| we_name rfl ⟨_, rfl, bad (by unfold starred; simp [h2])⟩
      · refine ws_nil <| ws_nil ⟨(), ⟨rfl, trivial⟩, fun j h hj' => ?_, rfl⟩
        by_cases e : j = i
        · subst e; unfold starred; simp [h1, h2]
        · exact hj j h (by lia)
  · rintro _ τ ⟨hj, rfl⟩
    refine ws_cons' <| s_return' <| we_fn rfl (n_plain_set B') (e75 B') <| wa_cons' <| we_name rfl <| wa_cons' <| we_int <| wa_nil <| f_plain_set B' (by lia) (elems_seq hW) hz ?_
    refine h ?_
    unfold star?
    rw [List.findIdx?_eq_none_iff]
    intro q hq
    obtain ⟨j, hjl, e⟩ := List.getElem_of_mem hq
    rw [← e]; exact hj j hjl (by simp; exact hjl)
end
end Mini
end

section
open PySem PySem.W PyProof.Rows
set_option maxRecDepth 100000
namespace Mini
noncomputable def hasS (ps : List (Int × Int)) (n g : Int) : Bool := (endsL ps g).any fun q => decide (q.1 ≤ n) && decide (n ≤ q.2)
noncomputable def sizeS (l : List (Int × Int)) : Int := (l.map fun q => q.2 - q.1 + 1).sum
noncomputable def numAt : List (Int × Int) → Int → Int
  | [], _ => 0
  | q :: r, k => if k ≤ q.2 - q.1 then q.1 + k else numAt r (k - (q.2 - q.1 + 1))

section
variable {prog : Program} {w : World} {C : Cx} {ρ : Rho} {σ : Nat} {X : Int → Prop} {Q : V → Nat → Prop} {p : Params}
set_option maxHeartbeats 1000000 in
theorem f_has {W : V} {ps : List (Int × Int)} {n g : Int} (B : Bs p C) (hr : 1 < C.r) (hW : elems W = some (ps.map pr)) (h : Q (.bool (hasS ps n g)) σ) : CJ prog w C ρ (.ref 89) [W, .int n, .int g] σ X Q := by
  have F : Fn C.K 89 (F89 p) (bodyAt (F89 p)) ["some", "number", "greatest"] := B.K ▸ F89_ok p
  refine call_fn F rfl (by lia) fun L own s => ?_
  have B' := B.callee (callEnvC (F89 p) L 89) own s
  have hr' : 0 < (C.callee (callEnvC (F89 p) L 89) own s).r := by show 0 < C.r - 1; lia
  refine ws_cons' <| s_for' (S := Unit) (fun _ => [("number", .val (.int n)), ("greatest", .val (.int g))]) (fun _ i _ τ => hasS (ps.take i) n g = false ∧ τ = σ) <| we_name rfl ⟨_, hW, ⟨(), ⟨rfl, rfl, trivial⟩, rfl, rfl⟩, ?_, ?_⟩
  · rintro i U _ τ hU ⟨hn, rfl⟩
    obtain ⟨hi, rfl⟩ := map_get hU
    have htk : ps.take (i + 1) = ps.take i ++ [ps[i]] := by rw [List.take_add_one, List.getElem?_eq_getElem hi]; rfl
    have hs : ∀ b, (match endsP ps[i].1 ps[i].2 g with | none => false | some q => decide (q.1 ≤ n) && decide (n ≤ q.2)) = b → hasS (ps.take (i + 1)) n g = b := fun b hb => by
      unfold hasS endsL at hn ⊢
      rw [htk, List.filterMap_append, List.any_append, hn]
      simp only [List.filterMap_cons, List.filterMap_nil, Bool.false_or]
      cases q : endsP ps[i].1 ps[i].2 g with
      | none => rw [q] at hb; simpa using hb
      | some q' => rw [q] at hb; simpa using hb
    refine ⟨_, as_name (.inl rfl), ?_⟩
    refine ws_cons' <| s_assign' (.inl rfl) <| we_fn rfl (n_ends_of B') (e68 B') <| wa_cons' <| we_name rfl <| wa_cons' <| we_name rfl <| wa_nil <| f_ends B' hr' ?_
    refine ws_cons' <| s_if' <| wt_and' <| wt_cmp' <| we_name rfl <| we_none <| o_isnot_none (b := (endsP ps[i].1 ps[i].2 g).isSome) ?_ ⟨_, rfl, br (fun hb => ?_) fun hb => ?_⟩
    · unfold endsV
      cases endsP ps[i].1 ps[i].2 g with
      | none => exact .inl ⟨rfl, rfl⟩
      | some q => exact .inr ⟨⟨_, rfl⟩, rfl⟩
    · obtain ⟨q, hq⟩ := Option.isSome_iff_exists.mp hb
      have hv : endsV ps[i].1 ps[i].2 g = pr q := by unfold endsV; rw [hq]
      rw [hv]
      rw [hq] at hs
      refine wt_and' <| wt_chain <| we_p0' <| we_name rfl ⟨_, _, rfl, we_name rfl <| o_le ⟨_, rfl, br2 (fun h1 => we_p1' <| we_name rfl ⟨_, _, rfl, o_le ⟨_, rfl, br2 (fun h2 => wt_and_nil ?_) fun h2 => ?_⟩⟩) fun h1 => ?_⟩⟩
      · refine ws_cons' <| s_return' <| we_bool ?_
        have : hasS ps n g = true := by
          have := hs true (by simp [h1, h2])
          unfold hasS endsL at this ⊢
          rw [List.any_eq_true] at this ⊢
          obtain ⟨x, hx, hx2⟩ := this
          rw [List.mem_filterMap] at hx
          obtain ⟨y, hy, hy2⟩ := hx
          exact ⟨x, List.mem_filterMap.mpr ⟨y, List.mem_of_mem_take hy, hy2⟩, hx2⟩
        rw [this] at h; exact h
      · exact ws_nil <| ws_nil ⟨(), ⟨rfl, rfl, trivial⟩, hs false (by simp [h2]), rfl⟩
      · exact ws_nil <| ws_nil ⟨(), ⟨rfl, rfl, trivial⟩, hs false (by simp [h1]), rfl⟩
    · have hq : endsP ps[i].1 ps[i].2 g = none := by simpa using hb
      exact ws_nil <| ws_nil ⟨(), ⟨rfl, rfl, trivial⟩, hs false (by rw [hq]), rfl⟩
  · rintro _ τ ⟨hn, rfl⟩
    rw [List.length_map, List.take_length] at hn
    rw [hn] at h
    exact ws_cons' <| s_return' <| we_bool h

set_option maxHeartbeats 1000000 in
theorem f_size_of {W : V} {b : Bool} {ps : List (Int × Int)} (B : Bs p C) (hr : 4 < C.r) (hW : SeqV W = some (b, ps.map pr)) (hz : ps.length < 64) (hx : ∀ i, star? ps = some i → X i) (h : star? ps = none → Q (.int (sizeS (settledS ps))) σ) : CJ prog w C ρ (.ref 96) [W] σ X Q := by
  have F : Fn C.K 96 (F96 p) (bodyAt (F96 p)) ["some"] := B.K ▸ F96_ok p
  refine call_fn F rfl (by lia) fun L own s => ?_
  have B' := B.callee (callEnvC (F96 p) L 96) own s
  have hr' : 3 < (C.callee (callEnvC (F96 p) L 96) own s).r := by show 3 < C.r - 1; lia
  refine ws_cons' <| s_assign' (.inl rfl) <| we_int ?_
  refine ws_cons' <| s_for' (S := Int) (fun z => [("count", .val (.int z))]) (fun Ws i z τ => z = sizeS ((settledS ps).take i) ∧ τ = σ) <| we_fn rfl (n_settled B') (e82 B') <| wa_cons' <| we_name rfl <| wa_nil <| f_settled B' hr' hW hz hx fun hst => ⟨_, rfl, ⟨0, ⟨rfl, trivial⟩, rfl, rfl⟩, ?_, ?_⟩
  · rintro i U z τ hU ⟨rfl, rfl⟩
    obtain ⟨hi, rfl⟩ := map_get hU
    refine ⟨_, as_pair (.inl rfl) (.inl rfl), ?_⟩
    refine ws_cons' <| s_iadd' (.inl rfl) rfl <| we_bin' <| we_bin' <| we_name rfl <| we_name rfl <| o_sub <| we_int <| o_add ⟨_, rfl, ws_nil ⟨_, ⟨rfl, trivial⟩, ?_, rfl⟩⟩
    unfold sizeS
    rw [List.take_add_one, List.getElem?_eq_getElem hi, Option.toList_some, List.map_append, List.sum_append]
    simp
  · rintro z τ ⟨rfl, rfl⟩
    rw [List.length_map, List.take_length]
    exact ws_cons' <| s_return' <| we_name rfl (h hst)

set_option maxHeartbeats 1000000 in
theorem f_number_at {W : V} {b : Bool} {ps : List (Int × Int)} {k : Int} (B : Bs p C) (hr : 4 < C.r) (hW : SeqV W = some (b, ps.map pr)) (hz : ps.length < 64) (hx : ∀ i, star? ps = some i → X i) (h : star? ps = none → Q (.int (numAt (settledS ps) k)) σ) : CJ prog w C ρ (.ref 103) [W, .int k] σ X Q := by
  have F : Fn C.K 103 (F103 p) (bodyAt (F103 p)) ["some", "place"] := B.K ▸ F103_ok p
  refine call_fn F rfl (by lia) fun L own s => ?_
  have B' := B.callee (callEnvC (F103 p) L 103) own s
  have hr' : 3 < (C.callee (callEnvC (F103 p) L 103) own s).r := by show 3 < C.r - 1; lia
  refine ws_cons' <| s_assign' (.inl rfl) <| we_name rfl ?_
  refine ws_cons' <| s_for' (S := Int) (fun z => [("left", .val (.int z))]) (fun Ws i z τ => numAt ((settledS ps).drop i) z = numAt (settledS ps) k ∧ τ = σ) <| we_fn rfl (n_settled B') (e82 B') <| wa_cons' <| we_name rfl <| wa_nil <| f_settled B' hr' hW hz hx fun hst => ⟨_, rfl, ⟨k, ⟨rfl, trivial⟩, rfl, rfl⟩, ?_, ?_⟩
  · rintro i U z τ hU ⟨hq, rfl⟩
    obtain ⟨hi, rfl⟩ := map_get hU
    have hd : (settledS ps).drop i = (settledS ps)[i] :: (settledS ps).drop (i + 1) := List.drop_eq_getElem_cons hi
    rw [hd, numAt] at hq
    refine ⟨_, as_pair (.inl rfl) (.inl rfl), ?_⟩
    refine ws_cons' <| s_if' <| wt_cmp' <| we_name rfl <| we_bin' <| we_name rfl <| we_name rfl <| o_sub <| o_le ⟨_, rfl, br2 (fun h1 => ?_) fun h1 => ?_⟩
    · rw [if_pos h1] at hq
      refine ws_cons' <| s_return' <| we_bin' <| we_name rfl <| we_name rfl <| o_add ?_
      have := h hst
      rw [← hq] at this; exact this
    · rw [if_neg h1] at hq
      exact ws_nil <| ws_cons' <| s_isub (.inl rfl) rfl <| we_bin' <| we_bin' <| we_name rfl <| we_name rfl <| o_sub <| we_int <| o_add ⟨_, rfl, ws_nil ⟨_, ⟨rfl, trivial⟩, hq, rfl⟩⟩
  · rintro z τ ⟨hq, rfl⟩
    rw [List.length_map, List.drop_length, numAt] at hq
    refine ws_cons' <| s_return' <| we_int ?_
    have := h hst
    rw [← hq] at this; exact this

set_option maxHeartbeats 1000000 in
theorem f_joined {W U : V} {b c : Bool} {ps qs : List (Int × Int)} (B : Bs p C) (hr : 4 < C.r) (hW : SeqV W = some (b, ps.map pr)) (hU : SeqV U = some (c, qs.map pr)) (hz : ps.length + qs.length < 64) (hx : ∀ i, star? ps = some i → X i) (hy : star? ps = none → ∀ i, star? qs = some i → X i)
    (h : star? ps = none → star? qs = none → Q (.tup ((plainS (settledS ps ++ settledS qs) 0).map pr)) σ) : CJ prog w C ρ (.ref 110) [W, U] σ X Q := by
  have F : Fn C.K 110 (F110 p) (bodyAt (F110 p)) ["one", "other"] := B.K ▸ F110_ok p
  refine call_fn F rfl (by lia) fun L own s => ?_
  have B' := B.callee (callEnvC (F110 p) L 110) own s
  have hr' : 3 < (C.callee (callEnvC (F110 p) L 110) own s).r := by show 3 < C.r - 1; lia
  have l1 := plainS_length ps 0
  have l2 := plainS_length qs 0
  refine ws_cons' <| s_return' <| we_fn rfl (n_plain_set B') (e75 B') <| wa_cons' <| we_bin' <| we_fn rfl (n_settled B') (e82 B') <| wa_cons' <| we_name rfl <| wa_nil <| f_settled B' hr' hW (by lia) hx fun h1 => we_fn rfl (n_settled B') (e82 B') <| wa_cons' <| we_name rfl <| wa_nil <| f_settled B' hr' hU (by lia) (hy h1) fun h2 => o_addT ?_ <| wa_cons' <| we_int <| wa_nil <| f_plain_set (ps := settledS ps ++ settledS qs) B' (by lia) ?_ ?_ (h h1 h2)
  · simp only [List.length_map]; unfold settledS; lia
  · rw [List.map_append]; rfl
  · rw [List.length_append]; unfold settledS; lia
end
end Mini
end

section
open PySem PySem.W PyProof.Rows
set_option maxRecDepth 100000
namespace Mini
noncomputable def cutS : List (Int × Int) → List (Int × Int) → List (Int × Int)
  | [], _ => []
  | _, [] => []
  | a :: r, b :: t => (if max a.1 b.1 ≤ min a.2 b.2 then [(max a.1 b.1, min a.2 b.2)] else []) ++ (if a.2 < b.2 then cutS r (b :: t) else cutS (a :: r) t)
termination_by l m => l.length + m.length
noncomputable def lstep (hi : Int) (st : List (Int × Int) × Int) (h : Int × Int) : List (Int × Int) × Int :=
  if h.2 < st.2 ∨ h.1 > hi then st else ((if st.2 < h.1 then st.1 ++ [(st.2, h.1 - 1)] else st.1), h.2 + 1)
noncomputable def lone (holes : List (Int × Int)) (out : List (Int × Int)) (q : Int × Int) : List (Int × Int) :=
  if (holes.foldl (lstep q.2) (out, q.1)).2 ≤ q.2 then (holes.foldl (lstep q.2) (out, q.1)).1 ++ [((holes.foldl (lstep q.2) (out, q.1)).2, q.2)] else (holes.foldl (lstep q.2) (out, q.1)).1
noncomputable def lessS (one holes : List (Int × Int)) : List (Int × Int) := one.foldl (lone holes) []

theorem lstep_length (hi : Int) (st : List (Int × Int) × Int) (h : Int × Int) : (lstep hi st h).1.length ≤ st.1.length + 1 := by
  unfold lstep; split
  · lia
  · simp only; split <;> simp
theorem lfold_length (hi : Int) : ∀ (holes : List (Int × Int)) (st : List (Int × Int) × Int), (holes.foldl (lstep hi) st).1.length ≤ st.1.length + holes.length
  | [], st => by simp
  | h :: t, st => by
    simp only [List.foldl_cons, List.length_cons]
    have := lfold_length hi t (lstep hi st h); have := lstep_length hi st h; lia
theorem take_succ_fold {α β : Type} {f : β → α → β} {b : β} {l : List α} {i : Nat} (hi : i < l.length) : (l.take (i + 1)).foldl f b = f ((l.take i).foldl f b) l[i] := by
  rw [List.take_add_one, List.getElem?_eq_getElem hi, Option.toList_some, List.foldl_append]; rfl

section
variable {prog : Program} {w : World} {C : Cx} {ρ : Rho} {σ : Nat} {X : Int → Prop} {Q : V → Nat → Prop} {p : Params}

set_option maxHeartbeats 2000000 in
theorem f_less {W U : V} {b c : Bool} {ps qs : List (Int × Int)} (B : Bs p C) (hr : 4 < C.r) (hW : SeqV W = some (b, ps.map pr)) (hU : SeqV U = some (c, qs.map pr)) (hz : ps.length + qs.length < 64) (hx : ∀ i, star? qs = some i → X i) (hy : star? qs = none → ∀ i, star? ps = some i → X i)
    (h : star? ps = none → star? qs = none → Q (.tup ((lessS (settledS ps) (settledS qs)).map pr)) σ) : CJ prog w C ρ (.ref 124) [W, U] σ X Q := by
  have F : Fn C.K 124 (F124 p) (bodyAt (F124 p)) ["one", "other"] := B.K ▸ F124_ok p
  refine call_fn F rfl (by lia) fun L own s => ?_
  have B' := B.callee (callEnvC (F124 p) L 124) own s
  have hr' : 3 < (C.callee (callEnvC (F124 p) L 124) own s).r := by show 3 < C.r - 1; lia
  have l1 := plainS_length ps 0
  have l2 := plainS_length qs 0
  have l1' : (settledS ps).length ≤ 64 := by unfold settledS; lia
  have l2' : (settledS qs).length ≤ 64 := by unfold settledS; lia
  refine ws_cons' <| s_assign' (.inl rfl) <| we_fn rfl (n_settled B') (e82 B') <| wa_cons' <| we_name rfl <| wa_nil <| f_settled B' hr' hU (by lia) hx fun h2 => ?_
  refine ws_cons' <| s_own' (.inl rfl) <| wn_nil ?_
  refine ws_cons' <| s_for' (S := List (Int × Int)) (fun z => [("out", .own (z.map pr)), ("holes", .val (.tup ((settledS qs).map pr)))]) (fun Ws i z τ => z = ((settledS ps).take i).foldl (lone (settledS qs)) [] ∧ z.length ≤ i * 100 ∧ τ = σ) <| we_fn rfl (n_settled B') (e82 B') <| wa_cons' <| we_name rfl <| wa_nil <| f_settled B' hr' hW (by lia) (hy h2) fun h1 => ⟨_, rfl, ⟨[], ⟨rfl, rfl, trivial⟩, rfl, by simp, rfl⟩, ?_, ?_⟩
  · rintro i U z τ hU' ⟨hz1, hzl, rfl⟩
    obtain ⟨hi, rfl⟩ := map_get hU'
    generalize hq : (settledS ps)[i] = q at *
    refine ⟨_, as_pair (.inl rfl) (.inl rfl), ?_⟩
    refine ws_cons' <| s_assign' (.inl rfl) <| we_name rfl ?_
    refine ws_cons' <| s_for' (S := List (Int × Int) × Int) (fun y => [("out", .own (y.1.map pr)), ("begin", .val (.int y.2)), ("high", .val (.int q.2)), ("holes", .val (.tup ((settledS qs).map pr)))]) (fun Ws j y υ => y = ((settledS qs).take j).foldl (lstep q.2) (z, q.1) ∧ y.1.length ≤ i * 100 + j ∧ υ = τ) <| we_name rfl ⟨_, rfl, ⟨(z, q.1), ⟨rfl, rfl, rfl, rfl, trivial⟩, rfl, by simpa using hzl, rfl⟩, ?_, ?_⟩
    · rintro j U2 y υ hU2 ⟨hy1, hyl, rfl⟩
      obtain ⟨hj, rfl⟩ := map_get hU2
      have hn := take_succ_fold (f := lstep q.2) (b := (z, q.1)) hj
      rw [← hy1] at hn
      generalize hh : (settledS qs)[j] = hole at *
      have hll := lstep_length q.2 y hole
      refine ⟨_, as_pair (.inl rfl) (.inl rfl), ?_⟩
      refine ws_cons' <| s_if' <| wt_or' <| wt_cmp' <| we_name rfl <| we_name rfl <| o_lt ⟨_, rfl, br2 (fun g1 => ?_) fun g1 => wt_or' <| wt_cmp' <| we_name rfl <| we_name rfl <| o_gt ⟨_, rfl, br2 (fun g2 => ?_) fun g2 => wt_or_nil ?_⟩⟩
      · refine ws_cons' <| s_cont ⟨y, ⟨rfl, rfl, rfl, rfl, trivial⟩, ?_, by lia, rfl⟩
        rw [hn]; unfold lstep; rw [if_pos (.inl g1)]
      · refine ws_cons' <| s_cont ⟨y, ⟨rfl, rfl, rfl, rfl, trivial⟩, ?_, by lia, rfl⟩
        rw [hn]; unfold lstep; rw [if_pos (.inr g2)]
      · have hng : ¬ (hole.2 < y.2 ∨ hole.1 > q.2) := by rintro (g | g); exact g1 g; exact g2 g
        refine ws_nil <| ws_cons' <| s_if' <| wt_cmp' <| we_name rfl <| we_name rfl <| o_lt ⟨_, rfl, br2 (fun g3 => ?_) fun g3 => ?_⟩
        · refine ws_cons' <| s_append' rfl (by simp; have : i < 64 := (by lia); have : j < 64 := (by lia); lia) <| we_tuple' <| wa_cons' <| we_name rfl <| wa_cons' <| we_bin' <| we_name rfl <| we_int <| o_sub <| wa_nil ⟨by simp, ws_nil <| ws_cons' <| s_assign' (.inl rfl) <| we_bin' <| we_name rfl <| we_int <| o_add <| ws_nil ⟨lstep q.2 y hole, ⟨?_, ?_, rfl, rfl, trivial⟩, hn.symm, by lia, rfl⟩⟩
          · unfold lstep; rw [if_neg hng, if_pos g3]
            show some _ = some _
            simp [pr]
          · unfold lstep; rw [if_neg hng]; rfl
        · refine ws_nil <| ws_cons' <| s_assign' (.inl rfl) <| we_bin' <| we_name rfl <| we_int <| o_add <| ws_nil ⟨lstep q.2 y hole, ⟨?_, ?_, rfl, rfl, trivial⟩, hn.symm, by lia, rfl⟩
          · unfold lstep; rw [if_neg hng, if_neg g3]; rfl
          · unfold lstep; rw [if_neg hng]; rfl
    · rintro y υ ⟨hy1, hyl, rfl⟩
      rw [List.length_map, List.take_length] at hy1
      rw [List.length_map] at hyl
      have hn := take_succ_fold (f := lone (settledS qs)) (b := []) hi
      rw [← hz1] at hn
      rw [hq] at hn
      refine ws_cons' <| s_if' <| wt_cmp' <| we_name rfl <| we_name rfl <| o_le ⟨_, rfl, br2 (fun g1 => ?_) fun g1 => ?_⟩
      · refine ws_cons' <| s_append' rfl (by simp; have : i < 64 := (by lia); lia) <| we_tuple' <| wa_cons' <| we_name rfl <| wa_cons' <| we_name rfl <| wa_nil ⟨by simp, ws_nil <| ws_nil ⟨lone (settledS qs) z q, ⟨?_, rfl, trivial⟩, hn.symm, ?_, rfl⟩⟩
        · unfold lone; rw [← hy1, if_pos g1]
          show some _ = some _
          simp [pr]
        · unfold lone; rw [← hy1, if_pos g1]; simp; lia
      · refine ws_nil <| ws_nil ⟨lone (settledS qs) z q, ⟨?_, rfl, trivial⟩, hn.symm, ?_, rfl⟩
        · unfold lone; rw [← hy1, if_neg g1]; rfl
        · unfold lone; rw [← hy1, if_neg g1]; lia
  · rintro z τ ⟨hz1, hzl, rfl⟩
    rw [List.length_map, List.take_length] at hz1
    rw [List.length_map] at hzl
    refine ws_cons' <| s_return' <| we_callT1' rfl (n_tuple B') <| wl_own rfl <| c_tuple rfl (by simp; lia) ?_
    subst hz1
    exact h h1 h2
end
end Mini
end

section
open PySem PySem.W PyProof.Rows
set_option maxRecDepth 100000
namespace Mini
noncomputable def tr (q : Int × Int × Int) : V := .tup [.int q.1, .int q.2.1, .int q.2.2]
noncomputable def len1 (q : Int × Int) : Int := q.2 - q.1 + 1
noncomputable def matS : List (Int × Int) → List (Int × Int) → List (Int × Int × Int)
  | [], _ => []
  | _, [] => []
  | a :: r, b :: t =>
    if len1 a < len1 b then (a.1, b.1, len1 a) :: matS r ((b.1 + len1 a, b.2) :: t)
    else if len1 b < len1 a then (a.1, b.1, len1 b) :: matS ((a.1 + len1 b, a.2) :: r) t
    else (a.1, b.1, len1 a) :: matS r t
termination_by l m => l.length + m.length
noncomputable def trim (k : Int) : List (Int × Int) → List (Int × Int)
  | [] => []
  | a :: r => (a.1 + k, a.2) :: r
theorem trim_zero : ∀ l, trim 0 l = l
  | [] => rfl
  | a :: r => by simp [trim]
theorem sizeS_cons (a : Int × Int) (r : List (Int × Int)) : sizeS (a :: r) = len1 a + sizeS r := by simp [sizeS, len1]
theorem sizeS_pos : ∀ {l : List (Int × Int)}, (∀ q ∈ l, q.1 ≤ q.2) → 0 ≤ sizeS l
  | [], _ => by simp [sizeS]
  | a :: r, h => by rw [sizeS_cons]; have := sizeS_pos (l := r) fun q hq => h q (by simp [hq]); have := h a (by simp); unfold len1; lia

section
variable {prog : Program} {w : World} {C : Cx} {ρ : Rho} {σ : Nat} {X : Int → Prop} {Q : V → Nat → Prop} {p : Params}
theorem pr_at {l : List (Int × Int)} {i : Nat} (hi : i < l.length) : (l.map pr)[i]? = some (.tup [.int l[i].1, .int l[i].2]) := by rw [List.getElem?_map, List.getElem?_eq_getElem hi]; rfl

set_option maxHeartbeats 2000000 in
theorem f_cut {W U : V} {b c : Bool} {ps qs : List (Int × Int)} (B : Bs p C) (hr : 4 < C.r) (hW : SeqV W = some (b, ps.map pr)) (hU : SeqV U = some (c, qs.map pr)) (hz : ps.length + qs.length < 64) (hx : ∀ i, star? ps = some i → X i) (hy : star? ps = none → ∀ i, star? qs = some i → X i)
    (h : star? ps = none → star? qs = none → Q (.tup ((cutS (settledS ps) (settledS qs)).map pr)) σ) : CJ prog w C ρ (.ref 117) [W, U] σ X Q := by
  have F : Fn C.K 117 (F117 p) (bodyAt (F117 p)) ["one", "other"] := B.K ▸ F117_ok p
  refine call_fn F rfl (by lia) fun L own s => ?_
  have B' := B.callee (callEnvC (F117 p) L 117) own s
  have hr' : 3 < (C.callee (callEnvC (F117 p) L 117) own s).r := by show 3 < C.r - 1; lia
  have l1 := plainS_length ps 0
  have l2 := plainS_length qs 0
  have l1' : (settledS ps).length ≤ 64 := by unfold settledS; lia
  have l2' : (settledS qs).length ≤ 64 := by unfold settledS; lia
  refine ws_cons' <| s_assign' (.inl rfl) <| we_fn rfl (n_settled B') (e82 B') <| wa_cons' <| we_name rfl <| wa_nil <| f_settled B' hr' hW (by lia) hx fun h1 => ?_
  refine ws_cons' <| s_assign' (.inl rfl) <| we_fn rfl (n_settled B') (e82 B') <| wa_cons' <| we_name rfl <| wa_nil <| f_settled B' hr' hU (by lia) (hy h1) fun h2 => ?_
  have hQ := h h1 h2
  generalize settledS ps = A at *
  generalize settledS qs = Z at *
  refine ws_cons' <| s_own' (.inl rfl) <| wn_nil <| ws_cons' <| s_assign' (.inl rfl) <| we_int <| ws_cons' <| s_assign' (.inl rfl) <| we_int ?_
  refine ws_cons' <| s_while' (S := Nat × Nat × List (Int × Int)) (fun z => [("first", .val (.tup (A.map pr))), ("second", .val (.tup (Z.map pr))), ("out", .own (z.2.2.map pr)), ("i", .val (.int z.1)), ("j", .val (.int z.2.1))])
    (fun z _ => (A.length - z.1) + (Z.length - z.2.1)) (fun z τ => z.2.2 ++ cutS (A.drop z.1) (Z.drop z.2.1) = cutS A Z ∧ z.1 ≤ A.length ∧ z.2.1 ≤ Z.length ∧ z.2.2.length ≤ z.1 + z.2.1 ∧ τ = σ)
    ⟨(0, 0, []), ⟨rfl, rfl, rfl, rfl, rfl, trivial⟩, rfl, Nat.zero_le _, Nat.zero_le _, Nat.zero_le _, rfl⟩ ?_
  rintro ⟨i, j, out⟩ τ ⟨hi1, hi2, hi3, hi4, rfl⟩
  dsimp only at hi1 hi2 hi3 hi4 ⊢
  have fin : cutS (A.drop i) (Z.drop j) = [] → WS prog w (C.callee (callEnvC (F117 p) L 117) own s) [("first", .val (.tup (A.map pr))), ("second", .val (.tup (Z.map pr))), ("out", .own (out.map pr)), ("i", .val (.int i)), ("j", .val (.int j))] ((bodyAt (F117 p)).drop 6) τ X (Ret Q) := fun he => by
    rw [he, List.append_nil] at hi1
    refine ws_cons' <| s_return' <| we_callT1' rfl (n_tuple B') <| wl_own rfl <| c_tuple rfl (by simp; lia) ?_
    rw [hi1]; exact hQ
  refine wt_and' <| wt_cmp' <| we_name rfl <| we_call1' rfl (n_len B') <| wl_of' <| we_name rfl ⟨_, rfl, c_len (by simp; lia) <| o_lt ⟨_, rfl, br2 (fun g1 => wt_and' <| wt_cmp' <| we_name rfl <| we_call1' rfl (n_len B') <| wl_of' <| we_name rfl ⟨_, rfl, c_len (by simp; lia) <| o_lt ⟨_, rfl, br2 (fun g2 => wt_and_nil ?_) fun g2 => ?_⟩⟩) fun g1 => ?_⟩⟩
  · have g1' : i < A.length := by simpa using g1
    have g2' : j < Z.length := by simpa using g2
    have eA := List.drop_eq_getElem_cons g1'
    have eZ := List.drop_eq_getElem_cons g2'
    rw [eA, eZ, cutS] at hi1
    generalize ha : A[i] = a at *
    generalize hb : Z[j] = z at *
    have pA := pr_at g1'; rw [ha] at pA
    have pZ := pr_at g2'; rw [hb] at pZ
    have lA : (A.map pr).length < 2 ^ 60 := by simp; lia
    have lZ : (Z.map pr).length < 2 ^ 60 := by simp; lia
    refine ws_cons' <| s_assign' (.inl rfl) <| we_callB' rfl (n_max B') <| wa_cons' <| we_p0' <| we_at' <| wl_of' <| we_name rfl ⟨_, rfl, we_name rfl ⟨i, rfl, lA, _, pA, _, _, rfl, wa_cons' <| we_p0' <| we_at' <| wl_of' <| we_name rfl ⟨_, rfl, we_name rfl ⟨j, rfl, lZ, _, pZ, _, _, rfl, wa_nil <| c_max ?_⟩⟩⟩⟩
    refine ws_cons' <| s_assign' (.inl rfl) <| we_callB' rfl (n_min B') <| wa_cons' <| we_p1' <| we_at' <| wl_of' <| we_name rfl ⟨_, rfl, we_name rfl ⟨i, rfl, lA, _, pA, _, _, rfl, wa_cons' <| we_p1' <| we_at' <| wl_of' <| we_name rfl ⟨_, rfl, we_name rfl ⟨j, rfl, lZ, _, pZ, _, _, rfl, wa_nil <| c_min ?_⟩⟩⟩⟩
    -- the step of the places
    have step : ∀ out', out'.length ≤ i + j + 1 → out' ++ (if a.2 < z.2 then cutS (A.drop (i + 1)) (Z.drop j) else cutS (A.drop i) (Z.drop (j + 1))) = cutS A Z →
        WS prog w (C.callee (callEnvC (F117 p) L 117) own s) [("first", .val (.tup (A.map pr))), ("second", .val (.tup (Z.map pr))), ("out", .own (out'.map pr)), ("i", .val (.int i)), ("j", .val (.int j))] [nth (inner (nth (bodyAt (F117 p)) 5)) 3] τ X
          (fun o ρ2 φ => match o with | .next => ∃ z' : Nat × Nat × List (Int × Int), Sub [("first", .val (.tup (A.map pr))), ("second", .val (.tup (Z.map pr))), ("out", .own (z'.2.2.map pr)), ("i", .val (.int z'.1)), ("j", .val (.int z'.2.1))] ρ2 ∧ (z'.2.2 ++ cutS (A.drop z'.1) (Z.drop z'.2.1) = cutS A Z ∧ z'.1 ≤ A.length ∧ z'.2.1 ≤ Z.length ∧ z'.2.2.length ≤ z'.1 + z'.2.1 ∧ φ = τ) ∧ (A.length - z'.1) + (Z.length - z'.2.1) < (A.length - i) + (Z.length - j) | _ => False) := fun out' hl he => by
      refine ws_cons' <| s_if' <| wt_cmp' <| we_p1' <| we_at' <| wl_of' <| we_name rfl ⟨_, rfl, we_name rfl ⟨i, rfl, lA, _, pA, _, _, rfl, we_p1' <| we_at' <| wl_of' <| we_name rfl ⟨_, rfl, we_name rfl ⟨j, rfl, lZ, _, pZ, _, _, rfl, o_lt ⟨_, rfl, br2 (fun g3 => ?_) fun g3 => ?_⟩⟩⟩⟩⟩
      · rw [if_pos g3] at he
        exact ws_cons' <| s_iadd' (.inl rfl) rfl <| we_int ⟨1, rfl, ws_nil <| ws_nil ⟨(i + 1, j, out'), ⟨rfl, rfl, rfl, rfl, rfl, trivial⟩, ⟨he, g1', hi3, by dsimp only; lia, rfl⟩, by dsimp only; lia⟩⟩
      · rw [if_neg g3] at he
        exact ws_cons' <| s_iadd' (.inl rfl) rfl <| we_int ⟨1, rfl, ws_nil <| ws_nil ⟨(i, j + 1, out'), ⟨rfl, rfl, rfl, rfl, rfl, trivial⟩, ⟨he, hi2, g2', by dsimp only; lia, rfl⟩, by dsimp only; lia⟩⟩
    rw [← eA, ← eZ] at hi1
    refine ws_cons' <| s_if' <| wt_cmp' <| we_name rfl <| we_name rfl <| o_le ⟨_, rfl, br2 (fun g4 => ?_) fun g4 => ?_⟩
    · rw [if_pos g4] at hi1
      refine ws_cons' <| s_append' rfl (by simp; lia) <| we_tuple' <| wa_cons' <| we_name rfl <| wa_cons' <| we_name rfl <| wa_nil ⟨by simp, ws_nil <| JS.mono (JS.via (step (out ++ [(max a.1 z.1, min a.2 z.2)]) (by simp; lia) (by rw [List.append_assoc]; exact hi1)) ⟨rfl, rfl, by simp [pr], rfl, rfl, trivial⟩) (fun o ρ2 φ hh => ?_) fun _ h => h⟩
      cases o <;> first | exact hh | exact hh.elim
    · rw [if_neg g4, List.nil_append] at hi1
      refine ws_nil <| JS.mono (JS.via (step out (by lia) hi1) ⟨rfl, rfl, rfl, rfl, rfl, trivial⟩) (fun o ρ2 φ hh => ?_) fun _ h => h
      cases o <;> first | exact hh | exact hh.elim
  · refine fin ?_
    have : j = Z.length := by simp at g2; lia
    rw [this, List.drop_length]
    cases A.drop i <;> simp [cutS]
  · refine fin ?_
    have : i = A.length := by simp at g1; lia
    rw [this, List.drop_length]
    simp [cutS]
end
end Mini
end

section
open PySem PySem.W PyProof.Rows
set_option maxRecDepth 100000
namespace Mini
theorem sizeS_trim {a : Int × Int} {r : List (Int × Int)} {k : Int} : sizeS ((a.1 + k, a.2) :: r) = len1 a - k + sizeS r := by rw [sizeS_cons]; simp only [len1]; lia
section
variable {prog : Program} {w : World} {C : Cx} {ρ : Rho} {σ : Nat} {X : Int → Prop} {Q : V → Nat → Prop} {p : Params}

/-- how far a set is gone through -/
noncomputable def At (A : List (Int × Int)) (i : Nat) (k : Int) : Prop := i ≤ A.length ∧ 0 ≤ k ∧ (∀ h : i < A.length, k < len1 A[i]) ∧ (i = A.length → k = 0)

set_option maxHeartbeats 2000000 in
theorem f_matched {W U : V} {b c : Bool} {ps qs : List (Int × Int)} (B : Bs p C) (hr : 5 < C.r) (hW : SeqV W = some (b, ps.map pr)) (hU : SeqV U = some (c, qs.map pr)) (hz : ps.length + qs.length < 64) (hx : ∀ i, star? ps = some i → X i) (hy : star? ps = none → ∀ i, star? qs = some i → X i)
    (ne1 : ∀ q ∈ settledS ps, q.1 ≤ q.2) (ne2 : ∀ q ∈ settledS qs, q.1 ≤ q.2)
    (hne : star? ps = none → star? qs = none → sizeS (settledS ps) ≠ sizeS (settledS qs) → X (min (sizeS (settledS ps)) (sizeS (settledS qs))))
    (h : star? ps = none → star? qs = none → sizeS (settledS ps) = sizeS (settledS qs) → Q (.lst ((matS (settledS ps) (settledS qs)).map tr)) σ) : CJ prog w C ρ (.ref 131) [W, U] σ X Q := by
  have F : Fn C.K 131 (F131 p) (bodyAt (F131 p)) ["one", "other"] := B.K ▸ F131_ok p
  refine call_fn F rfl (by lia) fun L own s => ?_
  have B' := B.callee (callEnvC (F131 p) L 131) own s
  have hr' : 4 < (C.callee (callEnvC (F131 p) L 131) own s).r := by show 4 < C.r - 1; lia
  have l1 := plainS_length ps 0
  have l2 := plainS_length qs 0
  have l1' : (settledS ps).length ≤ 64 := by unfold settledS; lia
  have l2' : (settledS qs).length ≤ 64 := by unfold settledS; lia
  refine ws_cons' <| s_if' <| wt_cmp' <| we_fn rfl (n_size_of B') (e96 B') <| wa_cons' <| we_name rfl <| wa_nil <| f_size_of B' hr' hW (by lia) hx fun h1 => we_fn rfl (n_size_of B') (e96 B') <| wa_cons' <| we_name rfl <| wa_nil <| f_size_of B' hr' hU (by lia) (hy h1) fun h2 => o_ne' ⟨_, rfl, br2 (fun g => ?_) fun g => ?_⟩
  · exact ws_cons' <| s_raise B' (by lia) rfl <| we_callB' rfl (n_min B') <| wa_cons' <| we_fn rfl (n_size_of B') (e96 B') <| wa_cons' <| we_name rfl <| wa_nil <| f_size_of B' hr' hW (by lia) hx fun _ => wa_cons' <| we_fn rfl (n_size_of B') (e96 B') <| wa_cons' <| we_name rfl <| wa_nil <| f_size_of B' hr' hU (by lia) (hy h1) fun _ => wa_nil <| c_min ⟨_, rfl, hne h1 h2 g⟩
  have hs : sizeS (settledS ps) = sizeS (settledS qs) := by simpa using g
  have hQ := h h1 h2 hs
  refine ws_nil <| ws_cons' <| s_assign' (.inl rfl) <| we_fn rfl (n_settled B') (e82 B') <| wa_cons' <| we_name rfl <| wa_nil <| f_settled B' (by lia) hW (by lia) hx fun _ => ?_
  refine ws_cons' <| s_assign' (.inl rfl) <| we_fn rfl (n_settled B') (e82 B') <| wa_cons' <| we_name rfl <| wa_nil <| f_settled B' (by lia) hU (by lia) (hy h1) fun _ => ?_
  generalize settledS ps = A at *
  generalize settledS qs = Z at *
  refine ws_cons' <| s_own' (.inl rfl) <| wn_nil <| ws_cons' <| s_assign' (.inl rfl) <| we_int <| ws_cons' <| s_assign' (.inl rfl) <| we_int <| ws_cons' <| s_assign' (.inl rfl) <| we_int <| ws_cons' <| s_assign' (.inl rfl) <| we_int ?_
  have lA : (A.map pr).length < 2 ^ 60 := by simp; lia
  have lZ : (Z.map pr).length < 2 ^ 60 := by simp; lia
  have at0 : ∀ {D : List (Int × Int)}, (∀ q ∈ D, q.1 ≤ q.2) → At D 0 0 := fun {D} hD => ⟨Nat.zero_le _, by lia, fun h => by have := hD D[0] (List.getElem_mem h); unfold len1; lia, fun _ => rfl⟩
  refine ws_cons' <| s_while' (S := Nat × Nat × Int × Int × List (Int × Int × Int)) (fun z => [("first", .val (.tup (A.map pr))), ("second", .val (.tup (Z.map pr))), ("runs", .own (z.2.2.2.2.map tr)), ("i", .val (.int z.1)), ("j", .val (.int z.2.1)), ("passed", .val (.int z.2.2.1)), ("gone", .val (.int z.2.2.2.1))])
    (fun z _ => (A.length - z.1) + (Z.length - z.2.1)) (fun z τ => z.2.2.2.2 ++ matS (trim z.2.2.1 (A.drop z.1)) (trim z.2.2.2.1 (Z.drop z.2.1)) = matS A Z ∧ At A z.1 z.2.2.1 ∧ At Z z.2.1 z.2.2.2.1 ∧ sizeS (trim z.2.2.1 (A.drop z.1)) = sizeS (trim z.2.2.2.1 (Z.drop z.2.1)) ∧ z.2.2.2.2.length ≤ z.1 + z.2.1 ∧ τ = σ)
    ⟨(0, 0, 0, 0, []), ⟨rfl, rfl, rfl, rfl, rfl, rfl, rfl, trivial⟩, by simp [trim_zero], at0 ne1, at0 ne2, by simpa [trim_zero] using hs, Nat.zero_le _, rfl⟩ ?_
  rintro ⟨i, j, k, m, out⟩ τ ⟨hi1, hA, hZ, hsz, hl, rfl⟩
  dsimp only at hi1 hA hZ hsz hl ⊢
  refine wt_cmp' <| we_name rfl <| we_call1' rfl (n_len B') <| wl_of' <| we_name rfl ⟨_, rfl, c_len (by simp; lia) <| o_lt ⟨_, rfl, br2 (fun g1 => ?_) fun g1 => ?_⟩⟩
  · have g1' : i < A.length := by simpa using g1
    have eA := List.drop_eq_getElem_cons g1'
    have g2' : j < Z.length := by
      rcases Nat.lt_or_ge j Z.length with h | h
      · exact h
      · have : Z.drop j = [] := List.drop_of_length_le h
        rw [this, eA] at hsz
        simp only [trim] at hsz
        rw [sizeS_trim] at hsz
        have := hA.2.2.1 g1'
        have := sizeS_pos (l := A.drop (i + 1)) fun q hq => ne1 q (List.mem_of_mem_drop hq)
        have : sizeS [] = 0 := rfl
        lia
    have eZ := List.drop_eq_getElem_cons g2'
    have kA := hA.2.2.1 g1'
    have kZ := hZ.2.2.1 g2'
    have pA := pr_at g1'
    have pZ := pr_at g2'
    rw [eA, eZ] at hi1 hsz
    simp only [trim] at hi1 hsz
    rw [matS] at hi1
    rw [sizeS_trim, sizeS_trim] at hsz
    have nA : i + 1 < A.length → 0 < len1 (A.getD (i + 1) (0, 0)) := fun h => by
      have := ne1 A[i + 1] (List.getElem_mem h)
      simp [h, len1]; lia
    generalize ha : A[i] = a at *
    generalize hb : Z[j] = z at *
    have hl1 : len1 (a.1 + k, a.2) = len1 a - k := by simp only [len1]; lia
    have hl2 : len1 (z.1 + m, z.2) = len1 z - m := by simp only [len1]; lia
    rw [hl1, hl2] at hi1
    have nxt : ∀ {D : List (Int × Int)} {d : Nat}, (∀ q ∈ D, q.1 ≤ q.2) → d < D.length → At D (d + 1) 0 := fun {D d} hD hd => ⟨hd, by lia, fun h => by have := hD D[d + 1] (List.getElem_mem h); unfold len1; lia, fun _ => rfl⟩
    have kA0 := hA.2.1
    have kZ0 := hZ.2.1
    have stayA : ∀ q, 0 ≤ q → q < len1 a → At A i q := fun q h0 h1 => ⟨Nat.le_of_lt g1', h0, fun _ => by rw [ha]; exact h1, fun e => absurd e (Nat.ne_of_lt g1')⟩
    have stayZ : ∀ q, 0 ≤ q → q < len1 z → At Z j q := fun q h0 h1 => ⟨Nat.le_of_lt g2', h0, fun _ => by rw [hb]; exact h1, fun e => absurd e (Nat.ne_of_lt g2')⟩
    refine ws_cons' <| s_assign' (.inl rfl) <| we_bin' <| we_bin' <| we_bin' <| we_p1' <| we_at' <| wl_of' <| we_name rfl ⟨_, rfl, we_name rfl ⟨i, rfl, lA, _, pA, _, _, rfl, we_p0' <| we_at' <| wl_of' <| we_name rfl ⟨_, rfl, we_name rfl ⟨i, rfl, lA, _, pA, _, _, rfl, o_sub <| we_int <| o_add <| we_name rfl <| o_sub ?_⟩⟩⟩⟩
    refine ws_cons' <| s_assign' (.inl rfl) <| we_bin' <| we_bin' <| we_bin' <| we_p1' <| we_at' <| wl_of' <| we_name rfl ⟨_, rfl, we_name rfl ⟨j, rfl, lZ, _, pZ, _, _, rfl, we_p0' <| we_at' <| wl_of' <| we_name rfl ⟨_, rfl, we_name rfl ⟨j, rfl, lZ, _, pZ, _, _, rfl, o_sub <| we_int <| o_add <| we_name rfl <| o_sub ?_⟩⟩⟩⟩
    rw [show a.2 - a.1 + 1 - k = len1 a - k from rfl, show z.2 - z.1 + 1 - m = len1 z - m from rfl]
    refine ws_cons' <| s_assign' (.inl rfl) <| we_callB' rfl (n_min B') <| wa_cons' <| we_name rfl <| wa_cons' <| we_name rfl <| wa_nil <| c_min ?_
    refine ws_cons' <| s_append' rfl (by simp; lia) <| we_tuple' <| wa_cons' <| we_bin' <| we_p0' <| we_at' <| wl_of' <| we_name rfl ⟨_, rfl, we_name rfl ⟨i, rfl, lA, _, pA, _, _, rfl, we_name rfl <| o_add <| wa_cons' <| we_bin' <| we_p0' <| we_at' <| wl_of' <| we_name rfl ⟨_, rfl, we_name rfl ⟨j, rfl, lZ, _, pZ, _, _, rfl, we_name rfl <| o_add <| wa_cons' <| we_name rfl <| wa_nil ⟨by simp, ?_⟩⟩⟩⟩⟩
    refine ws_cons' <| s_iadd' (.inl rfl) rfl <| we_name rfl ⟨_, rfl, ws_cons' <| s_iadd' (.inl rfl) rfl <| we_name rfl ⟨_, rfl, ?_⟩⟩
    refine ws_cons' <| s_if' <| wt_cmp' <| we_name rfl <| we_name rfl <| o_eq' ⟨_, rfl, br2 (fun g3 => ?_) fun g3 => ?_⟩
    · refine ws_cons' <| s_iadd' (.inl rfl) rfl <| we_int ⟨1, rfl, ws_cons' <| s_assign' (.inl rfl) <| we_int <| ws_nil ?_⟩
      refine ws_cons' <| s_if' <| wt_cmp' <| we_name rfl <| we_name rfl <| o_eq' ⟨_, rfl, br2 (fun g4 => ?_) fun g4 => ?_⟩
      · have e : len1 a - k = len1 z - m := by lia
        rw [if_neg (by lia), if_neg (by lia)] at hi1
        refine ws_cons' <| s_iadd' (.inl rfl) rfl <| we_int ⟨1, rfl, ws_cons' <| s_assign' (.inl rfl) <| we_int <| ws_nil <| ws_nil ⟨(i + 1, j + 1, 0, 0, out ++ [(a.1 + k, z.1 + m, len1 a - k)]), ⟨rfl, rfl, ?_, rfl, rfl, rfl, rfl, trivial⟩, ⟨?_, nxt ne1 g1', nxt ne2 g2', ?_, ?_, rfl⟩, ?_⟩⟩
        · rw [List.map_append]; show some _ = some _; rw [g3]; rfl
        · simp only [trim_zero]; rw [List.append_assoc]; exact hi1
        · simp only [trim_zero]; lia
        · simp only [List.length_append, List.length_singleton]; lia
        · dsimp only; lia
      · have e : len1 a - k < len1 z - m := by lia
        rw [if_pos e] at hi1
        refine ws_nil <| ws_nil ⟨(i + 1, j, 0, m + (len1 a - k), out ++ [(a.1 + k, z.1 + m, len1 a - k)]), ⟨rfl, rfl, ?_, rfl, rfl, rfl, ?_, trivial⟩, ⟨?_, nxt ne1 g1', stayZ (m + (len1 a - k)) (by lia) (by lia), ?_, ?_, rfl⟩, ?_⟩
        · rw [List.map_append]; show some _ = some _; rw [g3]; rfl
        · show some _ = some _; rw [g3]
        · simp only [trim_zero]; rw [eZ, List.append_assoc]; simp only [trim]
          rw [show z.1 + (m + (len1 a - k)) = z.1 + m + (len1 a - k) by lia]; exact hi1
        · simp only [trim_zero]; rw [eZ]; simp only [trim]; rw [sizeS_trim]; lia
        · simp only [List.length_append, List.length_singleton]; lia
        · dsimp only; lia
    · have e : ¬ (len1 a - k ≤ len1 z - m) := fun q => g3 (by lia)
      refine ws_nil <| ws_cons' <| s_if' <| wt_cmp' <| we_name rfl <| we_name rfl <| o_eq' ⟨_, rfl, br2 (fun g4 => ?_) fun g4 => ?_⟩
      · rw [if_neg (by lia), if_pos (by lia)] at hi1
        refine ws_cons' <| s_iadd' (.inl rfl) rfl <| we_int ⟨1, rfl, ws_cons' <| s_assign' (.inl rfl) <| we_int <| ws_nil <| ws_nil ⟨(i, j + 1, k + (len1 z - m), 0, out ++ [(a.1 + k, z.1 + m, len1 z - m)]), ⟨rfl, rfl, ?_, rfl, rfl, ?_, rfl, trivial⟩, ⟨?_, stayA (k + (len1 z - m)) (by lia) (by lia), nxt ne2 g2', ?_, ?_, rfl⟩, ?_⟩⟩
        · rw [List.map_append]; show some _ = some _; rw [g4]; rfl
        · show some _ = some _; rw [g4]
        · simp only [trim_zero]; rw [eA, List.append_assoc]; simp only [trim]
          rw [show a.1 + (k + (len1 z - m)) = a.1 + k + (len1 z - m) by lia]; exact hi1
        · simp only [trim_zero]; rw [eA]; simp only [trim]; rw [sizeS_trim]; lia
        · simp only [List.length_append, List.length_singleton]; lia
        · dsimp only; lia
      · exact absurd (show min (len1 a - k) (len1 z - m) = len1 z - m by lia) g4
  · have gi : i = A.length := by have := hA.1; simp at g1; lia
    rw [gi, List.drop_length] at hi1
    simp only [trim, matS, List.append_nil] at hi1
    refine JS.freeze (x := "runs") rfl <| ws_cons' <| s_return' <| we_name rfl ?_
    rw [hi1]; exact hQ
end
end Mini
end

section
open PySem PySem.W PyProof.Rows
set_option maxRecDepth 100000
namespace Mini
/-- some of the changing objects, and what is known of them -/
structure Pin (C : Cx) (N : List Addr) (P : Nat → Heap → Prop) : Prop where
  sub : ∀ a ∈ N, a ∈ C.mu
  get : ∀ n h, C.I n h → P n h
  put : ∀ n m h h', n ≤ m → C.I n h → P m h' → (∀ b ∈ C.mu, b ∉ N → ∀ o, h.get? b = some o → h'.get? b = some o) → C.I m h'

theorem Pin.callee {C : Cx} {N : List Addr} {P : Nat → Heap → Prop} (p : Pin C N P) {env : Env} {own : Own} {s : Shared} (hd : ∀ a ∈ own.map (·.2), a ∉ C.mu) : Pin (C.callee env own s) N P where
  sub := fun a ha => List.mem_append_left _ (p.sub a ha)
  get := fun n h hi => p.get n h hi.1
  put := fun n m h h' le hi hP k => ⟨p.put n m h h' le hi.1 hP fun b hb hn o e => k b (List.mem_append_left _ hb) hn o e, fun a ha o e => k a (List.mem_append_right _ ha) (fun q => hd a ha (p.sub a q)) o (hi.2 a ha o e)⟩
theorem Pin.comp {C : Cx} {N : List Addr} {P : Nat → Heap → Prop} (p : Pin C N P) (scope : Scope) (cl : List (Str × Addr)) (Ca : Addr) : Pin (C.comp scope cl Ca) N P := ⟨p.sub, p.get, p.put⟩
theorem Pin.mono {C : Cx} {N N' : List Addr} {P P' : Nat → Heap → Prop} (p : Pin C N P) (hs : ∀ a ∈ N', a ∈ N) (hg : ∀ n h, P n h → P' n h) (hp : ∀ n m h h', P n h → P' m h' → (∀ b ∈ N, b ∉ N' → ∀ o, h.get? b = some o → h'.get? b = some o) → P m h') : Pin C N' P' where
  sub := fun a ha => p.sub a (hs a ha)
  get := fun n h hi => hg n h (p.get n h hi)
  put := fun n m h h' le hi hP k => p.put n m h h' le hi (hp n m h h' (p.get n h hi) hP fun b hb hn o e => k b (p.sub b hb) hn o e) fun b hb hn o e => k b hb (fun q => hn (hs b q)) o e

/-- a context with another invariant -/
noncomputable def Cx.wi (C : Cx) (I' : Nat → Heap → Prop) : Cx := { C with I := I' }
section
variable {C : Cx} {ρ : Rho} {σ : Nat} {own : Own} {s : Shared} {I' : Nat → Heap → Prop}
theorem Cx.Ok.wi (ok : C.Ok) (hl : ∀ σ h h', (∀ a ∈ C.mu, ∀ o, h.get? a = some o → h'.get? a = some o) → I' σ h → I' σ h') : (C.wi I').Ok :=
  ⟨ok.fr, ok.hd, ok.room, ok.units, ok.kind, ok.g, ok.b, ok.lim, ok.glob, ok.blt, ok.mutB, ok.kin, ok.bg, ok.fra, ok.fmu, hl⟩
theorem St.wi {n : Nat} (st : St C ρ own σ s) (hi : I' n s.heap) : St (C.wi I') ρ own n s :=
  ⟨⟨st.ap.Lmu, st.ap.cmu, st.ap.fmu⟩, ⟨st.inv.base, st.inv.frs⟩, hi, ⟨st.loc.look, st.loc.ns, st.loc.cells, st.loc.ownok, st.loc.nodup, st.loc.ownG⟩, st.ml, st.gs, st.gk⟩
theorem St.unwi {n : Nat} (st : St (C.wi I') ρ own n s) (hi : C.I σ s.heap) : St C ρ own σ s :=
  ⟨⟨st.ap.Lmu, st.ap.cmu, st.ap.fmu⟩, ⟨st.inv.base, st.inv.frs⟩, hi, ⟨st.loc.look, st.loc.ns, st.loc.cells, st.loc.ownok, st.loc.nodup, st.loc.ownG⟩, st.ml, st.gs, st.gk⟩
theorem To.unwi {n : Nat} {s' : Shared} (t : To (C.wi I') n s s') (hi : C.I σ s'.heap) : To C σ s s' := ⟨t.kp, ⟨t.inv.base, t.inv.frs⟩, hi⟩
theorem Fly.unwi {e : Addr} {n : Int} {b : Bool} {s' : Shared} (f : Fly (C.wi I') e n b s') (hI : ∀ n h, I' n h → ∃ σ, C.I σ h) : Fly C e n b s' := ⟨f.same, f.base, f.frs, f.newe, f.gk, f.ml, f.i.elim fun m hi => hI m _ hi, f.trc⟩
theorem Cx.Sp.wi (sp : C.Sp) : (C.wi I').Sp := ⟨sp.LB, sp.Lt, sp.cB, sp.LG, sp.cG, sp.cap⟩

/-- pinned objects change -/
theorem St.pin {N : List Addr} {P : Nat → Heap → Prop} {m : Nat} {h' : Heap} {tk : Nat} (ok : C.Ok) (pn : Pin C N P) (le : σ ≤ m) (st : St C ρ own σ s) (k : ∀ b o, b ∉ N → s.heap.get? b = some o → h'.get? b = some o) (hl : ∀ b ∈ N, (h'.get? b).isSome) (hP : P m h') : To C m s { s with heap := h', toks := tk } := by
  refine ⟨⟨⟨_, _, rfl⟩, fun b o e hb => .inl (k b o (fun q => hb (pn.sub b q)) e), fun b e => ?_⟩, ⟨fun b o e => k b o (fun q => by have := ok.mutB b (pn.sub b q); rw [this] at e; cases e) (st.inv.base b o e), st.inv.frs.keep fun env he L hf o e => k L o (fun q => st.ap.fmu env he L hf (pn.sub L q)) e⟩, pn.put _ _ _ _ le st.i hP fun b _ hn o e => k b o hn e⟩
  by_cases hb : b ∈ N
  · exact hl b hb
  · obtain ⟨o, e⟩ := Option.isSome_iff_exists.mp e
    show (h'.get? b).isSome
    rw [k b o hb e]; rfl
end

section
variable {prog : Program} {w : World} {C : Cx} {ρ : Rho} {σ : Nat} {X : Int → Prop}
/-- a function of the program's own, with the caller's own lists told apart -/
theorem call_fnU {Q : V → Nat → Prop} {f : Addr} {fd : FuncData} {body : List Stmt} {xs : List Str} {Vs : List V} (F : Fn C.K f fd body xs) (hlen : Vs.length = xs.length) (hr : 0 < C.r)
    (h : ∀ L own s, (∀ a ∈ own.map (·.2), a ∉ C.mu) → JW prog w (C.callee (callEnvC fd L f) own s) (xs.zip (Vs.map .val)) (execs body (callEnvC fd L f)) σ X (Ret Q)) : CJ prog w C ρ (.ref f) Vs σ X Q := fun ok s own Qc Ec vs st r po ex =>
  call_core F hlen hr ok st r ex fun L s₁ ok' sp' st' Q1 E1 q1 q2 ex' => h L own s (fun a ha => by obtain ⟨p, hp, rfl⟩ := List.mem_map.mp ha; exact (st.loc.ownok p hp).1) ok' sp' _ [] _ _ st' (fun fl oo ρ' σ' s' own' st'' rr q => by
    have t := callee_to ok st st''
    cases oo with
    | next => cases rr; exact q2 _ (po .none .none σ' s' t (by simp only [Rep]) q)
    | cont => exact q.elim
    | brk => exact q.elim
    | ret W =>
      obtain ⟨v, rfl, rr⟩ := rr
      exact q1 _ _ (po v W σ' s' t (Rep.mono (fun _ _ e _ _ => e) (fun c _ hn hc => hn (List.mem_append.mpr hc)) rr) q)) ex'

/-- x[k], x a pinned list -/
theorem we_rawat {x : Str} {k : Nat} {kk : Nat} {p p2 pos : Pos} {U : Addr} {Q : V → Nat → Prop} (hx : ρ.lookup x = some (.val (.raw (.ref U)))) (hk : k < 1000)
    (h : ∀ h', C.I σ h' → ∃ vs n v W, h'.get? U = some (lstO vs n) ∧ vs[k]? = some v ∧ (∀ hh av, Rep hh av W v) ∧ Q W σ)
    (hd : (x == ("__debug__" : Str)) = false := by decide) (hs : ∀ o i, subscripted (.Constant (.int k) kk p2) false o i = operate [o, i] (getItem o i) := by intro _ _; with_unfolding_all rfl) : WE prog w C ρ (.Subscript (.Name x p) (.Constant (.int k) kk p2) pos) σ X Q := fun ok s own Qc Ec st po ex => by
  obtain ⟨_, l, r⟩ := st.loc.look x _ hx
  simp only [BdRep, Rep] at r; subst r
  refine Subscript_ (look_name ok l (wpAny_Constant_int ?_) hd)
  obtain ⟨vs, n, v, W, g, hv, hr, q⟩ := h _ st.i
  have hl : k < vs.length := (List.getElem?_eq_some_iff.mp hv).1
  refine subTail_seq (b := false) g (getItem_seq (b := false) g ⟨by lia, by lia⟩ (j := k) ?_ hv ?_) (hs _ _)
  · exact at_nat hl
  · exact po _ W σ _ (st.toks ok) (hr _ _) q

/-- x[k] = e -/
theorem s_rawset {x : Str} {k kk : Nat} {p p1 p2 pos : Pos} {value : Expr} {U : Addr} {N : List Addr} {P : Nat → Heap → Prop} {Q : Out → Rho → Nat → Prop} (pn : Pin C N P) (hU : U ∈ N) (hx : ρ.lookup x = some (.val (.raw (.ref U))))
    (h : WE prog w C ρ value σ X (fun W τ => ∃ (i : Int) (m : Nat), W = .int i ∧ τ ≤ m ∧ (∀ h' t, C.I τ h' → ∃ vs n, h'.get? U = some (lstO vs n) ∧ k < vs.length ∧ vs.length < 1000 ∧ P m (h'.update U (Obj.mapSeq (·.setIfInBounds k (.int i t))))) ∧ Q .next ρ m))
    (hd : (x == ("__debug__" : Str)) = false := by decide) (hs : ∀ env, swapsWith value (some (.Subscript (.Name x p) (.Constant (.int k) kk p1) p2)) pos.line env = pure false := by intro _; rfl) : W1 prog w C ρ (.Assign [.Subscript (.Name x p) (.Constant (.int k) kk p1) p2] value pos) σ X Q := fun ok sp s own Qc Ec st ps ex => by
  refine wpAny_Assign_Subscript (h ok s own _ _ st (fun v W τ s₁ t₁ r₁ ⟨i, m, e, le, hq, q⟩ => ?_) ex) (hs _)
  subst e; simp only [Rep] at r₁; obtain ⟨t, rfl⟩ := r₁
  have st₁ := st.to t₁
  obtain ⟨_, l, r⟩ := st₁.loc.look x _ hx
  simp only [BdRep, Rep] at r; subst r
  refine look_name ok l (wpAny_Constant_int ?_) hd
  obtain ⟨vs, n, g, hk, hl, hP⟩ := hq _ t st₁.i
  refine ki_setAt (n := n) g (by lia) (by lia) (by rw [List.size_toArray]; lia) ?_
  rw [Int.toNat_natCast]
  have t₂ : To C m s₁ { s₁ with heap := s₁.heap.update U (Obj.mapSeq (·.setIfInBounds k (.int i t))), toks := s₁.toks + 1 } := St.pin ok pn le st₁ (fun b o hb e => (Heap.get?_update_other _ _ (fun (q : U = b) => hb (q ▸ hU))).trans e) (fun b hb => ?_) hP
  · exact ps .next .next ρ m _ own (st₁.to t₂) (SK.of_kp (t₁.trans t₂).kp) rfl q
  · by_cases e : b = U
    · subst e
      have := PySem.IsL.update (l := b) (items := vs.toArray) (n := n) g (·.setIfInBounds k (.int i t))
      rw [this]; rfl
    · rw [Heap.get?_update_other _ _ (Ne.symm e)]
      obtain ⟨o, go⟩ := Option.isSome_iff_exists.mp (st₁.ml b (pn.sub b hb))
      rw [go]; rfl
end

/-- values that are ints -/
noncomputable def IntVals (cs : List Int) (vs : List Value) : Prop := ∃ xs : List (Int × Tok), vs = xs.map (fun p => .int p.1 p.2) ∧ xs.map (·.1) = cs
theorem IntVals.length {cs : List Int} {vs : List Value} (h : IntVals cs vs) : vs.length = cs.length := by obtain ⟨xs, rfl, rfl⟩ := h; simp
theorem IntVals.rep {h : Heap} {av : Addr → Prop} : ∀ {cs : List Int} {vs : List Value}, IntVals cs vs → RepL h av (cs.map V.int) vs
  | _, _, ⟨[], rfl, rfl⟩ => by simp [RepL]
  | _, _, ⟨x :: xs, rfl, rfl⟩ => by
    simp only [List.map_cons, RepL, Rep]
    exact ⟨_, _, rfl, ⟨_, rfl⟩, IntVals.rep ⟨xs, rfl, rfl⟩⟩
theorem IntVals.tail {c : Int} {cs : List Int} {vs : List Value} (h : IntVals (c :: cs) vs) : ∃ t us, vs = .int c t :: us ∧ IntVals cs us := by
  obtain ⟨xs, rfl, e⟩ := h
  match xs, e with
  | x :: xs, e =>
    simp only [List.map_cons, List.cons.injEq] at e
    exact ⟨x.2, _, by rw [← e.1]; rfl, xs, rfl, e.2⟩
noncomputable abbrev Ud := List Int × Int × Int × Int
/-- the urn's two lists -/
noncomputable def UrnAt (U A : Addr) (d : Ud) (h : Heap) : Prop := ∃ t1 t2 t3 n vs m, h.get? U = some (lstO [.ref A, .int d.2.1 t1, .int d.2.2.1 t2, .int d.2.2.2 t3] n) ∧ h.get? A = some (lstO vs m) ∧ IntVals d.1 vs

section
variable {prog : Program} {w : World} {C : Cx} {ρ : Rho} {σ : Nat} {X : Int → Prop} {U A : Addr} {ph : Nat → Ud}
theorem wt_urn_ne {x : Str} {kk : Nat} {p p1 p2 p3 pos : Pos} {Q : Bool → Nat → Prop} (pn : Pin C [U, A] fun n => UrnAt U A (ph n)) (hx : ρ.lookup x = some (.val (.raw (.ref U)))) (h : Q (!(ph σ).1.isEmpty) σ)
    (hd : (x == ("__debug__" : Str)) = false := by decide) (hs : ∀ o i, subscripted (.Constant (.int 0) kk p1) false o i = operate [o, i] (getItem o i) := by intro _ _; with_unfolding_all rfl) : WT prog w C ρ (.Compare (.Subscript (.Name x p) (.Constant (.int 0) kk p1) p2) [.NotEq] [.List [] p3] pos) σ X Q := fun ok s own Qc Ec st po ex =>
  wpAny_isTrue_Compare1 (we_rawat (k := 0) (Q := fun W τ => W = .raw (.ref A) ∧ τ = σ) hx (by lia) (fun h' hi => by
    obtain ⟨t1, t2, t3, n, vs, m, g, _⟩ := pn.get _ _ hi
    exact ⟨_, n, _, .raw (.ref A), g, rfl, fun hh av => by simp only [Rep], rfl, rfl⟩) hd hs ok s own _ _ st (fun v W τ s₁ t₁ r₁ ⟨e, eτ⟩ => by
    subst e; subst eτ; simp only [Rep] at r₁; subst r₁
    have st₁ := st.to t₁
    obtain ⟨t1', t2', t3', n', vs, m, _, g, hv⟩ := pn.get _ _ st₁.i
    refine wpAny_List_spliced (Calls.spliced_nil ⟨Nat.zero_le _, ?_⟩)
    obtain ⟨t₂, r₂, g₂, na⟩ := st₁.new ok (T := "list") (Vs := []) (vs := []) (by simp only [RepL])
    obtain ⟨as, ra⟩ := rep_reads (show Rep (s₁.heap.push (lstO [] 0)) (fun _ => False) (.lst ((ph τ).1.map V.int)) (.ref A) by simp only [Rep]; exact ⟨_, vs, m, rfl, id, Heap.get?_push_of_some _ g, hv.rep⟩) (by simp only [lay]; exact lays_ints _)
    obtain ⟨bs, rb⟩ := rep_reads (show Rep (s₁.heap.push (lstO [] 0)) (Av C own) (.lst []) (.ref s₁.heap.objs.size) by simp only [Rep]; exact ⟨_, [], 0, rfl, na, g₂, r₂⟩) rfl
    have hu := ok.units
    refine SeqAt.compareNe_shaped ra rb (by unfold SeqAt.shaped; rw [lay_can (by simp only [lay]; exact lays_ints _), Bool.true_and]; exact decide_eq_true (deep_ints _)) rfl (by lia) ?_
    rw [show PyData.eqv (pd (.lst ((ph τ).1.map V.int))) (pd (.lst [])) = ((ph τ).1.map V.int).isEmpty from veq_nil _]
    refine wpAny_truthy_bool ((po.to t₁) _ _ τ _ t₂ rfl ?_)
    rw [List.isEmpty_map]; exact h) (fun n e b s' hx' f => ex n e b s' hx' f)) rfl

theorem we_urn_pop {x : Str} {kk k2 : Nat} {p p1 p2 p3 p4 pos : Pos} {Q : V → Nat → Prop} {c0 : Int} {cs : List Int} {m : Nat} (pn : Pin C [U, A] fun n => UrnAt U A (ph n)) (hne : U ≠ A) (hx : ρ.lookup x = some (.val (.raw (.ref U)))) (le : σ ≤ m) (hc : (ph σ).1 = c0 :: cs) (hm : ph m = (cs, (ph σ).2)) (hz : cs.length < 1000) (h : Q (.int c0) m)
    (hd : (x == ("__debug__" : Str)) = false := by decide) (hs : ∀ o i, subscripted (.Constant (.int 0) kk p1) false o i = operate [o, i] (getItem o i) := by intro _ _; with_unfolding_all rfl)
    (he : ∀ env, backTo pos (starEach [.Constant (.int 0) k2 p4] env) = [(false, eval (.Constant (.int 0) k2 p4) env)] := by intro _; rfl)
    (hc' : ∀ env, ∃ pl, eval (.Call (.Attribute (.Subscript (.Name x p) (.Constant (.int 0) kk p1) p2) "pop" p3) [.Constant (.int 0) k2 p4] [] pos) env = (do
      let ov ← eval (.Subscript (.Name x p) (.Constant (.int 0) kk p1) p2) env
      standAt p3.atName
      let (f, first) ← holding [ov] (getMethod ov "pop" pl)
      callWith pos f first (backTo pos (starEach [.Constant (.int 0) k2 p4] env)) (backToKw pos (keywordEach [] env))) := by intro _; exact ⟨_, rfl⟩) : WE prog w C ρ (.Call (.Attribute (.Subscript (.Name x p) (.Constant (.int 0) kk p1) p2) "pop" p3) [.Constant (.int 0) k2 p4] [] pos) σ X Q := fun ok s own Qc Ec st po ex => by
  obtain ⟨pl, hc'⟩ := hc' C.env
  refine methodCall_KW (we_rawat (k := 0) (Q := fun W τ => W = .raw (.ref A) ∧ τ = σ) hx (by lia) (fun h' hi => by
    obtain ⟨t1, t2, t3, n, vs, m, g, _⟩ := pn.get _ _ hi
    exact ⟨_, n, _, .raw (.ref A), g, rfl, fun hh av => by simp only [Rep], rfl, rfl⟩) hd hs ok s own _ _ st (fun v W τ s₁ t₁ r₁ ⟨e, eτ⟩ => ?_) (fun n e b s' hx' f => ex n e b s' hx' f)) hc'
  subst e; subst eτ; simp only [Rep] at r₁; subst r₁
  have st₁ := st.to t₁
  obtain ⟨t1, t2, t3, n, vs, mm, gU, g, hv⟩ := pn.get _ _ st₁.i
  refine getMethod_builtin ⟨_, g, rfl⟩ PySem.F.plainAttrs_list PySem.F.slot_list_pop (by rfl) (fun b e => by cases e; exact ⟨_, g, rfl⟩) ?_
  rw [he]
  rw [hc] at hv
  obtain ⟨t, us, rfl, hv'⟩ := hv.tail
  refine PySem.P.pop_at_list (wpAny_Constant_int ?_)
  have hl := hv'.length
  refine ⟨(Value.int c0 t :: us).toArray, mm, 0, _, 0, .int c0 t, by rw [List.size_toArray, sizeLine_eq]; simp only [List.length_cons]; lia, rfl, g, rfl, ?_, rfl, ?_⟩
  · unfold seqIndex?
    simp
  have g₂ := PySem.IsL.update (l := A) (items := (Value.int c0 t :: us).toArray) (n := mm) g (fun xs => xs.eraseIdxIfInBounds 0)
  have er : (Value.int c0 t :: us).toArray.eraseIdxIfInBounds 0 = us.toArray := by simp [Array.eraseIdxIfInBounds]
  rw [er] at g₂
  have gU' : (s₁.heap.update A (Obj.mapSeq fun xs => xs.eraseIdxIfInBounds 0)).get? U = _ := (Heap.get?_update_other _ _ (Ne.symm hne)).trans gU
  have t₂ : To C m s₁ { s₁ with heap := s₁.heap.update A (Obj.mapSeq fun xs => xs.eraseIdxIfInBounds 0), toks := s₁.toks + 1 } := St.pin ok pn le st₁ (fun b o hb e => (Heap.get?_update_other _ _ (fun (q : A = b) => hb (by simp [← q]))).trans e) (fun b hb => ?_) ?_
  · exact (po.to t₁) _ (.int c0) m _ t₂ (by simp only [Rep]; exact ⟨_, rfl⟩) h
  · rcases List.mem_cons.mp hb with rfl | hb
    · rw [gU']; rfl
    · obtain rfl := List.mem_singleton.mp hb
      rw [g₂]; rfl
  · show UrnAt U A (ph m) _
    rw [hm]
    exact ⟨t1, t2, t3, n, us, _, gU', g₂, hv'⟩
end
end Mini
end

section
open PySem PySem.W PyProof.Rows
set_option maxRecDepth 100000
namespace Mini
/-- the urn, after so many draws -/
noncomputable def UrnOk (U A : Addr) (σ : Nat) (h : Heap) : Prop := ∃ d : Ud, UrnAt U A d h ∧ d.1.length ≤ 64 ∧ d.2.2.1 = σ ∧ d.2.2.2.natAbs < 2 ^ 40 ∧ σ ≤ 2 ^ 40
noncomputable abbrev Urn (C : Cx) (U A : Addr) : Prop := Pin C [U, A] (fun σ h => σ ≤ 2 ^ 40 → UrnOk U A σ h)
theorem UrnAt.keep {U A : Addr} {d : Ud} {h h' : Heap} (u : UrnAt U A d h) (k : ∀ b ∈ [U, A], ∀ o, h.get? b = some o → h'.get? b = some o) : UrnAt U A d h' := by
  obtain ⟨t1, t2, t3, n, vs, m, g1, g2, g3⟩ := u
  exact ⟨t1, t2, t3, n, vs, m, k U (by simp) _ g1, k A (by simp) _ g2, g3⟩
theorem UrnAt.set1 {U A : Addr} {d d' : Ud} {h : Heap} {i : Int} {t : Tok} (hne : U ≠ A) (u : UrnAt U A d h) (e : d' = (d.1, i, d.2.2)) : ∃ vs n, h.get? U = some (lstO vs n) ∧ 1 < vs.length ∧ vs.length < 1000 ∧ UrnAt U A d' (h.update U (Obj.mapSeq (·.setIfInBounds 1 (.int i t)))) := by
  obtain ⟨t1, t2, t3, n, vs, m, g1, g2, g3⟩ := u
  subst e
  have g' := PySem.IsL.update (l := U) (n := n) g1 (·.setIfInBounds 1 (.int i t))
  exact ⟨_, n, g1, by simp, by simp, t, t2, t3, _, vs, m, g'.trans rfl, (Heap.get?_update_other _ _ hne).trans g2, g3⟩
theorem UrnAt.set2 {U A : Addr} {d d' : Ud} {h : Heap} {i : Int} {t : Tok} (hne : U ≠ A) (u : UrnAt U A d h) (e : d' = (d.1, d.2.1, i, d.2.2.2)) : ∃ vs n, h.get? U = some (lstO vs n) ∧ 2 < vs.length ∧ vs.length < 1000 ∧ UrnAt U A d' (h.update U (Obj.mapSeq (·.setIfInBounds 2 (.int i t)))) := by
  obtain ⟨t1, t2, t3, n, vs, m, g1, g2, g3⟩ := u
  subst e
  have g' := PySem.IsL.update (l := U) (n := n) g1 (·.setIfInBounds 2 (.int i t))
  exact ⟨_, n, g1, by simp, by simp, t1, t, t3, _, vs, m, g'.trans rfl, (Heap.get?_update_other _ _ hne).trans g2, g3⟩
theorem UrnAt.at1 {U A : Addr} {d : Ud} {h : Heap} (u : UrnAt U A d h) {Q : V → Prop} (q : Q (.int d.2.1)) : ∃ vs n v W, h.get? U = some (lstO vs n) ∧ vs[1]? = some v ∧ (∀ hh av, Rep hh av W v) ∧ Q W := by
  obtain ⟨t1, t2, t3, n, vs, m, g1, g2, g3⟩ := u
  exact ⟨_, n, _, .int d.2.1, g1, rfl, fun hh av => by simp only [Rep]; exact ⟨_, rfl⟩, q⟩
theorem UrnAt.at2 {U A : Addr} {d : Ud} {h : Heap} (u : UrnAt U A d h) {Q : V → Prop} (q : Q (.int d.2.2.1)) : ∃ vs n v W, h.get? U = some (lstO vs n) ∧ vs[2]? = some v ∧ (∀ hh av, Rep hh av W v) ∧ Q W := by
  obtain ⟨t1, t2, t3, n, vs, m, g1, g2, g3⟩ := u
  exact ⟨_, n, _, .int d.2.2.1, g1, rfl, fun hh av => by simp only [Rep]; exact ⟨_, rfl⟩, q⟩
theorem UrnAt.at3 {U A : Addr} {d : Ud} {h : Heap} (u : UrnAt U A d h) {Q : V → Prop} (q : Q (.int d.2.2.2)) : ∃ vs n v W, h.get? U = some (lstO vs n) ∧ vs[3]? = some v ∧ (∀ hh av, Rep hh av W v) ∧ Q W := by
  obtain ⟨t1, t2, t3, n, vs, m, g1, g2, g3⟩ := u
  exact ⟨_, n, _, .int d.2.2.2, g1, rfl, fun hh av => by simp only [Rep]; exact ⟨_, rfl⟩, q⟩
theorem mulOk_small {a b : Int} (ha : a.natAbs < 2 ^ 64) (hb : b.natAbs < 2 ^ 64) : IntMulOk a b := IntMulOk.of_le (intBits_le_iff.mpr ha) (intBits_le_iff.mpr hb) (by decide)
theorem notLong {a b : Int} (hb : b.natAbs < 2 ^ 64) : Builtin.divisionGoesByPylong a b = false := by
  unfold Builtin.divisionGoesByPylong
  have : (if (b == 0) = true then 0 else b.natAbs.log2 / 30 + 1) ≤ 300 := by
    split
    · lia
    · have : b.natAbs.log2 < 64 := by
        by_cases h0 : b.natAbs = 0
        · rw [h0]; decide
        · exact (Nat.log2_lt h0).mpr hb
      lia
  simp only [Bool.and_eq_false_iff, decide_eq_false_iff_not]
  exact .inl (by lia)

section
variable {prog : Program} {w : World} {C : Cx} {ρ : Rho} {σ : Nat} {X : Int → Prop} {p : Params} {U A : Addr}

/-- what a draw gives -/
noncomputable def drawn (d : Ud) (m : Int) : Int := (d.2.1.fmod m + (d.2.2.1 + 1) * d.2.2.2 + ((d.2.2.1 + 1) * (d.2.2.1 + 1 + 1)).fdiv 2).fmod m

set_option maxHeartbeats 1000000 in
theorem pull_tail {ph : Nat → Ud} {m : Int} {a b c : Nat} {X : Int → Prop} {Q : Out → Rho → Nat → Prop} (pn : Pin C [U, A] fun n => UrnAt U A (ph n)) (hne : U ≠ A) (hm : 0 < m) (hm2 : m < 2 ^ 60) (ab : a ≤ b) (bc : b ≤ c) (e1 : ph b = ((ph a).1, (ph a).2.1.fdiv m, (ph a).2.2)) (e2 : ph c = ((ph b).1, (ph b).2.1, (ph b).2.2.1 + 1, (ph b).2.2.2))
    (s1 : 0 ≤ (ph a).2.2.1 ∧ (ph a).2.2.1 ≤ 2 ^ 41) (s2 : (ph a).2.2.2.natAbs < 2 ^ 40) (hk : C.env.kindOf "digit" = some .local) (h : Q (.ret (.int (drawn (ph a) m))) [("digit", .val (.int ((ph a).2.1.fmod m))), ("urn", .val (.raw (.ref U))), ("many", .val (.int m))] c) :
    WS prog w C [("urn", .val (.raw (.ref U))), ("many", .val (.int m))] ((bodyAt (F143 p)).drop 1) a X Q := by
  have h2 : (ph c).2.2.1 = (ph a).2.2.1 + 1 := by rw [e2, e1]
  have h3 : (ph c).2.2.2 = (ph a).2.2.2 := by rw [e2, e1]
  refine ws_cons' <| s_assign' (.inl hk) <| we_bin' <| we_rawat (k := 1) rfl (by lia) fun h' hi => (pn.get _ _ hi).at1 <| we_name rfl <| o_mod (by lia) ?_
  refine ws_cons' <| s_rawset (k := 1) pn (by simp) rfl <| we_bin' <| we_rawat (k := 1) rfl (by lia) fun h' hi => (pn.get _ _ hi).at1 <| we_name rfl <| o_fdiv (by lia) (notLong (by lia)) ⟨_, b, rfl, ab, fun h' t hi => (pn.get _ _ hi).set1 hne e1, ?_⟩
  refine ws_cons' <| s_rawset (k := 2) pn (by simp) rfl <| we_bin' <| we_rawat (k := 2) rfl (by lia) fun h' hi => (pn.get _ _ hi).at2 <| we_int <| o_add ⟨_, c, rfl, bc, fun h' t hi => (pn.get _ _ hi).set2 hne e2, ?_⟩
  refine ws_cons' <| s_return' <| we_bin' <| we_bin' <| we_bin' <| we_name rfl <| we_bin' <| we_rawat (k := 2) rfl (by lia) fun h' hi => (pn.get _ _ hi).at2 <| we_rawat (k := 3) rfl (by lia) fun h' hi => (pn.get _ _ hi).at3 <| o_mul (mulOk_small (by rw [h2]; lia) (by rw [h3]; lia)) <| o_add <|
    we_bin' <| we_bin' <| we_rawat (k := 2) rfl (by lia) fun h' hi => (pn.get _ _ hi).at2 <| we_bin' <| we_rawat (k := 2) rfl (by lia) fun h' hi => (pn.get _ _ hi).at2 <| we_int <| o_add <| o_mul (mulOk_small (by rw [h2]; lia) (by rw [h2]; lia)) <| we_int <| o_fdiv (by lia) (notLong (by lia)) <| o_add <| we_name rfl <| o_mod (by lia) ?_
  rw [h2, h3]
  exact h

set_option maxHeartbeats 1000000 in
theorem f_pull {m : Int} {Q : V → Nat → Prop} (u : Urn C U A) (hne : U ≠ A) (B : Bs p C) (hr : 0 < C.r) (hm : 0 < m) (hm2 : m < 2 ^ 60) (hσ : σ < 2 ^ 40) (h : ∀ r, 0 ≤ r → r < m → Q (.int r) (σ + 1)) : CJ prog w C ρ (.ref 143) [.raw (.ref U), .int m] σ X Q := fun ok s own Qc Ec vs st r po ex => by
  obtain ⟨d, hd, hl, hc, hT, hs⟩ := u.get _ _ st.i (by lia)
  have F : Fn C.K 143 (F143 p) (bodyAt (F143 p)) ["urn", "many"] := B.K ▸ F143_ok p
  -- the steps
  obtain ⟨D, hD1, hD2⟩ : ∃ D : Ud, D = (if d.2.1 = 0 ∧ d.1 ≠ [] then (d.1.tail, d.1.headD 0, d.2.2) else d) ∧ D.2.2 = d.2.2 := ⟨_, rfl, by split <;> rfl⟩
  let ph : Nat → Ud := fun n => match n with
    | 0 => d
    | 1 => (d.1.tail, d.2)
    | 2 => D
    | 3 => (D.1, D.2.1.fdiv m, D.2.2)
    | _ => (D.1, D.2.1.fdiv m, D.2.2.1 + 1, D.2.2.2)
  let I' : Nat → Heap → Prop := fun n h' => UrnAt U A (ph n) h' ∧ ∀ b ∈ C.mu, b ∉ [U, A] → ∀ o, s.heap.get? b = some o → h'.get? b = some o
  have hU : U ∈ C.mu := u.sub U (by simp)
  have hA : A ∈ C.mu := u.sub A (by simp)
  have ok' : (C.wi I').Ok := ok.wi fun n h1 h2 k ⟨x, y⟩ => ⟨x.keep fun b hb o e => k b (u.sub b hb) o e, fun b hb hn o e => k b hb o (y b hb hn o e)⟩
  have pn : Pin (C.wi I') [U, A] fun n => UrnAt U A (ph n) := ⟨fun a ha => u.sub a ha, fun n h' hi => hi.1, fun n n' h1 h2 _ hi hP k => ⟨hP, fun b hb hn o e => k b hb hn o (hi.2 b hb hn o e)⟩⟩
  have st' : St (C.wi I') ρ own 0 s := st.wi ⟨hd, fun b _ _ o e => e⟩
  refine call_fnU (C := C.wi I') (ρ := ρ) (σ := 0) (X := fun _ => False) (Q := fun W n => n = 4 ∧ ∃ r, W = .int r ∧ 0 ≤ r ∧ r < m) F rfl hr (fun L own2 s2 hown => JW.of ?_) ok' s own Qc Ec vs st' r (fun v W n s' t r' ⟨e, x, hW, h1, h2⟩ => ?_) (fun n e b s' hx => hx.elim)
  · have pn' := pn.callee (env := callEnvC (F143 p) L 143) (s := s2) hown
    have dr : ∀ x : Ud, 0 ≤ drawn x m ∧ drawn x m < m := fun x => ⟨Int.fmod_nonneg_of_pos _ hm, Int.fmod_lt_of_pos _ hm⟩
    have c1 : 0 ≤ d.2.2.1 ∧ d.2.2.1 ≤ 2 ^ 41 := by lia
    have els : ¬ (d.2.1 = 0 ∧ d.1 ≠ []) → WS prog w ((C.wi I').callee (callEnvC (F143 p) L 143) own2 s2) [("urn", .val (.raw (.ref U))), ("many", .val (.int m))] ((bodyAt (F143 p)).drop 1) 0 (fun _ => False) (Ret fun W n => n = 4 ∧ ∃ r, W = .int r ∧ 0 ≤ r ∧ r < m) := fun hn => by
      rw [if_neg hn] at hD1
      refine pull_tail (a := 0) (b := 3) (c := 4) pn' hne hm hm2 (by lia) (by lia) ?_ rfl c1 hT rfl ⟨rfl, _, rfl, dr _⟩
      show (D.1, D.2.1.fdiv m, D.2.2) = (d.1, d.2.1.fdiv m, d.2.2)
      rw [hD1]
    refine ws_cons' <| s_if' <| wt_and' <| wt_cmp' <| we_rawat (k := 1) rfl (by lia) fun h' hi => (pn'.get _ _ hi).at1 <| we_int <| o_eq' ⟨_, rfl, br2 (fun h1 => ?_) fun h1 => ?_⟩
    · refine wt_and' <| wt_urn_ne pn' rfl <| br (fun h2 => wt_and_nil ?_) fun h2 => ?_
      · have h2' : d.1 ≠ [] := fun e => by
          have h2 : (!d.1.isEmpty) = true := h2
          rw [e] at h2; cases h2
        obtain ⟨c0, cs, hcs⟩ := List.exists_cons_of_ne_nil h2'
        rw [if_pos ⟨h1, h2'⟩] at hD1
        refine ws_cons' <| s_rawset (k := 1) pn' (by simp) rfl <| we_urn_pop (m := 1) (c0 := c0) (cs := cs) pn' hne rfl (by lia) hcs ?_ ?_ ⟨c0, 2, rfl, by lia, fun h' t hi => (pn'.get _ _ hi).set1 hne ?_, ws_nil <| JS.via (pull_tail (p := p) (a := 2) (b := 3) (c := 4) pn' hne hm hm2 (by lia) (by lia) rfl rfl ?_ ?_ rfl ⟨rfl, _, rfl, dr _⟩) ⟨rfl, rfl, trivial⟩⟩
        · show (d.1.tail, d.2) = _
          rw [hcs]; rfl
        · rw [hcs] at hl; simp only [List.length_cons] at hl; lia
        · show D = (d.1.tail, c0, d.2.2)
          rw [hD1, hcs]; rfl
        · show 0 ≤ D.2.2.1 ∧ D.2.2.1 ≤ _
          rw [hD2]; exact c1
        · show D.2.2.2.natAbs < _
          rw [hD2]; exact hT
      · refine ws_nil <| JS.via (els fun q => ?_) ⟨rfl, rfl, trivial⟩
        have h2 : (!d.1.isEmpty) = false := h2
        rw [Bool.not_eq_false', List.isEmpty_iff] at h2
        exact q.2 h2
    · exact ws_nil <| JS.via (els fun q => h1 q.1) ⟨rfl, rfl, trivial⟩
  · subst hW; subst e
    have hi := t.i
    refine po v (.int x) (σ + 1) s' (t.unwi (u.put σ (σ + 1) s.heap s'.heap (Nat.le_succ _) st.i (fun _ => ⟨_, hi.1, ?_, ?_, ?_, by lia⟩) fun b hb hn o e => hi.2 b hb hn o e)) r' (h x h1 h2)
    · show D.1.length ≤ 64
      rw [hD1]; split
      · rw [List.length_tail]; lia
      · exact hl
    · show D.2.2.1 + 1 = _
      rw [hD2, hc]; simp
    · show D.2.2.2.natAbs < _
      rw [hD2]; exact hT
end
end Mini
end

section
open PySem PySem.W PyProof.Rows
set_option maxRecDepth 100000
namespace Mini
section
variable {prog : Program} {w : World} {C : Cx} {ρ : Rho} {σ : Nat} {X : Int → Prop} {p : Params} {U A : Addr}

theorem we_pull {x : Str} {p1 p2 pos : Pos} {e : Expr} {Q : V → Nat → Prop} (u : Urn C U A) (hne : U ≠ A) (B : Bs p C) (hr : 0 < C.r) (hk : C.env.kindOf "_law_pull" = some .globalImplicit) (hx : ρ.lookup x = some (.val (.raw (.ref U))))
    (h : WE prog w C ρ e σ X (fun W τ => ∃ m, W = .int m ∧ 0 < m ∧ m < 2 ^ 60 ∧ τ < 2 ^ 40 ∧ ∀ r, 0 ≤ r → r < m → Q (.int r) (τ + 1))) (hd : (x == ("__debug__" : Str)) = false := by decide)
    (he : ∀ env, starEach [.Name x p2, e] env = (false, eval (.Name x p2) env) :: starEach [e] env := by intro _; rfl) (he' : ∀ env, starEach [e] env = (false, eval e env) :: starEach [] env := by intro _; rfl) : WE prog w C ρ (.Call (.Name "_law_pull" p1) [.Name x p2, e] [] pos) σ X Q :=
  we_fn hk (n__law_pull B) (e143 B) (wa_cons' (we_name hx (wa_cons' (J.mono h (fun W τ ⟨m, e1, h1, h2, h3, h4⟩ => by subst e1; exact wa_nil (f_pull u hne B hr h1 h2 h3 h4)) fun _ h => h) he') hd) he) (by decide) he
theorem we_pullc {x : Str} {p1 p2 p3 pos : Pos} {m : Int} {k : Nat} {Q : V → Nat → Prop} (u : Urn C U A) (hne : U ≠ A) (B : Bs p C) (hr : 0 < C.r) (hk : C.env.kindOf "_law_pull" = some .globalImplicit) (hx : ρ.lookup x = some (.val (.raw (.ref U))))
    (h1 : 0 < m) (h2 : m < 2 ^ 60) (h3 : σ < 2 ^ 40) (h : ∀ r, 0 ≤ r → r < m → Q (.int r) (σ + 1)) (hd : (x == ("__debug__" : Str)) = false := by decide) : WE prog w C ρ (.Call (.Name "_law_pull" p1) [.Name x p2, .Constant (.int m) k p3] [] pos) σ X Q :=
  we_pull u hne B hr hk hx (we_int ⟨m, rfl, h1, h2, h3, h⟩) hd

theorem sum_set_le : ∀ (l : List Int) (j : Nat) (v : Int), (∀ x ∈ l, 0 ≤ x) → 0 ≤ v → (l.set j v).sum ≤ l.sum + v
  | [], j, v, _, hv => by simpa using hv
  | a :: l, 0, v, h, hv => by
    have := h a (by simp)
    simp only [List.set_cons_zero, List.sum_cons]; lia
  | a :: l, j + 1, v, h, hv => by
    have := sum_set_le l j v (fun x hx => h x (by simp [hx])) hv
    simp only [List.set_cons_succ, List.sum_cons]; lia
theorem sum_le_mul : ∀ (l : List Int) (c : Int), (∀ x ∈ l, x ≤ c) → l.sum ≤ c * l.length
  | [], c, _ => by simp
  | a :: l, c, h => by
    have := sum_le_mul l c fun x hx => h x (by simp [hx])
    have := h a (by simp)
    simp only [List.sum_cons, List.length_cons]
    have e : c * ((l.length + 1 : Nat) : Int) = c * l.length + c := by rw [Int.natCast_add, Int.mul_add]; simp
    lia
/-- lengths of stretches -/
noncomputable def Lens (ls : List Int) : Prop := (∀ x ∈ ls, 1 ≤ x) ∧ ls.sum ≤ 2147483656 + 1000000 * ls.length

theorem turn0 {C : Cx} {ρ : Rho} {τ : Nat} {elt : Expr} {R : V → Nat → Prop} {D : Nat → Prop} (h : WE prog w C ρ elt τ (fun _ => False) R) : WIf prog w C ρ [] τ (fun _ => False) (fun c υ => if c = true then WE prog w C ρ elt υ (fun _ => False) R else D υ) := by
  show if true = true then WE prog w C ρ elt τ (fun _ => False) R else D τ
  rw [if_pos rfl]; exact h

set_option maxHeartbeats 2000000 in
theorem f_lengths {most : Nat} {Q : V → Nat → Prop} (u : Urn C U A) (hne : U ≠ A) (B : Bs p C) (hr : 1 < C.r) (hm : most ≤ 8) (hσ : σ < 2 ^ 39) (h : ∀ ls τ, ls.length = most → Lens ls → τ ≤ σ + 30 → Q (.lst (ls.map V.int)) τ) : CJ prog w C ρ (.ref 148) [.raw (.ref U), .int most] σ X Q := by
  have F : Fn C.K 148 (F148 p) (bodyAt (F148 p)) ["urn", "most"] := B.K ▸ F148_ok p
  refine call_fnU F rfl (by lia) fun L own s hown => JW.of ?_
  have B' := B.callee (callEnvC (F148 p) L 148) own s
  have u' := u.callee (env := callEnvC (F148 p) L 148) (s := s) hown
  have hr' : 0 < (C.callee (callEnvC (F148 p) L 148) own s).r := by show 0 < C.r - 1; lia
  refine ws_cons' <| s_comp ["turn"] false [("urn", .val (.raw (.ref U)))] (fun Ws acc i τ => ∃ ls : List Int, acc = ls.map V.int ∧ ls.length = i ∧ (∀ x ∈ ls, 1 ≤ x ∧ x ≤ 1000000) ∧ τ ≤ σ + 2 * i) rfl rfl rfl (by unfold ScOk; decide) ⟨rfl, trivial⟩ ⟨⟨⟨_, rfl⟩, rfl, rfl, fun _ => rfl, rfl⟩, trivial⟩ (.name _ _) ?_
  refine we_callT1' rfl (n_range B') <| we_name rfl <| c_range (by lia) ⟨_, rfl, by simp; lia, ⟨[], rfl, rfl, by simp, by lia⟩, ?_, ?_⟩
  · rintro i W acc τ hW ⟨ls, rfl, hl, hb, hτ⟩
    obtain ⟨hi, rfl⟩ := range_get hW
    refine ⟨_, rfl, rfl, fun Ca => ?_⟩
    have B2 := B'.comp { kind := ScopeKind.function, names := [(".0", NameKind.local), ("turn", NameKind.local), ("_law_pull", NameKind.globalImplicit), ("urn", NameKind.free)], isGenerator := false, isCoroutine := false } [("urn", L + 1)] Ca
    have u2 := u'.comp { kind := ScopeKind.function, names := [(".0", NameKind.local), ("turn", NameKind.local), ("_law_pull", NameKind.globalImplicit), ("urn", NameKind.free)], isGenerator := false, isCoroutine := false } [("urn", L + 1)] Ca
    have put : ∀ (x : Int) (φ : Nat), 1 ≤ x → x ≤ 1000000 → φ = τ + 2 → ∃ ls', List.map V.int ls ++ [V.int x] = List.map V.int ls' ∧ ls'.length = i + 1 ∧ (∀ (x : Int), x ∈ ls' → 1 ≤ x ∧ x ≤ 1000000) ∧ φ ≤ σ + 2 * (i + 1) := fun x φ h1 h2 e => ⟨ls ++ [x], by simp, by simp [hl], fun y hy => by
      rcases List.mem_append.mp hy with hy | hy
      · exact hb y hy
      · obtain rfl := List.mem_singleton.mp hy; exact ⟨h1, h2⟩, by lia⟩
    refine turn0 <| we_at' <| wl_of' <| we_tuple' <| wa_cons' <| we_int <| wa_cons' <| we_int <| wa_cons' <| we_int <| wa_cons' <| we_bin' <| we_int <| we_pullc u2 hne B2 hr' rfl rfl (by lia) (by lia) (by lia) fun r r0 r1 => o_add <| wa_nil ⟨by simp, _, rfl, ?_⟩
    refine we_pullc u2 hne B2 hr' rfl rfl (by lia) (by lia) (by lia) fun k k0 k1 => ⟨k.toNat, by rw [Int.toNat_of_nonneg k0], by simp, ?_⟩
    have hk : k = 0 ∨ k = 1 ∨ k = 2 ∨ k = 3 := by lia
    rcases hk with rfl | rfl | rfl | rfl
    · exact ⟨_, rfl, put _ _ (by lia) (by lia) (by lia)⟩
    · exact ⟨_, rfl, put _ _ (by lia) (by lia) (by lia)⟩
    · exact ⟨_, rfl, put _ _ (by lia) (by lia) (by lia)⟩
    · exact ⟨_, rfl, put _ _ (by lia) (by lia) (by lia)⟩
  · rintro acc υ ⟨ls, rfl, hl, hb, hτ⟩
    simp only [List.length_map, List.length_range] at hl hτ
    have fin : ∀ ls' τ, ls'.length = most → Lens ls' → τ ≤ σ + 30 → ∀ ρ : Rho, ρ.lookup ("found" : Str) = some (.own (ls'.map V.int)) → WS prog w (C.callee (callEnvC (F148 p) L 148) own s) ρ ((bodyAt (F148 p)).drop 2) τ X (Ret Q) := fun ls' τ h1 h2 h3 ρ hρ =>
      JS.freeze (x := "found") hρ <| ws_cons' <| s_return' <| we_name rfl (h ls' τ h1 h2 h3)
    have hL : Lens ls := ⟨fun x hx => (hb x hx).1, by have := sum_le_mul ls 1000000 fun x hx => (hb x hx).2; lia⟩
    refine ws_cons' <| s_if' <| wt_and' <| nil_ne <| wl_own rfl ⟨rfl, lays_ints _, deep_ints _, ?_⟩
    refine br (fun h1 => ?_) fun h1 => ?_
    · have h0 : 0 < most := by
        rcases Nat.eq_zero_or_pos most with e | e
        · rw [e] at hl; rw [List.length_eq_zero_iff.mp hl] at h1; cases h1
        · exact e
      refine wt_and' <| wt_cmp' <| we_pullc u' hne B' hr' rfl rfl (by lia) (by lia) (by lia) fun r r0 r1 => we_int <| o_eq' ⟨_, rfl, br2 (fun h2 => wt_and_nil ?_) fun h2 => ?_⟩
      · refine ws_cons' <| s_assign' (.inl rfl) <| we_pull u' hne B' hr' rfl rfl <| we_name rfl ⟨most, rfl, by lia, by lia, by lia, fun j j0 j1 => ?_⟩
        refine ws_cons' <| s_setat rfl <| we_bin' <| we_bin' <| we_int <| we_int <| o_pow (by lia) (by decide) <| we_pullc u' hne B' hr' rfl rfl (by lia) (by lia) (by lia) fun q q0 q1 => o_add <| we_name rfl ⟨j, j.toNat, rfl, by simp; lia, by simp; lia, .inl (by lia), ws_nil <| fin (ls.set j.toNat ((2 : Int) ^ (31 : Int).toNat + q)) _ (by simp [hl]) ⟨fun x hx => ?_, ?_⟩ (by lia) _ (by rw [List.map_set]; rfl)⟩
        · rcases List.mem_or_eq_of_mem_set hx with hx | rfl
          · exact hL.1 x hx
          · have : (2 : Int) ^ (31 : Int).toNat = 2147483648 := by decide
            lia
        · have : (2 : Int) ^ (31 : Int).toNat = 2147483648 := by decide
          have := sum_set_le ls j.toNat ((2 : Int) ^ (31 : Int).toNat + q) (fun x hx => by have := hL.1 x hx; lia) (by lia)
          have := sum_le_mul ls 1000000 fun x hx => (hb x hx).2
          rw [List.length_set]
          lia
      · exact ws_nil <| fin ls _ hl hL (by lia) _ rfl
    · exact ws_nil <| fin ls _ hl hL (by lia) _ rfl
end
end Mini
end

section
open PySem PySem.W PyProof.Rows
set_option maxRecDepth 100000
namespace Mini
section
variable {prog : Program} {w : World} {C : Cx} {ρ : Rho} {σ : Nat} {X : Int → Prop} {p : Params} {U A : Addr}
theorem sum_take_drop (l : List Int) (n : Nat) : (l.drop n ++ l.take n).sum = l.sum := by
  rw [List.sum_append, Int.add_comm, ← List.sum_append, List.take_append_drop]
theorem split_eq {l : List Int} {s : Nat} (h : s < l.length) : l = l.take s ++ l[s] :: l.drop (s + 1) := by
  rw [← List.drop_eq_getElem_cons h, List.take_append_drop]
theorem split_sum {l : List Int} {s : Nat} (h : s < l.length) (q : Int) : (l.take s ++ [q, l[s] - q] ++ l.drop (s + 1)).sum = l.sum := by
  have := congrArg List.sum (split_eq h)
  simp only [List.sum_append, List.sum_cons, List.sum_nil] at this ⊢
  lia
theorem le_sum_of_mem : ∀ {l : List Int} {x : Int}, (∀ y ∈ l, 0 ≤ y) → x ∈ l → x ≤ l.sum
  | a :: l, x, h, hx => by
    have h0 : 0 ≤ l.sum := by
      clear hx
      induction l with
      | nil => simp
      | cons b l ih =>
        have := ih fun y hy => h y (by rcases List.mem_cons.mp hy with rfl | hy <;> simp [*])
        have := h b (by simp)
        simp only [List.sum_cons]; lia
    have := h a (by simp)
    simp only [List.sum_cons]
    rcases List.mem_cons.mp hx with rfl | hx
    · lia
    · have := le_sum_of_mem (l := l) (fun y hy => h y (by simp [hy])) hx
      lia
/-- lengths of stretches, cut or not -/
noncomputable def Lens4 (ls : List Int) : Prop := (∀ x ∈ ls, 1 ≤ x) ∧ ls.sum ≤ 2152000000 ∧ ls.length ≤ 4
theorem Lens.four {ls : List Int} (h : Lens ls) (hl : ls.length ≤ 4) : Lens4 ls := ⟨h.1, by have := h.2; lia, hl⟩

set_option maxHeartbeats 2000000 in
theorem f_cuto {ls : List Int} {Q : V → Nat → Prop} (u : Urn C U A) (hne : U ≠ A) (B : Bs p C) (hr : 1 < C.r) (hL : Lens ls) (h0 : ls ≠ []) (hl : ls.length ≤ 3) (hσ : σ < 2 ^ 39) (h : ∀ ls' τ, Lens4 ls' → τ ≤ σ + 10 → Q (.lst (ls'.map V.int)) τ) : CJ prog w C ρ (.ref 155) [.raw (.ref U), .lst (ls.map V.int)] σ X Q := by
  have F : Fn C.K 155 (F155 p) (bodyAt (F155 p)) ["urn", "lengths"] := B.K ▸ F155_ok p
  refine call_fnU F rfl (by lia) fun L own s hown => JW.of ?_
  have B' := B.callee (callEnvC (F155 p) L 155) own s
  have u' := u.callee (env := callEnvC (F155 p) L 155) (s := s) hown
  have hr' : 0 < (C.callee (callEnvC (F155 p) L 155) own s).r := by show 0 < C.r - 1; lia
  have hlp : 0 < ls.length := List.length_pos_iff.mpr h0
  refine ws_cons' <| s_assign' (.inl rfl) <| we_pull u' hne B' hr' rfl rfl <| we_bin' <| we_call1' rfl (n_len B') <| wl_of' <| we_name rfl ⟨_, rfl, c_len (by simp <;> lia) <| we_int <| o_add ⟨_, rfl, by simp <;> lia, by simp <;> lia, by lia, fun a a0 a1 => ?_⟩⟩
  obtain ⟨n, rfl⟩ : ∃ n : Nat, a = n := ⟨a.toNat, by lia⟩
  have en : cut? (some n) none (ls.map V.int) ++ cut? none (some n) (ls.map V.int) = (ls.drop n ++ ls.take n).map V.int := by simp [cut?, List.map_drop, List.map_take]
  refine ws_cons' <| s_assign' (.inl rfl) <| we_addL <| wl_of' <| we_slice <| wl_of' <| we_name rfl ⟨_, rfl, we_name rfl ⟨n, rfl, ⟨rfl, by simp; lia, _, rfl, wl_of' <| we_slice <| wl_of' <| we_name rfl ⟨_, rfl, we_name rfl ⟨n, rfl, rfl, by simp; lia, _, rfl, rfl, rfl, ?_, ?_⟩⟩⟩⟩⟩
  · simp [cut?]; lia
  rw [show ((false, cut? (some n) none (List.map V.int ls)).snd ++ (false, cut? none (some n) (List.map V.int ls)).snd) = (ls.drop n ++ ls.take n).map V.int from en]
  have hfl : (ls.drop n ++ ls.take n).length = ls.length := by simp; lia
  have hfs := sum_take_drop ls n
  have hfm : ∀ x ∈ ls.drop n ++ ls.take n, 1 ≤ x := fun x hx => hL.1 x (by
    rcases List.mem_append.mp hx with hx | hx
    · exact List.mem_of_mem_drop hx
    · exact List.mem_of_mem_take hx)
  generalize ls.drop n ++ ls.take n = fs at hfl hfs hfm ⊢
  have hL' := hL.2
  refine ws_cons' <| s_assign' (.inl rfl) <| we_pull u' hne B' hr' rfl rfl <| we_call1' rfl (n_len B') <| wl_of' <| we_name rfl ⟨_, rfl, c_len (by simp; lia) ⟨_, rfl, by simp; lia, by simp; lia, by lia, fun b b0 b1 => ?_⟩⟩
  obtain ⟨j, rfl⟩ : ∃ j : Nat, b = j := ⟨b.toNat, by lia⟩
  have hj : j < fs.length := by simp at b1; lia
  have hg : (fs.map V.int)[j]? = some (.int fs[j]) := by rw [List.getElem?_map, List.getElem?_eq_getElem hj]; rfl
  have f1 := hfm fs[j] (List.getElem_mem hj)
  have f2 := le_sum_of_mem (l := fs) (fun y hy => by have := hfm y hy; lia) (List.getElem_mem hj)
  have fin : ∀ ls' τ, Lens4 ls' → τ ≤ σ + 10 → ∀ ρ : Rho, ρ.lookup ("found" : Str) = some (.val (.lst (ls'.map V.int))) → WS prog w (C.callee (callEnvC (F155 p) L 155) own s) ρ ((bodyAt (F155 p)).drop 4) τ X (Ret Q) := fun ls' τ h1 h2 ρ hρ =>
    ws_cons' <| s_return' <| we_name hρ (h ls' τ h1 h2)
  have hA : Lens4 fs := ⟨hfm, by lia, by lia⟩
  refine ws_cons' <| s_if' <| wt_and' <| wt_cmp' <| we_at' <| wl_of' <| we_name rfl ⟨_, rfl, we_name rfl ⟨j, rfl, by simp; lia, _, hg, we_int <| o_gt ⟨_, rfl, br2 (fun h1 => ?_) fun h1 => ?_⟩⟩⟩
  · refine wt_and' <| wt_cmp' <| we_pullc u' hne B' hr' rfl rfl (by lia) (by lia) (by lia) fun r r0 r1 => we_int <| o_eq' ⟨_, rfl, br2 (fun h2 => wt_and_nil ?_) fun h2 => ?_⟩
    · refine ws_cons' <| s_assign' (.inl rfl) <| we_bin' <| we_int <| we_pull u' hne B' hr' rfl rfl <| we_bin' <| we_at' <| wl_of' <| we_name rfl ⟨_, rfl, we_name rfl ⟨j, rfl, by simp; lia, _, hg, we_int <| o_sub ⟨_, rfl, by lia, by lia, by lia, fun q q0 q1 => o_add ?_⟩⟩⟩
      have es : cut? none (some j) (fs.map V.int) ++ [V.int (1 + q), V.int (fs[j] - (1 + q))] ++ cut? (some (j + 1)) none (fs.map V.int) = (fs.take j ++ [1 + q, fs[j] - (1 + q)] ++ fs.drop (j + 1)).map V.int := by simp [cut?, List.map_drop, List.map_take]
      refine ws_cons' <| s_assign' (.inl rfl) <| we_addL <| wl_of' <| we_addL <| wl_of' <| we_slice <| wl_of' <| we_name rfl ⟨_, rfl, we_name rfl ⟨j, rfl, rfl, by simp; lia, _, rfl, wl_of' <| we_list' <| wa_cons' <| we_name rfl <| wa_cons' <| we_bin' <| we_at' <| wl_of' <| we_name rfl ⟨_, rfl, we_name rfl ⟨j, rfl, by simp; lia, _, hg, we_name rfl <| o_sub <| wa_nil ⟨by simp, _, rfl, rfl, rfl, by simp [cut?]; lia, _, rfl, ?_⟩⟩⟩⟩⟩
      refine wl_of' <| we_slice <| wl_of' <| we_name rfl ⟨_, rfl, we_bin' <| we_name rfl <| we_int <| o_add ⟨j + 1, by simp, rfl, by simp; lia, _, rfl, rfl, rfl, by simp [cut?]; lia, ?_⟩⟩
      refine ws_nil <| fin (fs.take j ++ [1 + q, fs[j] - (1 + q)] ++ fs.drop (j + 1)) _ ⟨fun x hx => ?_, by rw [split_sum hj]; lia, by simp; lia⟩ (by lia) _ ?_
      · rcases List.mem_append.mp hx with hx | hx
        · rcases List.mem_append.mp hx with hx | hx
          · exact hfm x (List.mem_of_mem_take hx)
          · simp at hx; rcases hx with rfl | rfl <;> lia
        · exact hfm x (List.mem_of_mem_drop hx)
      · rw [← es]; rfl
    · exact ws_nil <| fin fs _ hA (by lia) _ rfl
  · exact ws_nil <| fin fs _ hA (by lia) _ rfl
end
end Mini
end

section
open PySem PySem.W PyProof.Rows
set_option maxRecDepth 100000
namespace Mini
section
variable {prog : Program} {w : World} {C : Cx} {ρ : Rho} {σ : Nat} {X : Int → Prop} {p : Params} {U A : Addr}
noncomputable abbrev MOST : Int := 4294967295
theorem we_MOST {pos : Pos} {Q : V → Nat → Prop} (B : Bs p C) (hk : C.env.kindOf "MOST" = some .globalImplicit) (h : Q (.int 4294967295) σ) : WE prog w C ρ (.Name "MOST" pos) σ X Q := by
  obtain ⟨t, ht⟩ := n_MOST B
  exact we_global hk ht (fun _ _ => by simp only [Rep]; exact ⟨_, rfl⟩) h
/-- pairs in order, within all numbers -/
noncomputable def InO (ss : List (Int × Int)) : Prop := ∀ q ∈ ss, 1 ≤ q.1 ∧ q.1 ≤ q.2 ∧ q.2 ≤ MOST

set_option maxHeartbeats 2000000 in
theorem f_stretches {ls : List Int} {Q : V → Nat → Prop} (u : Urn C U A) (hne : U ≠ A) (B : Bs p C) (hr : 1 < C.r) (hL : Lens4 ls) (hσ : σ < 2 ^ 39) (h : ∀ ss τ, ss.length = ls.length → InO ss → τ ≤ σ + 20 → Q (.lst (ss.map pr)) τ) : CJ prog w C ρ (.ref 160) [.raw (.ref U), .lst (ls.map V.int)] σ X Q := by
  have F : Fn C.K 160 (F160 p) (bodyAt (F160 p)) ["urn", "lengths"] := B.K ▸ F160_ok p
  refine call_fnU F rfl (by lia) fun L own s hown => JW.of ?_
  have B' := B.callee (callEnvC (F160 p) L 160) own s
  have u' := u.callee (env := callEnvC (F160 p) L 160) (s := s) hown
  have hr' : 0 < (C.callee (callEnvC (F160 p) L 160) own s).r := by show 0 < C.r - 1; lia
  have hl4 := hL.2.2
  refine ws_cons' <| s_comp ["turn"] false [("urn", .val (.raw (.ref U)))] (fun Ws acc i τ => ∃ gs : List Int, acc = gs.map V.int ∧ gs.length = i ∧ (∀ x ∈ gs, 1 ≤ x ∧ x ≤ 1000000) ∧ τ ≤ σ + 2 * i) rfl rfl rfl (by unfold ScOk; decide) ⟨rfl, trivial⟩ ⟨⟨⟨_, rfl⟩, rfl, rfl, fun _ => rfl, rfl⟩, trivial⟩ (.name _ _) ?_
  refine we_name rfl ⟨_, rfl, by simp; lia, ⟨[], rfl, rfl, by simp, by lia⟩, ?_, ?_⟩
  · rintro i W acc τ hW ⟨gs, rfl, hl, hb, hτ⟩
    obtain ⟨hi, rfl⟩ := map_get hW
    refine ⟨_, rfl, rfl, fun Ca => ?_⟩
    have B2 := fun sc => B'.comp sc [("urn", L + 1)] Ca
    have u2 := fun sc => u'.comp sc [("urn", L + 1)] Ca
    have put : ∀ (x : Int) (φ : Nat), 1 ≤ x → x ≤ 1000000 → φ = τ + 2 → ∃ gs', List.map V.int gs ++ [V.int x] = List.map V.int gs' ∧ gs'.length = i + 1 ∧ (∀ (x : Int), x ∈ gs' → 1 ≤ x ∧ x ≤ 1000000) ∧ φ ≤ σ + 2 * (i + 1) := fun x φ h1 h2 e => ⟨gs ++ [x], by simp, by simp [hl], fun y hy => by
      rcases List.mem_append.mp hy with hy | hy
      · exact hb y hy
      · obtain rfl := List.mem_singleton.mp hy; exact ⟨h1, h2⟩, by lia⟩
    refine turn0 <| we_bin' <| we_int <| we_if' <| wt_cmp' <| we_pullc (u2 _) hne (B2 _) hr' rfl rfl (by lia) (by lia) (by lia) fun r r0 r1 => we_int <| o_eq' ⟨_, rfl, br2 (fun h1 => ?_) fun h1 => ?_⟩
    · exact we_pullc (u2 _) hne (B2 _) hr' rfl rfl (by lia) (by lia) (by lia) fun q q0 q1 => o_add <| put _ _ (by lia) (by lia) (by lia)
    · exact we_pullc (u2 _) hne (B2 _) hr' rfl rfl (by lia) (by lia) (by lia) fun q q0 q1 => o_add <| put _ _ (by lia) (by lia) (by lia)
  · rintro acc υ ⟨gs, rfl, hl, hb, hτ⟩
    simp only [List.length_map] at hl hτ
    have hsum := sum_le_mul gs 1000000 fun x hx => (hb x hx).2
    have hgd : 0 ≤ (gs.drop 1).sum ∧ (gs.drop 1).sum ≤ 4000000 := by
      have h1 := sum_le_mul (gs.drop 1) 1000000 fun x hx => (hb x (List.mem_of_mem_drop hx)).2
      have h2 : 0 ≤ (gs.drop 1).sum := by
        have : ∀ l : List Int, (∀ x ∈ l, 0 ≤ x) → 0 ≤ l.sum := fun l => by
          induction l with
          | nil => simp
          | cons b l ih => intro hh; have := ih fun y hy => hh y (by simp [hy]); have := hh b (by simp); simp only [List.sum_cons]; lia
        exact this _ fun x hx => by have := hb x (List.mem_of_mem_drop hx); lia
      rw [List.length_drop] at h1
      lia
    have hls : 0 ≤ ls.sum := by
      have : ∀ l : List Int, (∀ x ∈ l, 0 ≤ x) → 0 ≤ l.sum := fun l => by
        induction l with
        | nil => simp
        | cons b l ih => intro hh; have := ih fun y hy => hh y (by simp [hy]); have := hh b (by simp); simp only [List.sum_cons]; lia
      exact this _ fun x hx => by have := hL.1 x hx; lia
    have hLs := hL.2.1
    -- the stretches, laid from a first number on
    have fin : ∀ (low : Int) τ, 1 ≤ low → low + (ls.sum + (gs.drop 1).sum) ≤ MOST + 1 → τ ≤ σ + 20 → WS prog w (C.callee (callEnvC (F160 p) L 160) own s) [("low", .val (.int low)), ("gaps", .own (gs.map V.int)), ("lengths", .val (.lst (ls.map V.int)))] ((bodyAt (F160 p)).drop 4) τ X (Ret Q) := fun low τ a1 a2 a3 => by
      refine ws_cons' <| s_own' (.inl rfl) <| wn_nil ?_
      refine ws_cons' <| s_for' (S := Int × List (Int × Int)) (fun z => [("low", .val (.int z.1)), ("found", .own (z.2.map pr)), ("gaps", .own (gs.map V.int)), ("lengths", .val (.lst (ls.map V.int)))]) (fun Ws i z υ => z.2.length = i ∧ InO z.2 ∧ 1 ≤ z.1 ∧ z.1 + ((ls.drop i).sum + (gs.drop (max 1 i)).sum) ≤ MOST + 1 ∧ υ = τ) <| we_callT1' rfl (n_range B') <| we_call1' rfl (n_len B') <| wl_of' <| we_name rfl ⟨_, rfl, c_len (by simp; lia) <| c_range (by simp; lia) ⟨_, rfl, ⟨(low, []), ⟨rfl, rfl, rfl, rfl, trivial⟩, rfl, fun q hq => (nomatch hq), a1, by simpa using a2, rfl⟩, ?_, ?_⟩⟩
      · rintro i W ⟨lo, fd⟩ υ hW ⟨hfl, hin, hlo, hsm, rfl⟩
        obtain ⟨hi, rfl⟩ := range_get hW
        dsimp only at hfl hin hlo hsm ⊢
        have hi' : i < ls.length := by simpa using hi
        have hig : i < gs.length := by lia
        have gl : (ls.map V.int)[i]? = some (.int ls[i]) := by rw [List.getElem?_map, List.getElem?_eq_getElem hi']; rfl
        have gg : (gs.map V.int)[i]? = some (.int gs[i]) := by rw [List.getElem?_map, List.getElem?_eq_getElem hig]; rfl
        have dl := congrArg List.sum (List.drop_eq_getElem_cons hi')
        rw [List.sum_cons] at dl
        have l1 := hL.1 ls[i] (List.getElem_mem hi')
        have g1 := hb gs[i] (List.getElem_mem hig)
        have nn : ∀ l : List Int, (∀ x ∈ l, 0 ≤ x) → 0 ≤ l.sum := fun l => by
          induction l with
          | nil => simp
          | cons b l ih => intro hh; have := ih fun y hy => hh y (by simp [hy]); have := hh b (by simp); simp only [List.sum_cons]; lia
        have n1 := nn (ls.drop (i + 1)) fun x hx => by have := hL.1 x (List.mem_of_mem_drop hx); lia
        have n2 := nn (gs.drop (i + 1)) fun x hx => by have := hb x (List.mem_of_mem_drop hx); lia
        refine ⟨_, as_name (.inl rfl), ?_⟩
        -- the rest of a turn
        have rest : ∀ lo' : Int, 1 ≤ lo' → lo' + ((ls.drop i).sum + (gs.drop (i + 1)).sum) ≤ MOST + 1 → Sub [("low", .val (.int lo')), ("found", .own (fd.map pr)), ("gaps", .own (gs.map V.int)), ("lengths", .val (.lst (ls.map V.int))), ("spot", .val (.int i))] [("low", .val (.int lo')), ("spot", .val (.int i)), ("low", .val (.int lo)), ("found", .own (fd.map pr)), ("gaps", .own (gs.map V.int)), ("lengths", .val (.lst (ls.map V.int)))] := fun lo' _ _ => ⟨rfl, rfl, rfl, rfl, rfl, trivial⟩
        have body : ∀ lo' : Int, 1 ≤ lo' → lo' + ((ls.drop i).sum + (gs.drop (i + 1)).sum) ≤ MOST + 1 → WS prog w (C.callee (callEnvC (F160 p) L 160) own s) [("low", .val (.int lo')), ("found", .own (fd.map pr)), ("gaps", .own (gs.map V.int)), ("lengths", .val (.lst (ls.map V.int))), ("spot", .val (.int i))] ((inner (nth (bodyAt (F160 p)) 5)).drop 1) υ X
            (fun o ρ2 φ => match o with | .next => ∃ z' : Int × List (Int × Int), Sub [("low", .val (.int z'.1)), ("found", .own (z'.2.map pr)), ("gaps", .own (gs.map V.int)), ("lengths", .val (.lst (ls.map V.int)))] ρ2 ∧ z'.2.length = i + 1 ∧ InO z'.2 ∧ 1 ≤ z'.1 ∧ z'.1 + ((ls.drop (i + 1)).sum + (gs.drop (max 1 (i + 1))).sum) ≤ MOST + 1 ∧ φ = υ | _ => False) := fun lo' b1 b2 => by
          refine ws_cons' <| s_append' rfl (by simp; lia) <| we_tuple' <| wa_cons' <| we_name rfl <| wa_cons' <| we_bin' <| we_bin' <| we_name rfl <| we_at' <| wl_of' <| we_name rfl ⟨_, rfl, we_name rfl ⟨i, rfl, by simp; lia, _, gl, o_add <| we_int <| o_sub <| wa_nil ⟨by simp, ?_⟩⟩⟩
          refine ws_cons' <| s_assign' (.inl rfl) <| we_bin' <| we_name rfl <| we_at' <| wl_of' <| we_name rfl ⟨_, rfl, we_name rfl ⟨i, rfl, by simp; lia, _, gl, o_add <| ws_nil ⟨(lo' + ls[i], fd ++ [(lo', lo' + ls[i] - 1)]), ⟨rfl, by rw [List.map_append]; rfl, rfl, rfl, trivial⟩, by simp [hfl], fun q hq => ?_, by dsimp only; lia, ?_, rfl⟩⟩⟩
          · rcases List.mem_append.mp hq with hq | hq
            · exact hin q hq
            · obtain rfl := List.mem_singleton.mp hq
              dsimp only; unfold MOST at *; lia
          · dsimp only
            rw [show max 1 (i + 1) = i + 1 by lia]; lia
        refine ws_cons' <| s_assign' (.inl rfl) <| we_bin' <| we_name rfl <| we_if' <| wt_cmp' <| we_name rfl <| we_int <| o_gt ⟨_, rfl, br2 (fun c1 => ?_) fun c1 => ?_⟩
        · refine we_at' <| wl_own rfl <| we_name rfl ⟨i, rfl, by simp; lia, _, gg, o_add ?_⟩
          have dg := congrArg List.sum (List.drop_eq_getElem_cons hig)
          rw [List.sum_cons] at dg
          rw [show max 1 i = i by lia] at hsm
          refine JS.mono (JS.via (body (lo + gs[i]) (by lia) (by lia)) (rest _ (by lia) (by lia))) (fun o ρ2 φ hh => ?_) fun _ h => h
          cases o <;> first | exact hh | exact hh.elim
        · have i0 : i = 0 := by lia
          refine we_int <| o_add ?_
          rw [show max 1 i = i + 1 by lia] at hsm
          refine JS.mono (JS.via (body (lo + 0) (by lia) (by lia)) (rest _ (by lia) (by lia))) (fun o ρ2 φ hh => ?_) fun _ h => h
          cases o <;> first | exact hh | exact hh.elim
      · rintro ⟨lo, fd⟩ υ ⟨hfl, hin, _, _, rfl⟩
        refine JS.freeze (x := "found") rfl <| ws_cons' <| s_return' <| we_name rfl (h fd υ ?_ hin a3)
        simpa using hfl
    refine ws_cons' <| s_assign' (.inl rfl) <| we_pullc u' hne B' hr' rfl rfl (by lia) (by lia) (by lia) fun y y0 y1 => ?_
    have ec : cut? (some 1) none (gs.map V.int) = (gs.drop 1).map V.int := by simp [cut?, List.map_drop]
    refine ws_cons' <| s_assign' (.inl rfl) <| we_bin' <| we_call1' rfl (n_sum B') <| we_name rfl <| c_sum <| we_call1' rfl (n_sum B') <| we_slice <| wl_own rfl <| we_int ⟨1, rfl, rfl, by simp; lia, ?_⟩
    rw [ec]
    refine c_sum <| o_add ?_
    refine ws_cons' <| s_assign' (.inl rfl) <| we_if' <| wt_cmp' <| we_name rfl <| we_int <| o_eq' ⟨_, rfl, br2 (fun c1 => ?_) fun c1 => we_if' <| wt_cmp' <| we_name rfl <| we_int <| o_eq' ⟨_, rfl, br2 (fun c2 => ?_) fun c2 => ?_⟩⟩
    · exact we_int <| JS.via (fin 1 _ (by lia) (by unfold MOST; lia) (by lia)) ⟨rfl, rfl, rfl, trivial⟩
    · exact we_bin' <| we_bin' <| we_MOST B' rfl <| we_name rfl <| o_sub <| we_int <| o_add <| JS.via (fin _ _ (by lia) (by unfold MOST; lia) (by lia)) ⟨rfl, rfl, rfl, trivial⟩
    · refine we_bin' <| we_int <| we_pull u' hne B' hr' rfl rfl <| we_bin' <| we_int <| we_int <| o_pow (by lia) (by decide) ⟨_, rfl, by decide, by decide, by lia, fun r r0 r1 => o_add ?_⟩
      have e30 : (2 : Int) ^ (30 : Int).toNat = 1073741824 := by decide
      exact JS.via (fin _ _ (by lia) (by unfold MOST; lia) (by lia)) ⟨rfl, rfl, rfl, trivial⟩
end
end Mini
end

section
open PySem PySem.W PyProof.Rows
set_option maxRecDepth 100000
namespace Mini
/-- pairs within all numbers, either way round -/
noncomputable def InP (ps : List (Int × Int)) : Prop := ∀ q ∈ ps, 1 ≤ q.1 ∧ q.1 ≤ MOST ∧ 1 ≤ q.2 ∧ q.2 ≤ MOST
theorem InP.app {ps qs : List (Int × Int)} (h : InP ps) (g : InP qs) : InP (ps ++ qs) := fun q hq => (List.mem_append.mp hq).elim (h q) (g q)
theorem map_erase {α β : Type} (f : α → β) : ∀ (l : List α) (j : Nat), (l.eraseIdx j).map f = (l.map f).eraseIdx j
  | [], j => by simp
  | a :: l, 0 => by simp
  | a :: l, j + 1 => by simp only [List.eraseIdx_cons_succ, List.map_cons]; rw [map_erase f l j]
section
variable {prog : Program} {w : World} {C : Cx} {ρ : Rho} {σ : Nat} {X : Int → Prop} {p : Params} {U A : Addr}

set_option maxHeartbeats 2000000 in
theorem f_pairs {ss : List (Int × Int)} {Q : V → Nat → Prop} (u : Urn C U A) (hne : U ≠ A) (B : Bs p C) (hr : 1 < C.r) (hS : InO ss) (hl : ss.length ≤ 4) (hσ : σ < 2 ^ 39) (h : ∀ ps τ, ps.length ≤ 2 * ss.length → InP ps → τ ≤ σ + 30 → Q (.tup (ps.map pr)) τ) : CJ prog w C ρ (.ref 167) [.raw (.ref U), .lst (ss.map pr)] σ X Q := by
  have F : Fn C.K 167 (F167 p) (bodyAt (F167 p)) ["urn", "stretches"] := B.K ▸ F167_ok p
  refine call_fnU F rfl (by lia) fun L own s hown => JW.of ?_
  have B' := B.callee (callEnvC (F167 p) L 167) own s
  have u' := u.callee (env := callEnvC (F167 p) L 167) (s := s) hown
  have hr' : 0 < (C.callee (callEnvC (F167 p) L 167) own s).r := by show 0 < C.r - 1; lia
  refine ws_cons' <| s_own' (.inl rfl) <| wn_nil ?_
  refine ws_cons' <| s_for' (S := List (Int × Int)) (fun z => [("pairs", .own (z.map pr)), ("urn", .val (.raw (.ref U)))]) (fun Ws i z τ => z.length ≤ 2 * i ∧ InP z ∧ τ ≤ σ + 2 * i) <| we_name rfl ⟨_, rfl, ⟨[], ⟨rfl, rfl, trivial⟩, by simp, fun q hq => (nomatch hq), by lia⟩, ?_, ?_⟩
  · rintro i W z τ hW ⟨hzl, hz, hτ⟩
    obtain ⟨hi, rfl⟩ := map_get hW
    have hq := hS ss[i] (List.getElem_mem hi)
    generalize ss[i] = q at hq
    obtain ⟨lo, hi2⟩ := q
    dsimp only at hq
    refine ⟨_, as_pair (.inl rfl) (.inl rfl), ?_⟩
    have hz8 : (z.map pr).length ≤ 1000000 := by simp; lia
    refine ws_cons' <| s_swap' (names := ["form", "mid"]) (fun x hx => ?_) <| we_tuple' <| wa_cons' <| we_pullc u' hne B' hr' rfl rfl (by lia) (by lia) (by lia) fun f f0 f1 => wa_cons' <| we_bin' <| we_name rfl <| we_pull u' hne B' hr' rfl rfl <| we_bin' <| we_bin' <| we_name rfl <| we_name rfl <| o_sub <| we_int <| o_add ⟨_, rfl, by lia, by unfold MOST at hq; lia, by lia, fun r r0 r1 => o_add <| wa_nil ⟨by simp, _, rfl, rfl, ?_⟩⟩
    · rcases List.mem_cons.mp hx with rfl | hx
      · exact .inl rfl
      · obtain rfl := List.mem_singleton.mp hx; exact .inl rfl
    have nx : ∀ (z' : List (Int × Int)), InP z' → z'.length ≤ 2 → InP (z ++ z') ∧ (z ++ z').length ≤ 2 * (i + 1) := fun z' h1 h2 => ⟨hz.app h1, by rw [List.length_append]; lia⟩
    have one : ∀ a b : Int, 1 ≤ a → a ≤ MOST → 1 ≤ b → b ≤ MOST → InP [(a, b)] := fun a b h1 h2 h3 h4 q hq => by obtain rfl := List.mem_singleton.mp hq; exact ⟨h1, h2, h3, h4⟩
    have two : ∀ a b c d : Int, 1 ≤ a → a ≤ MOST → 1 ≤ b → b ≤ MOST → 1 ≤ c → c ≤ MOST → 1 ≤ d → d ≤ MOST → InP [(a, b), (c, d)] := fun a b c d h1 h2 h3 h4 h5 h6 h7 h8 q hq => by
      rcases List.mem_cons.mp hq with rfl | hq
      · exact ⟨h1, h2, h3, h4⟩
      · obtain rfl := List.mem_singleton.mp hq; exact ⟨h5, h6, h7, h8⟩
    refine ws_cons' <| s_if' <| wt_cmp' <| we_name rfl <| we_int <| o_eq' ⟨_, rfl, br2 (fun c1 => ?_) fun c1 => ws_cons' <| s_if' <| wt_cmp' <| we_name rfl <| we_int <| o_eq' ⟨_, rfl, br2 (fun c2 => ?_) fun c2 => ws_cons' <| s_if' <| wt_and' <| wt_cmp' <| we_name rfl <| we_int <| o_eq' ⟨_, rfl, br2 (fun c3 => wt_and' <| wt_cmp' <| we_name rfl <| we_name rfl <| o_lt ⟨_, rfl, br2 (fun c4 => wt_and_nil ?_) fun c4 => ?_⟩) fun c3 => ws_cons' <| s_if' <| wt_cmp' <| we_name rfl <| we_int <| o_eq' ⟨_, rfl, br2 (fun c5 => ?_) fun c5 => ?_⟩⟩⟩⟩
    · refine ws_cons' <| s_append' rfl hz8 <| we_tuple' <| wa_cons' <| we_name rfl <| wa_cons' <| we_name rfl <| wa_nil ⟨by simp, ws_nil <| ws_nil ⟨z ++ [(hi2, lo)], ⟨by rw [List.map_append]; rfl, rfl, trivial⟩, (nx _ (one _ _ (by lia) (by lia) (by lia) (by lia)) (by simp)).2, (nx _ (one _ _ (by lia) (by lia) (by lia) (by lia)) (by simp)).1, by lia⟩⟩
    · have hh := nx _ (two (lo + r) hi2 lo (lo + r) (by lia) (by lia) (by lia) (by lia) (by lia) (by lia) (by lia) (by lia)) (by simp)
      refine ws_cons' <| s_own' (.inl rfl) <| wn_add <| wl_own rfl <| wl_of' <| we_list' <| wa_cons' <| we_tuple' <| wa_cons' <| we_name rfl <| wa_cons' <| we_name rfl <| wa_nil ⟨by simp, wa_cons' <| we_tuple' <| wa_cons' <| we_name rfl <| wa_cons' <| we_name rfl <| wa_nil ⟨by simp, wa_nil ⟨by simp, _, rfl, rfl, rfl, by simp; lia, ws_nil <| ws_nil <| ws_nil ⟨z ++ [(lo + r, hi2), (lo, lo + r)], ⟨by rw [List.map_append]; rfl, rfl, trivial⟩, hh.2, hh.1, by lia⟩⟩⟩⟩
    · have hh := nx _ (two hi2 (lo + r + 1) lo (lo + r) (by lia) (by lia) (by lia) (by lia) (by lia) (by lia) (by lia) (by lia)) (by simp)
      refine ws_cons' <| s_own' (.inl rfl) <| wn_add <| wl_own rfl <| wl_of' <| we_list' <| wa_cons' <| we_tuple' <| wa_cons' <| we_name rfl <| wa_cons' <| we_bin' <| we_name rfl <| we_int <| o_add <| wa_nil ⟨by simp, wa_cons' <| we_tuple' <| wa_cons' <| we_name rfl <| wa_cons' <| we_name rfl <| wa_nil ⟨by simp, wa_nil ⟨by simp, _, rfl, rfl, rfl, by simp; lia, ws_nil <| ws_nil <| ws_nil <| ws_nil ⟨z ++ [(hi2, lo + r + 1), (lo, lo + r)], ⟨by rw [List.map_append]; rfl, rfl, trivial⟩, hh.2, hh.1, by lia⟩⟩⟩⟩
    · have hh := nx _ (one lo hi2 (by lia) (by lia) (by lia) (by lia)) (by simp)
      refine ws_cons' <| s_if' <| wt_cmp' <| we_name rfl <| we_int <| o_eq' ⟨_, rfl, br2 (fun c5 => by lia) fun c5 => ?_⟩
      exact ws_cons' <| s_append' rfl hz8 <| we_tuple' <| wa_cons' <| we_name rfl <| wa_cons' <| we_name rfl <| wa_nil ⟨by simp, ws_nil <| ws_nil <| ws_nil <| ws_nil <| ws_nil ⟨z ++ [(lo, hi2)], ⟨by rw [List.map_append]; rfl, rfl, trivial⟩, hh.2, hh.1, by lia⟩⟩
    · have hh := nx _ (two hi2 lo (lo + r) (lo + r) (by lia) (by lia) (by lia) (by lia) (by lia) (by lia) (by lia) (by lia)) (by simp)
      exact ws_cons' <| s_own' (.inl rfl) <| wn_add <| wl_own rfl <| wl_of' <| we_list' <| wa_cons' <| we_tuple' <| wa_cons' <| we_name rfl <| wa_cons' <| we_name rfl <| wa_nil ⟨by simp, wa_cons' <| we_tuple' <| wa_cons' <| we_name rfl <| wa_cons' <| we_name rfl <| wa_nil ⟨by simp, wa_nil ⟨by simp, _, rfl, rfl, rfl, by simp; lia, ws_nil <| ws_nil <| ws_nil <| ws_nil <| ws_nil ⟨z ++ [(hi2, lo), (lo + r, lo + r)], ⟨by rw [List.map_append]; rfl, rfl, trivial⟩, hh.2, hh.1, by lia⟩⟩⟩⟩
    · have hh := nx _ (one lo hi2 (by lia) (by lia) (by lia) (by lia)) (by simp)
      exact ws_cons' <| s_append' rfl hz8 <| we_tuple' <| wa_cons' <| we_name rfl <| wa_cons' <| we_name rfl <| wa_nil ⟨by simp, ws_nil <| ws_nil <| ws_nil <| ws_nil <| ws_nil ⟨z ++ [(lo, hi2)], ⟨by rw [List.map_append]; rfl, rfl, trivial⟩, hh.2, hh.1, by lia⟩⟩
  · rintro z τ ⟨hzl, hz, hτ⟩
    rw [List.length_map] at hzl hτ
    refine ws_cons' <| s_own' (.inl rfl) <| wn_nil ?_
    refine ws_cons' <| s_while' (S := List (Int × Int) × List (Int × Int)) (fun y => [("found", .own (y.1.map pr)), ("pairs", .own (y.2.map pr)), ("urn", .val (.raw (.ref U)))]) (fun y _ => y.2.length)
      (fun y υ => InP y.1 ∧ InP y.2 ∧ y.1.length + y.2.length ≤ 2 * ss.length ∧ υ ≤ τ + y.1.length) ⟨([], z), ⟨rfl, rfl, rfl, trivial⟩, fun q hq => (nomatch hq), hz, by simp; lia, by simp⟩ ?_
    rintro ⟨f, g⟩ υ ⟨h1, h2, h3, h4⟩
    dsimp only at h1 h2 h3 h4 ⊢
    refine nil_ne <| wl_own rfl ⟨rfl, lays_prs _, deep_prsL _, ?_⟩
    refine br (fun c => ?_) fun c => ?_
    · have g0 : 0 < g.length := by
        rcases Nat.eq_zero_or_pos g.length with e | e
        · rw [List.length_eq_zero_iff.mp e] at c; cases c
        · exact e
      refine ws_cons' <| s_append_pop rfl rfl (by decide) ⟨by simp; lia, by simp; lia⟩ <| we_pull u' hne B' hr' rfl rfl <| we_call1' rfl (n_len B') <| wl_own rfl <| c_len (by simp; lia) ⟨_, rfl, by simp; lia, by simp; lia, by lia, fun r r0 r1 => ?_⟩
      simp only [List.length_map] at r1
      obtain ⟨j, rfl⟩ : ∃ j : Nat, r = j := ⟨r.toNat, by lia⟩
      have hj : j < g.length := by lia
      refine ⟨j, rfl, pr g[j], by rw [List.getElem?_map, List.getElem?_eq_getElem hj]; rfl, ws_nil ⟨(f ++ [g[j]], g.eraseIdx j), ⟨by rw [List.map_append]; rfl, by rw [← map_erase]; rfl, rfl, trivial⟩, ⟨?_, ?_, ?_, ?_⟩, ?_⟩⟩
      · exact h1.app fun q hq => by obtain rfl := List.mem_singleton.mp hq; exact h2 _ (List.getElem_mem hj)
      · exact fun q hq => h2 q (List.mem_of_mem_eraseIdx hq)
      · simp only [List.length_append, List.length_singleton, List.length_eraseIdx]; rw [if_pos hj]; lia
      · simp only [List.length_append, List.length_singleton]; lia
      · simp only [List.length_eraseIdx]; rw [if_pos hj]; lia
    · refine ws_cons' <| s_return' <| we_callT1' rfl (n_tuple B') <| wl_own rfl <| c_tuple rfl (by simp; lia) ?_
      exact h f υ (by lia) h1 (by lia)
end
end Mini
end

section
open PySem PySem.W PyProof.Rows
set_option maxRecDepth 100000
namespace Mini
noncomputable def isIn (ps : List (Int × Int)) (n : Int) : Bool := ps.any fun q => decide (min q.1 q.2 ≤ n) && decide (n ≤ max q.1 q.2)
noncomputable def rankS (ps : List (Int × Int)) (n : Int) : Int := ((ps.filter fun q => decide (q.1 ≤ n)).map fun q => min q.2 n - q.1 + 1).sum
noncomputable def pstep (es : List Int) (bs : List Bool) (out : List (Int × Int)) (i : Nat) : List (Int × Int) :=
  if bs.getD i false then
    (if 0 < i ∧ bs.getD (i - 1) false = true then out.dropLast ++ [((out.getLast?.getD (0, 0)).1, es.getD i 0)] else out ++ [(es.getD i 0, es.getD i 0)])
  else out
noncomputable def plainE (es : List Int) (bs : List Bool) : List (Int × Int) := (List.range es.length).foldl (pstep es bs) []
section
variable {prog : Program} {w : World} {C : Cx} {ρ : Rho} {σ : Nat} {X : Int → Prop} {p : Params} {Q : V → Nat → Prop}
theorem turn1 {C : Cx} {ρ : Rho} {τ : Nat} {c elt : Expr} {R : V → Nat → Prop} {D : Nat → Prop} (h : WT prog w C ρ c τ (fun _ => False) (fun b υ => if b = true then WE prog w C ρ elt υ (fun _ => False) R else D υ)) : WIf prog w C ρ [c] τ (fun _ => False) (fun c υ => if c = true then WE prog w C ρ elt υ (fun _ => False) R else D υ) := h

set_option maxHeartbeats 2000000 in
theorem f_is_in {W : V} {ps : List (Int × Int)} {n : Int} (B : Bs p C) (hr : 0 < C.r) (hW : elems W = some (ps.map pr)) (hz : ps.length ≤ 1000) (h : Q (.bool (isIn ps n)) σ) : CJ prog w C ρ (.ref 179) [W, .int n] σ X Q := by
  have F : Fn C.K 179 (F179 p) (bodyAt (F179 p)) ["some", "number"] := B.K ▸ F179_ok p
  refine call_fn F rfl (by lia) fun L own s => ?_
  have B' := B.callee (callEnvC (F179 p) L 179) own s
  refine ws_cons' <| s_return' <| we_cmp' <| we_wn <| wn_comp ["pair"] false [("number", .val (.int n))] (fun Ws acc i τ => ∃ qs : List (Int × Int), acc = qs.map pr ∧ qs.length ≤ i ∧ (!qs.isEmpty) = isIn (ps.take i) n ∧ τ = σ) rfl (by unfold ScOk; decide) ⟨rfl, trivial⟩ ⟨⟨⟨_, rfl⟩, rfl, rfl, fun _ => rfl, rfl⟩, trivial⟩ (.name _ _) ?_
  refine we_name rfl ⟨_, hW, by simp; lia, ⟨[], rfl, by simp, by simp [isIn], rfl⟩, ?_, ?_⟩
  · rintro i W acc τ hU ⟨qs, rfl, hl, hq, rfl⟩
    obtain ⟨hi, rfl⟩ := map_get hU
    have htk : ps.take (i + 1) = ps.take i ++ [ps[i]] := by rw [List.take_add_one, List.getElem?_eq_getElem hi]; rfl
    have hn : isIn (ps.take (i + 1)) n = ((!qs.isEmpty) || (decide (min ps[i].1 ps[i].2 ≤ n) && decide (n ≤ max ps[i].1 ps[i].2))) := by
      rw [hq, htk]; unfold isIn; rw [List.any_append]; simp
    generalize ps[i] = q at hn
    obtain ⟨a, b⟩ := q
    refine ⟨_, rfl, rfl, fun Ca => ?_⟩
    have B2 := fun sc => B'.comp sc [("number", L + 1)] Ca
    dsimp only at hn
    refine turn1 <| wt_chain <| we_call1' rfl (n_min (B2 _)) <| we_name rfl <| c_min2 <| we_name rfl <| o_le ⟨_, rfl, br2 (fun h1 => we_call1' rfl (n_max (B2 _)) <| we_name rfl <| c_max2 <| o_le ⟨_, rfl, br2 (fun h2 => ?_) fun h2 => ?_⟩) fun h1 => ?_⟩
    · exact we_name rfl ⟨qs ++ [(a, b)], by rw [List.map_append]; rfl, by simp; lia, by rw [hn]; simp [h1, h2], rfl⟩
    · exact ⟨qs, rfl, by lia, by rw [hn]; simp [h2], rfl⟩
    · exact ⟨qs, rfl, by lia, by rw [hn]; simp [h1], rfl⟩
  · rintro acc υ ⟨qs, rfl, hl, hq, rfl⟩
    rw [List.length_map, List.take_length] at hq
    refine we_list' <| wa_nil ⟨by simp, o_vne (by simp only [lay]; exact lays_prs _) rfl (deep_prsL _) (by decide) ?_⟩
    rw [veq_nil, List.isEmpty_map, hq]
    exact h

set_option maxHeartbeats 2000000 in
theorem f_rank {W : V} {ps : List (Int × Int)} {n : Int} (B : Bs p C) (hr : 0 < C.r) (hW : elems W = some (ps.map pr)) (hz : ps.length ≤ 1000) (h : Q (.int (rankS ps n)) σ) : CJ prog w C ρ (.ref 191) [W, .int n] σ X Q := by
  have F : Fn C.K 191 (F191 p) (bodyAt (F191 p)) ["plain", "number"] := B.K ▸ F191_ok p
  refine call_fn F rfl (by lia) fun L own s => ?_
  have B' := B.callee (callEnvC (F191 p) L 191) own s
  refine ws_cons' <| s_return' <| we_call1' rfl (n_sum B') <| we_wn <| wn_comp ["low", "high"] true [("number", .val (.int n))] (fun Ws acc i τ => ∃ ns : List Int, acc = ns.map V.int ∧ ns.sum = rankS (ps.take i) n ∧ τ = σ) rfl (by unfold ScOk; decide) ⟨rfl, trivial⟩ ⟨⟨⟨_, rfl⟩, rfl, rfl, fun _ => rfl, rfl⟩, trivial⟩ tg_pair ?_
  refine we_name rfl ⟨_, hW, by simp; lia, ⟨[], rfl, by simp [rankS], rfl⟩, ?_, ?_⟩
  · rintro i W acc τ hU ⟨ns, rfl, hq, rfl⟩
    obtain ⟨hi, rfl⟩ := map_get hU
    have htk : ps.take (i + 1) = ps.take i ++ [ps[i]] := by rw [List.take_add_one, List.getElem?_eq_getElem hi]; rfl
    have hn : rankS (ps.take (i + 1)) n = ns.sum + (if ps[i].1 ≤ n then min ps[i].2 n - ps[i].1 + 1 else 0) := by
      rw [hq, htk]; unfold rankS; rw [List.filter_append, List.map_append, List.sum_append]
      by_cases c : ps[i].1 ≤ n
      · rw [if_pos c]; simp [List.filter_cons, c]
      · rw [if_neg c]; simp [List.filter_cons, c]
    generalize ps[i] = q at hn
    obtain ⟨a, b⟩ := q
    refine ⟨_, rfl, rfl, fun Ca => ?_⟩
    have B2 := fun sc => B'.comp sc [("number", L + 1)] Ca
    dsimp only at hn
    refine turn1 <| wt_cmp' <| we_name rfl <| we_name rfl <| o_le ⟨_, rfl, br2 (fun h1 => ?_) fun h1 => ?_⟩
    · rw [if_pos h1] at hn
      exact we_bin' <| we_bin' <| we_callB' rfl (n_min (B2 _)) <| wa_cons' <| we_name rfl <| wa_cons' <| we_name rfl <| wa_nil <| c_min <| we_name rfl <| o_sub <| we_int <| o_add ⟨ns ++ [min b n - a + 1], by rw [List.map_append]; rfl, by rw [hn, List.sum_append]; simp, rfl⟩
    · rw [if_neg h1] at hn
      exact ⟨ns, rfl, by rw [hn]; lia, rfl⟩
  · rintro acc υ ⟨ns, rfl, hq, rfl⟩
    rw [List.length_map, List.take_length] at hq
    refine c_sum ?_
    rw [hq]; exact h
end
end Mini
end

section
open PySem PySem.W PyProof.Rows
set_option maxRecDepth 100000
namespace Mini
theorem range_succ_fold {β : Type} {f : β → Nat → β} {b : β} {i : Nat} : (List.range (i + 1)).foldl f b = f ((List.range i).foldl f b) i := by
  rw [List.range_succ, List.foldl_append]; rfl
theorem pstep_length (es : List Int) (bs : List Bool) (out : List (Int × Int)) (i : Nat) : (pstep es bs out i).length ≤ out.length + 1 := by
  unfold pstep
  split
  · split
    · simp <;> lia
    · simp
  · lia
theorem pstep_ne (es : List Int) (bs : List Bool) (out : List (Int × Int)) (i : Nat) (h : bs.getD i false = true) : pstep es bs out i ≠ [] := by
  unfold pstep
  rw [if_pos h]
  split <;> simp
section
variable {prog : Program} {w : World} {C : Cx} {ρ : Rho} {σ : Nat} {X : Int → Prop} {p : Params} {Q : V → Nat → Prop}
set_option maxHeartbeats 2000000 in
theorem f_plain {es : List Int} {bs : List Bool} (B : Bs p C) (hr : 0 < C.r) (hl : bs.length = es.length) (hz : es.length ≤ 1000) (h : Q (.tup ((plainE es bs).map pr)) σ) : CJ prog w C ρ (.ref 186) [.lst (es.map V.int), .lst (bs.map V.bool)] σ X Q := by
  have F : Fn C.K 186 (F186 p) (bodyAt (F186 p)) ["edges", "is_in"] := B.K ▸ F186_ok p
  refine call_fn F rfl (by lia) fun L own s => ?_
  have B' := B.callee (callEnvC (F186 p) L 186) own s
  refine ws_cons' <| s_own' (.inl rfl) <| wn_nil ?_
  refine ws_cons' <| s_for' (S := List (Int × Int)) (fun z => [("found", .own (z.map pr)), ("edges", .val (.lst (es.map V.int))), ("is_in", .val (.lst (bs.map V.bool)))]) (fun Ws i z τ => z = (List.range i).foldl (pstep es bs) [] ∧ z.length ≤ i ∧ (0 < i → bs.getD (i - 1) false = true → z ≠ []) ∧ τ = σ) <| we_callT1' rfl (n_range B') <| we_call1' rfl (n_len B') <| wl_of' <| we_name rfl ⟨_, rfl, c_len (by simp; lia) <| c_range (by simp; lia) ⟨_, rfl, ⟨[], ⟨rfl, rfl, rfl, trivial⟩, rfl, by simp, by lia, rfl⟩, ?_, ?_⟩⟩
  · rintro i W z τ hW ⟨hz1, hzl, hzn, rfl⟩
    obtain ⟨hi, rfl⟩ := range_get hW
    have hi' : i < es.length := by simpa using hi
    have hib : i < bs.length := by lia
    have ge : (es.map V.int)[i]? = some (.int (es.getD i 0)) := by rw [List.getElem?_map, List.getElem?_eq_getElem hi', List.getD_eq_getElem?_getD, List.getElem?_eq_getElem hi']; rfl
    have gb : (bs.map V.bool)[i]? = some (.bool (bs.getD i false)) := by rw [List.getElem?_map, List.getElem?_eq_getElem hib, List.getD_eq_getElem?_getD, List.getElem?_eq_getElem hib]; rfl
    have hn := range_succ_fold (f := pstep es bs) (b := []) (i := i)
    rw [← hz1] at hn
    have hpl := pstep_length es bs z i
    have fin : ∀ z', z' = pstep es bs z i → ∀ ρ : Rho, Sub [("found", .own (z'.map pr)), ("edges", .val (.lst (es.map V.int))), ("is_in", .val (.lst (bs.map V.bool)))] ρ → ∃ z', Sub [("found", .own (z'.map pr)), ("edges", .val (.lst (es.map V.int))), ("is_in", .val (.lst (bs.map V.bool)))] ρ ∧ z' = (List.range (i + 1)).foldl (pstep es bs) [] ∧ z'.length ≤ i + 1 ∧ (0 < i + 1 → bs.getD (i + 1 - 1) false = true → z' ≠ []) ∧ τ = τ := fun z' e ρ hs => ⟨z', hs, by rw [hn, e], by rw [e]; lia, fun _ hb => by rw [e]; exact pstep_ne es bs z i hb, rfl⟩
    refine ⟨_, as_name (.inl rfl), ?_⟩
    have app : bs.getD i false = true → ¬ (0 < i ∧ bs.getD (i - 1) false = true) → z ++ [(es.getD i 0, es.getD i 0)] = pstep es bs z i := fun h1 h2 => by
      unfold pstep; rw [if_pos h1, if_neg h2]
    have dol : ∀ {ρ : Rho}, ρ.lookup ("found" : Str) = some (.own (z.map pr)) → ρ.lookup ("edges" : Str) = some (.val (.lst (es.map V.int))) → ρ.lookup ("is_in" : Str) = some (.val (.lst (bs.map V.bool))) → True := fun _ _ _ => trivial
    refine ws_cons' <| s_if' <| wt_val <| we_at' <| wl_of' <| we_name rfl ⟨_, rfl, we_name rfl ⟨i, rfl, by simp; lia, _, gb, _, rfl, br (fun h1 => ?_) fun h1 => ?_⟩⟩
    · refine ws_cons' <| s_if' <| wt_and' <| wt_cmp' <| we_name rfl <| we_int <| o_gt ⟨_, rfl, br2 (fun c1 => ?_) fun c1 => ?_⟩
      · have i1 : i - 1 < bs.length := by lia
        have gb1 : (bs.map V.bool)[i - 1]? = some (.bool (bs.getD (i - 1) false)) := by rw [List.getElem?_map, List.getElem?_eq_getElem i1, List.getD_eq_getElem?_getD, List.getElem?_eq_getElem i1]; rfl
        refine wt_and' <| wt_val <| we_at' <| wl_of' <| we_name rfl ⟨_, rfl, we_bin' <| we_name rfl <| we_int <| o_sub ⟨i - 1, by congr 1; lia, by simp; lia, _, gb1, _, rfl, br (fun h2 => wt_and_nil ?_) fun h2 => ?_⟩⟩
        · have c : 0 < i ∧ bs.getD (i - 1) false = true := ⟨by lia, h2⟩
          have zn := hzn c.1 c.2
          obtain ⟨l, hl3⟩ : ∃ l, z.getLast? = some l := ⟨z.getLast zn, List.getLast?_eq_getLast zn⟩
          have hl4 : (z.map pr).getLast? = some (pr l) := by rw [List.getLast?_map, hl3]; rfl
          have hzp := List.length_pos_iff.mpr zn
          refine ws_cons' <| s_setat rfl <| we_tuple' <| wa_cons' <| we_p0' <| we_last rfl hl4 ⟨_, _, rfl, wa_cons' <| we_at' <| wl_of' <| we_name rfl ⟨_, rfl, we_name rfl ⟨i, rfl, by simp; lia, _, ge, wa_nil ⟨by simp, we_un <| we_int <| o_neg ⟨-1, z.length - 1, rfl, by simp; lia, by simp; lia, .inr ⟨by decide, by simp; lia⟩, ?_⟩⟩⟩⟩⟩
          refine ws_nil <| ws_nil <| ws_nil <| fin _ rfl _ ⟨?_, rfl, rfl, trivial⟩
          show some _ = some _
          congr 2
          unfold pstep
          rw [if_pos h1, if_pos c, hl3]
          obtain ⟨z0, rfl⟩ : ∃ z0, z = z0 ++ [l] := by
            refine ⟨z.dropLast, ?_⟩
            have := List.dropLast_concat_getLast zn
            rw [List.getLast?_eq_getLast zn] at hl3
            rw [Option.some.inj hl3] at this
            exact this.symm
          simp [pr]
        · refine ws_cons' <| s_append' rfl (by simp; lia) <| we_tuple' <| wa_cons' <| we_at' <| wl_of' <| we_name rfl ⟨_, rfl, we_name rfl ⟨i, rfl, by simp; lia, _, ge, wa_cons' <| we_at' <| wl_of' <| we_name rfl ⟨_, rfl, we_name rfl ⟨i, rfl, by simp; lia, _, ge, wa_nil ⟨by simp, ws_nil <| ws_nil <| ws_nil <| fin _ (app h1 fun q => by rw [q.2] at h2; cases h2) _ ⟨by rw [List.map_append]; rfl, rfl, rfl, trivial⟩⟩⟩⟩⟩⟩
      · exact ws_cons' <| s_append' rfl (by simp; lia) <| we_tuple' <| wa_cons' <| we_at' <| wl_of' <| we_name rfl ⟨_, rfl, we_name rfl ⟨i, rfl, by simp; lia, _, ge, wa_cons' <| we_at' <| wl_of' <| we_name rfl ⟨_, rfl, we_name rfl ⟨i, rfl, by simp; lia, _, ge, wa_nil ⟨by simp, ws_nil <| ws_nil <| ws_nil <| fin _ (app h1 fun q => c1 (by lia)) _ ⟨by rw [List.map_append]; rfl, rfl, rfl, trivial⟩⟩⟩⟩⟩⟩
    · exact ws_nil <| ws_nil <| fin z (by unfold pstep; rw [h1]; simp) _ ⟨rfl, rfl, rfl, trivial⟩
  · rintro z τ ⟨hz1, hzl, _, rfl⟩
    simp only [List.length_map, List.length_range] at hz1 hzl
    refine ws_cons' <| s_return' <| we_callT1' rfl (n_tuple B') <| wl_own rfl <| c_tuple rfl (by simp; lia) ?_
    subst hz1
    exact h
end
end Mini
end

section
open PySem PySem.W PyProof.Rows
set_option maxRecDepth 100000
namespace Mini
/-- pairs within all numbers or stars -/
noncomputable def InS (ps : List (Int × Int)) : Prop := ∀ q ∈ ps, 0 ≤ q.1 ∧ q.1 ≤ MOST ∧ 0 ≤ q.2 ∧ q.2 ≤ MOST
theorem InP.star {ps : List (Int × Int)} (h : InP ps) : InS ps := fun q hq => by have := h q hq; lia
theorem star_append (ps qs : List (Int × Int)) : star? (ps ++ qs) = (star? ps).or ((star? qs).map (· + ps.length)) := by
  unfold star?; rw [List.findIdx?_append]
theorem star_one (q : Int × Int) : star? [q] = if starred q then some 0 else none := by
  unfold star?; simp [List.findIdx?_cons]
theorem star_some_of {ps : List (Int × Int)} (h : ∃ q ∈ ps, starred q = true) : ∃ i, star? ps = some i ∧ i < ps.length := by
  cases hs : star? ps with
  | none =>
    unfold star? at hs
    rw [List.findIdx?_eq_none_iff] at hs
    obtain ⟨q, hq, e⟩ := h
    rw [hs q hq] at e; cases e
  | some i =>
    refine ⟨i, rfl, ?_⟩
    unfold star? at hs
    exact (List.findIdx?_eq_some_iff_getElem.mp hs).1
theorem sub_call {f : Expr} {a : List Expr} {k : List Keyword} {p : Pos} {o i : Value} : subscripted (.Call f a k p) false o i = operate [o, i] (getItem o i) := rfl
section
variable {prog : Program} {w : World} {C : Cx} {ρ : Rho} {σ : Nat} {X : Int → Prop} {p : Params} {U A : Addr}

set_option maxHeartbeats 2000000 in
theorem f_starred {ps : List (Int × Int)} {Q : V → Nat → Prop} (u : Urn C U A) (hne : U ≠ A) (B : Bs p C) (hr : 1 < C.r) (hP : InP ps) (hl : ps.length ≤ 8) (hσ : σ < 2 ^ 39) (h : ∀ (qs : List (Int × Int)) (at' : Nat) τ, qs.length ≤ 11 → InS qs → star? qs = some at' → τ ≤ σ + 20 → Q (.tup [.tup (qs.map pr), .int at']) τ) : CJ prog w C ρ (.ref 217) [.raw (.ref U), .tup (ps.map pr)] σ X Q := by
  have F : Fn C.K 217 (F217 p) (bodyAt (F217 p)) ["urn", "some"] := B.K ▸ F217_ok p
  refine call_fnU F rfl (by lia) fun L own s hown => JW.of ?_
  have B' := B.callee (callEnvC (F217 p) L 217) own s
  have u' := u.callee (env := callEnvC (F217 p) L 217) (s := s) hown
  have hr' : 0 < (C.callee (callEnvC (F217 p) L 217) own s).r := by show 0 < C.r - 1; lia
  refine ws_cons' <| s_assign' (.inr ⟨rfl, rfl⟩) <| we_callT1' rfl (n_list B') <| wl_of' <| we_name rfl ⟨_, rfl, c_list (by simp; lia) ?_⟩
  refine ws_cons' <| s_for' (S := List (Int × Int)) (fun z => [("found", .val (.lst (z.map pr))), ("urn", .val (.raw (.ref U)))]) (fun Ws i z τ => Ws.length ≤ 3 ∧ z.length ≤ 8 + i ∧ InS z ∧ (0 < i → ∃ q ∈ z, starred q = true) ∧ τ ≤ σ + 1 + 3 * i) <| we_callT1' rfl (n_range B') <| we_bin' <| we_int <| we_pullc u' hne B' hr' rfl rfl (by lia) (by lia) (by lia) fun r r0 r1 => o_add ?_
  obtain ⟨m, hm⟩ : ∃ m : Nat, 1 + r = m := ⟨(1 + r).toNat, by lia⟩
  rw [hm]
  refine c_range (by lia) ⟨_, rfl, ⟨ps, ⟨rfl, rfl, trivial⟩, by simp; lia, by lia, hP.star, by lia, by lia⟩, ?_, ?_⟩
  · rintro i W z τ hW ⟨hWl, hzl, hz, hzs, hτ⟩
    obtain ⟨hi, rfl⟩ := range_get hW
    simp only [List.length_map, List.length_range] at hWl
    refine ⟨_, as_name (.inl rfl), ?_⟩
    refine ws_cons' <| s_swap' (names := ["at", "number"]) (fun x hx => ?_) <| we_tuple' <| wa_cons' <| we_pull u' hne B' hr' rfl rfl <| we_bin' <| we_call1' rfl (n_len B') <| wl_of' <| we_name rfl ⟨_, rfl, c_len (by simp; lia) <| we_int <| o_add ⟨_, rfl, by simp <;> lia, by simp; lia, by lia, fun a a0 a1 => wa_cons' <| we_bin' <| we_int <| we_pull u' hne B' hr' rfl rfl <| we_MOST B' rfl ⟨_, rfl, by lia, by lia, by lia, fun k k0 k1 => o_add <| wa_nil ⟨by simp, _, rfl, rfl, ?_⟩⟩⟩⟩
    · rcases List.mem_cons.mp hx with rfl | hx
      · exact .inl rfl
      · obtain rfl := List.mem_singleton.mp hx; exact .inl rfl
    simp only [List.length_map] at a1
    obtain ⟨n, rfl⟩ : ∃ n : Nat, a = n := ⟨a.toNat, by lia⟩
    have fin : ∀ (q : Int × Int) (φ : Nat), starred q = true → 0 ≤ q.1 ∧ q.1 ≤ MOST ∧ 0 ≤ q.2 ∧ q.2 ≤ MOST → φ = τ + 3 → ∃ z' : List (Int × Int), (cut? none (some n) (z.map pr) ++ [pr q] ++ cut? (some n) none (z.map pr) = z'.map pr) ∧ z'.length ≤ 8 + (i + 1) ∧ InS z' ∧ (0 < i + 1 → ∃ q ∈ z', starred q = true) ∧ φ ≤ σ + 1 + 3 * (i + 1) := fun q φ h1 h2 h3 => by
      refine ⟨z.take n ++ [q] ++ z.drop n, by simp [cut?, List.map_take, List.map_drop], by simp; lia, fun y hy => ?_, fun _ => ⟨q, by simp, h1⟩, by lia⟩
      rcases List.mem_append.mp hy with hy | hy
      · rcases List.mem_append.mp hy with hy | hy
        · exact hz y (List.mem_of_mem_take hy)
        · obtain rfl := List.mem_singleton.mp hy; exact h2
      · exact hz y (List.mem_of_mem_drop hy)
    have hz11 : (z.map pr).length ≤ 11 := by simp; lia
    refine ws_cons' <| s_assign' (.inr ⟨rfl, rfl⟩) <| we_addL <| wl_of' <| we_addL <| wl_of' <| we_slice <| wl_of' <| we_name rfl ⟨_, rfl, we_name rfl ⟨n, rfl, ?_⟩⟩
    refine ⟨rfl, by simp; lia, _, rfl, ?_⟩
    refine wl_of' ?_
    refine we_list' ?_
    refine wa_cons' ?_
    refine we_at' ?_ (fun _ _ => sub_call)
    refine wl_of' ?_
    refine we_tuple' ?_
    refine wa_cons' <| we_tuple' <| wa_cons' <| we_int <| wa_cons' <| we_int <| wa_nil ⟨by simp, ?_⟩
    refine wa_cons' <| we_tuple' <| wa_cons' <| we_int <| wa_cons' <| we_name rfl <| wa_nil ⟨by simp, ?_⟩
    refine wa_cons' <| we_tuple' <| wa_cons' <| we_name rfl <| wa_cons' <| we_int <| wa_nil ⟨by simp, ?_⟩
    refine wa_nil ⟨by simp, _, rfl, ?_⟩
    refine we_pullc u' hne B' hr' rfl rfl (by lia) (by lia) (by lia) fun j j0 j1 => ⟨j.toNat, by rw [Int.toNat_of_nonneg j0], by simp, ?_⟩
    have hj : j = 0 ∨ j = 1 ∨ j = 2 := by lia
    rcases hj with rfl | rfl | rfl
    · obtain ⟨z', e, f1, f2, f3, f4⟩ := fin (0, 0) (τ + 3) (by decide) (by unfold MOST; lia) rfl
      refine ⟨_, rfl, wa_nil ⟨by simp, _, rfl, rfl, rfl, by simp [cut?]; lia, _, rfl, wl_of' <| we_slice <| wl_of' <| we_name rfl ⟨_, rfl, we_name rfl ⟨n, rfl, rfl, by simp; lia, _, rfl, rfl, rfl, by simp [cut?]; lia, ws_nil ⟨z', ⟨?_, rfl, trivial⟩, by simp; lia, f1, f2, f3, f4⟩⟩⟩⟩⟩
      rw [← e]; rfl
    · obtain ⟨z', e, f1, f2, f3, f4⟩ := fin (0, 1 + k) (τ + 3) (by unfold starred; simp) (by unfold MOST; dsimp only; lia) rfl
      refine ⟨_, rfl, wa_nil ⟨by simp, _, rfl, rfl, rfl, by simp [cut?]; lia, _, rfl, wl_of' <| we_slice <| wl_of' <| we_name rfl ⟨_, rfl, we_name rfl ⟨n, rfl, rfl, by simp; lia, _, rfl, rfl, rfl, by simp [cut?]; lia, ws_nil ⟨z', ⟨?_, rfl, trivial⟩, by simp; lia, f1, f2, f3, f4⟩⟩⟩⟩⟩
      rw [← e]; rfl
    · obtain ⟨z', e, f1, f2, f3, f4⟩ := fin (1 + k, 0) (τ + 3) (by unfold starred; simp) (by unfold MOST; dsimp only; lia) rfl
      refine ⟨_, rfl, wa_nil ⟨by simp, _, rfl, rfl, rfl, by simp [cut?]; lia, _, rfl, wl_of' <| we_slice <| wl_of' <| we_name rfl ⟨_, rfl, we_name rfl ⟨n, rfl, rfl, by simp; lia, _, rfl, rfl, rfl, by simp [cut?]; lia, ws_nil ⟨z', ⟨?_, rfl, trivial⟩, by simp; lia, f1, f2, f3, f4⟩⟩⟩⟩⟩
      rw [← e]; rfl
  · rintro z τ ⟨hWl, hzl, hz, hzs, hτ⟩
    simp only [List.length_map, List.length_range] at hWl hzl hzs hτ
    obtain ⟨at', hat, hatl⟩ := star_some_of (hzs (by lia))
    have h' := h z at' τ (by lia) hz hat (by lia)
    refine ws_cons' <| s_return' <| we_tuple' <| wa_cons' <| we_callT1' rfl (n_tuple B') <| wl_of' <| we_name rfl ⟨_, rfl, c_tuple rfl (by simp; lia) <| wa_cons' <| we_at' <| wl_of' <| we_wn <| wn_comp ["spot"] false [("found", .val (.lst (z.map pr)))] (fun Ws acc i τ' => ∃ ns : List Nat, acc = ns.map (fun n : Nat => V.int n) ∧ ns.head? = star? (z.take i) ∧ ns.length ≤ i ∧ τ' = τ) rfl (by unfold ScOk; decide) ⟨rfl, trivial⟩ ⟨⟨⟨_, rfl⟩, rfl, rfl, fun _ => rfl, rfl⟩, trivial⟩ (.name _ _) ?_⟩
    refine we_callT1' rfl (n_range B') <| we_call1' rfl (n_len B') <| wl_of' <| we_name rfl ⟨_, rfl, c_len (by simp; lia) <| c_range (by simp; lia) ⟨_, rfl, by simp; lia, ⟨[], rfl, rfl, by simp, rfl⟩, ?_, ?_⟩⟩
    · rintro i W acc τ hW ⟨ns, rfl, hq, hnl, rfl⟩
      obtain ⟨hi, rfl⟩ := range_get hW
      have hi' : i < z.length := by simpa using hi
      have hg : (z.map pr)[i]? = some (pr z[i]) := by rw [List.getElem?_map, List.getElem?_eq_getElem hi']; rfl
      have htk : z.take (i + 1) = z.take i ++ [z[i]] := by rw [List.take_add_one, List.getElem?_eq_getElem hi']; rfl
      have hn : star? (z.take (i + 1)) = (ns.head?).or (if starred z[i] then some i else none) := by
        rw [hq, htk, star_append, star_one, List.length_take, Nat.min_eq_left (by lia)]
        congr 1
        split <;> simp
      generalize z[i] = q at hg hn
      obtain ⟨a, b⟩ := q
      refine ⟨_, rfl, rfl, fun Ca => ?_⟩
      refine turn1 <| wt_cmp' <| we_int <| we_at' <| wl_of' <| we_name rfl ⟨_, rfl, we_name rfl ⟨i, rfl, by simp; lia, _, hg, o_in (ns := [a, b]) ⟨_, rfl, ?_⟩⟩⟩
      have hst : [a, b].contains (0 : Int) = starred (a, b) := by
        unfold starred
        simp only [List.contains_cons, List.contains_nil, Bool.or_false]
        have e0 : ∀ a : Int, ((0 : Int) == a) = decide (a = 0) := fun a => by rw [Bool.eq_iff_iff, beq_iff_eq, decide_eq_true_iff]; exact eq_comm
        rw [e0, e0]
      rw [hst]
      refine br (fun h1 => ?_) fun h1 => ?_
      · refine we_name rfl ⟨ns ++ [i], by simp, ?_, by simp; lia, rfl⟩
        rw [hn, if_pos h1]
        cases ns <;> rfl
      · refine ⟨ns, rfl, ?_, by lia, rfl⟩
        rw [hn, if_neg (by rw [h1]; decide)]; simp
    · rintro acc υ ⟨ns, rfl, hq, hnl, rfl⟩
      simp only [List.length_map, List.length_range, List.take_length] at hq hnl
      rw [hat] at hq
      obtain ⟨ns', rfl⟩ : ∃ ns', ns = at' :: ns' := by
        cases ns with
        | nil => cases hq
        | cons a r => simp at hq; exact ⟨r, by rw [hq]⟩
      exact ⟨_, rfl, we_int ⟨0, rfl, by simp at hnl ⊢; lia, _, rfl, wa_nil ⟨by simp, h'⟩⟩⟩
end
end Mini
end

section
open PySem PySem.W PyProof.Rows
set_option maxRecDepth 100000
namespace Mini
section
variable {prog : Program} {w : World} {C : Cx} {ρ : Rho} {σ : Nat} {X : Int → Prop} {p : Params} {U A : Addr}
theorem J.via {α β : Type} {C : Cx} {ρ ρ' : Rho} {R : Heap → (Addr → Prop) → β → α → Prop} {t : Sem α} {σ : Nat} {X : Int → Prop} {Q : β → Nat → Prop} (h : J prog w C ρ' R t σ X Q) (hs : Sub ρ' ρ) : J prog w C ρ R t σ X Q :=
  fun ok s own Qc Ec st po ex => h ok s own Qc Ec (st.sub hs) po ex
theorem deep_bool (b : Bool) : deep (.bool b) ≤ 64 := by simp [deep, pd, PyData.depth]
theorem veq_bool (a b : Bool) : veq (.bool a) (.bool b) = (a == b) := by simp [veq, pd, PyData.eqv]
/-- what is asked of the counting -/
structure CountOk (L : List (Int × Int)) : Prop where
  size : sizeS L = rankS L MOST
  big : rankS L MOST < 2 ^ 60
  pos : 0 ≤ rankS L MOST
  here : ∀ k, 0 ≤ k → numAt L k ≠ 0 → isIn L (numAt L k) = true ∧ rankS L (numAt L k) = k + 1
  out : ∀ k, 0 ≤ k → (numAt L k = 0 ↔ k ≥ rankS L MOST)

set_option maxHeartbeats 4000000 in
theorem f_counts {ps : List (Int × Int)} {Q : V → Nat → Prop} (u : Urn C U A) (hne : U ≠ A) (B : Bs p C) (hr : 5 < C.r) (hl : ps.length ≤ 60) (hs : star? ps = none) (hC : CountOk (settledS ps)) (hσ : σ < 2 ^ 39) (h : ∀ τ, τ ≤ σ + 5 → Q (.bool true) τ) : CJ prog w C ρ (.ref 198) [.raw (.ref U), .tup (ps.map pr), .tup ((settledS ps).map pr)] σ X Q := by
  have F : Fn C.K 198 (F198 p) (bodyAt (F198 p)) ["urn", "some", "plain"] := B.K ▸ F198_ok p
  refine call_fnU F rfl (by lia) fun L own s hown => JW.of ?_
  have B' := B.callee (callEnvC (F198 p) L 198) own s
  have u' := u.callee (env := callEnvC (F198 p) L 198) (s := s) hown
  have hr' : 4 < (C.callee (callEnvC (F198 p) L 198) own s).r := by show 4 < C.r - 1; lia
  have hr0 : 0 < (C.callee (callEnvC (F198 p) L 198) own s).r := by lia
  have hx : ∀ i, star? ps = some i → X i := fun i e => by rw [hs] at e; cases e
  have hL := plainS_length ps 0
  have hL' : (settledS ps).length ≤ 60 := by unfold settledS; lia
  generalize hN : settledS ps = N at hC hL'
  have hx1 : ∀ k, ∀ Q' : V → Nat → Prop, ∀ τ, Q' (.int (numAt N k)) τ → CJ prog w (C.callee (callEnvC (F198 p) L 198) own s) [] (.ref 103) [.tup (ps.map pr), .int k] τ X Q' := fun k Q' τ hq => f_number_at (b := true) B' hr' rfl (by lia) hx fun _ => by rw [hN]; exact hq
  refine ws_cons' <| s_assign' (.inl rfl) <| we_fn rfl (n__law_rank B') (e191 B') <| wa_cons' <| we_name rfl <| wa_cons' <| we_MOST B' rfl <| wa_nil <| f_rank (ps := N) B' hr0 rfl (by lia) ?_
  refine ws_cons' <| s_if' <| wt_cmp' <| we_fn rfl (n_size_of B') (e96 B') <| wa_cons' <| we_name rfl <| wa_nil <| f_size_of (b := true) B' hr' rfl (by lia) hx fun _ => we_name rfl <| o_ne' ⟨_, rfl, br2 (fun c => absurd (by rw [hN]; exact hC.size) c) fun _ => ws_nil ?_⟩
  have hpos := hC.pos
  have hbig := hC.big
  have hout := hC.out
  have hhere := hC.here
  generalize rankS N MOST = size at hpos hbig hout ⊢
  -- the places
  have fin : ∀ (ns : List Int) (τ : Nat) (ρ : Rho), ns.length ≤ 5 → τ ≤ σ + 5 → ρ.lookup ("places" : Str) = some (.val (.lst (ns.map V.int))) → ρ.lookup ("some" : Str) = some (.val (.tup (ps.map pr))) → ρ.lookup ("plain" : Str) = some (.val (.tup (N.map pr))) → ρ.lookup ("size" : Str) = some (.val (.int size)) →
      WS prog w (C.callee (callEnvC (F198 p) L 198) own s) ρ ((bodyAt (F198 p)).drop 3) τ X (Ret Q) := fun ns τ ρ h1 h2 r1 r2 r3 r4 => by
    refine JS.sub (ρ' := [("places", .val (.lst (ns.map V.int))), ("some", .val (.tup (ps.map pr))), ("plain", .val (.tup (N.map pr))), ("size", .val (.int size))]) ⟨r1, r2, r3, r4, trivial⟩ ?_
    refine ws_cons' <| s_for' (S := List Int) (fun z => [("places", .val (.lst (z.map V.int))), ("some", .val (.tup (ps.map pr))), ("plain", .val (.tup (N.map pr))), ("size", .val (.int size))]) (fun Ws i z υ => z.length ≤ 5 + 2 * i ∧ υ = τ) <| we_name rfl ⟨_, rfl, ⟨ns, ⟨rfl, rfl, rfl, rfl, trivial⟩, by lia, rfl⟩, ?_, ?_⟩
    · rintro i W z υ hW ⟨hzl, rfl⟩
      obtain ⟨hi, rfl⟩ := map_get hW
      generalize N[i] = q
      obtain ⟨lo, hi2⟩ := q
      refine ⟨_, as_pair (.inl rfl) (.inl rfl), ?_⟩
      refine ws_cons' <| s_assign' (.inl rfl) ?_
      refine we_addL ?_
      refine wl_of' <| we_name rfl ⟨_, rfl, ?_⟩
      refine wl_of' ?_
      refine we_list' <| wa_cons' <| we_fn rfl (n__law_rank B') (e191 B') <| wa_cons' <| we_name rfl <| wa_cons' <| we_name rfl <| wa_nil <| f_rank (ps := N) B' hr0 rfl (by lia) ?_
      refine wa_cons' <| we_bin' <| we_fn rfl (n__law_rank B') (e191 B') <| wa_cons' <| we_name rfl <| wa_cons' <| we_name rfl <| wa_nil <| f_rank (ps := N) B' hr0 rfl (by lia) ?_
      refine we_int <| o_sub <| wa_nil ⟨by simp, _, rfl, rfl, rfl, by simp; lia, ws_nil ⟨z ++ [rankS N hi2, rankS N lo - 1], ⟨by rw [List.map_append]; rfl, rfl, rfl, rfl, trivial⟩, by simp; lia, rfl⟩⟩
    · rintro z υ ⟨hzl, rfl⟩
      simp only [List.length_map] at hzl
      refine ws_cons' <| s_for' (S := Unit) (fun _ => [("some", .val (.tup (ps.map pr))), ("plain", .val (.tup (N.map pr))), ("size", .val (.int size))]) (fun Ws i _ φ => φ = υ) <| we_name rfl ⟨_, rfl, ⟨(), ⟨rfl, rfl, rfl, trivial⟩, rfl⟩, ?_, ?_⟩
      · rintro i W _ φ hW rfl
        obtain ⟨hi, rfl⟩ := map_get hW
        generalize z[i] = k
        refine ⟨_, as_name (.inl rfl), ?_⟩
        refine ws_cons' <| s_if' <| wt_cmp' <| we_name rfl <| we_int <| o_ge ⟨_, rfl, br2 (fun c1 => ?_) fun c1 => ws_nil <| ws_nil ⟨(), ⟨rfl, rfl, rfl, trivial⟩, rfl⟩⟩
        refine ws_cons' <| s_assign' (.inl rfl) <| we_fn rfl (n_number_at B') (e103 B') <| wa_cons' <| we_name rfl <| wa_cons' <| we_name rfl <| wa_nil <| f_number_at (b := true) B' hr' rfl (by lia) hx fun _ => ?_
        rw [hN]
        have hh := hhere k c1
        have ho := hout k c1
        generalize numAt N k = n at hh ho
        -- the last part of the test
        have last : WT prog w (C.callee (callEnvC (F198 p) L 198) own s) [("number", .val (.int n)), ("place", .val (.int k)), ("size", .val (.int size))] ((parts (testOf (nth (inner (nth (inner (nth (bodyAt (F198 p)) 4)) 0)) 1))).getD 1 (.Constant .none 0 default)) φ X (fun c τ => c = false ∧ τ = φ) := by
          refine wt_cmp' <| we_cmp' <| we_name rfl <| we_int <| o_eq' <| we_cmp' <| we_name rfl <| we_name rfl <| o_ge <| o_vne rfl rfl (deep_bool _) (deep_bool _) ⟨_, rfl, ?_, rfl⟩
          rw [veq_bool]
          by_cases c : n = 0
          · simp only [decide_eq_true c, decide_eq_true (ho.mp c)]; rfl
          · have : ¬ k ≥ size := fun q => c (ho.mpr q)
            simp only [decide_eq_false c, decide_eq_false this]; rfl
        refine ws_cons' <| s_if' <| wt_or' <| wt_and' <| wt_cmp' <| we_name rfl <| we_int <| o_ne' ⟨_, rfl, br2 (fun c2 => ?_) fun c2 => ?_⟩
        · obtain ⟨h3, h4⟩ := hh c2
          refine wt_and' <| wt_or' <| wt_not' <| wt_val <| we_fn rfl (n__law_is_in B') (e179 B') <| wa_cons' <| we_name rfl <| wa_cons' <| we_name rfl <| wa_nil <| f_is_in (ps := N) B' hr0 rfl (by lia) ⟨_, rfl, ?_⟩
          rw [h3]
          refine wt_or' <| wt_cmp' <| we_fn rfl (n__law_rank B') (e191 B') <| wa_cons' <| we_name rfl <| wa_cons' <| we_name rfl <| wa_nil <| f_rank (ps := N) B' hr0 rfl (by lia) <| we_bin' <| we_name rfl <| we_int <| o_add <| o_ne' ⟨_, rfl, br2 (fun c3 => absurd h4 c3) fun c3 => wt_or_nil ?_⟩
          refine wt_or' <| J.mono (J.via last ⟨rfl, rfl, rfl, trivial⟩) (fun c τ ⟨e, e2⟩ => ?_) fun _ h => h
          subst e; subst e2
          exact wt_or_nil <| ws_nil <| ws_nil <| ws_nil ⟨(), ⟨rfl, rfl, rfl, trivial⟩, rfl⟩
        · refine wt_or' <| J.mono (J.via last ⟨rfl, rfl, rfl, trivial⟩) (fun c τ ⟨e, e2⟩ => ?_) fun _ h => h
          subst e; subst e2
          exact wt_or_nil <| ws_nil <| ws_nil <| ws_nil ⟨(), ⟨rfl, rfl, rfl, trivial⟩, rfl⟩
      · rintro _ φ rfl
        exact ws_cons' <| s_return' <| we_bool (h _ h2)
  refine ws_cons' <| s_assign' (.inl rfl) ?_
  refine we_addL ?_
  refine wl_of' ?_
  refine we_list' <| wa_cons' <| we_int <| wa_cons' <| we_bin' <| we_name rfl <| we_int <| o_sub <| wa_cons' <| we_name rfl <| wa_cons' ?_
  refine we_bin' <| we_name rfl <| we_pull u' hne B' hr0 rfl rfl <| we_bin' <| we_int <| we_int <| o_pow (by lia) (by decide) ⟨_, rfl, by decide, by decide, by lia, fun r r0 r1 => o_add <| wa_nil ⟨by simp, _, rfl, ?_⟩⟩
  refine wl_of' ?_
  refine we_if' <| wt_cmp' <| we_name rfl <| we_int <| o_gt ⟨_, rfl, br2 (fun c => ?_) fun c => ?_⟩
  · refine we_list' <| wa_cons' <| we_pull u' hne B' hr0 rfl rfl <| we_name rfl ⟨_, rfl, by lia, by lia, by lia, fun q q0 q1 => wa_nil ⟨by simp, _, rfl, rfl, rfl, by simp, ?_⟩⟩
    exact fin [0, size - 1, size, size + r, q] _ _ (by simp) (by lia) rfl rfl rfl rfl
  · refine we_list' <| wa_nil ⟨by simp, _, rfl, rfl, rfl, by simp, ?_⟩
    exact fin [0, size - 1, size, size + r] _ _ (by simp) (by lia) rfl rfl rfl rfl
end
end Mini
end

section
open PySem PySem.W PyProof.Rows
set_option maxRecDepth 100000
namespace Mini
/-- one run of a pairing, on one side -/
structure RunOk (L : List (Int × Int)) (n k c : Int) : Prop where
  a : isIn L n = true
  b : rankS L n = k + 1
  c' : rankS L (n + c - 1) = k + c
  d : isIn L (n + c - 1) = true
noncomputable def PairedOk (A Z : List (Int × Int)) : List (Int × Int × Int) → Int → Int × Int → Prop
  | [], k, _ => k = rankS A MOST
  | t :: T, k, e => RunOk A t.1 k t.2.2 ∧ RunOk Z t.2.1 k t.2.2 ∧ 1 ≤ t.2.2 ∧ e ≠ (t.1, t.2.1) ∧ PairedOk A Z T (k + t.2.2) (t.1 + t.2.2, t.2.1 + t.2.2)
section
variable {prog : Program} {w : World} {C : Cx} {ρ : Rho} {σ : Nat} {X : Int → Prop} {p : Params} {U A : Addr}
theorem deep_pr (q : Int × Int) : deep (pr q) ≤ 64 := by simp [deep, pr, pd, pds, PyData.depth, PyData.depthAll]

set_option maxHeartbeats 4000000 in
theorem f_is_paired {ps qs : List (Int × Int)} {Q : V → Nat → Prop} (B : Bs p C) (hr : 6 < C.r) (hz : ps.length + qs.length < 60) (s1 : star? ps = none) (s2 : star? qs = none) (ne1 : ∀ q ∈ settledS ps, q.1 ≤ q.2) (ne2 : ∀ q ∈ settledS qs, q.1 ≤ q.2)
    (he : sizeS (settledS ps) = sizeS (settledS qs)) (hm : PairedOk (settledS ps) (settledS qs) (matS (settledS ps) (settledS qs)) 0 (0, 0)) (h : Q (.bool true) σ) : CJ prog w C ρ (.ref 205) [.tup (ps.map pr), .tup (qs.map pr), .tup ((settledS ps).map pr), .tup ((settledS qs).map pr)] σ X Q := by
  have F : Fn C.K 205 (F205 p) (bodyAt (F205 p)) ["one", "two", "first", "second"] := B.K ▸ F205_ok p
  refine call_fn F rfl (by lia) fun L own s => ?_
  have B' := B.callee (callEnvC (F205 p) L 205) own s
  have hr' : 5 < (C.callee (callEnvC (F205 p) L 205) own s).r := by show 5 < C.r - 1; lia
  have hr0 : 0 < (C.callee (callEnvC (F205 p) L 205) own s).r := by lia
  have hx1 : ∀ i, star? ps = some i → X i := fun i e => by rw [s1] at e; cases e
  have hx2 : ∀ i, star? qs = some i → X i := fun i e => by rw [s2] at e; cases e
  have hA := plainS_length ps 0
  have hZ := plainS_length qs 0
  have hA' : (settledS ps).length ≤ 60 := by unfold settledS; lia
  have hZ' : (settledS qs).length ≤ 60 := by unfold settledS; lia
  refine ws_cons' <| s_tuple <| we_tuple' <| wa_cons' <| we_int <| wa_cons' <| we_tuple' <| wa_cons' <| we_int <| wa_cons' <| we_int <| wa_nil ⟨by simp, wa_nil ⟨by simp, _, as_pair (.inl rfl) (.inl rfl), ?_⟩⟩
  refine ws_cons' <| s_for' (S := Int × Int × Int) (fun z => [("passed", .val (.int z.1)), ("ends", .val (pr z.2)), ("first", .val (.tup ((settledS ps).map pr))), ("second", .val (.tup ((settledS qs).map pr)))]) (fun Ws i z τ => ∃ T : List (Int × Int × Int), Ws = T.map tr ∧ PairedOk (settledS ps) (settledS qs) (T.drop i) z.1 z.2 ∧ τ = σ)
    <| we_fn rfl (n_matched_pairs B') (e131 B') <| wa_cons' <| we_name rfl <| wa_cons' <| we_name rfl <| wa_nil <| f_matched (b := true) (c := true) B' hr' rfl rfl (by lia) hx1 (fun _ => hx2) ne1 ne2 (fun _ _ e => absurd he e) fun _ _ _ => ⟨_, rfl, ⟨(0, 0, 0), ⟨rfl, rfl, rfl, rfl, trivial⟩, _, rfl, by simpa using hm, rfl⟩, ?_, ?_⟩
  · rintro i W ⟨k, e⟩ τ hW ⟨T, hT, hp, rfl⟩
    dsimp only at hp ⊢
    rw [hT] at hW ⊢
    obtain ⟨hi, rfl⟩ := map_get hW
    rw [List.drop_eq_getElem_cons hi] at hp
    obtain ⟨r1, r2, c1, c2, hp'⟩ := hp
    generalize T[i] = t at r1 r2 c1 c2 hp' ⊢
    obtain ⟨lo, ot, ct⟩ := t
    dsimp only at r1 r2 c1 c2 hp'
    generalize settledS ps = A at *
    generalize settledS qs = Z at *
    refine ⟨_, as_triple (.inl rfl) (.inl rfl) (.inl rfl), ?_⟩
    refine ws_cons' <| s_for' (S := Unit) (fun _ => [("passed", .val (.int k)), ("ends", .val (pr e)), ("first", .val (.tup (A.map pr))), ("second", .val (.tup (Z.map pr))), ("low", .val (.int lo)), ("other", .val (.int ot)), ("count", .val (.int ct))]) (fun Ws j _ υ => (∀ W ∈ Ws, ∃ Y n, W = .tup [.tup (Y.map pr), .int n] ∧ RunOk Y n k ct ∧ Y.length ≤ 60) ∧ υ = τ)
      <| we_tuple' <| wa_cons' <| we_tuple' <| wa_cons' <| we_name rfl <| wa_cons' <| we_name rfl <| wa_nil ⟨by simp, wa_cons' <| we_tuple' <| wa_cons' <| we_name rfl <| wa_cons' <| we_name rfl <| wa_nil ⟨by simp, wa_nil ⟨by simp, _, rfl, ⟨(), ⟨rfl, rfl, rfl, rfl, rfl, rfl, rfl, trivial⟩, fun W hW => ?_, rfl⟩, ?_, ?_⟩⟩⟩
    · rcases List.mem_cons.mp hW with rfl | hW
      · exact ⟨A, lo, rfl, r1, hA'⟩
      · obtain rfl := List.mem_singleton.mp hW
        exact ⟨Z, ot, rfl, r2, hZ'⟩
    · rintro j W _ υ hW ⟨hall, rfl⟩
      obtain ⟨Y, n, rfl, hR, hY⟩ := hall W (List.mem_of_getElem? hW)
      refine ⟨_, as_pair (.inl rfl) (.inl rfl), ?_⟩
      refine ws_cons' <| s_if' <| wt_or' <| wt_not' <| wt_val <| we_fn rfl (n__law_is_in B') (e179 B') <| wa_cons' <| we_name rfl <| wa_cons' <| we_name rfl <| wa_nil <| f_is_in (ps := Y) B' hr0 rfl (by lia) ⟨_, rfl, ?_⟩
      rw [hR.a]
      refine wt_or' <| wt_cmp' <| we_fn rfl (n__law_rank B') (e191 B') <| wa_cons' <| we_name rfl <| wa_cons' <| we_name rfl <| wa_nil <| f_rank (ps := Y) B' hr0 rfl (by lia) <| we_bin' <| we_name rfl <| we_int <| o_add <| o_ne' ⟨_, rfl, br2 (fun c3 => absurd hR.b c3) fun c3 => ?_⟩
      refine wt_or' <| wt_cmp' <| we_fn rfl (n__law_rank B') (e191 B') <| wa_cons' <| we_name rfl <| wa_cons' <| we_bin' <| we_bin' <| we_name rfl <| we_name rfl <| o_add <| we_int <| o_sub <| wa_nil <| f_rank (ps := Y) B' hr0 rfl (by lia) <| we_bin' <| we_name rfl <| we_name rfl <| o_add <| o_ne' ⟨_, rfl, br2 (fun c4 => absurd hR.c' c4) fun c4 => wt_or_nil <| ws_nil ?_⟩
      refine ws_cons' <| s_if' <| wt_or' <| wt_not' <| wt_val <| we_fn rfl (n__law_is_in B') (e179 B') <| wa_cons' <| we_name rfl <| wa_cons' <| we_bin' <| we_bin' <| we_name rfl <| we_name rfl <| o_add <| we_int <| o_sub <| wa_nil <| f_is_in (ps := Y) B' hr0 rfl (by lia) ⟨_, rfl, ?_⟩
      rw [hR.d]
      refine wt_or' <| wt_cmp' <| we_name rfl <| we_int <| o_lt ⟨_, rfl, br2 (fun c5 => by lia) fun c5 => ?_⟩
      refine wt_or' <| wt_cmp' <| we_bin' <| we_fn rfl (n__law_rank B') (e191 B') <| wa_cons' <| we_name rfl <| wa_cons' <| we_bin' <| we_bin' <| we_name rfl <| we_name rfl <| o_add <| we_int <| o_sub <| wa_nil <| f_rank (ps := Y) B' hr0 rfl (by lia) ?_
      refine we_fn rfl (n__law_rank B') (e191 B') <| wa_cons' <| we_name rfl <| wa_cons' <| we_name rfl <| wa_nil <| f_rank (ps := Y) B' hr0 rfl (by lia) <| o_sub <| we_bin' <| we_name rfl <| we_int <| o_sub <| o_ne' ⟨_, rfl, br2 (fun c6 => absurd (by rw [hR.b, hR.c']; lia) c6) fun c6 => wt_or_nil <| ws_nil <| ws_nil ⟨(), ⟨rfl, rfl, rfl, rfl, rfl, rfl, rfl, trivial⟩, hall, rfl⟩⟩
    · rintro _ υ ⟨_, rfl⟩
      refine ws_cons' <| s_if' <| wt_cmp' <| we_name rfl <| we_tuple' <| wa_cons' <| we_name rfl <| wa_cons' <| we_name rfl <| wa_nil ⟨by simp, o_veq (a := pr e) (b := pr (lo, ot)) rfl rfl (deep_pr _) (deep_pr _) ⟨_, rfl, ?_⟩⟩
      rw [veq_pr, decide_eq_false c2]
      refine ws_nil <| ws_cons' <| s_swap' (names := ["passed", "ends"]) (fun x hx => ?_) <| we_tuple' <| wa_cons' <| we_bin' <| we_name rfl <| we_name rfl <| o_add <| wa_cons' <| we_tuple' <| wa_cons' <| we_bin' <| we_name rfl <| we_name rfl <| o_add <| wa_cons' <| we_bin' <| we_name rfl <| we_name rfl <| o_add <| wa_nil ⟨by simp, wa_nil ⟨by simp, _, rfl, rfl, ws_nil ⟨(k + ct, lo + ct, ot + ct), ⟨rfl, rfl, rfl, rfl, trivial⟩, T, rfl, hp', rfl⟩⟩⟩
      rcases List.mem_cons.mp hx with rfl | hx
      · exact .inl rfl
      · obtain rfl := List.mem_singleton.mp hx; exact .inl rfl
  · rintro ⟨k, e⟩ τ ⟨T, hT, hp, rfl⟩
    have hl : (matS (settledS ps) (settledS qs)).length = T.length := by have := congrArg List.length hT; simpa using this
    rw [List.length_map, hl, List.drop_length] at hp
    refine ws_cons' <| s_return' <| we_cmp' <| we_name rfl <| we_fn rfl (n__law_rank B') (e191 B') <| wa_cons' <| we_name rfl <| wa_cons' <| we_MOST B' rfl <| wa_nil <| f_rank (ps := settledS ps) B' hr0 rfl (by lia) <| o_eq' ?_
    rw [decide_eq_true (show k = rankS (settledS ps) 4294967295 from hp)]
    exact h
end
end Mini
end

section
open PySem PySem.W PyProof.Rows
set_option maxRecDepth 100000
namespace Mini
/-- a context with more that changes -/
noncomputable def Cx.wide (C : Cx) (N : List Addr) (I' : Nat → Heap → Prop) : Cx := { C with mu := C.mu ++ N, I := I' }
section
variable {C : Cx} {ρ : Rho} {σ τ n : Nat} {own : Own} {s₁ s₂ : Shared} {I' : Nat → Heap → Prop} {N : List Addr}
theorem Cx.Sp.wide (sp : C.Sp) : (C.wide N I').Sp := ⟨sp.LB, sp.Lt, sp.cB, sp.LG, sp.cG, sp.cap⟩
theorem wide_ok (ok : C.Ok) (st : St C ρ own σ s₁) (h1 : ∀ a ∈ N, s₁.heap.get? a = none) (hl : ∀ σ h h', (∀ a ∈ C.mu ++ N, ∀ o, h.get? a = some o → h'.get? a = some o) → I' σ h → I' σ h') : (C.wide N I').Ok :=
  ⟨ok.fr, ok.hd, ok.room, ok.units, ok.kind, ok.g, ok.b, ok.lim, ok.glob, ok.blt, fun a ha => by
    rcases List.mem_append.mp ha with h | h
    · exact ok.mutB a h
    · exact (fresh_facts st (h1 a h)).2.2.2.2.1, ok.kin, ok.bg, ok.fra, fun env he L hf ha => by
    rcases List.mem_append.mp ha with h | h
    · exact ok.fmu env he L hf h
    · obtain ⟨_, m, o, _, _, g, _⟩ := st.inv.frs.at he hf
      rw [h1 L h] at g; exact (nomatch g), hl⟩
theorem St.wide (st : St C ρ own σ s₁) (t : To C τ s₁ s₂) (h1 : ∀ a ∈ N, s₁.heap.get? a = none) (h2 : ∀ a ∈ N, (s₂.heap.get? a).isSome) (hi : I' n s₂.heap) : St (C.wide N I') ρ own n s₂ := by
  have st₂ := st.to t
  have nN : ∀ a, (s₁.heap.get? a).isSome → a ∉ N := fun a e q => by rw [h1 a q] at e; cases e
  have ka : ∀ b, (s₁.heap.get? b).isSome → ¬ Av C own b → ¬ Av (C.wide N I') own b := fun b e nb q => by
    rcases q with q | q
    · rcases List.mem_append.mp q with q | q
      · exact nb (.inl q)
      · exact nN b e q
    · exact nb (.inr q)
  have kd : ∀ b o, s₁.heap.get? b = some o → DD o → ¬ Av C own b → s₂.heap.get? b = some o := fun b o e dd nb => (t.kp.keep b o e fun q => nb (.inl q)).exact dd.nodict
  refine ⟨⟨fun q => ?_, fun x c hc q => ?_, fun env he L hf q => ?_⟩, ⟨st₂.inv.base, st₂.inv.frs⟩, hi, ⟨fun y b hy => ?_, st₂.loc.ns, st₂.loc.cells, fun p hp => ?_, st.loc.nodup, st.loc.ownG⟩, fun a ha => ?_, st₂.gs, fun b o g hb => st₂.gk b o g fun q => hb (List.mem_append_left _ q)⟩
  · rcases List.mem_append.mp q with q | q
    · exact st.ap.Lmu q
    · obtain ⟨m, o, _, _, g, _⟩ := st.loc.ns
      have hh : (s₁.heap.get? C.env.locals).isSome = true := by rw [g]; rfl
      exact nN _ hh q
  · rcases List.mem_append.mp q with q | q
    · exact st.ap.cmu x c hc q
    · obtain ⟨v, o, g, _⟩ := st.loc.cells x c hc
      exact nN _ (by rw [g]; rfl) q
  · rcases List.mem_append.mp q with q | q
    · exact st.ap.fmu env he L hf q
    · obtain ⟨_, m, o, _, _, g, _⟩ := st.inv.frs.at he hf
      exact nN _ (by rw [g]; rfl) q
  · obtain ⟨v, l, r⟩ := st.loc.look y b hy
    refine ⟨v, l.mono (fun m hn => Kept.ns hn fun o e => t.kp.keep _ o e st.ap.Lmu) (fun y c w hc hw => Kept.cell hw fun o e => t.kp.keep _ o e (st.ap.cmu y c hc)), ?_⟩
    cases b with
    | val W => exact Rep.mono kd ka r
    | own Us =>
      obtain ⟨a', vs', n', ev, ho, g', rl⟩ := r
      exact ⟨a', vs', n', ev, ho, (t.kp.keep _ _ g' (st.loc.ownok _ (mem_of_lookup ho)).1).exact (fun es n e => by cases e), RepL.mono kd ka rl⟩
    | dct ks => exact r.elim
  · obtain ⟨a, b, vs, m, g⟩ := st.loc.ownok p hp
    refine ⟨fun q => ?_, b, (st₂.loc.ownok p hp).2.2⟩
    rcases List.mem_append.mp q with q | q
    · exact a q
    · exact nN _ (by rw [g]; rfl) q
  · rcases List.mem_append.mp ha with h | h
    · exact st₂.ml a h
    · exact h2 a h
theorem St.unwide (hG : ∀ a ∈ N, C.G.heap.get? a = none) (st : St (C.wide N I') ρ own n s₂) (hi : C.I σ s₂.heap) : St C ρ own σ s₂ := by
  have ka : ∀ b, ¬ Av (C.wide N I') own b → ¬ Av C own b := fun b nb q => q.elim (fun q => nb (.inl (List.mem_append_left _ q))) fun q => nb (.inr q)
  refine ⟨⟨fun q => st.ap.Lmu (List.mem_append_left _ q), fun x c hc q => st.ap.cmu x c hc (List.mem_append_left _ q), fun env he L hf q => st.ap.fmu env he L hf (List.mem_append_left _ q)⟩, ⟨st.inv.base, st.inv.frs⟩, hi,
    ⟨fun y b hy => ?_, st.loc.ns, st.loc.cells, fun p hp => ⟨fun q => (st.loc.ownok p hp).1 (List.mem_append_left _ q), (st.loc.ownok p hp).2⟩, st.loc.nodup, st.loc.ownG⟩, fun a ha => st.ml a (List.mem_append_left _ ha), st.gs, fun b o g hb => st.gk b o g fun q => ?_⟩
  · obtain ⟨v, l, r⟩ := st.loc.look y b hy
    refine ⟨v, l, ?_⟩
    cases b with
    | val W => exact Rep.mono (fun _ _ e _ _ => e) (fun b _ h => ka b h) r
    | own Us =>
      obtain ⟨a', vs', n', ev, ho, g', rl⟩ := r
      exact ⟨a', vs', n', ev, ho, g', RepL.mono (fun _ _ e _ _ => e) (fun b _ h => ka b h) rl⟩
    | dct ks => exact r.elim
  · rcases List.mem_append.mp q with q | q
    · exact hb q
    · rw [hG b q] at g; cases g
theorem Fly.unwide (hG : ∀ a ∈ N, C.G.heap.get? a = none) {e : Addr} {k : Int} {b : Bool} {s' : Shared} (f : Fly (C.wide N I') e k b s') (hI : ∀ n h, I' n h → ∃ σ, C.I σ h) : Fly C e k b s' := by
  refine ⟨f.same, f.base, f.frs, ⟨f.newe.1, fun q => f.newe.2 (List.mem_append_left _ q)⟩, fun b o g hb => f.gk b o g fun q => ?_, fun a ha => f.ml a (List.mem_append_left _ ha), f.i.elim fun m hi => hI m _ hi, ?_⟩
  · rcases List.mem_append.mp q with q | q
    · exact hb q
    · rw [hG b q] at g; cases g
  · obtain ⟨oe, vs, d, m, t, ge, hc, hd, h1, hdd, hfr, gd, ha, hb⟩ := f.trc
    refine ⟨oe, vs, d, m, t, ge, hc, hd, h1, hdd, hfr, gd, ha, ?_⟩
    rcases hb with hb | ⟨hb, T, oT, ts, hv, hGT, hmT, r⟩
    · exact .inl hb
    · exact .inr ⟨hb, T, oT, ts, hv, hGT, fun q => hmT (List.mem_append_left _ q), r⟩
end
section
variable {prog : Program} {w : World} {C : Cx} {ρ : Rho} {σ τ n : Nat} {own : Own} {s₁ s₂ : Shared} {I' : Nat → Heap → Prop} {N : List Addr} {X : Int → Prop}
theorem po_wide {Q : Out → Rho → Nat → Prop} {Qc : Flow → Shared → Prop} (g : Nat → Nat) (hG : ∀ a ∈ N, C.G.heap.get? a = none) (hg : ∀ n h, I' n h → C.I (g n) h) (po : ∀ f o ρ' σ' s' own', St C ρ' own' σ' s' → OutRep C own' s' o f → Q o ρ' σ' → Qc f s') :
    ∀ f o ρ' σ' s' own', St (C.wide N I') ρ' own' σ' s' → OutRep (C.wide N I') own' s' o f → Q o ρ' (g σ') → Qc f s' := fun f o ρ' σ' s' own' st' r q => by
  refine po f o ρ' (g σ') s' own' (st'.unwide hG (hg _ _ st'.i)) ?_ q
  cases o with
  | ret W => obtain ⟨v, e, r⟩ := r; exact ⟨v, e, Rep.mono (fun _ _ e _ _ => e) (fun b _ h q => h (List.mem_append_left _ q)) r⟩
  | next => exact r
  | cont => exact r
  | brk => exact r
theorem ex_wide {s s' : Shared} {Ec : Value → Shared → Prop} (g : Nat → Nat) (hG : ∀ a ∈ N, C.G.heap.get? a = none) (hg : ∀ n h, I' n h → C.I (g n) h) (ex : Ex C X s Ec) : Ex (C.wide N I') X s' Ec :=
  fun k e b s'' hx f => ex k e b s'' hx (f.unwide hG fun n h hi => ⟨_, hg n h hi⟩)
end
end Mini
end

section
open PySem PySem.W PyProof.Rows
set_option maxRecDepth 100000
namespace Mini
noncomputable def e4 (q : Int × Int) : List Int := [min q.1 q.2 - 1, min q.1 q.2, max q.1 q.2, max q.1 q.2 + 1]
noncomputable def edgeNs (ps : List (Int × Int)) : List Int := ps.flatMap e4
theorem edge_length : ∀ ps : List (Int × Int), (edgeNs ps).length = 4 * ps.length
  | [] => rfl
  | q :: r => by
    have := edge_length r
    unfold edgeNs at *
    rw [List.flatMap_cons, List.length_append, this]
    simp only [e4, List.length_cons, List.length_nil]; lia
theorem edge_at : ∀ (ps : List (Int × Int)) (i j : Nat) (h : i < ps.length), j < 4 → (edgeNs ps)[4 * i + j]? = (e4 ps[i])[j]?
  | q :: r, 0, j, _, hj => by
    unfold edgeNs
    rw [List.flatMap_cons, List.getElem?_append_left (by simp [e4]; lia)]
    simp
  | q :: r, i + 1, j, h, hj => by
    have ih := edge_at r i j (by simpa using h) hj
    unfold edgeNs at ih ⊢
    rw [List.flatMap_cons, List.getElem?_append_right (by simp [e4]; lia)]
    rw [show 4 * (i + 1) + j - (e4 q).length = 4 * i + j by simp [e4]; lia, ih]
    rfl
noncomputable def dictN (l : List Int) : List (Int × Value) := l.foldl (fun kvs k => stored kvs k (.bool true)) []
theorem dictN_snoc (l : List Int) (k : Int) : dictN (l ++ [k]) = stored (dictN l) k (.bool true) := by unfold dictN; rw [List.foldl_append]; rfl
theorem stored_keys (kvs : List (Int × Value)) (k : Int) (v : Value) : (∀ x, x ∈ (stored kvs k v).map (·.1) ↔ x ∈ kvs.map (·.1) ∨ x = k) ∧ (stored kvs k v).length ≤ kvs.length + 1 := by
  unfold stored
  split
  · rename_i h
    have e : (kvs.map fun kv => if kv.1 = k then (kv.1, v) else kv).map (·.1) = kvs.map (·.1) := by
      rw [List.map_map]
      refine List.map_congr_left fun q _ => ?_
      simp only [Function.comp]
      split <;> rfl
    rw [e, List.length_map]
    refine ⟨fun x => ⟨.inl, fun h' => h'.elim id fun e => ?_⟩, by lia⟩
    subst e
    obtain ⟨q, hq, e⟩ := List.any_eq_true.mp h
    exact List.mem_map.mpr ⟨q, hq, by simpa using e⟩
  · rw [List.map_append, List.length_append]
    exact ⟨fun x => by simp, by simp⟩
theorem fold_keys : ∀ (l : List Int) (kvs : List (Int × Value)), (∀ x, x ∈ (l.foldl (fun kvs k => stored kvs k (Value.bool true)) kvs).map (·.1) ↔ x ∈ kvs.map (·.1) ∨ x ∈ l) ∧ (l.foldl (fun kvs k => stored kvs k (Value.bool true)) kvs).length ≤ kvs.length + l.length
  | [], kvs => ⟨fun x => by simp, by simp⟩
  | k :: l, kvs => by
    obtain ⟨a, b⟩ := stored_keys kvs k (.bool true)
    obtain ⟨c, d⟩ := fold_keys l (stored kvs k (.bool true))
    refine ⟨fun x => ?_, by simp only [List.foldl_cons, List.length_cons] at d ⊢; lia⟩
    simp only [List.foldl_cons]
    rw [c, a]
    simp only [List.mem_cons]
    constructor
    · rintro ((h | h) | h)
      · exact .inl h
      · exact .inr (.inl h)
      · exact .inr (.inr h)
    · rintro (h | h | h)
      · exact .inl (.inl h)
      · exact .inl (.inr h)
      · exact .inr h
theorem dictN_keys (l : List Int) : (∀ x, x ∈ (dictN l).map (·.1) ↔ x ∈ l) ∧ (dictN l).length ≤ l.length := by
  obtain ⟨a, b⟩ := fold_keys l []
  exact ⟨fun x => by unfold dictN; rw [a]; simp, by unfold dictN; simpa using b⟩

section
variable {prog : Program} {w : World} {C : Cx} {ρ : Rho} {σ : Nat} {X : Int → Prop} {p : Params}
/-- d[x] = True, of a pinned dict -/
theorem s_dset {x y : Str} {kk : Nat} {p1 p2 p3 p4 pos : Pos} {D : Addr} {kv : Nat → List (Int × Value)} {i : Int} {m : Nat} {Q : Out → Rho → Nat → Prop} (pn : Pin C [D] fun n h => h.DictOf (intKind prog w) D (kv n)) (hx : ρ.lookup x = some (.val (.raw (.ref D)))) (hy : ρ.lookup y = some (.val (.int i)))
    (le : σ ≤ m) (hm : kv m = stored (kv σ) i (.bool true)) (hz : (kv σ).length ≤ 1000) (h : Q .next ρ m) (hd : (x == ("__debug__" : Str)) = false := by decide) (hd' : (y == ("__debug__" : Str)) = false := by decide)
    (hs : ∀ env, swapsWith (.Constant (.bool true) kk p3) (some (.Subscript (.Name x p1) (.Name y p2) p4)) pos.line env = pure false := by intro _; rfl) : W1 prog w C ρ (.Assign [.Subscript (.Name x p1) (.Name y p2) p4] (.Constant (.bool true) kk p3) pos) σ X Q := fun ok sp s own Qc Ec st ps ex => by
  refine wpAny_Assign_Subscript (Constant_bool ?_) (hs _)
  obtain ⟨_, l, r⟩ := st.loc.look x _ hx
  simp only [BdRep, Rep] at r; subst r
  refine look_name ok l ?_ hd
  obtain ⟨_, l, r⟩ := st.loc.look y _ hy
  simp only [BdRep, Rep] at r; obtain ⟨t, rfl⟩ := r
  refine look_name ok l ?_ hd'
  refine wpAny_setItem_pairs (hsz := by rw [sizeLine_eq]; lia) (intKind_is prog w i t) (pn.get _ _ st.i) fun h' hD hs' => ?_
  have t₂ : To C m s { s with heap := h', toks := s.toks + 1 } := St.pin ok pn le st (fun b o hb e => (hs'.2 b (by simpa using hb)).trans e) (fun b hb => by
    obtain rfl := List.mem_singleton.mp hb
    obtain ⟨o, _, _, g, _⟩ := hD
    rw [g]; rfl) (by rw [hm]; exact hD)
  exact ps .next .next ρ m _ own (st.to t₂) (SK.of_kp t₂.kp) rfl h

theorem intsAre_of {kvs : List (Int × Value)} : ∀ {vs : List Value}, vs.length = kvs.length → (∀ (j : Nat) (v : Value), vs[j]? = some v → ∃ k x, kvs[j]? = some (k, x) ∧ (intKind prog w).is k v = true) → IntsAre vs (kvs.map (·.1)) := fun {vs} => by
  induction kvs generalizing vs with
  | nil => intro hl _; obtain rfl : vs = [] := List.length_eq_zero_iff.mp (by simpa using hl); exact .nil
  | cons q r ih =>
    intro hl h
    match vs, hl with
    | v :: vs, hl =>
      obtain ⟨k, x, e, hk⟩ := h 0 v rfl
      simp only [List.getElem?_cons_zero, Option.some.injEq] at e
      subst e
      obtain ⟨t, rfl⟩ := Value.isInt_shape hk
      exact .cons k t (ih (by simpa using hl) fun j v hv => by simpa using h (j + 1) v (by simpa using hv))
theorem intsAre_vals : ∀ {vs : List Value} {ns : List Int}, IntsAre vs ns → IntVals ns vs
  | _, _, .nil => ⟨[], rfl, rfl⟩
  | _, _, .cons n t r => by
    obtain ⟨xs, rfl, rfl⟩ := intsAre_vals r
    exact ⟨(n, t) :: xs, rfl, rfl⟩

theorem c_sortedD {D : Addr} {kv : Nat → List (Int × Value)} {Q : V → Nat → Prop} (pn : Pin C [D] fun n h => h.DictOf (intKind prog w) D (kv n)) (lo : (D == sysModules) = false) (hz : (kv σ).length < 64) (h : ∀ es : List Int, es.Perm ((kv σ).map (·.1)) → es.Pairwise (· ≤ ·) → ((kv σ).map (·.1)).Nodup → Q (.lst (es.map V.int)) σ) :
    C1 (α := Unit) prog w C ρ Rep (.builtin "sorted") (.raw (.ref D)) σ X Q := fun ok s own Qc Ec v st r po ex => by
  simp only [Rep] at r; subst r
  have hD := pn.get _ _ st.i
  have hn : ((kv σ).map (·.1)).Nodup := by obtain ⟨_, _, _, _, _, _, _, _, x⟩ := hD; exact x
  obtain ⟨ep, hat⟩ := hD.dictAt
  refine Calls.call_function_entry kind_sorted plain_sorted entry_sorted (args_sorted1 _) ?_
  unfold Builtin.«sorted»
  refine wpAny_bind (m := checkCount "sorted" 1 1 _) (wpAny_pure ?_)
  refine wpAny_bind (kdu_collect (A := C.A.in1) (kdl_dict (knd := intKind prog w) (kvs := kv σ) (ep := ep) lo) ok.hd hat (by rw [sizeLine_eq]; lia) fun h' tk acc hk hacc => ?_)
  have hl : acc.toList.length = (kv σ).length := by rw [Array.length_toList]; exact hacc.1
  have hI : IntsAre acc.toList ((kv σ).map (·.1)) := intsAre_of (prog := prog) (w := w) hl fun j v hv => hacc.2 j v (by rw [← Array.getElem?_toList]; exact hv)
  refine wpAny_bind (wpAny_newList ?_ (by rw [hl, sizeLine_eq]; lia))
  have hoL : (h'.push (seqObj "list" acc.toList.toArray 0)).get? h'.objs.size = some (seqObj "list" acc.toList.toArray 0) := Heap.get?_push_size _ rfl
  refine wpAny_bind (wpAny_holding (wpAny_call_entry slot_list_sort ⟨_, hoL, rfl⟩ entry_list_sort (list_sort_tree hoL hI (by rw [hl]; exact hz) fun out ns' a1 a2 a3 => ⟨_, rfl, ?_⟩) (args_list_sort _)))
  refine wpAny_pure ⟨_, rfl, ?_⟩
  obtain ⟨e, he⟩ := sortedHeap_at (out := out) hoL
  have kk : ∀ b o, s.heap.get? b = some o → (sortedHeap (h'.push (seqObj "list" acc.toList.toArray 0)) h'.objs.size acc.toList out).get? b = some o := fun b o g => by
    have g' := hk b o g
    have hb : b < h'.objs.size := Heap.lt_size g'
    rw [sortedHeap_old (Nat.ne_of_lt hb) (by rw [Heap.size_push]; exact Nat.lt_succ_of_lt hb)]
    exact Heap.get?_push_of_some _ g'
  refine po (.ref h'.objs.size) (.lst (ns'.map V.int)) σ _ (st.ext ok (h := sortedHeap (h'.push (seqObj "list" acc.toList.toArray 0)) h'.objs.size acc.toList out) (tk := tk) kk) ?_ (h ns' a2 a3 hn)
  simp only [Rep]
  refine ⟨_, out.toList, e, rfl, fun q => ?_, by rw [he], (intsAre_vals a1).rep⟩
  refine st.avoid_fresh (a := h'.objs.size) ?_ q
  cases g : s.heap.get? h'.objs.size with
  | none => rfl
  | some o => exact absurd (Heap.lt_size (hk _ _ g)) (Nat.lt_irrefl _)

set_option maxHeartbeats 2000000 in
theorem f_edges {W : V} {ps : List (Int × Int)} {Q : V → Nat → Prop} (B : Bs p C) (hr : 0 < C.r) (hW : elems W = some (ps.map pr)) (hz : ps.length < 16) (h : ∀ es : List Int, es.Pairwise (· < ·) → (∀ x, x ∈ es ↔ x ∈ edgeNs ps) → es.length < 64 → Q (.lst (es.map V.int)) σ) : CJ prog w C ρ (.ref 174) [W] σ X Q := by
  have F : Fn C.K 174 (F174 p) (bodyAt (F174 p)) ["some"] := B.K ▸ F174_ok p
  refine call_fnW F rfl (by lia) fun L own s => ?_
  intro ok sp s₁ own₁ Qc Ec st po ex
  have B' := B.callee (callEnvC (F174 p) L 174) own s
  refine wpAny_execs_cons (wpAny_Assign_Name (wpAny_Dict_empty ?_) rfl)
  have to : To (C.callee (callEnvC (F174 p) L 174) own s) σ s₁ { s₁ with heap := s₁.heap.push { cls := .type "dict", data := .dict #[] } } := st.ext ok (h := s₁.heap.push _) (tk := s₁.toks) isSome_push
  have lo : (s₁.heap.objs.size == sysModules) = false := beq_eq_false_iff_ne.mpr (Nat.ne_of_gt (modules_low (ok.lim.keeps st.inv.base)))
  obtain ⟨D, hD⟩ : ∃ D, D = s₁.heap.objs.size := ⟨_, rfl⟩
  have h1 : ∀ a ∈ [D], s₁.heap.get? a = none := fun a ha => by obtain rfl := List.mem_singleton.mp ha; rw [hD]; exact none_of_size
  have gD : (s₁.heap.push { cls := .type "dict", data := .dict #[] }).get? D = some { cls := .type "dict", data := .dict #[] } := by rw [hD]; exact Heap.get?_push_size _ rfl
  obtain ⟨kv, hkv⟩ : ∃ kv : Nat → List (Int × Value), kv = fun n => dictN ((edgeNs ps).take n) := ⟨_, rfl⟩
  obtain ⟨I', hI'⟩ : ∃ I' : Nat → Heap → Prop, I' = fun n h => (C.callee (callEnvC (F174 p) L 174) own s).I σ h ∧ h.DictOf (intKind prog w) D (kv n) := ⟨_, rfl⟩
  have hi : I' 0 (s₁.heap.push { cls := .type "dict", data := .dict #[] }) := by
    rw [hI', hkv]
    exact ⟨to.i, _, #[], 0, gD, ⟨rfl, rfl, rfl⟩, rfl, fun e he => absurd he (by simp), .nil, .nil⟩
  have hl : ∀ σ h h', (∀ a ∈ (C.callee (callEnvC (F174 p) L 174) own s).mu ++ [D], ∀ o, h.get? a = some o → h'.get? a = some o) → I' σ h → I' σ h' := fun n h h' k q => by
    rw [hI'] at q ⊢
    obtain ⟨q, o, es, ep, g, r⟩ := q
    exact ⟨ok.Iloc σ h h' (fun a ha => k a (List.mem_append_left _ ha)) q, o, es, ep, k D (by simp) o g, r⟩
  have hg : ∀ n h, I' n h → (C.callee (callEnvC (F174 p) L 174) own s).I σ h := fun n h q => by rw [hI'] at q; exact q.1
  have okw := wide_ok (I' := I') ok st h1 hl
  have stw := st.wide (I' := I') (n := 0) to h1 (fun a ha => by obtain rfl := List.mem_singleton.mp ha; rw [gD]; rfl) hi
  have ff := fresh_facts st (h1 D (by simp))
  have hG : ∀ a ∈ [D], (C.callee (callEnvC (F174 p) L 174) own s).G.heap.get? a = none := fun a ha => by obtain rfl := List.mem_singleton.mp ha; exact ff.1
  rw [← hD] at lo ⊢
  refine store_ (C := (C.callee (callEnvC (F174 p) L 174) own s).wide [D] I') okw sp.wide (stw.del "found") (.inl rfl) (b := .val (.raw (.ref D))) (by simp only [BdRep, Rep]) fun s₃ st₃ k₃ => ?_
  have pn : Pin ((C.callee (callEnvC (F174 p) L 174) own s).wide [D] I') [D] (fun n h => h.DictOf (intKind prog w) D (kv n)) := ⟨fun a ha => List.mem_append_right _ ha, fun n h hi => by rw [show ((C.callee (callEnvC (F174 p) L 174) own s).wide [D] I').I = I' from rfl, hI'] at hi; exact hi.2, fun n m h h' _ hi hP k => by
    rw [show ((C.callee (callEnvC (F174 p) L 174) own s).wide [D] I').I = I' from rfl, hI'] at hi ⊢
    exact ⟨ok.Iloc σ h h' (fun a ha o e => k a (List.mem_append_left _ ha) (fun q => ff.2.1 (by rw [← List.mem_singleton.mp q]; exact ha)) o e) hi.1, hP⟩⟩
  have Bw : Bs p ((C.callee (callEnvC (F174 p) L 174) own s).wide [D] I') := ⟨B'.K, B'.g, B'.b⟩
  have hlen := edge_length ps
  refine JW.of (C := (C.callee (callEnvC (F174 p) L 174) own s).wide [D] I') ?_ okw sp.wide s₃ own₁ _ _ st₃ (po_wide (fun _ => σ) hG hg po) (ex_wide (fun _ => σ) hG hg ex)
  refine ws_cons' <| s_for' (S := Unit) (fun _ => [("found", .val (.raw (.ref D)))]) (fun Ws i _ τ => τ = 4 * i) <| we_name rfl ⟨_, hW, ⟨(), ⟨rfl, trivial⟩, rfl⟩, ?_, ?_⟩
  · rintro i W' _ τ hW' rfl
    obtain ⟨hi', rfl⟩ := map_get hW'
    refine ⟨_, as_pair (.inl rfl) (.inl rfl), ?_⟩
    refine ws_cons' <| s_for' (S := Unit) (fun _ => [("found", .val (.raw (.ref D)))]) (fun Ws j _ υ => Ws = (e4 ps[i]).map V.int ∧ υ = 4 * i + j) ?_
    refine we_tuple' <| wa_cons' <| we_bin' <| we_callB' rfl (n_min Bw) <| wa_cons' <| we_name rfl <| wa_cons' <| we_name rfl <| wa_nil <| c_min <| we_int <| o_sub ?_
    refine wa_cons' <| we_callB' rfl (n_min Bw) <| wa_cons' <| we_name rfl <| wa_cons' <| we_name rfl <| wa_nil <| c_min ?_
    refine wa_cons' <| we_callB' rfl (n_max Bw) <| wa_cons' <| we_name rfl <| wa_cons' <| we_name rfl <| wa_nil <| c_max ?_
    refine wa_cons' <| we_bin' <| we_callB' rfl (n_max Bw) <| wa_cons' <| we_name rfl <| wa_cons' <| we_name rfl <| wa_nil <| c_max <| we_int <| o_add ?_
    refine wa_nil ⟨by simp, _, rfl, ⟨(), ⟨rfl, trivial⟩, rfl, by lia⟩, ?_, ?_⟩
    · rintro j W2 _ υ hW2 ⟨hWs, rfl⟩
      rw [hWs] at hW2
      obtain ⟨hj, rfl⟩ := map_get hW2
      have hj4 : j < 4 := hj
      have e1 := edge_at ps i j hi' hj4
      rw [List.getElem?_eq_getElem hj] at e1
      refine ⟨_, as_name (.inl rfl), ?_⟩
      refine ws_cons' <| s_dset (m := 4 * i + (j + 1)) pn rfl rfl (by lia) ?_ ?_ <| ws_nil ⟨(), ⟨rfl, trivial⟩, hWs, rfl⟩
      · rw [hkv]
        show dictN ((edgeNs ps).take (4 * i + (j + 1))) = stored (dictN ((edgeNs ps).take (4 * i + j))) _ _
        rw [← dictN_snoc, show 4 * i + (j + 1) = 4 * i + j + 1 by lia, List.take_add_one, e1]; rfl
      · rw [hkv]
        have := (dictN_keys ((edgeNs ps).take (4 * i + j))).2
        rw [List.length_take] at this
        show (dictN _).length ≤ _
        lia
    · rintro _ υ ⟨hWs, rfl⟩
      exact ws_nil ⟨(), ⟨rfl, trivial⟩, by show 4 * i + 4 = _; lia⟩
  · rintro _ τ rfl
    rw [List.length_map]
    have ekv : kv (4 * ps.length) = dictN (edgeNs ps) := by rw [hkv]; show dictN _ = _; rw [List.take_of_length_le (by lia)]
    have hdk := dictN_keys (edgeNs ps)
    refine ws_cons' <| s_return' <| we_call1' rfl (n_sorted Bw) <| we_name rfl <| c_sortedD pn lo (by rw [ekv]; lia) fun es hp hs hn => ?_
    rw [ekv] at hp hn
    have nd : es.Nodup := hp.symm.nodup hn
    refine h es ?_ (fun x => by rw [hp.mem_iff]; exact hdk.1 x) (by rw [hp.length_eq, List.length_map]; lia)
    rw [List.pairwise_iff_getElem] at hs ⊢
    intro i j hi hj hij
    have h1 := hs i j hi hj hij
    have h2 := (List.pairwise_iff_getElem.mp nd) i j hi hj hij
    lia
end
end Mini
end

section
open PySem PySem.W PyProof.Rows
set_option maxRecDepth 100000
namespace Mini
/-- a lambda without arguments, where it lies -/
structure LamAt (h : Heap) (f c' : Addr) (name qual : Str) (params : Arguments) (body : Expr) (scope : Scope) (cl : List (Str × Addr)) : Prop where
  obj : ∃ pm ctv, h.get? f = some (kla_obj name qual params body scope cl pm c' ctv)
  code : h.CodeRec (.ref c') qual
theorem LamAt.keep {h h' : Heap} {f c' : Addr} {name qual : Str} {params : Arguments} {body : Expr} {scope : Scope} {cl : List (Str × Addr)} (x : LamAt h f c' name qual params body scope cl) (k : ∀ b, b = f ∨ b = c' → ∀ o, h.get? b = some o → (∀ es n, o.data ≠ .dict es n) → h'.get? b = some o) : LamAt h' f c' name qual params body scope cl := by
  obtain ⟨⟨pm, ctv, g⟩, c, oc, vs, t, e, gc, hd, hv⟩ := x
  cases e
  exact ⟨⟨pm, ctv, k f (.inl rfl) _ g (by simp)⟩, _, oc, vs, t, rfl, k c' (.inr rfl) _ gc (by rw [hd]; simp), hd, hv⟩

section
variable {prog : Program} {w : World} {C : Cx} {ρ : Rho} {σ : Nat} {X : Int → Prop} {p : Params}
set_option maxHeartbeats 1000000 in
theorem lam_call {s : Shared} {own : Own} {ρ ρf : Rho} {f c' : Addr} {name qual : Str} {params : Arguments} {body : Expr} {scope : Scope} {cl : List (Str × Addr)} {Q : V → Nat → Prop} {Qc Ec : Value → Shared → Prop} (ok : C.Ok) (st : St C ρ own σ s) (hr : 0 < C.r) (lam : LamAt s.heap f c' name qual params body scope cl)
    (hb : ∀ pm ctv, bindArgs (kla_fn name qual params body scope cl pm (.ref c') ctv) ⟨[], []⟩ = pure []) (hco : scope.isCoroutine = false) (hgen : scope.isGenerator = false) (hk : scope.kind = .function) (hcell : ∀ x ∈ scope.names, x.2 ≠ .cell)
    (hcl : ∀ x c, cl.lookup x = some c → ¬ Av C own c ∧ ∃ v, s.heap.IsCell c v) (hlook : ∀ x b, ρf.lookup x = some b → ∃ v W c, b = .val W ∧ scope.names.lookup x = some .free ∧ (x == ("__classdict__" : Str)) = false ∧ cl.lookup x = some c ∧ s.heap.IsCell c (some v) ∧ Rep s.heap (Av C own) W v)
    (hbody : ∀ L, WE prog w (C.callee (envX qual scope L f (.ref c') cl) own s) ρf body σ X Q) (po : Po C own Rep Q s Qc) (ex : Ex C X s Ec) : wpAny (model prog w) C.A (call (.ref f) []) Qc Ec s := by
  obtain ⟨⟨pm, ctv, g⟩, hcd⟩ := lam
  refine wpAny_call (kla_callFunE (by have := ok.room; lia) g rfl hco hgen rfl hcd ?_)
  rw [hb]
  refine wpAny_pure (wpAny_newFunctionEnv hcell (fun x hx => by simp at hx) (fun h₁ hns hsb => ?_) hk)
  have kp : ∀ b o, s.heap.get? b = some o → h₁.get? b = some o := fun b o e => hsb.extBut b o (Nat.ne_of_lt (Heap.lt_size e)) (Heap.get?_push_of_some _ e)
  refine ⟨(ok.lim.keeps st.inv.base).keeps kp, ?_⟩
  show codeAny _ _ (.expr body (envX qual scope s.heap.objs.size f (.ref c') cl)) _ _
  have ok' : (C.callee (envX qual scope s.heap.objs.size f (.ref c') cl) own s).Ok := callee_ok (L := s.heap.objs.size) ok st none_of_size hr hk rfl rfl rfl
  have st' : St (C.callee (envX qual scope s.heap.objs.size f (.ref c') cl) own s) ρf [] σ { s with heap := h₁, toks := s.toks + ([] : List (Str × Value)).length } := by
    refine callee_st (L := s.heap.objs.size) st ok (by show scope.kind ≠ _; rw [hk]; decide) rfl rfl none_of_size hns kp (fun x c hx => ?_) fun x b hx => ?_
    · obtain ⟨h1, v, o, go, hd⟩ := hcl x c hx
      exact ⟨.inr h1, v, o, kp _ _ go, hd⟩
    · obtain ⟨v, W, c, e, hfree, hcd, hc, ⟨o, go, hd⟩, r⟩ := hlook x b hx
      exact ⟨v, W, e, .inr ⟨.inr ⟨hfree, hcd⟩, c, hc, o, kp _ _ go, hd⟩, Rep.mono (fun b o e _ _ => kp b o e) (fun _ _ h => h) r⟩
  refine kla_codeExpr (hbody _ ok' _ [] _ _ st' (fun v W τ s' t r q => ?_) fun n e b s' hx f' => ?_)
  · exact po v W τ s' (callee_to ok st (st'.to t)) (Rep.mono (fun _ _ e _ _ => e) (fun c _ hn hc => hn (.inl (List.mem_append.mpr hc))) r) q
  · exact leaving_ ok' f' fun s'' b' f'' => ex n e b' s'' hx (callee_fly ok st f'')

/-- the facts of a lambda's text -/
structure LamOk (name qual : Str) (params : Arguments) (body : Expr) (scope : Scope) (cl : List (Str × Addr)) : Prop where
  bind : ∀ pm c' ctv, bindArgs (kla_fn name qual params body scope cl pm (.ref c') ctv) ⟨[], []⟩ = pure []
  co : scope.isCoroutine = false
  gen : scope.isGenerator = false
  kind : scope.kind = .function
  cell : ∀ x ∈ scope.names, x.2 ≠ .cell
/-- the names that a lambda takes from the frame -/
noncomputable def LamNames (env : Env) (ρ ρf : Rho) (scope : Scope) (cl : List (Str × Addr)) : Prop := ∀ x b, ρf.lookup x = some b → (∃ W, b = .val W) ∧ ρ.lookup x = some b ∧ env.kindOf x = some .cell ∧ scope.names.lookup x = some .free ∧ (x == ("__classdict__" : Str)) = false ∧ (cl.lookup x).isSome = true
noncomputable def LamNs (env : Env) (ρ : Rho) (scope : Scope) (cl : List (Str × Addr)) : Rho → Prop
  | [] => True
  | (x, b) :: r => ((∃ W, b = .val W) ∧ ρ.lookup x = some b ∧ env.kindOf x = some .cell ∧ scope.names.lookup x = some .free ∧ (x == ("__classdict__" : Str)) = false ∧ (cl.lookup x).isSome = true) ∧ LamNs env ρ scope cl r
theorem LamNs.names {env : Env} {ρ : Rho} {scope : Scope} {cl : List (Str × Addr)} : ∀ {ρf : Rho}, LamNs env ρ scope cl ρf → LamNames env ρ ρf scope cl
  | [], _, x, b, h => by cases h
  | (y, d) :: r, ⟨h1, h2⟩, x, b, h => by
    rw [List.lookup_cons] at h
    cases q : x == y with
    | true => rw [q] at h; cases h; rw [beq_iff_eq.mp q]; exact h1
    | false => rw [q] at h; exact LamNs.names h2 x b h

set_option maxHeartbeats 1000000 in
theorem f_fault0 {s : Shared} {own : Own} {ρf : Rho} {f c' : Addr} {name qual : Str} {params : Arguments} {body : Expr} {scope : Scope} {cl : List (Str × Addr)} {X' : Int → Prop} {Q : V → Nat → Prop} {Qc Ec : Value → Shared → Prop} (B : Bs p C) (hr : 1 < C.r) (lo : LamOk name qual params body scope cl) (hcl : ClOk C.env cl) (hn : LamNs C.env ρ scope cl ρf)
    (hbody : ∀ C2 : Cx, Bs p C2 → C2.r = C.r - 2 → C2.env.scope = scope → WE prog w C2 ρf body σ X' (fun _ τ => Q .none τ)) (hq : ∀ n τ, X' n → Q (.int n) τ)
    (ok : C.Ok) (st : St C ρ own σ s) (lam : LamAt s.heap f c' name qual params body scope cl) (hkp : (∀ b, b = f ∨ b = c' → ¬ Av C own b) ∨ (∀ σ h, C.I σ h → LamAt h f c' name qual params body scope cl)) (po : Po C own Rep Q s Qc) (ex : Ex C X s Ec) : wpAny (model prog w) C.A (call (.ref 212) [.ref f]) Qc Ec s := by
  have F : Fn C.K 212 (F212 p) (bodyAt (F212 p)) ["call"] := B.K ▸ F212_ok p
  refine call_core (ρ := ρ) (Vs := [.raw (.ref f)]) (σ := σ) (X := X) F rfl (by lia) ok st (by simp only [RepL, Rep]; exact ⟨_, _, rfl, rfl, rfl⟩) ex fun L s₁ ok1 sp1 st1 Q1 E1 q1 q2 ex1 => ?_
  have B1 := B.callee (callEnvC (F212 p) L 212) own s
  have hr1 : 0 < (C.callee (callEnvC (F212 p) L 212) own s).r := by show 0 < C.r - 1; lia
  -- what stands in the caller's state stands on
  have old : ∀ {ρ2 : Rho} {own2 : Own} {τ : Nat} {s2 : Shared}, St (C.callee (callEnvC (F212 p) L 212) own s) ρ2 own2 τ s2 → ∀ b o, s.heap.get? b = some o → ¬ Av C own b → Kept o (s2.heap.get? b) := fun st2 b o g nb => st2.gk b o g fun q => nb (List.mem_append.mp q)
  have navs : ∀ {ρ2 : Rho} {own2 : Own} {τ : Nat} {s2 : Shared}, St (C.callee (callEnvC (F212 p) L 212) own s) ρ2 own2 τ s2 → ∀ b, (s.heap.get? b).isSome → ¬ Av C own b → ¬ Av (C.callee (callEnvC (F212 p) L 212) own s) own2 b := fun st2 b hs nb q => by
    rcases q with q | q
    · exact nb (List.mem_append.mp q)
    · obtain ⟨pp, hp, rfl⟩ := List.mem_map.mp q
      have := st2.loc.ownG pp hp
      have this : s.heap.get? pp.2 = none := this
      rw [this] at hs; cases hs
  have cellav : ∀ x c, C.env.cells.lookup x = some c → ¬ Av C own c := fun x c hc q => by
    rcases q with q | q
    · exact st.ap.cmu x c hc q
    · obtain ⟨v, o, g, hd⟩ := st.loc.cells x c hc
      obtain ⟨vs, n, g'⟩ := own_list st q
      rw [g] at g'; cases g'; cases hd
  have main : JW prog w (C.callee (callEnvC (F212 p) L 212) own s) [("call", .val (.raw (.ref f)))] (execs (bodyAt (F212 p)) (C.callee (callEnvC (F212 p) L 212) own s).env) σ X (Ret Q) := by
    refine jw_cons (w_try (X' := X') B1 rfl rfl rfl rfl (fun ok2 sp2 s2 own2 Qc2 Ec2 st2 ps2 ex2 => ?_) fun n τ hx => hq n τ hx)
    refine wpAny_execs_cons (wpAny_Expr_any (env := (C.callee (callEnvC (F212 p) L 212) own s).env) ?_ (noint ok2) rfl)
    refine Call_Name0 ?_
    obtain ⟨_, l, r⟩ := st2.loc.look "call" _ rfl
    simp only [BdRep, Rep] at r; subst r
    refine look_name ok2 l ?_ (by decide)
    have lam2 : LamAt s2.heap f c' name qual params body scope cl := by
      rcases hkp with h | h
      · exact lam.keep fun b hb o g hd => (old st2 b o g (h b hb)).exact hd
      · exact h _ _ st2.i.1
    obtain ⟨⟨pm, ctv, g2⟩, _⟩ := id lam2
    refine Calls.callWith_function (o := _) (fd := kla_fn name qual params body scope cl pm (.ref c') ctv) (evalArgs_empty ⟨⟨g2, rfl⟩, ?_⟩)
    refine lam_call (ρf := ρf) (X := X') (Q := fun _ τ => Q .none τ) ok2 st2 hr1 lam2 (fun pm ctv => lo.bind pm c' ctv) lo.co lo.gen lo.kind lo.cell (fun x c hc => ?_) (fun x b hx => ?_) (fun L2 => hbody _ (B1.callee _ _ _) (by show C.r - 1 - 1 = _; lia) rfl) (fun v W τ s' t r q => ?_) ex2
    · have hc' := hcl.look hc
      obtain ⟨v, o, go, hd⟩ := st.loc.cells x c hc'
      exact ⟨navs st2 c (by rw [go]; rfl) (cellav x c hc'), v, Kept.cell ⟨o, go, hd⟩ fun o e => old st2 c o e (cellav x c hc')⟩
    · obtain ⟨⟨W, rfl⟩, hρ, hkind, hfree, hcd, hsome⟩ := hn.names x b hx
      obtain ⟨c, hc⟩ := Option.isSome_iff_exists.mp hsome
      have hc' := hcl.look hc
      obtain ⟨v, l, r⟩ := st.loc.look x _ hρ
      rcases l with ⟨a, _⟩ | ⟨a, c2, hc2, hv⟩
      · rw [hkind] at a; cases a
      · rw [hc'] at hc2; cases hc2
        exact ⟨v, W, c, rfl, hfree, hcd, hc, Kept.cell hv fun o e => old st2 c o e (cellav x c hc'), Rep.mono (fun b o e dd nb => (old st2 b o e nb).exact dd.nodict) (fun b e nb => navs st2 b e nb) r⟩
    · exact wpAny_execs_nil (ps2 .next .next _ τ s' own2 (st2.to t) rfl (JW.of (ws_cons' <| s_return' <| we_none q)))
  exact main ok1 sp1 s₁ [] Q1 E1 st1 (fun fl oo ρ' σ' s' own' st'' rr q => by
    have t := callee_to ok st st''
    cases oo with
    | next => cases rr; exact q2 _ (po .none .none σ' s' t (by simp only [Rep]) q)
    | cont => exact q.elim
    | brk => exact q.elim
    | ret W =>
      obtain ⟨v, rfl, rr⟩ := rr
      exact q1 _ _ (po v W σ' s' t (Rep.mono (fun _ _ e _ _ => e) (fun c _ hn hc => hn (List.mem_append.mpr hc)) rr) q)) ex1

theorem f_fault {s : Shared} {own : Own} {ρf : Rho} {f c' : Addr} {name qual : Str} {params : Arguments} {body : Expr} {scope : Scope} {cl : List (Str × Addr)} {X' : Int → Prop} {Q : V → Nat → Prop} {Qc Ec : Value → Shared → Prop} (B : Bs p C) (hr : 1 < C.r) (lo : LamOk name qual params body scope cl) (hcl : ClOk C.env cl) (hn : LamNs C.env ρ scope cl ρf)
    (hbody : ∀ C2 : Cx, Bs p C2 → C2.r = C.r - 2 → C2.env.scope = scope → WE prog w C2 ρf body 0 X' (fun _ _ => Q .none σ)) (hq : ∀ n, X' n → Q (.int n) σ)
    (ok : C.Ok) (st : St C ρ own σ s) (lam : LamAt s.heap f c' name qual params body scope cl) (hkp : (∀ b, b = f ∨ b = c' → ¬ Av C own b) ∨ (∀ σ h, C.I σ h → LamAt h f c' name qual params body scope cl)) (po : Po C own Rep Q s Qc) (ex : Ex C X s Ec) : wpAny (model prog w) C.A (call (.ref 212) [.ref f]) Qc Ec s :=
  f_fault0 (C := C.fix σ) (ρ := ρ) (σ := 0) (X := X) (Q := fun W _ => Q W σ) ⟨B.K, B.g, B.b⟩ hr lo hcl hn hbody (fun n τ hx => hq n hx) ⟨ok.fr, ok.hd, ok.room, ok.units, ok.kind, ok.g, ok.b, ok.lim, ok.glob, ok.blt, ok.mutB, ok.kin, ok.bg, ok.fra, ok.fmu, fun _ => ok.Iloc σ⟩
    ⟨⟨st.ap.Lmu, st.ap.cmu, st.ap.fmu⟩, ⟨st.inv.base, st.inv.frs⟩, st.i, ⟨st.loc.look, st.loc.ns, st.loc.cells, st.loc.ownok, st.loc.nodup, st.loc.ownG⟩, st.ml, st.gs, st.gk⟩ lam (hkp.imp id fun h _ h' hi => h σ h' hi)
    (fun v W _ s' t rr q => po v W σ s' ⟨t.kp, ⟨t.inv.base, t.inv.frs⟩, t.i⟩ rr q)
    (fun n e b s' hx f => ex n e b s' hx ⟨f.same, f.base, f.frs, f.newe, f.gk, f.ml, f.i.elim fun _ hi => ⟨σ, hi⟩, f.trc⟩)
end
end Mini
end

section
open PySem PySem.W PyProof.Rows
set_option maxRecDepth 100000
namespace Mini
theorem codeAmong_other {pos : Pos} {a b : Nat} {c : Value} (l : List Value) (h : TriplesOk l) (hn : codeAmong pos l = none) (hne : (a, b) ≠ (pos.line, pos.col)) : codeAmong pos (l ++ [rawInt a, rawInt b, c]) = none := by
  fun_induction TriplesOk l with
  | case1 =>
    simp only [List.nil_append, rawInt, codeAmong]
    rw [if_neg]
    intro q
    simp only [Bool.and_eq_true, beq_iff_eq] at q
    exact hne (by rw [Prod.mk.injEq]; lia)
  | case2 a t b u x rest ih =>
    simp only [List.cons_append, codeAmong] at hn ⊢
    split at hn
    · cases hn
    · rename_i hc; rw [if_neg hc]; exact ih h hn
  | case3 l h1 h2 => exact h.elim
/-- the table of the lambdas' codes: the next keys are not in it -/
noncomputable def TabP (P : Addr) (keys : List (Nat × Nat)) (n : Nat) (h : Heap) : Prop := ∃ ps : Array Value, h.get? P = some (tabObj ps) ∧ TriplesOk ps.toList ∧ ∀ pos : Pos, (pos.line, pos.col) ∈ keys.drop n → codeAmong pos ps.toList = none
/-- the program's top, where functions are made -/
noncomputable def TopOk (C : Cx) : Prop := ∃ bm o, C.mg "__builtins__" = some (.ref bm) ∧ bm ≠ builtinsNs ∧ bm ≠ mainGlobals ∧ C.B.get? bm = some o ∧ o.cls = .type "module" ∧ o.dict = some builtinsNs ∧ o.data = .plain
structure LamT where
  params : Arguments
  body : Expr
  scope : Scope
  pos : Pos
  cl : List (Str × Addr)
noncomputable def lamE (t : LamT) : Expr := .Lambda t.params t.body t.scope t.pos
noncomputable def LamsAt (q : Str) (s0 h : Heap) : List LamT → List Value → Prop
  | [], vs => vs = []
  | t :: r, vs => ∃ f c' us, vs = .ref f :: us ∧ LamAt h f c' "<lambda>" (q ++ "<lambda>") t.params t.body t.scope t.cl ∧ s0.get? f = none ∧ s0.get? c' = none ∧ LamsAt q s0 h r us
noncomputable def LamsOk (env : Env) : List LamT → List (Nat × Nat) → Prop
  | [], _ => True
  | t :: r, k :: ks => k = (t.pos.line, t.pos.col) ∧ defaultsOf t.params env = ([], []) ∧ closureFor t.scope env = pure t.cl ∧ LamsOk env r ks
  | _ :: _, [] => False

section
variable {prog : Program} {w : World} {C : Cx} {ρ : Rho} {σ : Nat} {X : Int → Prop} {p : Params}
theorem lam_make {own : Own} {s : Shared} {n : Nat} {P c : Addr} {keys : List (Nat × Nat)} {t : LamT} {Qc : Value → Shared → Prop} {Ec : Value → Shared → Prop} (ok : C.Ok) (st : St C ρ own n s) (pn : Pin C [P] (TabP P keys)) (tp : TopOk C) (CH : CodeHd C.B c P) (hcode : C.env.code = .ref c) (hPm : P ≠ mainGlobals)
    (hk : keys.drop n = (t.pos.line, t.pos.col) :: keys.drop (n + 1)) (nd : keys.Nodup) (hdef : defaultsOf t.params C.env = ([], [])) (hcl : closureFor t.scope C.env = pure t.cl)
    (h : ∀ f c' s', To C (n + 1) s s' → LamAt s'.heap f c' "<lambda>" (C.env.qual ++ "<lambda>") t.params t.body t.scope t.cl → s.heap.get? f = none → s.heap.get? c' = none → Qc (.ref f) s') : wpAny (model prog w) C.A (eval (lamE t) C.env) Qc Ec s := by
  obtain ⟨ps, hP, ht, hnf⟩ := pn.get _ _ st.i
  obtain ⟨bm, ob, b1, b2, b3, b4, b5, b6, b7⟩ := tp
  have hPB := ok.mutB P (pn.sub P (by simp))
  refine kla_eval hdef (kla_makeFunction (mg := C.mg) hcl ok.glob (ok.g.keeps st.inv.base) hcode (CH.keeps fun b o e => st.inv.base b o e) hP ht (hnf _ (by rw [hk]; simp)) (Ne.symm hPm) ⟨bm, ob, b1, b2, b3, (fun q => by rw [q, hPB] at b4; cases b4), st.inv.base _ _ b4, b5, b6, b7⟩ fun c' ctv h' tk hx hge hlt hrec htb => ?_)
  have t₁ : To C (n + 1) s { s with heap := h'.push (kla_obj "<lambda>" (C.env.qual ++ "<lambda>") t.params t.body t.scope t.cl ((C.mg "__name__").getD .none) c' ctv), toks := tk } := by
    refine St.pin ok pn (Nat.le_succ _) st (fun b o hb e => Heap.get?_push_of_some _ (hx b o (by simpa using hb) e)) (fun b hb => ?_) ⟨ps ++ #[rawInt t.pos.line, rawInt t.pos.col, .ref c'], Heap.get?_push_of_some _ htb, ?_, fun pos hpos => ?_⟩
    · obtain rfl := List.mem_singleton.mp hb
      rw [Heap.get?_push_of_some _ htb]; rfl
    · rw [Array.toList_append]
      exact TriplesOk_snoc _ _ _ _ ht
    · rw [Array.toList_append]
      refine codeAmong_other _ ht (hnf pos (by rw [hk]; simp [hpos])) fun q => ?_
      have nd' : (keys.drop n).Nodup := (List.drop_sublist n keys).nodup nd
      rw [hk, List.nodup_cons] at nd'
      exact nd'.1 (q ▸ hpos)
  have hsz : s.heap.objs.size ≤ h'.objs.size := Nat.le_trans hge (Nat.le_of_lt hlt)
  refine h h'.objs.size c' _ t₁ ⟨⟨_, ctv, Heap.get?_push_size _ rfl⟩, ?_⟩ (Heap.get?_none_of_le hsz) (Heap.get?_none_of_le hge)
  obtain ⟨c₂, oc, vs, tt, e2, hoc, hd, hv⟩ := hrec
  exact ⟨c₂, oc, vs, tt, e2, Heap.get?_push_of_some _ hoc, hd, hv⟩

theorem LamsAt.to {q : Str} {s0 : Heap} {own : Own} {n m : Nat} {s s' : Shared} (h0 : ∀ a, a ∈ C.mu → (s0.get? a).isSome) (t : To C m s s') : ∀ {ts : List LamT} {vs : List Value}, LamsAt q s0 s.heap ts vs → LamsAt q s0 s'.heap ts vs
  | [], _, h => h
  | l :: r, vs, h => by
    obtain ⟨f, c', us, e, hl, n1, n2, hr⟩ := h
    have nm : ∀ b, s0.get? b = none → b ∉ C.mu := fun b e q => by have := h0 b q; rw [e] at this; cases this
    refine ⟨f, c', us, e, hl.keep fun b hb o g hd => (t.kp.keep b o g ?_).exact hd, n1, n2, LamsAt.to (own := own) (n := n) h0 t hr⟩
    rcases hb with rfl | rfl
    · exact nm _ n1
    · exact nm _ n2
theorem LamsAt.old {q : Str} {s0 s1 h : Heap} (k : ∀ a, s1.get? a = none → s0.get? a = none) : ∀ {ts : List LamT} {vs : List Value}, LamsAt q s1 h ts vs → LamsAt q s0 h ts vs
  | [], _, h => h
  | l :: r, vs, h => by
    obtain ⟨f, c', us, e, hl, n1, n2, hr⟩ := h
    exact ⟨f, c', us, e, hl, k _ n1, k _ n2, LamsAt.old k hr⟩

/-- lambdas made in a row -/
theorem lams_made {own : Own} {P c : Addr} {keys : List (Nat × Nat)} {pos : Pos} {Ec : Value → Shared → Prop} (ok : C.Ok) (pn : Pin C [P] (TabP P keys)) (tp : TopOk C) (CH : CodeHd C.B c P) (hcode : C.env.code = .ref c) (hPm : P ≠ mainGlobals) (nd : keys.Nodup) :
    ∀ (ts : List LamT) (n : Nat) (s : Shared) (Qc : List Value → Shared → Prop), LamsOk C.env ts (keys.drop n) → St C ρ own n s → (∀ vs s', To C (n + ts.length) s s' → LamsAt C.env.qual s.heap s'.heap ts vs → Qc vs s') → wpAny (model prog w) C.A (spliced (backTo pos (starEach (ts.map lamE) C.env))) Qc Ec s
  | [], n, s, Qc, _, st, h => Calls.spliced_nil (h [] s st.self rfl)
  | t :: r, n, s, Qc, hk, st, h => by
    have he : starEach ((t :: r).map lamE) C.env = (false, eval (lamE t) C.env) :: starEach (r.map lamE) C.env := rfl
    rw [he]
    show wpAny _ _ (spliced ((false, eval (lamE t) C.env) :: backTo pos (starEach (r.map lamE) C.env))) _ _ _
    cases hkd : keys.drop n with
    | nil => rw [hkd] at hk; exact hk.elim
    | cons k ks =>
      rw [hkd] at hk
      obtain ⟨rfl, h1, h2, h3⟩ := hk
      have eks : ks = keys.drop (n + 1) := by
        have := congrArg List.tail hkd
        rw [List.tail_drop] at this
        exact this.symm
      rw [eks] at hkd h3
      refine Calls.spliced_cons (lam_make ok st pn tp CH hcode hPm hkd nd h1 h2 fun f c' s₁ t₁ hl n1 n2 => ?_)
      have st₁ := st.to t₁
      refine lams_made ok pn tp CH hcode hPm nd r (n + 1) s₁ _ h3 st₁ fun vs s' t₂ hls => h (.ref f :: vs) s' ?_ ?_
      · have := t₁.trans t₂
        rw [List.length_cons, show n + (r.length + 1) = n + 1 + r.length by lia]
        exact this
      · have nm : ∀ b, s.heap.get? b = none → b ∉ C.mu := fun b e q => by have := st.ml b q; rw [e] at this; cases this
        refine ⟨f, c', vs, rfl, hl.keep fun b hb o g hd => (t₂.kp.keep b o g ?_).exact hd, n1, n2, hls.old fun a e => t₁.kp.fresh e⟩
        rcases hb with rfl | rfl
        · exact nm _ n1
        · exact nm _ n2
end
end Mini
end

section
open PySem PySem.W PyProof.Rows
set_option maxRecDepth 100000
namespace Mini
section
variable {prog : Program} {w : World} {C : Cx} {ρ : Rho} {σ : Nat} {X : Int → Prop} {Q : Out → Rho → Nat → Prop}
theorem s_ownC {x : Str} {p pos : Pos} {value : Expr} (hx : Sto C x) (h : WN prog w C ρ (eval value C.env) σ X (fun Ws τ => Q .next ((x, .own Ws) :: del x ρ) τ))
    (hs : swapsWith value (some (.Name x p)) pos.line C.env = pure false := by rfl) : W1 prog w C ρ (.Assign [.Name x p] value pos) σ X Q := fun ok sp s own Qc Ec st ps ex =>
  wpAny_Assign_Name (h ok s own _ _ st (fun a Ws τ τ' s₁ s₂ vs n t₁ t₂ h1 h2 r q => by
    have st₁ := (st.to t₁)
    have hfresh : s.heap.get? a = none := t₁.kp.fresh h1
    have st₂ := (st₁.del x).mkown t₂ (x := x) (by rw [lookup_del, if_pos rfl]) h1 h2
    have hb : BdRep s₂.heap (Av C ((x, a) :: own)) ((x, a) :: own) x (.own Ws) (.ref a) := by
      refine ⟨a, vs, n, rfl, by simp, h2, RepL.mono (fun _ _ e _ _ => e) (fun b _ hn hb => hn ?_) r⟩
      rcases hb with q | q
      · exact .inl (.inl q)
      · rcases List.mem_cons.mp q with q | q
        · exact .inr q
        · exact .inl (.inr q)
    refine store_ ok sp (st₂.del x) hx hb fun s' st' k => ps .next .next _ τ' s' _ st' (SK.trans (o₂ := (x, a) :: own) ⟨(t₁.trans t₂).kp.same, fun b o e h1 _ _ _ => (t₁.trans t₂).kp.keep b o e h1, (t₁.trans t₂).kp.live, fun b hb => ?_⟩ k) rfl q
    rcases List.mem_cons.mp hb with q | q
    · exact .inr (by simp only at q; rw [q]; exact hfresh)
    · exact .inl q) ex) hs
end
end Mini
end

section
open PySem PySem.W PyProof.Rows
set_option maxRecDepth 100000
namespace Mini
noncomputable def keysS : List (Nat × Nat) := [(232, 0), (233, 0), (234, 0), (235, 0), (236, 0), (237, 0), (238, 0), (239, 0), (240, 0), (241, 0), (242, 0)]
/-- a starred set, its stars put right or left out -/
noncomputable def meantS (ps : List (Int × Int)) (g : Int) : List (Int × Int) := (ps.filter fun q => decide (g > 0) || !starred q).map fun q => (if q.1 > 0 then q.1 else g, if q.2 > 0 then q.2 else g)
/-- what makes a lambda of the program's fault -/
noncomputable def GoodLam (prog : Program) (w : World) (p : Params) (env : Env) (ρ : Rho) (R : Nat) (at' : Int) (t : LamT) : Prop :=
  LamOk "<lambda>" (env.qual ++ "<lambda>") t.params t.body t.scope t.cl ∧ ClOk env t.cl ∧ ∃ ρf, LamNs env ρ t.scope t.cl ρf ∧ ∀ C2, Bs p C2 → C2.r = R → C2.env.scope = t.scope → WE prog w C2 ρf t.body 0 (fun n => n = at') (fun _ _ => False)
/-- where they lie -/
theorem LamsAt.pins {q : Str} {s0 h : Heap} : ∀ {ts : List LamT} {vs : List Value}, LamsAt q s0 h ts vs → ∃ N : List Addr, (∀ a ∈ N, s0.get? a = none ∧ (h.get? a).isSome) ∧ ∀ (i : Nat) (v : Value), vs[i]? = some v → ∃ t ∈ ts, ∃ f c', v = .ref f ∧ f ∈ N ∧ c' ∈ N ∧ LamAt h f c' "<lambda>" (q ++ "<lambda>") t.params t.body t.scope t.cl
  | [], vs, hl => ⟨[], fun a ha => (nomatch ha), fun i v e => by rw [LamsAt] at hl; subst hl; simp at e⟩
  | t :: r, vs, hl => by
    obtain ⟨f, c', us, rfl, ha, n1, n2, hr⟩ := hl
    obtain ⟨N, h1, h2⟩ := LamsAt.pins hr
    have hc : (h.get? c').isSome := by obtain ⟨_, c, oc, vs, t, e, g, _⟩ := ha; cases e; rw [g]; rfl
    have hf : (h.get? f).isSome := by obtain ⟨⟨pm, ctv, g⟩, _⟩ := ha; rw [g]; rfl
    refine ⟨f :: c' :: N, fun a hm => ?_, fun i v e => ?_⟩
    · rcases List.mem_cons.mp hm with rfl | hm
      · exact ⟨n1, hf⟩
      · rcases List.mem_cons.mp hm with rfl | hm
        · exact ⟨n2, hc⟩
        · exact h1 a hm
    · cases i with
      | zero => simp at e; exact ⟨t, by simp, f, c', e.symm, by simp, by simp, ha⟩
      | succ i =>
        simp at e
        obtain ⟨t', ht, f', c2, e1, e2, e3, e4⟩ := h2 i v e
        exact ⟨t', by simp [ht], f', c2, e1, by simp [e2], by simp [e3], e4⟩
theorem LamNs.up {env : Env} {ρ ρ' : Rho} {scope : Scope} {cl : List (Str × Addr)} : ∀ {ρf : Rho}, LamNs env ρ scope cl ρf → Sub ρ ρ' → LamNs env ρ' scope cl ρf
  | [], _, _ => trivial
  | _ :: _, ⟨⟨a, b, c⟩, r⟩, hs => ⟨⟨a, hs.look _ _ b, c⟩, LamNs.up r hs⟩
theorem take_snoc {α : Type} {es : List α} {f : α → Bool} {i : Nat} (h : i < es.length) : ((es.take i).map f).map V.bool ++ [V.bool (f es[i])] = ((es.take (i + 1)).map f).map V.bool := by
  rw [List.take_add_one, List.getElem?_eq_getElem h]
  simp only [Option.toList_some, List.map_append, List.map_cons, List.map_nil]
theorem with_good {q : Str} {s0 h : Heap} {ts : List LamT} {vs : List Value} (_ : LamsAt q s0 h ts vs) {good : LamT → Prop} {G : Prop} (hg : ∀ t ∈ ts, good t) (k : (∀ t ∈ ts, good t) → G) : G := k hg
noncomputable abbrev rhoS (ps qs : List (Int × Int)) (at' g : Int) : Rho := [("starred", .val (.tup (ps.map pr))), ("other", .val (.tup (qs.map pr))), ("at", .val (.int at')), ("greatest", .val (.int g))]
theorem repL_raw {h : Heap} {av : Addr → Prop} : ∀ vs : List Value, RepL h av (vs.map V.raw) vs
  | [] => by simp only [List.map_nil, RepL]
  | v :: vs => by simp only [List.map_cons, RepL, Rep]; exact ⟨v, vs, rfl, rfl, repL_raw vs⟩
theorem LamsAt.length {q : Str} {s0 h : Heap} : ∀ {ts : List LamT} {vs : List Value}, LamsAt q s0 h ts vs → vs.length = ts.length
  | [], vs, hl => by rw [LamsAt] at hl; subst hl; rfl
  | t :: r, vs, hl => by
    obtain ⟨f, c', us, rfl, ha, n1, n2, hr⟩ := hl
    simp [LamsAt.length hr]

section
variable {prog : Program} {w : World} {C : Cx} {ρ : Rho} {σ : Nat} {X : Int → Prop} {p : Params}
theorem cj_fault {ρf : Rho} {f c' : Addr} {t : LamT} {q : Str} {X' : Int → Prop} {Q : V → Nat → Prop} (B : Bs p C) (hr : 1 < C.r) (lo : LamOk "<lambda>" q t.params t.body t.scope t.cl) (hcl : ClOk C.env t.cl) (hn : LamNs C.env ρ t.scope t.cl ρf)
    (hbody : ∀ C2 : Cx, Bs p C2 → C2.r = C.r - 2 → C2.env.scope = t.scope → WE prog w C2 ρf t.body 0 X' (fun _ _ => Q .none σ)) (hq : ∀ n, X' n → Q (.int n) σ)
    (hI : ∀ σ h, C.I σ h → LamAt h f c' "<lambda>" q t.params t.body t.scope t.cl) : CJ prog w C ρ (.ref 212) [.raw (.ref f)] σ X Q := fun ok s own Qc Ec vs st r po ex => by
  simp only [RepL, Rep] at r
  obtain ⟨_, _, rfl, rfl, rfl⟩ := r
  exact f_fault B hr lo hcl hn hbody hq ok st (hI _ _ st.i) (.inr hI) po ex

theorem lamok {q : Str} {t : LamT} (h : t.params = { posonlyargs := [], args := [], vararg := none, kwonlyargs := [], kw_defaults := [], kwarg := none, defaults := [] }) (h1 : t.scope.isCoroutine = false) (h2 : t.scope.isGenerator = false) (h3 : t.scope.kind = .function) (h4 : (t.scope.names.all fun x => decide (x.2 ≠ .cell)) = true) : LamOk "<lambda>" q t.params t.body t.scope t.cl := by
  obtain ⟨pa, bd, sc, po, cl⟩ := t
  dsimp only at h; subst h
  exact ⟨fun pm c' ctv => rfl, h1, h2, h3, fun x hx => by simpa using List.all_eq_true.mp h4 x hx⟩

set_option maxHeartbeats 4000000 in
theorem f_stars_hold {ps qs : List (Int × Int)} {at' : Nat} {g : Int} {Q : V → Nat → Prop} (B : Bs p C) (tp : TopOk C) (CH : CodeHd C.B 221 219) (pn : Pin C [219] (TabP 219 keysS)) (hr : 9 < C.r) (hl : ps.length ≤ 12) (hl2 : qs.length ≤ 12) (hs : star? ps = some at') (hq : star? qs = none)
    (ne : ∀ (l : List (Int × Int)) (g : Int), ∀ q ∈ plainS l g, q.1 ≤ q.2)
    (hplain : ∀ es : List Int, es.Pairwise (· < ·) → (∀ x, x ∈ es ↔ x ∈ edgeNs (meantS ps g)) → plainS ps g = plainE es (es.map (isIn (meantS ps g)))) (hhas : ∀ n, hasS ps n g = isIn (meantS ps g) n)
    (h : ∀ τ, Q (.bool true) τ) : CJ prog w C ρ (.ref 222) [.tup (ps.map pr), .tup (qs.map pr), .int at', .int g] 0 X Q := by
  have F : Fn C.K 222 (F222 p) (bodyAt (F222 p)) ["starred", "other", "at", "greatest"] := B.K ▸ F222_ok p
  refine call_fnU F rfl (by lia) fun L own s hown => ?_
  have B' := B.callee (callEnvC (F222 p) L 222) own s
  have pn' := pn.callee (env := callEnvC (F222 p) L 222) (s := s) hown
  have hr' : 8 < (C.callee (callEnvC (F222 p) L 222) own s).r := by show 8 < C.r - 1; lia
  intro ok sp s₁ own₁ Qc Ec st po ex
  refine wpAny_execs_cons (wpAny_For (wpAny_Tuple_spliced ?_) (fun _ => rfl))
  refine lams_made (C := C.callee (callEnvC (F222 p) L 222) own s) (c := 221) ok pn' tp CH rfl (by decide) (by decide) [⟨_, _, _, _, _⟩, ⟨_, _, _, _, _⟩, ⟨_, _, _, _, _⟩, ⟨_, _, _, _, _⟩, ⟨_, _, _, _, _⟩, ⟨_, _, _, _, _⟩, ⟨_, _, _, _, _⟩, ⟨_, _, _, _, _⟩, ⟨_, _, _, _, _⟩, ⟨_, _, _, _, _⟩, ⟨_, _, _, _, _⟩] 0 s₁ _ ⟨rfl, rfl, rfl, rfl, rfl, rfl, rfl, rfl, rfl, rfl, rfl, rfl, rfl, rfl, rfl, rfl, rfl, rfl, rfl, rfl, rfl, rfl, rfl, rfl, rfl, rfl, rfl, rfl, rfl, rfl, rfl, rfl, rfl, trivial⟩ st fun vs s₂ t₂ hls => ?_
  have hlen := hls.length
  simp only [List.length_cons, List.length_nil] at hlen
  obtain ⟨K, t₂⟩ : ∃ K, To (C.callee (callEnvC (F222 p) L 222) own s) K s₁ s₂ := ⟨_, t₂⟩
  have st₂ := st.to t₂
  obtain ⟨t₃, r₃, g₃, n₃⟩ := st₂.new ok (T := "tuple") (repL_raw vs)
  refine ⟨by rw [hlen, sizeLine_eq]; lia, ?_⟩
  obtain ⟨N, hN1, hN2⟩ := hls.pins
  have hX : ∀ i : Nat, star? ps = some i → (i : Int) = at' := fun i e => by rw [hs] at e; cases e; rfl
  have hN : star? ps = none → False := fun e => by rw [hs] at e; cases e
  have hQ : ∀ i : Nat, star? qs = some i → (i : Int) = at' := fun i e => by rw [hq] at e; cases e
  refine with_good hls (good := GoodLam prog w p (callEnvC (F222 p) L 222) (rhoS ps qs at' g) ((C.callee (callEnvC (F222 p) L 222) own s).r - 2) at') ?_ fun good => ?_
  · have hrR : 6 < (C.callee (callEnvC (F222 p) L 222) own s).r - 2 := by lia
    generalize (C.callee (callEnvC (F222 p) L 222) own s).r - 2 = R at hrR ⊢
    have kd : ∀ {sc : Scope} {C2 : Cx}, C2.env.scope = sc → ∀ x, C2.env.kindOf x = sc.names.lookup x := fun e x => by rw [← e]; rfl
    refine List.forall_mem_cons.mpr ⟨?_, List.forall_mem_cons.mpr ⟨?_, List.forall_mem_cons.mpr ⟨?_, List.forall_mem_cons.mpr ⟨?_, List.forall_mem_cons.mpr ⟨?_, List.forall_mem_cons.mpr ⟨?_, List.forall_mem_cons.mpr ⟨?_, List.forall_mem_cons.mpr ⟨?_, List.forall_mem_cons.mpr ⟨?_, List.forall_mem_cons.mpr ⟨?_, List.forall_mem_cons.mpr ⟨?_, fun t ht => nomatch ht⟩⟩⟩⟩⟩⟩⟩⟩⟩⟩⟩
    · refine ⟨lamok rfl rfl rfl rfl rfl, ⟨rfl, trivial⟩, [("starred", .val (.tup (ps.map pr)))], ⟨⟨⟨_, rfl⟩, rfl, rfl, rfl, rfl, rfl⟩, trivial⟩, fun C2 B2 h2 hsc => ?_⟩
      exact we_fn ((kd hsc _).trans rfl) (n_settled B2) (e82 B2) <| wa_cons' <| we_name rfl <| wa_nil <| f_settled (b := true) B2 (by lia) rfl (by lia) hX fun e => (hN e).elim
    · refine ⟨lamok rfl rfl rfl rfl rfl, ⟨rfl, trivial⟩, [("starred", .val (.tup (ps.map pr)))], ⟨⟨⟨_, rfl⟩, rfl, rfl, rfl, rfl, rfl⟩, trivial⟩, fun C2 B2 h2 hsc => ?_⟩
      exact we_fn ((kd hsc _).trans rfl) (n_size_of B2) (e96 B2) <| wa_cons' <| we_name rfl <| wa_nil <| f_size_of (b := true) B2 (by lia) rfl (by lia) hX fun e => (hN e).elim
    · refine ⟨lamok rfl rfl rfl rfl rfl, ⟨rfl, trivial⟩, [("starred", .val (.tup (ps.map pr)))], ⟨⟨⟨_, rfl⟩, rfl, rfl, rfl, rfl, rfl⟩, trivial⟩, fun C2 B2 h2 hsc => ?_⟩
      exact we_fn ((kd hsc _).trans rfl) (n_number_at B2) (e103 B2) <| wa_cons' <| we_name rfl <| wa_cons' <| we_int <| wa_nil <| f_number_at (b := true) B2 (by lia) rfl (by lia) hX fun e => (hN e).elim
    · refine ⟨lamok rfl rfl rfl rfl rfl, ⟨rfl, rfl, trivial⟩, [("starred", .val (.tup (ps.map pr))), ("other", .val (.tup (qs.map pr)))], ⟨⟨⟨_, rfl⟩, rfl, rfl, rfl, rfl, rfl⟩, ⟨⟨_, rfl⟩, rfl, rfl, rfl, rfl, rfl⟩, trivial⟩, fun C2 B2 h2 hsc => ?_⟩
      exact we_fn ((kd hsc _).trans rfl) (n_joined_sets B2) (e110 B2) <| wa_cons' <| we_name rfl <| wa_cons' <| we_name rfl <| wa_nil <| f_joined (b := true) (c := true) B2 (by lia) rfl rfl (by lia) hX (fun e => (hN e).elim) fun e => (hN e).elim
    · refine ⟨lamok rfl rfl rfl rfl rfl, ⟨rfl, rfl, trivial⟩, [("other", .val (.tup (qs.map pr))), ("starred", .val (.tup (ps.map pr)))], ⟨⟨⟨_, rfl⟩, rfl, rfl, rfl, rfl, rfl⟩, ⟨⟨_, rfl⟩, rfl, rfl, rfl, rfl, rfl⟩, trivial⟩, fun C2 B2 h2 hsc => ?_⟩
      exact we_fn ((kd hsc _).trans rfl) (n_joined_sets B2) (e110 B2) <| wa_cons' <| we_name rfl <| wa_cons' <| we_name rfl <| wa_nil <| f_joined (b := true) (c := true) B2 (by lia) rfl rfl (by lia) hQ (fun _ => hX) fun _ e => (hN e).elim
    · refine ⟨lamok rfl rfl rfl rfl rfl, ⟨rfl, rfl, trivial⟩, [("starred", .val (.tup (ps.map pr))), ("other", .val (.tup (qs.map pr)))], ⟨⟨⟨_, rfl⟩, rfl, rfl, rfl, rfl, rfl⟩, ⟨⟨_, rfl⟩, rfl, rfl, rfl, rfl, rfl⟩, trivial⟩, fun C2 B2 h2 hsc => ?_⟩
      exact we_fn ((kd hsc _).trans rfl) (n_cut_set B2) (e117 B2) <| wa_cons' <| we_name rfl <| wa_cons' <| we_name rfl <| wa_nil <| f_cut (b := true) (c := true) B2 (by lia) rfl rfl (by lia) hX (fun e => (hN e).elim) fun e => (hN e).elim
    · refine ⟨lamok rfl rfl rfl rfl rfl, ⟨rfl, rfl, trivial⟩, [("other", .val (.tup (qs.map pr))), ("starred", .val (.tup (ps.map pr)))], ⟨⟨⟨_, rfl⟩, rfl, rfl, rfl, rfl, rfl⟩, ⟨⟨_, rfl⟩, rfl, rfl, rfl, rfl, rfl⟩, trivial⟩, fun C2 B2 h2 hsc => ?_⟩
      exact we_fn ((kd hsc _).trans rfl) (n_cut_set B2) (e117 B2) <| wa_cons' <| we_name rfl <| wa_cons' <| we_name rfl <| wa_nil <| f_cut (b := true) (c := true) B2 (by lia) rfl rfl (by lia) hQ (fun _ => hX) fun _ e => (hN e).elim
    · refine ⟨lamok rfl rfl rfl rfl rfl, ⟨rfl, rfl, trivial⟩, [("starred", .val (.tup (ps.map pr))), ("other", .val (.tup (qs.map pr)))], ⟨⟨⟨_, rfl⟩, rfl, rfl, rfl, rfl, rfl⟩, ⟨⟨_, rfl⟩, rfl, rfl, rfl, rfl, rfl⟩, trivial⟩, fun C2 B2 h2 hsc => ?_⟩
      exact we_fn ((kd hsc _).trans rfl) (n_less_set B2) (e124 B2) <| wa_cons' <| we_name rfl <| wa_cons' <| we_name rfl <| wa_nil <| f_less (b := true) (c := true) B2 (by lia) rfl rfl (by lia) hQ (fun _ => hX) fun e => (hN e).elim
    · refine ⟨lamok rfl rfl rfl rfl rfl, ⟨rfl, rfl, trivial⟩, [("other", .val (.tup (qs.map pr))), ("starred", .val (.tup (ps.map pr)))], ⟨⟨⟨_, rfl⟩, rfl, rfl, rfl, rfl, rfl⟩, ⟨⟨_, rfl⟩, rfl, rfl, rfl, rfl, rfl⟩, trivial⟩, fun C2 B2 h2 hsc => ?_⟩
      exact we_fn ((kd hsc _).trans rfl) (n_less_set B2) (e124 B2) <| wa_cons' <| we_name rfl <| wa_cons' <| we_name rfl <| wa_nil <| f_less (b := true) (c := true) B2 (by lia) rfl rfl (by lia) hX (fun e => (hN e).elim) fun _ e => (hN e).elim
    · refine ⟨lamok rfl rfl rfl rfl rfl, ⟨rfl, rfl, trivial⟩, [("starred", .val (.tup (ps.map pr))), ("other", .val (.tup (qs.map pr)))], ⟨⟨⟨_, rfl⟩, rfl, rfl, rfl, rfl, rfl⟩, ⟨⟨_, rfl⟩, rfl, rfl, rfl, rfl, rfl⟩, trivial⟩, fun C2 B2 h2 hsc => ?_⟩
      exact we_fn ((kd hsc _).trans rfl) (n_matched_pairs B2) (e131 B2) <| wa_cons' <| we_name rfl <| wa_cons' <| we_name rfl <| wa_nil <| f_matched (b := true) (c := true) B2 (by lia) rfl rfl (by lia) hX (fun e => (hN e).elim) (ne _ _) (ne _ _) (fun e => (hN e).elim) fun e => (hN e).elim
    · refine ⟨lamok rfl rfl rfl rfl rfl, ⟨rfl, rfl, trivial⟩, [("other", .val (.tup (qs.map pr))), ("starred", .val (.tup (ps.map pr)))], ⟨⟨⟨_, rfl⟩, rfl, rfl, rfl, rfl, rfl⟩, ⟨⟨_, rfl⟩, rfl, rfl, rfl, rfl, rfl⟩, trivial⟩, fun C2 B2 h2 hsc => ?_⟩
      exact we_fn ((kd hsc _).trans rfl) (n_matched_pairs B2) (e131 B2) <| wa_cons' <| we_name rfl <| wa_cons' <| we_name rfl <| wa_nil <| f_matched (b := true) (c := true) B2 (by lia) rfl rfl (by lia) hQ (fun _ => hX) (ne _ _) (ne _ _) (fun _ e => (hN e).elim) fun _ e => (hN e).elim
  -- the context of the loop
  have ρe : (["starred", "other", "at", "greatest"] : List Str).zip ([V.tup (ps.map pr), V.tup (qs.map pr), V.int at', V.int g].map Bd.val) = rhoS ps qs at' g := rfl
  obtain ⟨I', hI'⟩ : ∃ I' : Nat → Heap → Prop, I' = fun n h => (C.callee (callEnvC (F222 p) L 222) own s).I K h ∧ ∀ a ∈ N, ∀ o, s₂.heap.get? a = some o → h.get? a = some o := ⟨_, rfl⟩
  have h1 : ∀ a ∈ N, s₁.heap.get? a = none := fun a ha => (hN1 a ha).1
  have h2 : ∀ a ∈ N, ((s₂.heap.push (tupO vs 0)).get? a).isSome := fun a ha => by
    obtain ⟨o, e⟩ := Option.isSome_iff_exists.mp (hN1 a ha).2
    rw [Heap.get?_push_of_some _ e]; rfl
  have hi : I' 0 (s₂.heap.push (tupO vs 0)) := by rw [hI']; exact ⟨t₃.i, fun a ha o e => Heap.get?_push_of_some _ e⟩
  have hl' : ∀ σ h h', (∀ a ∈ (C.callee (callEnvC (F222 p) L 222) own s).mu ++ N, ∀ o, h.get? a = some o → h'.get? a = some o) → I' σ h → I' σ h' := fun n h h' k q => by
    rw [hI'] at q ⊢
    exact ⟨ok.Iloc K h h' (fun a ha => k a (List.mem_append_left _ ha)) q.1, fun a ha o e => k a (List.mem_append_right _ ha) o (q.2 a ha o e)⟩
  have hg : ∀ n h, I' n h → (C.callee (callEnvC (F222 p) L 222) own s).I K h := fun n h q => by rw [hI'] at q; exact q.1
  have okw := wide_ok (I' := I') ok st h1 hl'
  have stw := st.wide (I' := I') (n := 0) (t₂.trans t₃) h1 h2 hi
  have hG : ∀ a ∈ N, (C.callee (callEnvC (F222 p) L 222) own s).G.heap.get? a = none := fun a ha => (fresh_facts st (h1 a ha)).1
  have Bw : Bs p ((C.callee (callEnvC (F222 p) L 222) own s).wide N I') := ⟨B'.K, B'.g, B'.b⟩
  have hIw : ∀ {f c' : Addr} {t : LamT} {q : Str}, f ∈ N → c' ∈ N → LamAt s₂.heap f c' "<lambda>" q t.params t.body t.scope t.cl → ∀ σ h, ((C.callee (callEnvC (F222 p) L 222) own s).wide N I').I σ h → LamAt h f c' "<lambda>" q t.params t.body t.scope t.cl := fun {f c' t q} hf hc hlam σ h hi => by
    have hi : I' σ h := hi
    rw [hI'] at hi
    exact hlam.keep fun b hb o e _ => hi.2 b (by rcases hb with rfl | rfl <;> assumption) o e
  have pow := po_wide (fun _ => K) hG hg po
  have exw : ∀ s', Ex ((C.callee (callEnvC (F222 p) L 222) own s).wide N I') X s' Ec := fun s' => ex_wide (s := s₁) (fun _ => K) hG hg ex
  have rT : Rep (s₂.heap.push (tupO vs 0)) (Av ((C.callee (callEnvC (F222 p) L 222) own s).wide N I') own₁) (.tup (vs.map V.raw)) (.ref s₂.heap.objs.size) := by
    simp only [Rep]
    refine ⟨_, vs, 0, rfl, fun q => ?_, g₃, repL_raw vs⟩
    rcases q with q | q
    · rcases List.mem_append.mp q with q | q
      · exact n₃ (.inl q)
      · have := (hN1 _ q).2
        rw [none_of_size] at this; cases this
    · exact n₃ (.inr q)
  refine for_core (C := (C.callee (callEnvC (F222 p) L 222) own s).wide N I') (X := X) (Q := fun o ρ' τ => match o with
    | .next => WS prog w ((C.callee (callEnvC (F222 p) L 222) own s).wide N I') ρ' ((bodyAt (F222 p)).drop 1) τ X (fun o ρ' _ => Ret Q o ρ' K)
    | o => Ret Q o ρ' K) (S := Unit) (z0 := ()) (fun _ => rhoS ps qs at' g) (fun Ws i _ τ => True) okw sp.wide stw rT rfl (show Sub (rhoS ps qs at' g) (rhoS ps qs at' g) from ⟨rfl, rfl, rfl, rfl, trivial⟩) trivial ?_ ?_ ?_ (exw _)
  · rintro i W _ τ hW -
    obtain ⟨hi', rfl⟩ := map_get hW
    obtain ⟨t, ht, f, c', ev, hf, hc, hlam⟩ := hN2 i vs[i] (List.getElem?_eq_getElem hi')
    rw [ev]
    obtain ⟨lok, hcl, ρf, hns, hbody⟩ := good t ht
    refine ⟨_, as_name (.inl rfl), ?_⟩
    refine ws_cons' <| s_if' <| wt_cmp' <| we_fn rfl (n__law_fault Bw) (e212 Bw) <| wa_cons' <| we_name rfl <| wa_nil <| cj_fault Bw (by show 1 < C.r - 1; lia) lok hcl (hns.up ⟨rfl, rfl, rfl, rfl, trivial⟩) (fun C2 B2 h2 hsc => J.mono (hbody C2 B2 h2 hsc) (fun _ _ h => h.elim) fun _ h => h) (fun n e => ?_) (hIw hf hc hlam)
    exact we_name rfl <| o_ne' ⟨_, rfl, br2 (fun c => absurd e c) fun c => ws_nil <| ws_nil ⟨(), ⟨rfl, rfl, rfl, rfl, trivial⟩, trivial⟩⟩
  · rintro _ τ -
    have hml : (meantS ps g).length ≤ 12 := by unfold meantS; rw [List.length_map]; exact Nat.le_trans (List.length_filter_le _ _) hl
    refine ws_cons' <| s_ownC (.inr ⟨rfl, rfl⟩) <| wn_comp ["pair"] false [("greatest", .val (.int g))] (fun Ws acc i τ' => acc = (meantS (ps.take i) g).map pr ∧ τ' = τ) rfl (by unfold ScOk; decide) ⟨rfl, trivial⟩ ⟨⟨⟨_, rfl⟩, rfl, rfl, fun _ => rfl, rfl⟩, trivial⟩ (.name _ _) ?_
    refine we_name rfl ⟨_, rfl, by simp; lia, ⟨by simp [meantS], rfl⟩, ?_, ?_⟩
    · rintro i W acc τ' hW ⟨rfl, rfl⟩
      obtain ⟨hi', rfl⟩ := map_get hW
      have htk : ps.take (i + 1) = ps.take i ++ [ps[i]] := by rw [List.take_add_one, List.getElem?_eq_getElem hi']; rfl
      have hn : meantS (ps.take (i + 1)) g = meantS (ps.take i) g ++ (if (decide (g > 0) || !starred ps[i]) = true then [(if ps[i].1 > 0 then ps[i].1 else g, if ps[i].2 > 0 then ps[i].2 else g)] else []) := by
        rw [htk]; unfold meantS; rw [List.filter_append, List.map_append]
        congr 1
        by_cases c : (decide (g > 0) || !starred ps[i]) = true
        · rw [if_pos c, List.filter_cons, if_pos c]; rfl
        · rw [if_neg c, List.filter_cons, if_neg c]; rfl
      generalize ps[i] = q at hn
      obtain ⟨a, b⟩ := q
      dsimp only at hn
      refine ⟨_, rfl, rfl, fun Ca => ?_⟩
      have leaf : (decide (g > 0) || !starred (a, b)) = true → ∀ x y : Int, ((if a > 0 then a else g, if b > 0 then b else g) : Int × Int) = (x, y) → (meantS (ps.take i) g).map pr ++ [V.tup [V.int x, V.int y]] = (meantS (ps.take (i + 1)) g).map pr ∧ τ' = τ' := fun c x y e => by
        rw [hn, if_pos c, e, List.map_append]; exact ⟨rfl, rfl⟩
      refine turn1 <| wt_or' <| wt_cmp' <| we_name rfl <| we_int <| o_gt ⟨_, rfl, br2 (fun c1 => ?_) fun c1 => wt_or' <| wt_cmp' <| we_int <| we_name rfl <| o_notin (ns := [a, b]) ⟨_, rfl, ?_⟩⟩
      · have cc : (decide (g > 0) || !starred (a, b)) = true := by rw [decide_eq_true c1]; rfl
        exact we_tuple' <| wa_cons' <| we_if' <| wt_cmp' <| we_p0' <| we_name rfl ⟨_, _, rfl, we_int <| o_gt ⟨_, rfl, br2 (fun d1 => we_p0' <| we_name rfl ⟨_, _, rfl, wa_cons' <| we_if' <| wt_cmp' <| we_p1' <| we_name rfl ⟨_, _, rfl, we_int <| o_gt ⟨_, rfl, br2 (fun d2 => we_p1' <| we_name rfl ⟨_, _, rfl, wa_nil ⟨by simp, leaf cc _ _ (by rw [if_pos d1, if_pos d2])⟩⟩) fun d2 => we_name rfl <| wa_nil ⟨by simp, leaf cc _ _ (by rw [if_pos d1, if_neg d2])⟩⟩⟩⟩) fun d1 => we_name rfl <| wa_cons' <| we_if' <| wt_cmp' <| we_p1' <| we_name rfl ⟨_, _, rfl, we_int <| o_gt ⟨_, rfl, br2 (fun d2 => we_p1' <| we_name rfl ⟨_, _, rfl, wa_nil ⟨by simp, leaf cc _ _ (by rw [if_neg d1, if_pos d2])⟩⟩) fun d2 => we_name rfl <| wa_nil ⟨by simp, leaf cc _ _ (by rw [if_neg d1, if_neg d2])⟩⟩⟩⟩⟩
      · have hst : (![a, b].contains (0 : Int)) = !starred (a, b) := by
          unfold starred
          simp only [List.contains_cons, List.contains_nil, Bool.or_false]
          have e0 : ∀ a : Int, ((0 : Int) == a) = decide (a = 0) := fun a => by rw [Bool.eq_iff_iff, beq_iff_eq, decide_eq_true_iff]; exact eq_comm
          rw [e0, e0]
        rw [hst]
        refine br (fun c2 => ?_) fun c2 => wt_or_nil ?_
        · have cc : (decide (g > 0) || !starred (a, b)) = true := by rw [c2]; simp
          exact we_tuple' <| wa_cons' <| we_if' <| wt_cmp' <| we_p0' <| we_name rfl ⟨_, _, rfl, we_int <| o_gt ⟨_, rfl, br2 (fun d1 => we_p0' <| we_name rfl ⟨_, _, rfl, wa_cons' <| we_if' <| wt_cmp' <| we_p1' <| we_name rfl ⟨_, _, rfl, we_int <| o_gt ⟨_, rfl, br2 (fun d2 => we_p1' <| we_name rfl ⟨_, _, rfl, wa_nil ⟨by simp, leaf cc _ _ (by rw [if_pos d1, if_pos d2])⟩⟩) fun d2 => we_name rfl <| wa_nil ⟨by simp, leaf cc _ _ (by rw [if_pos d1, if_neg d2])⟩⟩⟩⟩) fun d1 => we_name rfl <| wa_cons' <| we_if' <| wt_cmp' <| we_p1' <| we_name rfl ⟨_, _, rfl, we_int <| o_gt ⟨_, rfl, br2 (fun d2 => we_p1' <| we_name rfl ⟨_, _, rfl, wa_nil ⟨by simp, leaf cc _ _ (by rw [if_neg d1, if_pos d2])⟩⟩) fun d2 => we_name rfl <| wa_nil ⟨by simp, leaf cc _ _ (by rw [if_neg d1, if_neg d2])⟩⟩⟩⟩⟩
        · have cc : ¬ (decide (g > 0) || !starred (a, b)) = true := by rw [c2, decide_eq_false c1]; decide
          rw [if_neg cc, List.append_nil] at hn
          exact ⟨by rw [hn], rfl⟩
    · rintro acc υ ⟨rfl, rfl⟩
      rw [List.length_map, List.take_length]
      have hme := hplain
      have hmh := hhas
      generalize meantS ps g = ms at hml hme hmh ⊢
      refine JS.freeze (x := "meant") rfl ?_
      refine ws_cons' <| s_assign' (.inl rfl) <| we_fn rfl (n__law_edges Bw) (e174 Bw) <| wa_cons' <| we_name rfl <| wa_nil <| f_edges (W := .lst (ms.map pr)) Bw (by show 0 < C.r - 1; lia) rfl (by lia) fun es he1 he2 he3 => ?_
      refine ws_cons' <| s_comp ["number"] false [("meant", .val (.lst (ms.map pr)))] (fun Ws acc i τ' => acc = ((es.take i).map (isIn ms)).map V.bool ∧ τ' = υ) rfl rfl rfl (by unfold ScOk; decide) ⟨rfl, trivial⟩ ⟨⟨⟨_, rfl⟩, rfl, rfl, fun _ => rfl, rfl⟩, trivial⟩ (.name _ _) ?_
      refine we_name rfl ⟨_, rfl, by simp; lia, ⟨rfl, rfl⟩, ?_, ?_⟩
      · rintro i W acc τ' hW ⟨rfl, rfl⟩
        obtain ⟨hi', rfl⟩ := map_get hW
        refine ⟨_, rfl, rfl, fun Ca => ?_⟩
        have B2 := fun sc cl => Bw.comp sc cl Ca
        refine turn0 <| we_fn rfl (n__law_is_in (B2 _ _)) (e179 (B2 _ _)) <| wa_cons' <| we_name rfl <| wa_cons' <| we_name rfl <| wa_nil <| f_is_in (ps := ms) (B2 _ _) (by show 0 < C.r - 1; lia) rfl (by lia) ⟨?_, rfl⟩
        rw [take_snoc hi']
      · rintro acc φ ⟨rfl, rfl⟩
        rw [List.length_map, List.take_length]
        refine JS.freeze (x := "is_in") rfl ?_
        refine ws_cons' <| s_if' <| wt_cmp' <| we_fn rfl (n_plain_set Bw) (e75 Bw) <| wa_cons' <| we_name rfl <| wa_cons' <| we_name rfl <| wa_nil <| f_plain_set (ps := ps) Bw (by show 1 < C.r - 1; lia) rfl (by lia) ?_
        refine we_fn rfl (n__law_plain Bw) (e186 Bw) <| wa_cons' <| we_name rfl <| wa_cons' <| we_name rfl <| wa_nil <| f_plain Bw (by show 0 < C.r - 1; lia) (by simp) (by lia) ?_
        refine o_vne (by simp only [lay]; exact lays_prs _) (by simp only [lay]; exact lays_prs _) (deep_prs _) (deep_prs _) ⟨_, rfl, ?_⟩
        rw [veq_prs, decide_eq_true (hme es he1 he2)]
        refine ws_nil <| ws_cons' <| s_return' <| we_cmp' <| we_wn <| wn_comp ["number"] false [("starred", .val (.tup (ps.map pr))), ("greatest", .val (.int g))] (fun Ws acc i τ' => acc = ((es.take i).map (isIn ms)).map V.bool ∧ τ' = φ) rfl (by unfold ScOk; decide) ⟨rfl, rfl, trivial⟩ ⟨⟨⟨_, rfl⟩, rfl, rfl, fun _ => rfl, rfl⟩, ⟨⟨_, rfl⟩, rfl, rfl, fun _ => rfl, rfl⟩, trivial⟩ (.name _ _) ?_
        refine we_name rfl ⟨_, rfl, by simp; lia, ⟨rfl, rfl⟩, ?_, ?_⟩
        · rintro i W acc τ' hW ⟨rfl, rfl⟩
          obtain ⟨hi', rfl⟩ := map_get hW
          refine ⟨_, rfl, rfl, fun Ca => ?_⟩
          have B2 := fun sc cl => Bw.comp sc cl Ca
          refine turn0 <| we_fn rfl (n_has (B2 _ _)) (e89 (B2 _ _)) <| wa_cons' <| we_name rfl <| wa_cons' <| we_name rfl <| wa_cons' <| we_name rfl <| wa_nil <| f_has (ps := ps) (B2 _ _) (by show 1 < C.r - 1; lia) rfl ⟨?_, rfl⟩
          rw [hmh, take_snoc hi']
        · rintro acc ψ ⟨rfl, rfl⟩
          rw [List.length_map, List.take_length]
          refine we_name rfl <| o_veq (by simp only [lay]; exact lays_bools _) (by simp only [lay]; exact lays_bools _) (deep_bools _) (deep_bools _) ?_
          rw [veq_bools, decide_eq_true rfl]
          exact h K
  · intro f o ρ' σ' s' own' st' sk rr q
    cases o with
    | next => cases rr; exact q okw sp.wide s' own' Qc Ec st' (fun f o ρ' σ' s' own' st' _ rr q => pow f o ρ' σ' s' own' st' rr q) (exw _)
    | cont => cases rr; exact pow .cont .cont ρ' σ' s' own' st' rfl q
    | brk => cases rr; exact pow .brk .brk ρ' σ' s' own' st' rfl q
    | ret W => obtain ⟨v, rfl, rr⟩ := rr; exact pow (.ret v) (.ret W) ρ' σ' s' own' st' ⟨v, rfl, rr⟩ q
end
end Mini
end

section
open PySem PySem.W PyProof.Rows
set_option maxRecDepth 100000
namespace Mini
section
variable {prog : Program} {w : World} {C : Cx} {ρ : Rho} {σ : Nat} {X : Int → Prop} {p : Params}
theorem natAbs_sum : ∀ (l : List Int) (c : Nat), (∀ x ∈ l, x.natAbs ≤ c) → l.sum.natAbs ≤ c * l.length
  | [], c, _ => by simp
  | a :: l, c, h => by
    have := natAbs_sum l c fun x hx => h x (by simp [hx])
    have := h a (by simp)
    simp only [List.sum_cons, List.length_cons]
    have e : c * (l.length + 1) = c * l.length + c := Nat.mul_succ _ _
    lia

set_option maxHeartbeats 2000000 in
theorem f_urn {ns : List Int} {s : Shared} {own : Own} {vs : List Value} {Qc Ec : Value → Shared → Prop} (B : Bs p C) (hr : 0 < C.r) (hz : ns.length ≤ 1000) (ok : C.Ok) (st : St C ρ own σ s) (r : RepL s.heap (Av C own) [.lst (ns.map V.int)] vs) (ex : Ex C X s Ec)
    (h : ∀ U A s' d, To C σ s s' → s.heap.get? U = none → s.heap.get? A = none → U ≠ A → UrnAt U A d s'.heap → d.1.length ≤ 64 → d.2.2.1 = 0 → d.2.2.2.natAbs < 2 ^ 40 → Qc (.ref U) s') : wpAny (model prog w) C.A (call (.ref 136) vs) Qc Ec s := by
  have F : Fn C.K 136 (F136 p) (bodyAt (F136 p)) ["script"] := B.K ▸ F136_ok p
  refine call_core (ρ := ρ) (σ := σ) (X := X) F rfl hr ok st r ex fun L s₁ ok1 sp1 st1 Q1 E1 q1 q2 ex1 => ?_
  have B1 := B.callee (callEnvC (F136 p) L 136) own s
  have ecut : cut? none (some 40) (ns.map V.int) = (ns.take 40).map V.int := by simp [cut?, List.map_take]
  have e60 : (10 : Int) ^ (60 : Int).toNat ≠ 0 := by decide
  -- the cells
  refine wpAny_execs_cons ((s_comp (C := C.callee (callEnvC (F136 p) L 136) own s) (σ := σ) (cl := []) (Q := fun o ρ' τ => o = .next ∧ τ = σ ∧ ∃ cs : List Int, ρ'.lookup ("cells" : Str) = some (.own (cs.map V.int)) ∧ ρ'.lookup ("script" : Str) = some (.val (.lst (ns.map V.int))) ∧ cs.length ≤ 40) ["cell"] false [] (fun Ws acc i τ => ∃ cs : List Int, acc = cs.map V.int ∧ cs.length = i ∧ τ = σ) rfl rfl rfl (by unfold ScOk; decide) trivial trivial (.name _ _) ?_) ok1 sp1 s₁ [] _ _ st1 (fun f o ρ' τ s2 own2 st2 k rr q => ?_) ex1)
  · refine we_slice <| wl_of' <| we_name rfl ⟨_, rfl, we_int ⟨40, rfl, rfl, by simp; lia, ?_⟩⟩
    rw [ecut]
    refine ⟨_, rfl, by simp; lia, ⟨[], rfl, rfl, rfl⟩, ?_, ?_⟩
    · rintro i W acc τ hW ⟨cs, rfl, hl, rfl⟩
      obtain ⟨hi, rfl⟩ := map_get hW
      refine ⟨_, rfl, rfl, fun Ca => ?_⟩
      have B2 := fun sc cl => B1.comp sc cl Ca
      refine turn0 <| we_bin' <| we_callB' rfl (n_abs (B2 _ _)) <| wa_cons' <| we_callT1' rfl (n_int (B2 _ _)) <| we_name rfl <| c_int <| wa_nil <| c_abs <| we_bin' <| we_int <| we_int <| o_pow (by lia) (by decide) <| o_mod e60 ⟨cs ++ [_], by rw [List.map_append]; rfl, by simp [hl], rfl⟩
    · rintro acc υ ⟨cs, rfl, hl, rfl⟩
      simp only [List.length_map, List.length_take] at hl
      exact ⟨rfl, rfl, cs, rfl, rfl, by lia⟩
  · obtain ⟨rfl, rfl, cs, hc, hsc, hcl⟩ := q
    cases rr
    -- the list of four
    obtain ⟨v, l, A, us, m, rfl, hoA, gA, rA⟩ := st2.loc.look "cells" _ hc
    obtain ⟨nmA, nBA, _⟩ := st2.loc.ownok _ (mem_of_lookup hoA)
    have nGA : s.heap.get? A = none := st2.loc.ownG _ (mem_of_lookup hoA)
    refine wpAny_execs_cons (wpAny_Return_some (wpAny_List_spliced (Calls.spliced_cons (look_name ok1 l ?_ (by decide)))))
    refine (show WA prog w (C.callee (callEnvC (F136 p) L 136) own s) ρ' _ _ τ X (fun Ws υ => υ = τ ∧ ∃ T : Int, Ws = [.int 0, .int 0, .int T] ∧ T.natAbs < 2 ^ 40) from ?sw) ok1 s2 own2 _ _ st2 (fun vs' Ws υ s4 t4 r4 ⟨e, T, hW, hT⟩ => ?rest) (fun n e b s' hx f => ex1 n e b s' hx f)
    case sw =>
      refine wa_cons' <| we_int <| wa_cons' <| we_int <| wa_cons' ?_
      refine we_call1' rfl (n_sum B1) <| we_wn <| wn_comp (cl := []) ["cell"] false [] (fun Ws acc i υ => ∃ cs : List Int, acc = cs.map V.int ∧ cs.length = i ∧ (∀ x ∈ cs, x.natAbs ≤ 1009) ∧ υ = τ) rfl (by unfold ScOk; decide) trivial trivial (.name _ _) ?_
      refine we_slice <| wl_of' <| we_name hsc ⟨_, rfl, we_int ⟨40, rfl, rfl, by simp; lia, ?_⟩⟩
      rw [ecut]
      refine ⟨_, rfl, by simp; lia, ⟨[], rfl, rfl, by simp, rfl⟩, ?_, ?_⟩
      · rintro i W acc υ hW ⟨cs, rfl, hl, hb, rfl⟩
        obtain ⟨hi, rfl⟩ := map_get hW
        refine ⟨_, rfl, rfl, fun Ca => ?_⟩
        have B2 := fun sc cl => B1.comp sc cl Ca
        refine turn0 <| we_bin' <| we_callT1' rfl (n_int (B2 _ _)) <| we_name rfl <| c_int <| we_int <| o_mod (by decide) ⟨cs ++ [_], by rw [List.map_append]; rfl, by simp [hl], fun x hx => ?_, rfl⟩
        rcases List.mem_append.mp hx with hx | hx
        · exact hb x hx
        · obtain rfl := List.mem_singleton.mp hx
          have h1 := Int.fmod_nonneg_of_pos (a := ((ns.take 40)[i])) (b := 1009) (by decide)
          have h2 := Int.fmod_lt_of_pos ((ns.take 40)[i]) (show (0 : Int) < 1009 by decide)
          lia
      · rintro acc υ ⟨cs, rfl, hl, hb, rfl⟩
        simp only [List.length_map, List.length_take] at hl
        refine c_sum <| wa_nil ⟨rfl, _, rfl, ?_⟩
        have := natAbs_sum cs 1009 hb
        lia
    case rest =>
      subst hW; subst e
      simp only [RepL, Rep] at r4
      obtain ⟨_, _, rfl, ⟨ta, rfl⟩, _, _, rfl, ⟨tb, rfl⟩, _, _, rfl, ⟨tT, rfl⟩, rfl⟩ := r4
      have st4 := st2.to t4
      refine ⟨by rw [sizeLine_eq]; simp, ?_⟩
      have fU := fresh_facts st4 (a := s4.heap.objs.size) none_of_size
      have gA4 : s4.heap.get? A = some (lstO us m) := (t4.kp.keep A _ gA nmA).exact (fun es n e => by cases e)
      have t5 : To (C.callee (callEnvC (F136 p) L 136) own s) υ s4 { s4 with heap := s4.heap.push (lstO [.ref A, .int 0 ta, .int 0 tb, .int T tT] 0) } := st4.ext ok1 (h := s4.heap.push _) (tk := s4.toks) isSome_push
      obtain ⟨xs, hxs, hcs⟩ := ints_of rA
      refine q1 _ _ (h s4.heap.objs.size A _ (cs, 0, 0, T) (callee_to ok st (st4.to t5)) fU.1 nGA (fun e => ?_) ⟨_, _, _, 0, us, m, Heap.get?_push_size _ rfl, Heap.get?_push_of_some _ gA4, xs, hxs, hcs⟩ (by show cs.length ≤ 64; lia) rfl hT)
      rw [← e, none_of_size] at gA4; cases gA4
end
end Mini
end

section
open PySem PySem.W PyProof.Rows
set_option maxRecDepth 100000
namespace Mini
noncomputable def Mem (L : List (Int × Int)) (x : Int) : Prop := ∃ q ∈ L, q.1 ≤ x ∧ x ≤ q.2
structure Norm (L : List (Int × Int)) : Prop where
  le : ∀ q ∈ L, q.1 ≤ q.2
  ap : L.Pairwise fun a b => a.2 + 1 < b.1
theorem mem_cons {a : Int × Int} {l : List (Int × Int)} {x : Int} : Mem (a :: l) x ↔ (a.1 ≤ x ∧ x ≤ a.2) ∨ Mem l x := by
  unfold Mem; simp only [List.mem_cons]
  constructor
  · rintro ⟨q, rfl | hq, h⟩
    · exact .inl h
    · exact .inr ⟨q, hq, h⟩
  · rintro (h | ⟨q, hq, h⟩)
    · exact ⟨a, .inl rfl, h⟩
    · exact ⟨q, .inr hq, h⟩
theorem mem_app {l m : List (Int × Int)} {x : Int} : Mem (l ++ m) x ↔ Mem l x ∨ Mem m x := by
  induction l with
  | nil => simp [Mem]
  | cons a l ih => rw [List.cons_append, mem_cons, mem_cons, ih, or_assoc]
theorem mem_nil {x : Int} : ¬ Mem [] x := fun ⟨_, h, _⟩ => nomatch h
theorem Norm.nil : Norm [] := ⟨fun _ h => (nomatch h), .nil⟩
theorem Norm.tail {a : Int × Int} {l : List (Int × Int)} (h : Norm (a :: l)) : Norm l := ⟨fun q hq => h.le q (by simp [hq]), (List.pairwise_cons.mp h.ap).2⟩
theorem Norm.lt {a : Int × Int} {l : List (Int × Int)} (h : Norm (a :: l)) : ∀ b ∈ l, a.2 + 1 < b.1 := (List.pairwise_cons.mp h.ap).1
theorem Norm.mem_gt {a : Int × Int} {l : List (Int × Int)} (h : Norm (a :: l)) {x : Int} (hx : Mem l x) : a.2 + 1 < x := by
  obtain ⟨q, hq, h1, _⟩ := hx
  have := h.lt q hq; lia
theorem norm_uniq : ∀ {l m : List (Int × Int)}, Norm l → Norm m → (∀ x, Mem l x ↔ Mem m x) → l = m
  | [], [], _, _, _ => rfl
  | [], b :: m, _, hm, h => absurd ((h b.1).mpr ⟨b, by simp, Int.le_refl _, hm.le b (by simp)⟩) mem_nil
  | a :: l, [], hl, _, h => absurd ((h a.1).mp ⟨a, by simp, Int.le_refl _, hl.le a (by simp)⟩) mem_nil
  | a :: l, b :: m, hl, hm, h => by
    have la := hl.le a (by simp)
    have lb := hm.le b (by simp)
    have ge : ∀ {a : Int × Int} {l : List (Int × Int)} {x : Int}, Norm (a :: l) → Mem (a :: l) x → a.1 ≤ x := fun {a l x} hn hx => by
      rcases mem_cons.mp hx with hx | hx
      · exact hx.1
      · have := hn.mem_gt hx; have := hn.le a (by simp); lia
    have e1 : a.1 = b.1 := by
      have h1 := ge hm ((h a.1).mp (mem_cons.mpr (.inl ⟨Int.le_refl _, la⟩)))
      have h2 := ge hl ((h b.1).mpr (mem_cons.mpr (.inl ⟨Int.le_refl _, lb⟩)))
      lia
    have up : ∀ {a b : Int × Int} {l m : List (Int × Int)}, Norm (a :: l) → a.1 ≤ a.2 → a.1 = b.1 → (Mem (b :: m) (a.2 + 1) → Mem (a :: l) (a.2 + 1)) → ¬ a.2 < b.2 := fun {a b l m} hn hle he hh hlt => by
      rcases mem_cons.mp (hh (mem_cons.mpr (.inl ⟨by lia, by lia⟩))) with hx | hx
      · lia
      · have := hn.mem_gt hx; lia
    have e2 : a.2 = b.2 := by
      have h1 := up hl la e1 (h (a.2 + 1)).mpr
      have h2 := up hm lb e1.symm (h (b.2 + 1)).mp
      lia
    have e : a = b := Prod.ext e1 e2
    subst e
    rw [norm_uniq hl.tail hm.tail fun x => ?_]
    constructor
    · intro hx
      rcases mem_cons.mp ((h x).mp (mem_cons.mpr (.inr hx))) with hy | hy
      · have := hl.mem_gt hx; lia
      · exact hy
    · intro hx
      rcases mem_cons.mp ((h x).mpr (mem_cons.mpr (.inr hx))) with hy | hy
      · have := hm.mem_gt hx; lia
      · exact hy

theorem split_last {α : Type} : ∀ {l : List α}, l ≠ [] → ∃ l' a, l = l' ++ [a]
  | [], h => absurd rfl h
  | a :: l, _ => ⟨(a :: l).dropLast, (a :: l).getLast (by simp), (List.dropLast_concat_getLast (by simp)).symm⟩
theorem norm_snoc {l : List (Int × Int)} {a : Int × Int} : Norm (l ++ [a]) ↔ Norm l ∧ a.1 ≤ a.2 ∧ ∀ b ∈ l, b.2 + 1 < a.1 := by
  constructor
  · rintro ⟨h1, h2⟩
    rw [List.pairwise_append] at h2
    exact ⟨⟨fun q hq => h1 q (by simp [hq]), h2.1⟩, h1 a (by simp), fun b hb => h2.2.2 b hb a (by simp)⟩
  · rintro ⟨⟨h1, h2⟩, h3, h4⟩
    refine ⟨fun q hq => ?_, List.pairwise_append.mpr ⟨h2, List.pairwise_singleton _ _, fun b hb c hc => ?_⟩⟩
    · rcases List.mem_append.mp hq with hq | hq
      · exact h1 q hq
      · obtain rfl := List.mem_singleton.mp hq; exact h3
    · obtain rfl := List.mem_singleton.mp hc; exact h4 b hb
theorem mem_one {a : Int × Int} {x : Int} : Mem [a] x ↔ a.1 ≤ x ∧ x ≤ a.2 := by rw [mem_cons]; exact or_iff_left mem_nil

theorem mstep_ok {out : List (Int × Int)} {q : Int × Int} (h : Norm out) (hq : q.1 ≤ q.2) (hl : ∀ l ∈ out, l.1 ≤ q.1) : Norm (mstep out q) ∧ (∀ x, Mem (mstep out q) x ↔ Mem out x ∨ (q.1 ≤ x ∧ x ≤ q.2)) ∧ ∀ l ∈ mstep out q, l.1 ≤ q.1 := by
  by_cases h0 : out = []
  · subst h0
    refine ⟨⟨fun p hp => ?_, List.pairwise_singleton _ _⟩, fun x => ?_, fun l hl => ?_⟩
    · obtain rfl := List.mem_singleton.mp hp; exact hq
    · show Mem [q] x ↔ _
      rw [mem_one]; exact ⟨.inr, fun h => h.elim (fun h => absurd h mem_nil) id⟩
    · obtain rfl := List.mem_singleton.mp hl; exact Int.le_refl _
  · obtain ⟨o, l, rfl⟩ := split_last h0
    obtain ⟨n1, n2, n3⟩ := norm_snoc.mp h
    have hlq := hl l (by simp)
    have e : mstep (o ++ [l]) q = if q.1 ≤ l.2 + 1 then o ++ [(l.1, max l.2 q.2)] else o ++ [l] ++ [q] := by
      unfold mstep; simp
    rw [e]
    by_cases c : q.1 ≤ l.2 + 1
    · rw [if_pos c]
      refine ⟨norm_snoc.mpr ⟨n1, by dsimp only; lia, n3⟩, fun x => ?_, fun p hp => ?_⟩
      · rw [mem_app, mem_one, mem_app, mem_one]
        dsimp only
        constructor
        · rintro (hx | hx)
          · exact .inl (.inl hx)
          · by_cases hx2 : x ≤ l.2
            · exact .inl (.inr ⟨hx.1, hx2⟩)
            · exact .inr ⟨by lia, by lia⟩
        · rintro ((hx | hx) | hx)
          · exact .inl hx
          · exact .inr ⟨hx.1, by lia⟩
          · exact .inr ⟨by lia, by lia⟩
      · rcases List.mem_append.mp hp with hp | hp
        · exact hl p (by simp [hp])
        · obtain rfl := List.mem_singleton.mp hp; exact hlq
    · rw [if_neg c]
      refine ⟨norm_snoc.mpr ⟨h, hq, fun b hb => ?_⟩, fun x => ?_, fun p hp => ?_⟩
      · rcases List.mem_append.mp hb with hb | hb
        · have := n3 b hb; lia
        · obtain rfl := List.mem_singleton.mp hb; lia
      · rw [mem_app, mem_one]
      · rcases List.mem_append.mp hp with hp | hp
        · exact hl p hp
        · obtain rfl := List.mem_singleton.mp hp; exact Int.le_refl _
theorem merge_ok : ∀ (qs out : List (Int × Int)), Norm out → (∀ q ∈ qs, q.1 ≤ q.2) → qs.Pairwise ple → (∀ l ∈ out, ∀ q ∈ qs, l.1 ≤ q.1) → Norm (qs.foldl mstep out) ∧ ∀ x, Mem (qs.foldl mstep out) x ↔ Mem out x ∨ Mem qs x
  | [], out, h, _, _, _ => ⟨h, fun x => (or_iff_left mem_nil).symm⟩
  | q :: qs, out, h, hq, hs, hl => by
    obtain ⟨s1, s2⟩ := List.pairwise_cons.mp hs
    obtain ⟨a, b, c⟩ := mstep_ok h (hq q (by simp)) fun l hl' => hl l hl' q (by simp)
    obtain ⟨d, e⟩ := merge_ok qs (mstep out q) a (fun p hp => hq p (by simp [hp])) s2 fun l hl' p hp => by
      have h1 := c l hl'
      have h2 := s1 p hp
      unfold ple at h2; lia
    exact ⟨d, fun x => by rw [List.foldl_cons, e, b, mem_cons, or_assoc]⟩
theorem endsP_le {a b g : Int} {q : Int × Int} (h : endsP a b g = some q) : q.1 ≤ q.2 := by
  unfold endsP at h
  split at h
  · cases h
  · cases h; dsimp only; lia
theorem endsL_le {ps : List (Int × Int)} {g : Int} : ∀ q ∈ endsL ps g, q.1 ≤ q.2 := fun q hq => by
  unfold endsL at hq
  obtain ⟨p, _, hp⟩ := List.mem_filterMap.mp hq
  exact endsP_le hp
theorem plainS_ok (ps : List (Int × Int)) (g : Int) : Norm (plainS ps g) ∧ ∀ x, Mem (plainS ps g) x ↔ Mem (endsL ps g) x := by
  obtain ⟨a, b⟩ := merge_ok (sortP (endsL ps g)) [] .nil (fun q hq => endsL_le q ((sortP_perm _).mem_iff.mp hq)) (sortP_sorted _) fun l hl => (nomatch hl)
  refine ⟨a, fun x => ?_⟩
  show Mem ((sortP (endsL ps g)).foldl mstep []) x ↔ _
  rw [b, or_iff_right mem_nil]
  unfold Mem
  exact ⟨fun ⟨q, h, r⟩ => ⟨q, (sortP_perm _).mem_iff.mp h, r⟩, fun ⟨q, h, r⟩ => ⟨q, (sortP_perm _).mem_iff.mpr h, r⟩⟩
end Mini
end

section
open PySem PySem.W PyProof.Rows
set_option maxRecDepth 100000
namespace Mini
theorem cutS_cons (a b : Int × Int) (r t : List (Int × Int)) : cutS (a :: r) (b :: t) = (if max a.1 b.1 ≤ min a.2 b.2 then [(max a.1 b.1, min a.2 b.2)] else []) ++ (if a.2 < b.2 then cutS r (b :: t) else cutS (a :: r) t) := by rw [cutS]
theorem cutS_from : ∀ (n : Nat) (A Z : List (Int × Int)), A.length + Z.length ≤ n → ∀ c ∈ cutS A Z, ∃ p ∈ A, ∃ q ∈ Z, c = (max p.1 q.1, min p.2 q.2) ∧ c.1 ≤ c.2
  | n, [], Z, _, c, hc => by rw [cutS] at hc; cases hc
  | n, a :: r, [], _, c, hc => by rw [cutS] at hc; cases hc; simp
  | 0, a :: r, b :: t, hn, _, _ => by simp at hn
  | n + 1, a :: r, b :: t, hn, c, hc => by
    rw [cutS_cons] at hc
    simp only [List.length_cons] at hn
    rcases List.mem_append.mp hc with hc | hc
    · by_cases h : max a.1 b.1 ≤ min a.2 b.2
      · rw [if_pos h] at hc
        obtain rfl := List.mem_singleton.mp hc
        exact ⟨a, by simp, b, by simp, rfl, h⟩
      · rw [if_neg h] at hc; cases hc
    · by_cases h : a.2 < b.2
      · rw [if_pos h] at hc
        obtain ⟨p, hp, q, hq, e⟩ := cutS_from n r (b :: t) (by simp only [List.length_cons]; omega) c hc
        exact ⟨p, by simp [hp], q, hq, e⟩
      · rw [if_neg h] at hc
        obtain ⟨p, hp, q, hq, e⟩ := cutS_from n (a :: r) t (by simp only [List.length_cons]; omega) c hc
        exact ⟨p, hp, q, by simp [hq], e⟩
theorem norm_app {l m : List (Int × Int)} (h1 : Norm l) (h2 : Norm m) (h : ∀ a ∈ l, ∀ b ∈ m, a.2 + 1 < b.1) : Norm (l ++ m) :=
  ⟨fun q hq => (List.mem_append.mp hq).elim (h1.le q) (h2.le q), List.pairwise_append.mpr ⟨h1.ap, h2.ap, h⟩⟩
theorem norm_one {a : Int × Int} (h : a.1 ≤ a.2) : Norm [a] := ⟨fun q hq => by obtain rfl := List.mem_singleton.mp hq; exact h, List.pairwise_singleton _ _⟩
theorem cutS_ok : ∀ (n : Nat) (A Z : List (Int × Int)), A.length + Z.length ≤ n → Norm A → Norm Z → Norm (cutS A Z) ∧ ∀ x, Mem (cutS A Z) x ↔ Mem A x ∧ Mem Z x
  | n, [], Z, _, _, _ => by rw [cutS]; exact ⟨.nil, fun x => ⟨fun h => absurd h mem_nil, fun h => absurd h.1 mem_nil⟩⟩
  | n, a :: r, [], _, _, _ => by rw [cutS]; exact ⟨.nil, fun x => ⟨fun h => absurd h mem_nil, fun h => absurd h.2 mem_nil⟩⟩; simp
  | 0, a :: r, b :: t, hn, _, _ => by simp at hn
  | n + 1, a :: r, b :: t, hn, hA, hZ => by
    simp only [List.length_cons] at hn
    have la := hA.le a (by simp)
    have lb := hZ.le b (by simp)
    rw [cutS_cons]
    have head : ∀ x, Mem (if max a.1 b.1 ≤ min a.2 b.2 then [(max a.1 b.1, min a.2 b.2)] else []) x ↔ (a.1 ≤ x ∧ x ≤ a.2) ∧ (b.1 ≤ x ∧ x ≤ b.2) := fun x => by
      by_cases h : max a.1 b.1 ≤ min a.2 b.2
      · rw [if_pos h, mem_one]; dsimp only; omega
      · rw [if_neg h]; exact ⟨fun h => absurd h mem_nil, fun h' => by omega⟩
    have hn1 : Norm (if max a.1 b.1 ≤ min a.2 b.2 then [(max a.1 b.1, min a.2 b.2)] else []) := by
      by_cases h : max a.1 b.1 ≤ min a.2 b.2
      · rw [if_pos h]; exact norm_one h
      · rw [if_neg h]; exact .nil
    by_cases h : a.2 < b.2
    · rw [if_pos h]
      have hl : r.length + (b :: t).length ≤ n := by simp only [List.length_cons]; omega
      obtain ⟨i1, i2⟩ := cutS_ok n r (b :: t) hl hA.tail hZ
      refine ⟨norm_app hn1 i1 fun c hc d hd => ?_, fun x => ?_⟩
      · obtain ⟨p, hp, q, hq, e, _⟩ := cutS_from n r (b :: t) hl d hd
        have h1 := hA.lt p hp
        by_cases g : max a.1 b.1 ≤ min a.2 b.2
        · rw [if_pos g] at hc
          obtain rfl := List.mem_singleton.mp hc
          rw [e]; dsimp only; omega
        · rw [if_neg g] at hc; cases hc
      · rw [mem_app, head, i2, mem_cons, mem_cons]
        constructor
        · rintro (⟨g1, g2⟩ | ⟨g1, g2⟩)
          · exact ⟨.inl g1, .inl g2⟩
          · exact ⟨.inr g1, g2⟩
        · rintro ⟨g1 | g1, g2⟩
          · rcases g2 with g2 | g2
            · exact .inl ⟨g1, g2⟩
            · have := hZ.mem_gt g2; omega
          · exact .inr ⟨g1, g2⟩
    · rw [if_neg h]
      have hl : (a :: r).length + t.length ≤ n := by simp only [List.length_cons]; omega
      obtain ⟨i1, i2⟩ := cutS_ok n (a :: r) t hl hA hZ.tail
      refine ⟨norm_app hn1 i1 fun c hc d hd => ?_, fun x => ?_⟩
      · obtain ⟨p, hp, q, hq, e, _⟩ := cutS_from n (a :: r) t hl d hd
        have h1 := hZ.lt q hq
        by_cases g : max a.1 b.1 ≤ min a.2 b.2
        · rw [if_pos g] at hc
          obtain rfl := List.mem_singleton.mp hc
          rw [e]; dsimp only; omega
        · rw [if_neg g] at hc; cases hc
      · rw [mem_app, head, i2, mem_cons, mem_cons]
        constructor
        · rintro (⟨g1, g2⟩ | ⟨g1, g2⟩)
          · exact ⟨.inl g1, .inl g2⟩
          · exact ⟨g1, .inr g2⟩
        · rintro ⟨g1, g2 | g2⟩
          · rcases g1 with g1 | g1
            · exact .inl ⟨g1, g2⟩
            · have := hA.mem_gt g1; omega
          · exact .inr ⟨g1, g2⟩

/-- how a stretch stands after some holes -/
structure Holed (q : Int × Int) (out : List (Int × Int)) (H : List (Int × Int)) (st : List (Int × Int) × Int) : Prop where
  out : ∃ P, st.1 = out ++ P ∧ Norm P ∧ (∀ p ∈ P, q.1 ≤ p.1 ∧ p.2 + 1 < st.2 ∧ p.2 ≤ q.2) ∧ ∀ x, q.1 ≤ x → x ≤ q.2 → (¬ Mem H x ↔ Mem P x ∨ st.2 ≤ x)
  beg : st.2 = q.1 ∨ (∃ g ∈ H, st.2 = g.2 + 1 ∧ q.1 ≤ st.2)
theorem hole_step {q h : Int × Int} {out H : List (Int × Int)} {st : List (Int × Int) × Int} (s : Holed q out H st) (hh : h.1 ≤ h.2) (hl : ∀ g ∈ H, g.2 + 1 < h.1) : Holed q out (H ++ [h]) (lstep q.2 st h) := by
  obtain ⟨⟨P, e, nP, bP, mP⟩, hb⟩ := s
  have stay : (∀ x, q.1 ≤ x → x ≤ q.2 → ¬ (h.1 ≤ x ∧ x ≤ h.2)) → Holed q out (H ++ [h]) st := fun no => ⟨⟨P, e, nP, bP, fun x h1 h2 => by
    rw [mem_app, mem_one, ← mP x h1 h2]
    exact ⟨fun g g' => g (.inl g'), fun g g' => g'.elim g (no x h1 h2)⟩⟩, hb.imp id fun ⟨g, hg, r⟩ => ⟨g, by simp [hg], r⟩⟩
  unfold lstep
  by_cases c : h.2 < st.2 ∨ h.1 > q.2
  · rw [if_pos c]
    refine stay fun x h1 h2 h3 => ?_
    rcases c with c | c
    · rcases hb with hb | ⟨g, hg, hb, _⟩
      · omega
      · have := hl g hg; omega
    · omega
  · rw [if_neg c]
    have c1 : st.2 ≤ h.2 := by omega
    have c2 : h.1 ≤ q.2 := by omega
    have hq : q.1 ≤ st.2 := by rcases hb with hb | ⟨g, hg, hb, r⟩ <;> omega
    have hbeg : ∀ {l : List (Int × Int)}, (l, h.2 + 1).2 = q.1 ∨ (∃ g ∈ H ++ [h], (l, h.2 + 1).2 = g.2 + 1 ∧ q.1 ≤ (l, h.2 + 1).2) := fun {l} => .inr ⟨h, by simp, rfl, by dsimp only; omega⟩
    by_cases d : st.2 < h.1
    · rw [if_pos d]
      refine ⟨⟨P ++ [(st.2, h.1 - 1)], by simp [e], norm_snoc.mpr ⟨nP, by dsimp only; omega, fun b hb' => (bP b hb').2.1⟩, fun p hp => ?_, fun x h1 h2 => ?_⟩, hbeg⟩
      · rcases List.mem_append.mp hp with hp | hp
        · have := bP p hp; dsimp only; omega
        · obtain rfl := List.mem_singleton.mp hp; dsimp only; omega
      · rw [mem_app, mem_one, mem_app, mem_one]
        have m := mP x h1 h2
        dsimp only
        constructor
        · intro g
          have g1 : ¬ Mem H x := fun q => g (.inl q)
          rcases m.mp g1 with g2 | g2
          · exact .inl (.inl g2)
          · by_cases k : x < h.1
            · exact .inl (.inr ⟨g2, by omega⟩)
            · exact .inr (by have : ¬ (h.1 ≤ x ∧ x ≤ h.2) := fun q => g (.inr q); omega)
        · rintro ((g | g) | g) (k | k)
          · exact m.mpr (.inl g) k
          · obtain ⟨p, hp, p1, p2⟩ := g
            have := bP p hp; omega
          · exact m.mpr (.inr g.1) k
          · omega
          · exact m.mpr (.inr (by omega)) k
          · omega
    · rw [if_neg d]
      have hb' : st.2 = q.1 := by
        rcases hb with hb | ⟨g, hg, hb, _⟩
        · exact hb
        · have := hl g hg; omega
      have noP : ∀ x, ¬ Mem P x := fun x ⟨p, hp, _⟩ => by have := bP p hp; have := nP.le p hp; omega
      refine ⟨⟨P, e, nP, fun p hp => by have := bP p hp; have := nP.le p hp; omega, fun x h1 h2 => ?_⟩, hbeg⟩
      rw [mem_app, mem_one]
      have m := mP x h1 h2
      dsimp only
      constructor
      · intro g
        refine .inr ?_
        have : ¬ (h.1 ≤ x ∧ x ≤ h.2) := fun q => g (.inr q)
        omega
      · rintro (g | g) (k | k)
        · exact noP x g
        · exact noP x g
        · exact m.mpr (.inr (by omega)) k
        · omega
theorem holes_fold {q : Int × Int} {out : List (Int × Int)} : ∀ (R H : List (Int × Int)) (st : List (Int × Int) × Int), Norm (H ++ R) → Holed q out H st → Holed q out (H ++ R) (R.foldl (lstep q.2) st)
  | [], H, st, _, s => by simpa using s
  | h :: R, H, st, hn, s => by
    rw [show H ++ h :: R = (H ++ [h]) ++ R by simp] at hn ⊢
    have h1 := List.pairwise_append.mp (List.pairwise_append.mp hn.ap).1
    exact holes_fold R (H ++ [h]) _ hn (hole_step s (hn.le h (by simp)) fun g hg => h1.2.2 g hg h (by simp))
theorem lone_ok {q : Int × Int} {out holes : List (Int × Int)} (hn : Norm holes) (hq : q.1 ≤ q.2) : ∃ P, lone holes out q = out ++ P ∧ Norm P ∧ (∀ p ∈ P, q.1 ≤ p.1 ∧ p.2 ≤ q.2) ∧ ∀ x, Mem P x ↔ (q.1 ≤ x ∧ x ≤ q.2) ∧ ¬ Mem holes x := by
  have s := holes_fold (q := q) (out := out) holes [] (out, q.1) (by simpa using hn) ⟨⟨[], by simp, .nil, fun p hp => (nomatch hp), fun x h1 h2 => ⟨fun _ => .inr h1, fun _ => mem_nil⟩⟩, .inl rfl⟩
  rw [List.nil_append] at s
  obtain ⟨⟨P, e, nP, bP, mP⟩, hb⟩ := s
  unfold lone
  generalize holes.foldl (lstep q.2) (out, q.1) = st at *
  have hbq : q.1 ≤ st.2 := by rcases hb with hb | ⟨g, hg, hb, r⟩ <;> omega
  by_cases c : st.2 ≤ q.2
  · rw [if_pos c]
    refine ⟨P ++ [(st.2, q.2)], by rw [e, List.append_assoc], norm_snoc.mpr ⟨nP, c, fun b hb => (bP b hb).2.1⟩, fun p hp => ?_, fun x => ?_⟩
    · rcases List.mem_append.mp hp with hp | hp
      · have := bP p hp; omega
      · obtain rfl := List.mem_singleton.mp hp; dsimp only; omega
    · rw [mem_app, mem_one]
      dsimp only
      constructor
      · rintro (g | g)
        · obtain ⟨p, hp, p1, p2⟩ := id g
          have := bP p hp
          exact ⟨⟨by omega, by omega⟩, (mP x (by omega) (by omega)).mpr (.inl g)⟩
        · exact ⟨⟨by omega, g.2⟩, (mP x (by omega) g.2).mpr (.inr g.1)⟩
      · rintro ⟨⟨h1, h2⟩, h3⟩
        rcases (mP x h1 h2).mp h3 with g | g
        · exact .inl g
        · exact .inr ⟨g, h2⟩
  · rw [if_neg c]
    refine ⟨P, e, nP, fun p hp => by have := bP p hp; omega, fun x => ?_⟩
    constructor
    · intro g
      obtain ⟨p, hp, p1, p2⟩ := id g
      have := bP p hp
      exact ⟨⟨by omega, by omega⟩, (mP x (by omega) (by omega)).mpr (.inl g)⟩
    · rintro ⟨⟨h1, h2⟩, h3⟩
      rcases (mP x h1 h2).mp h3 with g | g
      · exact g
      · omega
theorem lessS_fold {holes : List (Int × Int)} (hn : Norm holes) : ∀ (one out : List (Int × Int)), Norm one → Norm out → (∀ a ∈ out, ∀ b ∈ one, a.2 + 1 < b.1) → Norm (one.foldl (lone holes) out) ∧ ∀ x, Mem (one.foldl (lone holes) out) x ↔ Mem out x ∨ (Mem one x ∧ ¬ Mem holes x)
  | [], out, _, h, _ => ⟨h, fun x => ⟨.inl, fun h => h.elim id fun g => absurd g.1 mem_nil⟩⟩
  | q :: one, out, h1, h2, h3 => by
    have hq := h1.le q (by simp)
    obtain ⟨P, e, nP, bP, mP⟩ := lone_ok (out := out) hn hq
    have nO : Norm (lone holes out q) := by
      rw [e]
      exact norm_app h2 nP fun a ha b hb => by have := h3 a ha q (by simp); have := bP b hb; omega
    obtain ⟨i1, i2⟩ := lessS_fold hn one (lone holes out q) h1.tail nO fun a ha b hb => by
      rw [e] at ha
      rcases List.mem_append.mp ha with ha | ha
      · exact h3 a ha b (by simp [hb])
      · have := bP a ha; have := h1.lt b hb; omega
    refine ⟨i1, fun x => ?_⟩
    rw [List.foldl_cons, i2, e, mem_app, mP, mem_cons]
    constructor
    · rintro ((g | g) | g)
      · exact .inl g
      · exact .inr ⟨.inl g.1, g.2⟩
      · exact .inr ⟨.inr g.1, g.2⟩
    · rintro (g | ⟨g | g, k⟩)
      · exact .inl (.inl g)
      · exact .inl (.inr ⟨g, k⟩)
      · exact .inr ⟨g, k⟩
theorem lessS_ok {A Z : List (Int × Int)} (hA : Norm A) (hZ : Norm Z) : Norm (lessS A Z) ∧ ∀ x, Mem (lessS A Z) x ↔ Mem A x ∧ ¬ Mem Z x := by
  obtain ⟨a, b⟩ := lessS_fold hZ A [] hA .nil fun a ha => (nomatch ha)
  exact ⟨a, fun x => by unfold lessS; rw [b, or_iff_right mem_nil]⟩
end Mini
end

section
open PySem PySem.W PyProof.Rows
set_option maxRecDepth 100000
namespace Mini
theorem isIn_iff {ps : List (Int × Int)} {n : Int} : isIn ps n = true ↔ ∃ q ∈ ps, min q.1 q.2 ≤ n ∧ n ≤ max q.1 q.2 := by
  unfold isIn; rw [List.any_eq_true]; simp
theorem isIn_mem {L : List (Int × Int)} (h : ∀ q ∈ L, q.1 ≤ q.2) {n : Int} : isIn L n = true ↔ Mem L n := by
  rw [isIn_iff]
  exact ⟨fun ⟨q, hq, r⟩ => ⟨q, hq, by have := h q hq; lia⟩, fun ⟨q, hq, r⟩ => ⟨q, hq, by have := h q hq; lia⟩⟩
theorem rank_nil (n : Int) : rankS [] n = 0 := by simp [rankS]
theorem rank_cons (a : Int × Int) (l : List (Int × Int)) (n : Int) : rankS (a :: l) n = (if a.1 ≤ n then min a.2 n - a.1 + 1 else 0) + rankS l n := by
  unfold rankS
  by_cases h : a.1 ≤ n
  · rw [if_pos h, List.filter_cons, if_pos (by simpa using h)]; simp
  · rw [if_neg h, List.filter_cons, if_neg (by simpa using h)]; simp
theorem rank_zero : ∀ {l : List (Int × Int)} {n : Int}, (∀ q ∈ l, n < q.1) → rankS l n = 0
  | [], n, _ => rank_nil n
  | a :: l, n, h => by
    rw [rank_cons, rank_zero fun q hq => h q (by simp [hq]), if_neg (by have := h a (by simp); lia)]; rfl
theorem rank_full : ∀ {l : List (Int × Int)} {n : Int}, (∀ q ∈ l, q.1 ≤ q.2 ∧ q.2 ≤ n) → rankS l n = sizeS l
  | [], n, _ => by rw [rank_nil]; rfl
  | a :: l, n, h => by
    have := h a (by simp)
    rw [rank_cons, rank_full fun q hq => h q (by simp [hq]), sizeS_cons, if_pos (by lia), Int.min_eq_left this.2]
    unfold len1; lia
theorem size_le : ∀ {l : List (Int × Int)} {m : Int}, Norm l → (∀ q ∈ l, q.2 ≤ m) → (∀ q ∈ l, 1 ≤ q.1) → sizeS l ≤ max m 0 := fun {l} => by
  have gen : ∀ (l : List (Int × Int)) (m lo : Int), Norm l → (∀ q ∈ l, q.2 ≤ m) → (∀ q ∈ l, lo ≤ q.1) → lo ≤ m + 1 → sizeS l ≤ m - lo + 1 := fun l => by
    induction l with
    | nil => intro m lo _ _ _ h; show (0 : Int) ≤ _; lia
    | cons a l ih =>
      intro m lo hn h1 h2 h3
      have ha := hn.le a (by simp)
      have a1 := h1 a (by simp)
      have a2 := h2 a (by simp)
      have := ih m (a.2 + 1) hn.tail (fun q hq => h1 q (by simp [hq])) (fun q hq => by have := hn.lt q hq; lia) (by lia)
      rw [sizeS_cons]; unfold len1; lia
  intro m hn h1 h2
  by_cases h : 0 ≤ m
  · have := gen l m 1 hn h1 h2 (by lia); lia
  · cases l with
    | nil => show (0 : Int) ≤ _; lia
    | cons a l =>
      have := h1 a (by simp); have := h2 a (by simp); have := hn.le a (by simp); lia
theorem numAt_ok : ∀ (l : List (Int × Int)) (k : Int), Norm l → 0 ≤ k → (k < sizeS l → Mem l (numAt l k) ∧ rankS l (numAt l k) = k + 1) ∧ (sizeS l ≤ k → numAt l k = 0)
  | [], k, _, hk => ⟨fun h => by have : sizeS ([] : List (Int × Int)) = 0 := rfl; lia, fun _ => rfl⟩
  | a :: l, k, hn, hk => by
    have ha := hn.le a (by simp)
    have hs := sizeS_pos (l := l) fun q hq => hn.tail.le q hq
    rw [sizeS_cons, numAt]
    unfold len1
    by_cases h : k ≤ a.2 - a.1
    · rw [if_pos h]
      refine ⟨fun _ => ⟨mem_cons.mpr (.inl ⟨by lia, by lia⟩), ?_⟩, fun h' => by lia⟩
      rw [rank_cons, if_pos (by lia), rank_zero fun q hq => by have := hn.lt q hq; lia, Int.min_eq_right (by lia)]
      lia
    · rw [if_neg h]
      obtain ⟨i1, i2⟩ := numAt_ok l (k - (a.2 - a.1 + 1)) hn.tail (by lia)
      refine ⟨fun h' => ?_, fun h' => i2 (by lia)⟩
      obtain ⟨m, r⟩ := i1 (by lia)
      have := hn.mem_gt m
      refine ⟨mem_cons.mpr (.inr m), ?_⟩
      rw [rank_cons, r, if_pos (by lia), Int.min_eq_left (by lia)]
      lia
/-- within all numbers -/
noncomputable def InL (L : List (Int × Int)) : Prop := ∀ q ∈ L, 1 ≤ q.1 ∧ q.2 ≤ MOST
theorem count_all {L : List (Int × Int)} (hn : Norm L) (hi : InL L) : CountOk L := by
  have e : rankS L MOST = sizeS L := rank_full fun q hq => ⟨hn.le q hq, (hi q hq).2⟩
  have pos := sizeS_pos (l := L) hn.le
  have le := size_le hn (fun q hq => (hi q hq).2) fun q hq => (hi q hq).1
  have nz : ∀ n, Mem L n → n ≠ 0 := fun n ⟨q, hq, h1, _⟩ => by have := (hi q hq).1; lia
  refine ⟨e.symm, by rw [e]; unfold MOST at le; lia, by rw [e]; exact pos, fun k hk h0 => ?_, fun k hk => ?_⟩
  · obtain ⟨i1, i2⟩ := numAt_ok L k hn hk
    by_cases h : k < sizeS L
    · obtain ⟨m, r⟩ := i1 h
      exact ⟨(isIn_mem hn.le).mpr m, r⟩
    · exact absurd (i2 (by lia)) h0
  · rw [e]
    obtain ⟨i1, i2⟩ := numAt_ok L k hn hk
    by_cases h : k < sizeS L
    · exact ⟨fun h0 => absurd h0 (nz _ (i1 h).1), fun h' => by lia⟩
    · exact ⟨fun _ => by lia, fun _ => i2 (by lia)⟩

/-- what is left of a set, so many numbers on -/
structure Left (L : List (Int × Int)) (k : Int) (R : List (Int × Int)) : Prop where
  norm : Norm R
  mem : ∀ x, Mem R x → Mem L x ∧ rankS L x = k + rankS R x
  size : sizeS R = rankS L MOST - k
theorem rank_head {a : Int × Int} {r : List (Int × Int)} (hn : Norm (a :: r)) {x : Int} (h1 : a.1 ≤ x) (h2 : x ≤ a.2) : rankS (a :: r) x = x - a.1 + 1 := by
  rw [rank_cons, if_pos h1, rank_zero fun q hq => by have := hn.lt q hq; lia, Int.min_eq_right h2]; lia
theorem Left.run {L R : List (Int × Int)} {a : Int × Int} {k c : Int} (h : Left L k (a :: R)) (hL : ∀ q ∈ L, q.1 ≤ q.2) (h1 : 1 ≤ c) (h2 : c ≤ len1 a) : RunOk L a.1 k c := by
  unfold len1 at h2
  obtain ⟨m1, r1⟩ := h.mem a.1 (mem_cons.mpr (.inl ⟨by lia, by lia⟩))
  obtain ⟨m2, r2⟩ := h.mem (a.1 + c - 1) (mem_cons.mpr (.inl ⟨by lia, by lia⟩))
  rw [rank_head h.norm (by lia) (by lia)] at r1 r2
  exact ⟨(isIn_mem hL).mpr m1, by lia, by lia, (isIn_mem hL).mpr m2⟩
theorem Left.whole {L R : List (Int × Int)} {a : Int × Int} {k : Int} (h : Left L k (a :: R)) : Left L (k + len1 a) R := by
  have ha := h.norm.le a (by simp)
  refine ⟨h.norm.tail, fun x hx => ?_, ?_⟩
  · obtain ⟨m, r⟩ := h.mem x (mem_cons.mpr (.inr hx))
    have := h.norm.mem_gt hx
    rw [rank_cons, if_pos (by lia), Int.min_eq_left (by lia)] at r
    exact ⟨m, by unfold len1; lia⟩
  · have := h.size
    rw [sizeS_cons] at this; lia
theorem Left.part {L R : List (Int × Int)} {a : Int × Int} {k c : Int} (h : Left L k (a :: R)) (h1 : 0 ≤ c) (h2 : c < len1 a) : Left L (k + c) ((a.1 + c, a.2) :: R) := by
  unfold len1 at h2
  refine ⟨⟨fun q hq => ?_, List.pairwise_cons.mpr ⟨fun q hq => h.norm.lt q hq, h.norm.tail.ap⟩⟩, fun x hx => ?_, ?_⟩
  · rcases List.mem_cons.mp hq with rfl | hq
    · dsimp only; lia
    · exact h.norm.tail.le q hq
  · have hx' : Mem (a :: R) x := by
      rcases mem_cons.mp hx with g | g
      · exact mem_cons.mpr (.inl ⟨by dsimp only at g; lia, g.2⟩)
      · exact mem_cons.mpr (.inr g)
    obtain ⟨m, r⟩ := h.mem x hx'
    refine ⟨m, ?_⟩
    have : a.1 + c ≤ x := by
      rcases mem_cons.mp hx with g | g
      · exact g.1
      · have := h.norm.mem_gt g; lia
    rw [rank_cons, if_pos (by lia)] at r
    rw [rank_cons, if_pos (by dsimp only; lia)]
    dsimp only; lia
  · have := h.size
    rw [sizeS_cons] at this ⊢
    unfold len1 at *; dsimp only; lia
theorem matS_cons (a b : Int × Int) (r t : List (Int × Int)) : matS (a :: r) (b :: t) = if len1 a < len1 b then (a.1, b.1, len1 a) :: matS r ((b.1 + len1 a, b.2) :: t) else if len1 b < len1 a then (a.1, b.1, len1 b) :: matS ((a.1 + len1 b, a.2) :: r) t else (a.1, b.1, len1 a) :: matS r t := by rw [matS]
theorem paired_ok {A Z : List (Int × Int)} (hA : ∀ q ∈ A, q.1 ≤ q.2) (hZ : ∀ q ∈ Z, q.1 ≤ q.2) (hs : rankS A MOST = rankS Z MOST) : ∀ (n : Nat) (R S : List (Int × Int)) (k : Int) (e : Int × Int), R.length + S.length ≤ n → Left A k R → Left Z k S → ((∀ a ∈ R, e.1 < a.1) ∨ (∀ b ∈ S, e.2 < b.1)) → PairedOk A Z (matS R S) k e
  | n, [], S, k, e, _, hR, hS, _ => by
    rw [matS]
    have := hR.size
    have : sizeS ([] : List (Int × Int)) = 0 := rfl
    show k = rankS A MOST
    lia
  | n, a :: r, [], k, e, _, hR, hS, _ => by
    have h1 := hR.size
    have h2 := hS.size
    have h3 : sizeS ([] : List (Int × Int)) = 0 := rfl
    have h4 := hR.norm.le a (by simp)
    have h5 := sizeS_pos (l := r) hR.norm.tail.le
    rw [sizeS_cons] at h1
    unfold len1 at h1
    lia
  | 0, a :: r, b :: t, k, e, hn, _, _, _ => by simp at hn
  | n + 1, a :: r, b :: t, k, e, hn, hR, hS, he => by
    simp only [List.length_cons] at hn
    have la : 1 ≤ len1 a := by have := hR.norm.le a (by simp); unfold len1; lia
    have lb : 1 ≤ len1 b := by have := hS.norm.le b (by simp); unfold len1; lia
    have ne : e ≠ (a.1, b.1) := fun q => by
      rcases he with h | h
      · have := h a (by simp); rw [q] at this; dsimp only at this; lia
      · have := h b (by simp); rw [q] at this; dsimp only at this; lia
    rw [matS_cons]
    by_cases c1 : len1 a < len1 b
    · rw [if_pos c1]
      refine ⟨hR.run (c := len1 a) hA la (Int.le_refl _), hS.run (c := len1 a) hZ la (by lia), la, ne, ?_⟩
      refine paired_ok hA hZ hs n r _ _ _ (by simp only [List.length_cons]; lia) hR.whole (hS.part (c := len1 a) (by lia) c1) (.inl fun q hq => ?_)
      have := hR.norm.lt q hq
      unfold len1; dsimp only; lia
    · rw [if_neg c1]
      by_cases c2 : len1 b < len1 a
      · rw [if_pos c2]
        refine ⟨hR.run (c := len1 b) hA lb (by lia), hS.run (c := len1 b) hZ lb (Int.le_refl _), lb, ne, ?_⟩
        refine paired_ok hA hZ hs n _ t _ _ (by simp only [List.length_cons]; lia) (hR.part (c := len1 b) (by lia) c2) hS.whole (.inr fun q hq => ?_)
        have := hS.norm.lt q hq
        unfold len1; dsimp only; lia
      · rw [if_neg c2]
        have e12 : len1 b = len1 a := by lia
        refine ⟨hR.run (c := len1 a) hA la (Int.le_refl _), hS.run (c := len1 a) hZ la (by lia), la, ne, ?_⟩
        refine paired_ok hA hZ hs n r t _ _ (by lia) hR.whole (by rw [← e12]; exact hS.whole) (.inl fun q hq => ?_)
        have := hR.norm.lt q hq
        unfold len1; dsimp only; lia
theorem left_all {L : List (Int × Int)} (hn : Norm L) (hi : InL L) : Left L 0 L := ⟨hn, fun x hx => ⟨hx, by lia⟩, by rw [rank_full fun q hq => ⟨hn.le q hq, (hi q hq).2⟩]; lia⟩
theorem paired_all {A Z : List (Int × Int)} (hA : Norm A) (hZ : Norm Z) (iA : InL A) (iZ : InL Z) (hs : sizeS A = sizeS Z) : PairedOk A Z (matS A Z) 0 (0, 0) := by
  refine paired_ok hA.le hZ.le ?_ _ A Z 0 (0, 0) (Nat.le_refl _) (left_all hA iA) (left_all hZ iZ) (.inl fun a ha => by have := (iA a ha).1; dsimp only; lia)
  rw [rank_full fun q hq => ⟨hA.le q hq, (iA q hq).2⟩, rank_full fun q hq => ⟨hZ.le q hq, (iZ q hq).2⟩, hs]
end Mini
end

section
open PySem PySem.W PyProof.Rows
set_option maxRecDepth 100000
namespace Mini
/-- between two ways there is a turn -/
theorem turn_at (P : Int → Bool) : ∀ (n : Nat) (a b : Int), b - a = n → P a ≠ P b → ∃ y, a ≤ y ∧ y < b ∧ P y ≠ P (y + 1)
  | 0, a, b, h, hp => by have : a = b := by lia
                         subst this; exact absurd rfl hp
  | n + 1, a, b, h, hp => by
    by_cases c : P a = P (a + 1)
    · obtain ⟨y, h1, h2, h3⟩ := turn_at P n (a + 1) b (by lia) (by rw [← c]; exact hp)
      exact ⟨y, by lia, h2, h3⟩
    · exact ⟨a, Int.le_refl _, by lia, c⟩
theorem turn_in {P : Int → Bool} {a b : Int} (h : a < b) (hp : P a ≠ P b) : ∃ y, a ≤ y ∧ y < b ∧ P y ≠ P (y + 1) := turn_at P (b - a).toNat a b (by lia) hp
/-- a way that turns at the edges alone -/
structure Edged (es : List Int) (P : Int → Bool) : Prop where
  turn : ∀ x, P x ≠ P (x + 1) → x ∈ es ∧ x + 1 ∈ es
  lo : ∀ x, P x = true → ∃ e ∈ es, e ≤ x
  hi : ∀ x, P x = true → ∃ e ∈ es, x ≤ e
theorem Edged.of2 {es : List Int} {P R : Int → Bool} (f : Bool → Bool → Bool) (hP : Edged es P) (hR : Edged es R) (hf : f false false = false) : Edged es (fun x => f (P x) (R x)) := by
  have any : ∀ x, f (P x) (R x) = true → P x = true ∨ R x = true := fun x h => by
    cases h1 : P x with
    | true => exact .inl rfl
    | false =>
      cases h2 : R x with
      | true => exact .inr rfl
      | false => rw [h1, h2, hf] at h; cases h
  refine ⟨fun x h => ?_, fun x h => (any x h).elim (hP.lo x) (hR.lo x), fun x h => (any x h).elim (hP.hi x) (hR.hi x)⟩
  by_cases h1 : P x = P (x + 1)
  · by_cases h2 : R x = R (x + 1)
    · exact absurd (by rw [h1, h2]) h
    · exact hR.turn x h2
  · exact hP.turn x h1

theorem getD_lt {es : List Int} (hs : es.Pairwise (· < ·)) {i j : Nat} (hij : i < j) (hj : j < es.length) : es.getD i 0 < es.getD j 0 := by
  have := (List.pairwise_iff_getElem.mp hs) i j (by lia) hj hij
  rw [List.getD_eq_getElem?_getD, List.getD_eq_getElem?_getD, List.getElem?_eq_getElem (by lia), List.getElem?_eq_getElem hj]
  exact this
theorem mem_getD {es : List Int} {x : Int} (h : x ∈ es) : ∃ i, i < es.length ∧ es.getD i 0 = x := by
  obtain ⟨i, hi, e⟩ := List.getElem_of_mem h
  exact ⟨i, hi, by rw [List.getD_eq_getElem?_getD, List.getElem?_eq_getElem hi]; exact e⟩
/-- no edge between neighbours -/
theorem no_between {es : List Int} (hs : es.Pairwise (· < ·)) {i : Nat} (hi : i + 1 < es.length) {x : Int} (hx : x ∈ es) (h1 : es.getD i 0 < x) : es.getD (i + 1) 0 ≤ x := by
  obtain ⟨j, hj, rfl⟩ := mem_getD hx
  rcases Nat.lt_trichotomy j (i + 1) with h | h | h
  · rcases Nat.lt_or_ge j i with g | g
    · have := getD_lt hs g (by lia); lia
    · have : j = i := by lia
      subst this; lia
  · subst h; exact Int.le_refl _
  · have := getD_lt hs h hj; lia

structure Upto (es : List Int) (P : Int → Bool) (i : Nat) (z : List (Int × Int)) : Prop where
  norm : Norm z
  mem : ∀ x, Mem z x ↔ P x = true ∧ 0 < i ∧ x ≤ es.getD (i - 1) 0
  last : 0 < i → P (es.getD (i - 1) 0) = true → ∃ l, z.getLast? = some l ∧ l.2 = es.getD (i - 1) 0
theorem map_getD {es : List Int} {P : Int → Bool} {i : Nat} (hi : i < es.length) : (es.map P).getD i false = P (es.getD i 0) := by
  rw [List.getD_eq_getElem?_getD, List.getD_eq_getElem?_getD, List.getElem?_map, List.getElem?_eq_getElem hi]; rfl
theorem upto_step {es : List Int} {P : Int → Bool} (hs : es.Pairwise (· < ·)) (hE : Edged es P) {i : Nat} {z : List (Int × Int)} (hi : i < es.length) (h : Upto es P i z) : Upto es P (i + 1) (pstep es (es.map P) z i) := by
  -- between the last edge and this one
  have flat : ∀ x, (∀ j, i = j + 1 → es.getD j 0 < x) → x ≤ es.getD i 0 → 0 < i → P x = P (es.getD i 0) ∨ (∃ j, i = j + 1 ∧ x = es.getD j 0) := fun x h1 h2 h3 => by
    refine .inl ?_
    by_cases e : x = es.getD i 0
    · rw [e]
    · apply Classical.byContradiction
      intro hne
      obtain ⟨y, y1, y2, y3⟩ := turn_in (show x < es.getD i 0 by lia) hne
      obtain ⟨j, rfl⟩ : ∃ j, i = j + 1 := ⟨i - 1, by lia⟩
      have := no_between hs hi (hE.turn y y3).1 (by have := h1 j rfl; lia)
      lia
  have flat' : ∀ x j, i = j + 1 → es.getD j 0 ≤ x → x < es.getD i 0 → P x = P (es.getD j 0) := fun x j hj h1 h2 => by
    by_cases e : es.getD j 0 = x
    · rw [e]
    · apply Classical.byContradiction
      intro hne
      obtain ⟨y, y1, y2, y3⟩ := turn_in (show es.getD j 0 < x by lia) (fun q => hne q.symm)
      subst hj
      have := no_between hs hi (hE.turn y y3).2 (by lia)
      lia
  have first : i = 0 → ∀ x, x < es.getD 0 0 → P x = false := fun h0 x hx => by
    cases hp : P x with
    | false => rfl
    | true =>
      obtain ⟨e, he, hle⟩ := hE.lo x hp
      obtain ⟨j, hj, rfl⟩ := mem_getD he
      rcases Nat.eq_zero_or_pos j with g | g
      · subst g; lia
      · have := getD_lt hs g hj; lia
  have hb := map_getD (P := P) hi
  unfold pstep
  rw [hb]
  cases hp : P (es.getD i 0) with
  | false =>
    rw [if_neg (by decide)]
    refine ⟨h.norm, fun x => ?_, fun _ hl => by rw [show i + 1 - 1 = i by lia, hp] at hl; cases hl⟩
    rw [h.mem, show i + 1 - 1 = i by lia]
    constructor
    · rintro ⟨a, b, c⟩
      obtain ⟨j, rfl⟩ : ∃ j, i = j + 1 := ⟨i - 1, by lia⟩
      have := getD_lt hs (show j < j + 1 by lia) hi
      rw [show j + 1 - 1 = j by lia] at c
      exact ⟨a, by lia, by lia⟩
    · rintro ⟨a, _, c⟩
      rcases Nat.eq_zero_or_pos i with g | g
      · subst g
        have : x ≠ es.getD 0 0 := fun e => by rw [e, hp] at a; cases a
        rw [first rfl x (by lia)] at a; cases a
      · obtain ⟨j, rfl⟩ : ∃ j, i = j + 1 := ⟨i - 1, by lia⟩
        rw [show j + 1 - 1 = j by lia]
        refine ⟨a, g, ?_⟩
        apply Classical.byContradiction
        intro hlt
        rcases flat x (fun j' e => by have : j' = j := by lia
                                      subst this; lia) c g with e | ⟨j', e, e2⟩
        · rw [e, hp] at a; cases a
        · have : j' = j := by lia
          subst this; lia
  | true =>
    rw [if_pos rfl]
    by_cases c : 0 < i ∧ (es.map P).getD (i - 1) false = true
    · rw [if_pos c]
      obtain ⟨j, rfl⟩ : ∃ j, i = j + 1 := ⟨i - 1, by lia⟩
      rw [show j + 1 - 1 = j by lia, map_getD (by lia)] at c
      have hlt := getD_lt hs (show j < j + 1 by lia) hi
      obtain ⟨l, hl, hl2⟩ := h.last (by lia) (by rw [show j + 1 - 1 = j by lia]; exact c.2)
      rw [show j + 1 - 1 = j by lia] at hl2
      have zn : z ≠ [] := fun e => by rw [e] at hl; cases hl
      obtain ⟨z0, l', rfl⟩ := split_last zn
      rw [List.getLast?_append] at hl
      simp only [List.getLast?_singleton, Option.some_or, Option.some.injEq] at hl
      subst hl
      obtain ⟨n1, n2, n3⟩ := norm_snoc.mp h.norm
      have e : (z0 ++ [l']).dropLast ++ [(((z0 ++ [l']).getLast?.getD (0, 0)).1, es.getD (j + 1) 0)] = z0 ++ [(l'.1, es.getD (j + 1) 0)] := by simp
      rw [e]
      refine ⟨norm_snoc.mpr ⟨n1, by dsimp only; lia, n3⟩, fun x => ?_, fun _ _ => ⟨(l'.1, es.getD (j + 1) 0), by simp, rfl⟩⟩
      have hm := h.mem x
      rw [mem_app, mem_one, show j + 1 - 1 = j by lia] at hm
      rw [mem_app, mem_one, show j + 1 + 1 - 1 = j + 1 by lia]
      dsimp only
      have bet : es.getD j 0 ≤ x → x < es.getD (j + 1) 0 → P x = true := fun h1 h2 => by rw [flat' x j rfl h1 h2]; exact c.2
      constructor
      · rintro (g | g)
        · obtain ⟨a, _, b⟩ := hm.mp (.inl g)
          exact ⟨a, by lia, by lia⟩
        · refine ⟨?_, by lia, g.2⟩
          by_cases k : x ≤ l'.2
          · exact (hm.mp (.inr ⟨g.1, k⟩)).1
          · by_cases k2 : x = es.getD (j + 1) 0
            · rw [k2]; exact hp
            · exact bet (by lia) (by lia)
      · rintro ⟨a, _, b⟩
        by_cases k : x ≤ es.getD j 0
        · rcases hm.mpr ⟨a, by lia, k⟩ with g | g
          · exact .inl g
          · exact .inr ⟨g.1, by lia⟩
        · exact .inr ⟨by lia, b⟩
    · rw [if_neg c]
      have prev : ∀ j, i = j + 1 → P (es.getD j 0) = false := fun j hj => by
        subst hj
        cases q : P (es.getD j 0) with
        | false => rfl
        | true => exact absurd ⟨by lia, by rw [show j + 1 - 1 = j by lia, map_getD (by lia)]; exact q⟩ c
      refine ⟨norm_snoc.mpr ⟨h.norm, Int.le_refl _, fun b hb' => ?_⟩, fun x => ?_, fun _ _ => ⟨(es.getD i 0, es.getD i 0), by simp, rfl⟩⟩
      · have hm := (h.mem b.2).mp ⟨b, hb', h.norm.le b hb', Int.le_refl _⟩
        obtain ⟨j, rfl⟩ : ∃ j, i = j + 1 := ⟨i - 1, by lia⟩
        have hlt := getD_lt hs (show j < j + 1 by lia) hi
        rw [show j + 1 - 1 = j by lia] at hm
        have : b.2 ≠ es.getD j 0 := fun e => by have := prev j rfl; rw [← e, hm.1] at this; cases this
        dsimp only; lia
      · rw [mem_app, mem_one, h.mem, show i + 1 - 1 = i by lia]
        dsimp only
        constructor
        · rintro (⟨a, b, d⟩ | g)
          · obtain ⟨j, rfl⟩ : ∃ j, i = j + 1 := ⟨i - 1, by lia⟩
            have hlt := getD_lt hs (show j < j + 1 by lia) hi
            rw [show j + 1 - 1 = j by lia] at d
            exact ⟨a, by lia, by lia⟩
          · have : x = es.getD i 0 := by lia
            rw [this]; exact ⟨hp, by lia, Int.le_refl _⟩
        · rintro ⟨a, _, d⟩
          by_cases k : x = es.getD i 0
          · exact .inr (by lia)
          · refine .inl ?_
            rcases Nat.eq_zero_or_pos i with g | g
            · subst g
              rw [first rfl x (by lia)] at a; cases a
            · obtain ⟨j, rfl⟩ : ∃ j, i = j + 1 := ⟨i - 1, by lia⟩
              rw [show j + 1 - 1 = j by lia]
              refine ⟨a, g, ?_⟩
              apply Classical.byContradiction
              intro hlt
              have := flat' x j rfl (by lia) (by lia)
              rw [this, prev j rfl] at a; cases a
theorem plainE_ok {es : List Int} {P : Int → Bool} (hs : es.Pairwise (· < ·)) (hE : Edged es P) : Norm (plainE es (es.map P)) ∧ ∀ x, Mem (plainE es (es.map P)) x ↔ P x = true := by
  have all : ∀ i, i ≤ es.length → Upto es P i ((List.range i).foldl (pstep es (es.map P)) []) := fun i => by
    induction i with
    | zero => intro _; exact ⟨.nil, fun x => ⟨fun h => absurd h mem_nil, fun h => absurd h.2.1 (by lia)⟩, fun h => absurd h (by lia)⟩
    | succ i ih =>
      intro hi
      rw [range_succ_fold]
      exact upto_step hs hE (by lia) (ih (by lia))
  have h := all es.length (Nat.le_refl _)
  refine ⟨h.norm, fun x => ?_⟩
  show Mem ((List.range es.length).foldl (pstep es (es.map P)) []) x ↔ _
  rw [h.mem]
  refine ⟨fun g => g.1, fun g => ⟨g, ?_⟩⟩
  obtain ⟨e, he, hle⟩ := hE.hi x g
  obtain ⟨j, hj, rfl⟩ := mem_getD he
  refine ⟨by lia, ?_⟩
  by_cases k : j = es.length - 1
  · rw [← k]; exact hle
  · have := getD_lt hs (show j < es.length - 1 by lia) (by lia); lia
end Mini
end

section
open PySem PySem.W PyProof.Rows
set_option maxRecDepth 100000
namespace Mini
theorem edge_mem {ps : List (Int × Int)} {x : Int} : x ∈ edgeNs ps ↔ ∃ q ∈ ps, x = min q.1 q.2 - 1 ∨ x = min q.1 q.2 ∨ x = max q.1 q.2 ∨ x = max q.1 q.2 + 1 := by
  unfold edgeNs e4
  rw [List.mem_flatMap]
  simp
theorem edged_isIn {ps : List (Int × Int)} {es : List Int} (h : ∀ x ∈ edgeNs ps, x ∈ es) : Edged es (isIn ps) := by
  have hq : ∀ q ∈ ps, min q.1 q.2 - 1 ∈ es ∧ min q.1 q.2 ∈ es ∧ max q.1 q.2 ∈ es ∧ max q.1 q.2 + 1 ∈ es := fun q hq =>
    ⟨h _ (edge_mem.mpr ⟨q, hq, .inl rfl⟩), h _ (edge_mem.mpr ⟨q, hq, .inr (.inl rfl)⟩), h _ (edge_mem.mpr ⟨q, hq, .inr (.inr (.inl rfl))⟩), h _ (edge_mem.mpr ⟨q, hq, .inr (.inr (.inr rfl))⟩)⟩
  refine ⟨fun x hne => ?_, fun x hx => ?_, fun x hx => ?_⟩
  · cases h1 : isIn ps x with
    | true =>
      have h2 : ¬ isIn ps (x + 1) = true := fun e => hne (by rw [h1, e])
      obtain ⟨q, hm, a, b⟩ := isIn_iff.mp h1
      have : x = max q.1 q.2 := by
        apply Classical.byContradiction
        intro k
        exact h2 (isIn_iff.mpr ⟨q, hm, by lia, by lia⟩)
      rw [this]
      exact ⟨(hq q hm).2.2.1, (hq q hm).2.2.2⟩
    | false =>
      have h2 : isIn ps (x + 1) = true := by
        cases k : isIn ps (x + 1) with
        | true => rfl
        | false => exact absurd (by rw [h1, k]) hne
      have h1' : ¬ isIn ps x = true := by rw [h1]; decide
      obtain ⟨q, hm, a, b⟩ := isIn_iff.mp h2
      have : x + 1 = min q.1 q.2 := by
        apply Classical.byContradiction
        intro k
        exact h1' (isIn_iff.mpr ⟨q, hm, by lia, by lia⟩)
      refine ⟨?_, by rw [this]; exact (hq q hm).2.1⟩
      rw [show x = min q.1 q.2 - 1 by lia]; exact (hq q hm).1
  · obtain ⟨q, hm, a, b⟩ := isIn_iff.mp hx
    exact ⟨_, (hq q hm).2.1, a⟩
  · obtain ⟨q, hm, a, b⟩ := isIn_iff.mp hx
    exact ⟨_, (hq q hm).2.2.1, b⟩
theorem ends_mem {ps : List (Int × Int)} {g x : Int} (h : InS ps) (hg : 0 ≤ g) : Mem (endsL ps g) x ↔ isIn (meantS ps g) x = true := by
  rw [isIn_iff]
  unfold Mem endsL meantS
  constructor
  · rintro ⟨e, he, h1, h2⟩
    obtain ⟨q, hq, hp⟩ := List.mem_filterMap.mp he
    have hr := h q hq
    unfold endsP at hp
    split at hp
    · cases hp
    · rename_i hn
      cases hp
      refine ⟨_, List.mem_map.mpr ⟨q, List.mem_filter.mpr ⟨hq, ?_⟩, rfl⟩, ?_⟩
      · unfold starred
        simp only [Bool.or_eq_true, decide_eq_true_eq, Bool.not_eq_true', Bool.or_eq_false_iff, decide_eq_false_iff_not]
        lia
      · dsimp only at h1 h2 ⊢
        have e1 : (if q.1 > 0 then q.1 else g) = if q.1 = 0 then g else q.1 := by split <;> split <;> lia
        have e2 : (if q.2 > 0 then q.2 else g) = if q.2 = 0 then g else q.2 := by split <;> split <;> lia
        rw [e1, e2]; exact ⟨h1, h2⟩
  · rintro ⟨e, he, h1, h2⟩
    obtain ⟨q, hq, rfl⟩ := List.mem_map.mp he
    obtain ⟨hq, hk⟩ := List.mem_filter.mp hq
    have hr := h q hq
    have e1 : (if q.1 > 0 then q.1 else g) = if q.1 = 0 then g else q.1 := by split <;> split <;> lia
    have e2 : (if q.2 > 0 then q.2 else g) = if q.2 = 0 then g else q.2 := by split <;> split <;> lia
    dsimp only at h1 h2
    rw [e1, e2] at h1 h2
    refine ⟨(min (if q.1 = 0 then g else q.1) (if q.2 = 0 then g else q.2), max (if q.1 = 0 then g else q.1) (if q.2 = 0 then g else q.2)), List.mem_filterMap.mpr ⟨q, hq, ?_⟩, h1, h2⟩
    unfold endsP
    rw [if_neg]
    unfold starred at hk
    simp only [Bool.or_eq_true, decide_eq_true_eq, Bool.not_eq_true', Bool.or_eq_false_iff, decide_eq_false_iff_not] at hk
    lia
theorem meant_plain {ps : List (Int × Int)} (h : InP ps) : meantS ps 0 = ps := by
  unfold meantS
  have e : ps.filter (fun q => decide ((0 : Int) > 0) || !starred q) = ps := by
    rw [List.filter_eq_self]
    intro q hq
    have := h q hq
    unfold starred
    simp only [Bool.or_eq_true, decide_eq_true_eq, Bool.not_eq_true', Bool.or_eq_false_iff, decide_eq_false_iff_not]
    lia
  rw [e]
  conv => rhs; rw [← List.map_id ps]
  refine List.map_congr_left fun q hq => ?_
  have := h q hq
  obtain ⟨a, b⟩ := q
  dsimp only at this ⊢
  rw [if_pos (by lia), if_pos (by lia)]; rfl
theorem noStar {ps : List (Int × Int)} (h : InP ps) : star? ps = none := by
  unfold star?
  rw [List.findIdx?_eq_none_iff]
  intro q hq
  have := h q hq
  unfold starred
  simp only [Bool.or_eq_false_iff, decide_eq_false_iff_not]
  lia
theorem settled_ok {ps : List (Int × Int)} (h : InP ps) : Norm (settledS ps) ∧ ∀ x, Mem (settledS ps) x ↔ isIn ps x = true := by
  obtain ⟨a, b⟩ := plainS_ok ps 0
  refine ⟨a, fun x => ?_⟩
  show Mem (plainS ps 0) x ↔ _
  rw [b, ends_mem h.star (Int.le_refl _), meant_plain h]
theorem settled_in {ps : List (Int × Int)} (h : InP ps) : InL (settledS ps) := fun q hq => by
  obtain ⟨a, b⟩ := settled_ok h
  have hle := a.le q hq
  obtain ⟨p, hp, h1, h2⟩ := isIn_iff.mp ((b q.1).mp ⟨q, hq, Int.le_refl _, hle⟩)
  obtain ⟨p', hp', h1', h2'⟩ := isIn_iff.mp ((b q.2).mp ⟨q, hq, hle, Int.le_refl _⟩)
  have := h p hp; have := h p' hp'
  lia
theorem plain_le (l : List (Int × Int)) (g : Int) : ∀ q ∈ plainS l g, q.1 ≤ q.2 := (plainS_ok l g).1.le
section
variable {ps qs : List (Int × Int)} {es : List Int}
theorem law_first (hP : InP ps) (hs : es.Pairwise (· < ·)) (he : ∀ x ∈ edgeNs ps, x ∈ es) : plainE es (es.map (isIn ps)) = settledS ps := by
  obtain ⟨a, b⟩ := plainE_ok hs (edged_isIn he)
  obtain ⟨c, d⟩ := settled_ok hP
  exact norm_uniq a c fun x => by rw [b, d]
theorem law_joined (hP : InP ps) (hQ : InP qs) (hs : es.Pairwise (· < ·)) (he : ∀ x ∈ edgeNs ps, x ∈ es) (he' : ∀ x ∈ edgeNs qs, x ∈ es) : plainS (settledS ps ++ settledS qs) 0 = plainE es (es.map fun n => isIn ps n || isIn qs n) := by
  obtain ⟨a, b⟩ := plainE_ok hs ((edged_isIn he).of2 (· || ·) (edged_isIn he') rfl)
  obtain ⟨c, d⟩ := plainS_ok (settledS ps ++ settledS qs) 0
  have hI : InP (settledS ps ++ settledS qs) := fun q hq => by
    rcases List.mem_append.mp hq with hq | hq
    · have := settled_in hP q hq; have := (settled_ok hP).1.le q hq; lia
    · have := settled_in hQ q hq; have := (settled_ok hQ).1.le q hq; lia
  refine norm_uniq c a fun x => ?_
  rw [d, ends_mem hI.star (Int.le_refl _), meant_plain hI, b, isIn_mem (fun q hq => ?_), mem_app, (settled_ok hP).2, (settled_ok hQ).2, Bool.or_eq_true]
  rcases List.mem_append.mp hq with hq | hq
  · exact (settled_ok hP).1.le q hq
  · exact (settled_ok hQ).1.le q hq
theorem law_cut (hP : InP ps) (hQ : InP qs) (hs : es.Pairwise (· < ·)) (he : ∀ x ∈ edgeNs ps, x ∈ es) (he' : ∀ x ∈ edgeNs qs, x ∈ es) : cutS (settledS ps) (settledS qs) = plainE es (es.map fun n => isIn ps n && isIn qs n) := by
  obtain ⟨a, b⟩ := plainE_ok hs ((edged_isIn he).of2 (· && ·) (edged_isIn he') rfl)
  obtain ⟨c, d⟩ := cutS_ok _ _ _ (Nat.le_refl _) (settled_ok hP).1 (settled_ok hQ).1
  refine norm_uniq c a fun x => ?_
  rw [d, b, (settled_ok hP).2, (settled_ok hQ).2, Bool.and_eq_true]
theorem law_less (hP : InP ps) (hQ : InP qs) (hs : es.Pairwise (· < ·)) (he : ∀ x ∈ edgeNs ps, x ∈ es) (he' : ∀ x ∈ edgeNs qs, x ∈ es) : lessS (settledS ps) (settledS qs) = plainE es (es.map fun n => isIn ps n && !isIn qs n) := by
  obtain ⟨a, b⟩ := plainE_ok hs ((edged_isIn he).of2 (fun x y => x && !y) (edged_isIn he') rfl)
  obtain ⟨c, d⟩ := lessS_ok (settled_ok hP).1 (settled_ok hQ).1
  refine norm_uniq c a fun x => ?_
  rw [d, b, (settled_ok hP).2, (settled_ok hQ).2, Bool.and_eq_true, Bool.not_eq_true', Bool.not_eq_true]
theorem law_plainG {g : Int} (h : InS ps) (hg : 0 ≤ g) (hs : es.Pairwise (· < ·)) (he : ∀ x, x ∈ es ↔ x ∈ edgeNs (meantS ps g)) : plainS ps g = plainE es (es.map (isIn (meantS ps g))) := by
  obtain ⟨a, b⟩ := plainE_ok hs (edged_isIn (ps := meantS ps g) fun x hx => (he x).mpr hx)
  obtain ⟨c, d⟩ := plainS_ok ps g
  exact norm_uniq c a fun x => by rw [d, b, ends_mem h hg]
theorem law_has {g n : Int} (h : InS ps) (hg : 0 ≤ g) : hasS ps n g = isIn (meantS ps g) n := by
  rw [Bool.eq_iff_iff, ← ends_mem h hg]
  unfold hasS Mem
  rw [List.any_eq_true]
  simp
end
end Mini
end

section
open PySem PySem.W PyProof.Rows
set_option maxRecDepth 100000
namespace Mini
noncomputable def F227 (p : Params) : FuncData := fdAt ((KP p).lookup 227)
/-- the law's own context -/
noncomputable def lawCx (p : Params) (L f : Addr) (B0 : Heap) (A0 : Around) (outer : List Env) (mu : List Addr) (I : Nat → Heap → Prop) (mg mb : Str → Option Value) (r : Nat) (G : Shared) : Cx :=
  { B := B0, A := A0, env := callEnvC (F227 p) L f, outer := outer, mu := mu, I := I, mg := mg, mb := mb, r := r, K := KP p, G := G }
section
variable {prog : Program} {w : World} {C : Cx} {ρ : Rho} {σ : Nat} {X : Int → Prop} {p : Params}
theorem cj_switch {I' : Nat → Heap → Prop} {n B : Nat} {f : Value} {Vs : List V} {Q : V → Nat → Prop} (hl : ∀ σ h h', (∀ a ∈ C.mu, ∀ o, h.get? a = some o → h'.get? a = some o) → I' σ h → I' σ h') (hin : ∀ h, C.I σ h → I' n h) (hout : ∀ m h, I' m h → C.I B h)
    (h : CJ prog w (C.wi I') ρ f Vs n X (fun W _ => Q W B)) : CJ prog w C ρ f Vs σ X Q := fun ok s own Qc Ec vs st r po ex =>
  h (ok.wi hl) s own Qc Ec vs (st.wi (hin _ st.i)) r (fun v W m s' t rr q => po v W B s' (t.unwi (hout _ _ t.i)) rr q) (fun n e b s' hx f => ex n e b s' hx (f.unwi fun m h hi => ⟨_, hout m h hi⟩))
theorem jw_switch {I' : Nat → Heap → Prop} {n B : Nat} {t : Sem Flow} {Q : Out → Rho → Nat → Prop} (hl : ∀ σ h h', (∀ a ∈ C.mu, ∀ o, h.get? a = some o → h'.get? a = some o) → I' σ h → I' σ h') (hin : ∀ h, C.I σ h → I' n h) (hout : ∀ m h, I' m h → C.I B h)
    (h : JW prog w (C.wi I') ρ t n X (fun o ρ' _ => Q o ρ' B)) : JW prog w C ρ t σ X Q := fun ok sp s own Qc Ec st ps ex =>
  h (ok.wi hl) sp.wi s own Qc Ec (st.wi (hin _ st.i)) (fun f o ρ' σ' s' own' st' r q => ps f o ρ' B s' own' (st'.unwi (hout _ _ st'.i)) (by cases o <;> exact r) q) (fun n e b s' hx f => ex n e b s' hx (f.unwi fun m h hi => ⟨_, hout m h hi⟩))

theorem we_faultlam {np pos : Pos} {n : Nat} {P c : Addr} {keys : List (Nat × Nat)} {t : LamT} {ρf : Rho} {X' : Int → Prop} {Q : V → Nat → Prop} (B : Bs p C) (hx : C.env.kindOf "_law_fault" = some .globalImplicit) (pn : Pin C [P] (TabP P keys)) (tp : TopOk C) (CH : CodeHd C.B c P) (hcode : C.env.code = .ref c) (hPm : P ≠ mainGlobals)
    (hk : keys.drop n = (t.pos.line, t.pos.col) :: keys.drop (n + 1)) (nd : keys.Nodup) (hdef : defaultsOf t.params C.env = ([], [])) (hcl : closureFor t.scope C.env = pure t.cl)
    (hr : 1 < C.r) (lo : LamOk "<lambda>" (C.env.qual ++ "<lambda>") t.params t.body t.scope t.cl) (hco : ClOk C.env t.cl) (hn : LamNs C.env ρ t.scope t.cl ρf)
    (hbody : ∀ C2 : Cx, Bs p C2 → C2.r = C.r - 2 → C2.env.scope = t.scope → WE prog w C2 ρf t.body 0 X' (fun _ _ => Q .none (n + 1))) (hq : ∀ k, X' k → Q (.int k) (n + 1)) : WE prog w C ρ (.Call (.Name "_law_fault" np) [lamE t] [] pos) n X Q := fun ok s own Qc Ec st po ex => by
  obtain ⟨o, ho, hd⟩ := e212 B
  refine call_name ok st hx (.inl (n__law_fault B)) (by decide) (trees := [(false, eval (lamE t) C.env)]) rfl (Calls.callWith_function (o := o) (fd := F212 p) (Calls.evalArgs_plain (Calls.spliced_cons ?_)))
  refine lam_make ok st pn tp CH hcode hPm hk nd hdef hcl fun f c' s' t' hl n1 n2 => Calls.spliced_nil ⟨⟨t'.inv.base _ _ (ok.kin _ _ ho), hd⟩, ?_⟩
  refine f_fault (ρ := ρ) (σ := n + 1) B hr lo hco hn hbody hq ok (st.to t') hl (.inl fun b hb q => ?_) (po.to t') (ex.to st.ap t')
  have hnb : s.heap.get? b = none := by rcases hb with rfl | rfl <;> assumption
  exact st.avoid_fresh hnb q
end

section
variable {prog : Program} {w : World} {ρ : Rho} {σ : Nat} {X : Int → Prop} {p : Params} {U A : Addr} {L f : Addr} {B0 : Heap} {A0 : Around} {outer : List Env} {mu : List Addr} {I : Nat → Heap → Prop} {mg mb : Str → Option Value} {r : Nat} {G : Shared}
/-- tables, grown in any way -/
noncomputable def Grown2 (h : Heap) : Prop := TabP 219 [] 0 h ∧ TabP 224 [] 0 h
theorem TabP.any {P : Addr} {keys : List (Nat × Nat)} {n : Nat} {h : Heap} (x : TabP P keys n h) : TabP P [] 0 h := by
  obtain ⟨ps, a, b, _⟩ := x
  exact ⟨ps, a, b, fun _ hp => by simp at hp⟩
theorem TabP.keep {P : Addr} {keys : List (Nat × Nat)} {n : Nat} {h h' : Heap} (x : TabP P keys n h) (k : ∀ o, h.get? P = some o → h'.get? P = some o) : TabP P keys n h' := by
  obtain ⟨ps, a, b⟩ := x
  exact ⟨ps, k _ a, b⟩

set_option maxHeartbeats 4000000 in
theorem law_tail {ps qs : List (Int × Int)} (B : Bs p (lawCx p L f B0 A0 outer mu I mg mb r G)) (tp : TopOk (lawCx p L f B0 A0 outer mu I mg mb r G)) (CH : CodeHd B0 221 219) (u : Urn (lawCx p L f B0 A0 outer mu I mg mb r G) U A) (hne : U ≠ A) (h219 : 219 ∈ mu) (h224 : 224 ∈ mu)
    (hr : 20 < r) (hP : InP ps) (hQ : InP qs) (hl : ps.length ≤ 8) (hl2 : qs.length ≤ 8) (hσ : σ < 2 ^ 38)
    (hin : ∀ τ h, τ ≤ 2 ^ 40 → I τ h → TabP 219 keysS 0 h ∧ TabP 224 [] 0 h) (hout : ∀ h, Grown2 h → I (2 ^ 41) h) :
    JW prog w (lawCx p L f B0 A0 outer mu I mg mb r G) [("urn", .val (.raw (.ref U))), ("one", .val (.tup (ps.map pr))), ("two", .val (.tup (qs.map pr)))] (execs ((bodyAt (F227 p)).drop 17) (lawCx p L f B0 A0 outer mu I mg mb r G).env) σ X (fun o _ _ => o = .ret (.bool true)) := by
  have hr0 : 1 < (lawCx p L f B0 A0 outer mu I mg mb r G).r := by show 1 < r; lia
  refine JW.of ?_
  refine ws_cons' <| s_tuple <| we_fn rfl (n__law_starred B) (e217 B) <| wa_cons' <| we_name rfl <| wa_cons' <| we_name rfl <| wa_nil <| f_starred u hne B hr0 hP hl (by lia) fun ss at' τ s1 s2 s3 s4 => ⟨_, as_pair (.inl rfl) (.inl rfl), ?_⟩
  have fin : ∀ (g : Int) (υ : Nat), 0 ≤ g → υ ≤ 2 ^ 40 → WS prog w (lawCx p L f B0 A0 outer mu I mg mb r G) [("greatest", .val (.int g)), ("at", .val (.int at')), ("starred", .val (.tup (ss.map pr))), ("two", .val (.tup (qs.map pr)))] ((bodyAt (F227 p)).drop 19) υ X (fun o _ _ => o = .ret (.bool true)) := fun g υ hg hυ => by
    refine ws_cons' <| s_return' <| we_fn rfl (n__law_stars_hold B) (e222 B) <| wa_cons' <| we_name rfl <| wa_cons' <| we_name rfl <| wa_cons' <| we_name rfl <| wa_cons' <| we_name rfl <| wa_nil ?_
    refine cj_switch (I' := fun n h => TabP 219 keysS n h ∧ TabP 224 [] 0 h) (n := 0) (B := 2 ^ 41) (fun n h h' k hi => ⟨hi.1.keep (k 219 h219), hi.2.keep (k 224 h224)⟩) (fun h hi => hin υ h hυ hi) (fun m h hi => hout h ⟨hi.1.any, hi.2⟩) ?_
    refine f_stars_hold (C := (lawCx p L f B0 A0 outer mu I mg mb r G).wi fun n h => TabP 219 keysS n h ∧ TabP 224 [] 0 h) ⟨B.K, B.g, B.b⟩ tp CH ⟨fun a ha => by obtain rfl := List.mem_singleton.mp ha; exact h219, fun n h hi => hi.1, fun n m h h' _ hi hP' k => ⟨hP', hi.2.keep (k 224 h224 (by decide))⟩⟩ (by show 9 < r; lia) (by lia) (by lia) s3 (noStar hQ) plain_le (fun es e1 e2 => law_plainG s2 hg e1 e2) (fun n => law_has s2 hg) fun τ => rfl
  refine ws_cons' <| s_assign' (.inl rfl) ?_
  refine we_at' ?_ (fun _ _ => sub_call)
  refine wl_of' ?_
  refine we_tuple' ?_
  refine wa_cons' <| we_int <| wa_cons' <| we_MOST B rfl <| wa_cons' <| we_bin' <| we_int <| we_pull u hne B (by show 0 < r; lia) rfl rfl <| we_MOST B rfl ⟨_, rfl, by lia, by lia, by lia, fun a a0 a1 => o_add <| wa_cons' <| we_int <| wa_nil ⟨by simp, _, rfl, ?_⟩⟩
  refine we_pullc u hne B (by show 0 < r; lia) rfl rfl (by lia) (by lia) (by lia) fun k k0 k1 => ⟨k.toNat, by rw [Int.toNat_of_nonneg k0], by simp, ?_⟩
  have hk : k = 0 ∨ k = 1 ∨ k = 2 ∨ k = 3 := by lia
  rcases hk with rfl | rfl | rfl | rfl
  · exact ⟨_, rfl, JS.via (fin _ _ (by lia) (by lia)) ⟨rfl, rfl, rfl, rfl, trivial⟩⟩
  · exact ⟨_, rfl, JS.via (fin _ _ (by lia) (by lia)) ⟨rfl, rfl, rfl, rfl, trivial⟩⟩
  · exact ⟨_, rfl, JS.via (fin _ _ (by lia) (by lia)) ⟨rfl, rfl, rfl, rfl, trivial⟩⟩
  · exact ⟨_, rfl, JS.via (fin _ _ (by lia) (by lia)) ⟨rfl, rfl, rfl, rfl, trivial⟩⟩
end
end Mini
end

section
open PySem PySem.W PyProof.Rows
set_option maxRecDepth 100000
namespace Mini
noncomputable def keysL : List (Nat × Nat) := [(275, 22)]
/-- the law's state: the draws; no lambda made -/
noncomputable def I1 (U A : Addr) (σ : Nat) (h : Heap) : Prop := (σ ≤ 2 ^ 40 → UrnOk U A σ h ∧ TabP 219 keysS 0 h ∧ TabP 224 keysL 0 h) ∧ Grown2 h
noncomputable def I2 (U A : Addr) (σ : Nat) (h : Heap) : Prop := (σ ≤ 2 ^ 40 → UrnOk U A σ h ∧ TabP 219 keysS 0 h) ∧ Grown2 h
noncomputable def Iph (U A : Addr) (σ : Nat) (n : Nat) (h : Heap) : Prop := (n ≤ 1 → UrnOk U A σ h ∧ TabP 219 keysS 0 h) ∧ TabP 224 keysL n h ∧ TabP 219 [] 0 h
theorem UrnOk.keep {U A : Addr} {σ : Nat} {h h' : Heap} (u : UrnOk U A σ h) (k : ∀ b ∈ [U, A], ∀ o, h.get? b = some o → h'.get? b = some o) : UrnOk U A σ h' := by
  obtain ⟨d, a, b⟩ := u
  exact ⟨d, a.keep k, b⟩
theorem Grown2.keep {h h' : Heap} (g : Grown2 h) (k : ∀ b ∈ ([219, 224] : List Addr), ∀ o, h.get? b = some o → h'.get? b = some o) : Grown2 h' := ⟨g.1.keep (k 219 (by simp)), g.2.keep (k 224 (by simp))⟩
section
variable {prog : Program} {w : World} {ρ : Rho} {σ : Nat} {X : Int → Prop} {p : Params} {U A : Addr} {L f : Addr} {B0 : Heap} {A0 : Around} {outer : List Env} {mu : List Addr} {I : Nat → Heap → Prop} {mg mb : Str → Option Value} {r : Nat} {G : Shared}
theorem JW.via {C : Cx} {ρ ρ' : Rho} {t : Sem Flow} {Q : Out → Rho → Nat → Prop} (h : JW prog w C ρ' t σ X Q) (hs : Sub ρ' ρ) : JW prog w C ρ t σ X Q := fun ok sp s own Qc Ec st ps ex => h ok sp s own Qc Ec (st.sub hs) ps ex
theorem law_switch {I' : Nat → Heap → Prop} {n B : Nat} {t : Sem Flow} {Q : Out → Rho → Nat → Prop} (hl : ∀ σ h h', (∀ a ∈ mu, ∀ o, h.get? a = some o → h'.get? a = some o) → I' σ h → I' σ h') (hin : ∀ h, I σ h → I' n h) (hout : ∀ m h, I' m h → I B h)
    (h : JW prog w (lawCx p L f B0 A0 outer mu I' mg mb r G) ρ t n X (fun o ρ' _ => Q o ρ' B)) : JW prog w (lawCx p L f B0 A0 outer mu I mg mb r G) ρ t σ X Q :=
  jw_switch (C := lawCx p L f B0 A0 outer mu I mg mb r G) (I' := I') hl hin hout h
/-- the places of the four changing objects -/
structure Four (mu : List Addr) (U A : Addr) : Prop where
  t1 : 219 ∈ mu
  t2 : 224 ∈ mu
  u : U ∈ mu
  a : A ∈ mu
  ne : U ≠ A
  u1 : U ≠ 219
  u2 : U ≠ 224
  a1 : A ≠ 219
  a2 : A ≠ 224
theorem Four.ua (F : Four mu U A) : ∀ b ∈ [U, A], b ∈ mu := fun b hb => by
  rcases List.mem_cons.mp hb with rfl | hb
  · exact F.u
  · obtain rfl := List.mem_singleton.mp hb; exact F.a
theorem Four.tt (F : Four mu U A) : ∀ b ∈ ([219, 224] : List Addr), b ∈ mu := fun b hb => by
  rcases List.mem_cons.mp hb with rfl | hb
  · exact F.t1
  · obtain rfl := List.mem_singleton.mp hb; exact F.t2
theorem Four.n1 (F : Four mu U A) : (219 : Addr) ∉ [U, A] := fun q => by
  rcases List.mem_cons.mp q with e | q
  · exact F.u1 e.symm
  · exact F.a1 (List.mem_singleton.mp q).symm
theorem Four.n2 (F : Four mu U A) : (224 : Addr) ∉ [U, A] := fun q => by
  rcases List.mem_cons.mp q with e | q
  · exact F.u2 e.symm
  · exact F.a2 (List.mem_singleton.mp q).symm
theorem Four.nt (F : Four mu U A) : ∀ b ∈ ([219, 224] : List Addr), b ∉ [U, A] := fun b hb => by
  rcases List.mem_cons.mp hb with rfl | hb
  · exact F.n1
  · obtain rfl := List.mem_singleton.mp hb; exact F.n2
theorem urn1 (F : Four mu U A) : Urn (lawCx p L f B0 A0 outer mu (I1 U A) mg mb r G) U A := ⟨F.ua, fun n h hi hn => (hi.1 hn).1, fun n m h h' le hi hP k => ⟨fun hm => ⟨hP hm, (hi.1 (by lia)).2.1.keep (k 219 F.t1 F.n1), (hi.1 (by lia)).2.2.keep (k 224 F.t2 F.n2)⟩, hi.2.keep fun b hb => k b (F.tt b hb) (F.nt b hb)⟩⟩
theorem urn2 (F : Four mu U A) : Urn (lawCx p L f B0 A0 outer mu (I2 U A) mg mb r G) U A := ⟨F.ua, fun n h hi hn => (hi.1 hn).1, fun n m h h' le hi hP k => ⟨fun hm => ⟨hP hm, (hi.1 (by lia)).2.keep (k 219 F.t1 F.n1)⟩, hi.2.keep fun b hb => k b (F.tt b hb) (F.nt b hb)⟩⟩
theorem loc1 (F : Four mu U A) : ∀ σ h h', (∀ a ∈ mu, ∀ o, h.get? a = some o → h'.get? a = some o) → I1 U A σ h → I1 U A σ h' := fun σ h h' k hi => ⟨fun hn => ⟨(hi.1 hn).1.keep fun b hb => k b (F.ua b hb), (hi.1 hn).2.1.keep (k 219 F.t1), (hi.1 hn).2.2.keep (k 224 F.t2)⟩, hi.2.keep fun b hb => k b (F.tt b hb)⟩
theorem loc2 (F : Four mu U A) : ∀ σ h h', (∀ a ∈ mu, ∀ o, h.get? a = some o → h'.get? a = some o) → I2 U A σ h → I2 U A σ h' := fun σ h h' k hi => ⟨fun hn => ⟨(hi.1 hn).1.keep fun b hb => k b (F.ua b hb), (hi.1 hn).2.keep (k 219 F.t1)⟩, hi.2.keep fun b hb => k b (F.tt b hb)⟩
theorem locph (F : Four mu U A) : ∀ n h h', (∀ a ∈ mu, ∀ o, h.get? a = some o → h'.get? a = some o) → Iph U A σ n h → Iph U A σ n h' := fun n h h' k hi => ⟨fun hn => ⟨(hi.1 hn).1.keep fun b hb => k b (F.ua b hb), (hi.1 hn).2.keep (k 219 F.t1)⟩, hi.2.1.keep (k 224 F.t2), hi.2.2.keep (k 219 F.t1)⟩
theorem pinph (F : Four mu U A) : Pin (lawCx p L f B0 A0 outer mu (Iph U A σ) mg mb r G) [224] (TabP 224 keysL) := ⟨fun a ha => by obtain rfl := List.mem_singleton.mp ha; exact F.t2, fun n h hi => hi.2.1, fun n m h h' le hi hP k =>
  ⟨fun hm => ⟨(hi.1 (by lia)).1.keep fun b hb => k b (F.ua b hb) (fun q => F.n2 (by rw [List.mem_singleton.mp q] at hb; exact hb)), (hi.1 (by lia)).2.keep (k 219 F.t1 (by decide))⟩, hP, hi.2.2.keep (k 219 F.t1 (by decide))⟩⟩

set_option maxHeartbeats 4000000 in
theorem law_16 {ps qs : List (Int × Int)} (B : ∀ I, Bs p (lawCx p L f B0 A0 outer mu I mg mb r G)) (tp : ∀ I, TopOk (lawCx p L f B0 A0 outer mu I mg mb r G)) (CH : CodeHd B0 221 219) (CH2 : CodeHd B0 226 224) (F : Four mu U A)
    (hr : 20 < r) (hP : InP ps) (hQ : InP qs) (hl : ps.length ≤ 8) (hl2 : qs.length ≤ 8) (hσ : σ < 2 ^ 38) :
    JW prog w (lawCx p L f B0 A0 outer mu (I1 U A) mg mb r G) [("urn", .val (.raw (.ref U))), ("one", .val (.tup (ps.map pr))), ("two", .val (.tup (qs.map pr))), ("first", .val (.tup ((settledS ps).map pr))), ("second", .val (.tup ((settledS qs).map pr))), ("sizes", .val (.tup [.int (rankS (settledS ps) MOST), .int (rankS (settledS qs) MOST)]))] (execs ((bodyAt (F227 p)).drop 16) (lawCx p L f B0 A0 outer mu (I1 U A) mg mb r G).env) σ X (fun o _ _ => o = .ret (.bool true)) := by
  have sA := (count_all (settled_ok hP).1 (settled_in hP)).size
  have sZ := (count_all (settled_ok hQ).1 (settled_in hQ)).size
  have s1 := noStar hP
  have s2 := noStar hQ
  have tail : JW prog w (lawCx p L f B0 A0 outer mu (I2 U A) mg mb r G) [("urn", .val (.raw (.ref U))), ("one", .val (.tup (ps.map pr))), ("two", .val (.tup (qs.map pr)))] (execs ((bodyAt (F227 p)).drop 17) (lawCx p L f B0 A0 outer mu (I2 U A) mg mb r G).env) σ X (fun o _ _ => o = .ret (.bool true)) :=
    law_tail (B _) (tp _) CH (urn2 F) F.ne F.t1 F.t2 hr hP hQ hl hl2 hσ (fun τ h hτ hi => ⟨(hi.1 hτ).2, hi.2.2⟩) fun h g => ⟨fun hn => absurd hn (by decide), g⟩
  by_cases hsz : rankS (settledS ps) MOST = rankS (settledS qs) MOST
  · refine law_switch (I' := I2 U A) (n := σ) (B := 2 ^ 41) (loc2 F) (fun h hi => ⟨fun hn => ⟨(hi.1 hn).1, (hi.1 hn).2.1⟩, hi.2⟩) (fun m h hi => ⟨fun hn => absurd hn (by decide), hi.2⟩) ?_
    refine jw_cons <| JW.of <| s_if' <| wt_cmp' <| we_p0' <| we_name rfl ⟨_, _, rfl, we_p1' <| we_name rfl ⟨_, _, rfl, o_ne' ⟨_, rfl, br2 (fun c => absurd hsz c) fun c => ?_⟩⟩⟩
    refine ws_cons' <| s_if' <| wt_not' <| wt_val <| we_fn rfl (n__law_is_paired (B _)) (e205 (B _)) <| wa_cons' <| we_name rfl <| wa_cons' <| we_name rfl <| wa_cons' <| we_name rfl <| wa_cons' <| we_name rfl <| wa_nil <| f_is_paired (B _) (by show 6 < r; lia) (by lia) s1 s2 (plain_le _ _) (plain_le _ _) (by rw [sA, sZ, hsz]) (paired_all (settled_ok hP).1 (settled_ok hQ).1 (settled_in hP) (settled_in hQ) (by rw [sA, sZ, hsz])) ⟨_, rfl, ?_⟩
    exact ws_nil <| ws_nil <| JW.via tail ⟨rfl, rfl, rfl, trivial⟩
  · refine law_switch (I' := Iph U A σ) (n := 0) (B := 2 ^ 41) (locph F) (fun h hi => ⟨fun hn => ⟨(hi.1 (by lia)).1, (hi.1 (by lia)).2.1⟩, (hi.1 (by lia)).2.2, hi.2.1⟩) (fun m h hi => ⟨fun hn => absurd hn (by decide), hi.2.2, hi.2.1.any⟩) ?_
    have nx : ∀ {qs : List (Int × Int)}, star? qs = none → ∀ i : Nat, star? qs = some i → ((i : Int) = min (rankS (settledS ps) MOST) (rankS (settledS qs) MOST)) := fun e i h => by rw [e] at h; cases h
    refine jw_cons <| JW.of <| s_if' <| wt_cmp' <| we_p0' <| we_name rfl ⟨_, _, rfl, we_p1' <| we_name rfl ⟨_, _, rfl, o_ne' ⟨_, rfl, br2 (fun c => ?_) fun c => absurd (by simpa using c) hsz⟩⟩⟩
    refine ws_cons' <| s_if' <| wt_cmp' <| we_faultlam (t := ⟨_, _, _, _, _⟩) (c := 226) (P := 224) (keys := keysL) (ρf := [("one", .val (.tup (ps.map pr))), ("two", .val (.tup (qs.map pr)))]) (X' := fun k => k = min (rankS (settledS ps) MOST) (rankS (settledS qs) MOST)) (B _) rfl (pinph F) (tp _) CH2 rfl (by decide) rfl (by decide) rfl rfl (by show 1 < r; lia) (lamok rfl rfl rfl rfl rfl) ⟨rfl, rfl, trivial⟩ ⟨⟨⟨_, rfl⟩, rfl, rfl, rfl, rfl, rfl⟩, ⟨⟨_, rfl⟩, rfl, rfl, rfl, rfl, rfl⟩, trivial⟩ (fun C2 B2 h2 hsc => ?_) fun k hk => ?_
    · have kd : ∀ x, C2.env.kindOf x = _ := fun x => by show C2.env.scope.names.lookup x = _; rw [hsc]
      have h2' : 6 < C2.r := by rw [h2]; show 6 < r - 2; lia
      refine we_fn ((kd _).trans rfl) (n_matched_pairs B2) (e131 B2) <| wa_cons' <| we_name rfl <| wa_cons' <| we_name rfl <| wa_nil <| f_matched (b := true) (c := true) B2 (by lia) rfl rfl (by lia) (fun i h => by rw [s1] at h; cases h) (fun _ i h => by rw [s2] at h; cases h) (plain_le _ _) (plain_le _ _) (fun _ _ _ => by rw [sA, sZ]) fun _ _ e => absurd (by rw [← sA, ← sZ, e]) hsz
    · rw [hk]
      refine we_call1' rfl (n_min (B _)) <| we_name rfl <| c_min2 <| o_ne' ⟨_, rfl, br2 (fun c => absurd rfl c) fun c => ws_nil <| ws_nil ?_⟩
      refine law_switch (I' := I2 U A) (n := σ) (B := 2) (loc2 F) (fun h hi => ⟨fun hn => hi.1 (by lia), hi.2.2, hi.2.1.any⟩) (fun m h hi => ⟨fun hn => absurd hn (by decide), ?_, hi.2.1⟩) ?_
      · obtain ⟨ps', a, b, _⟩ := hi.2.2
        exact ⟨ps', a, b, fun _ hp => by simp [keysL] at hp⟩
      · exact JW.via tail ⟨rfl, rfl, rfl, trivial⟩
end
end Mini
end

section
open PySem PySem.W PyProof.Rows
set_option maxRecDepth 100000
namespace Mini
theorem take_snocI {es : List Int} {f : Int → Bool} {i : Nat} (h : i < es.length) : ((es.take i).map f).map V.bool ++ [V.bool (f es[i])] = ((es.take (i + 1)).map f).map V.bool := take_snoc h
theorem bool_at {es : List Int} {f : Int → Bool} {i : Nat} (h : i < es.length) : ((es.map f).map V.bool)[i]? = some (.bool (f es[i])) := by
  rw [List.getElem?_map, List.getElem?_map, List.getElem?_eq_getElem h]; rfl
section
variable {prog : Program} {w : World} {ρ : Rho} {σ : Nat} {X : Int → Prop} {p : Params} {U A : Addr} {L f : Addr} {B0 : Heap} {A0 : Around} {outer : List Env} {mu : List Addr} {mg mb : Str → Option Value} {r : Nat} {G : Shared}

set_option maxHeartbeats 4000000 in
theorem law_9 {ps qs : List (Int × Int)} {es : List Int} (B : ∀ I, Bs p (lawCx p L f B0 A0 outer mu I mg mb r G)) (tp : ∀ I, TopOk (lawCx p L f B0 A0 outer mu I mg mb r G)) (CH : CodeHd B0 221 219) (CH2 : CodeHd B0 226 224) (F : Four mu U A)
    (hr : 20 < r) (hP : InP ps) (hQ : InP qs) (hl : ps.length ≤ 8) (hl2 : qs.length ≤ 8) (hσ : σ < 2 ^ 37) (e1 : es.Pairwise (· < ·)) (e2 : ∀ x, x ∈ es ↔ x ∈ edgeNs (ps ++ qs)) (e3 : es.length < 64) :
    JW prog w (lawCx p L f B0 A0 outer mu (I1 U A) mg mb r G) [("urn", .val (.raw (.ref U))), ("one", .val (.tup (ps.map pr))), ("two", .val (.tup (qs.map pr))), ("edges", .val (.lst (es.map V.int))), ("in_one", .val (.lst ((es.map (isIn ps)).map V.bool))), ("in_two", .val (.lst ((es.map (isIn qs)).map V.bool))), ("first", .val (.tup ((settledS ps).map pr))), ("second", .val (.tup ((settledS qs).map pr)))] (execs ((bodyAt (F227 p)).drop 8) (lawCx p L f B0 A0 outer mu (I1 U A) mg mb r G).env) σ X (fun o _ _ => o = .ret (.bool true)) := by
  have Bx := B (I1 U A)
  have u : Urn (lawCx p L f B0 A0 outer mu (I1 U A) mg mb r G) U A := urn1 F
  have m1 : ∀ x ∈ edgeNs ps, x ∈ es := fun x hx => by
    rw [e2, edge_mem]
    obtain ⟨q, hq, h⟩ := edge_mem.mp hx
    exact ⟨q, by simp [hq], h⟩
  have m2 : ∀ x ∈ edgeNs qs, x ∈ es := fun x hx => by
    rw [e2, edge_mem]
    obtain ⟨q, hq, h⟩ := edge_mem.mp hx
    exact ⟨q, by simp [hq], h⟩
  have s1 := noStar hP
  have s2 := noStar hQ
  have x1 : ∀ i : Nat, star? ps = some i → X i := fun i h => by rw [s1] at h; cases h
  have x2 : ∀ i : Nat, star? qs = some i → X i := fun i h => by rw [s2] at h; cases h
  have lA := plainS_length ps 0
  have lZ := plainS_length qs 0
  have hr5 : 5 < (lawCx p L f B0 A0 outer mu (I1 U A) mg mb r G).r := by show 5 < r; lia
  -- the two sets, settled
  refine jw_cons <| JW.of <| s_if' <| wt_or' <| wt_cmp' <| we_fn rfl (n_settled Bx) (e82 Bx) <| wa_cons' <| we_name rfl <| wa_nil <| f_settled (b := true) (ps := ps) Bx (by lia) rfl (by lia) x1 fun _ => we_name rfl <| o_vne (by simp only [lay]; exact lays_prs _) (by simp only [lay]; exact lays_prs _) (deep_prs _) (deep_prs _) ⟨_, rfl, ?_⟩
  rw [veq_prs, decide_eq_true rfl]
  refine wt_or' <| wt_cmp' <| we_fn rfl (n_settled Bx) (e82 Bx) <| wa_cons' <| we_name rfl <| wa_nil <| f_settled (b := true) (ps := qs) Bx (by lia) rfl (by lia) x2 fun _ => we_name rfl <| o_vne (by simp only [lay]; exact lays_prs _) (by simp only [lay]; exact lays_prs _) (deep_prs _) (deep_prs _) ⟨_, rfl, ?_⟩
  rw [veq_prs, decide_eq_true rfl]
  refine wt_or_nil <| ws_nil ?_
  refine jw_cons <| JW.of <| s_assign' (.inl rfl) <| we_callT1' rfl (n_range Bx) <| we_call1' rfl (n_len Bx) <| wl_of' <| we_name rfl ⟨_, rfl, c_len (by simp; lia) <| c_range (by simp; lia) ?_⟩
  rw [List.length_map]
  -- joined
  refine jw_cons <| JW.of <| s_if' <| wt_cmp' <| we_fn rfl (n_joined_sets Bx) (e110 Bx) <| wa_cons' <| we_name rfl <| wa_cons' <| we_name rfl <| wa_nil <| f_joined (b := true) (c := true) (ps := ps) (qs := qs) Bx (by lia) rfl rfl (by lia) x1 (fun _ => x2) fun _ _ => ?_
  refine we_fn rfl (n__law_plain Bx) (e186 Bx) <| wa_cons' <| we_name rfl <| wa_cons' <| we_wn <| wn_comp ["spot"] false [("in_one", .val (.lst ((es.map (isIn ps)).map V.bool))), ("in_two", .val (.lst ((es.map (isIn qs)).map V.bool)))] (fun Ws acc i τ' => acc = ((es.take i).map fun n => isIn ps n || isIn qs n).map V.bool ∧ τ' = σ) rfl (by unfold ScOk; decide) ⟨rfl, rfl, trivial⟩ ⟨⟨⟨_, rfl⟩, rfl, rfl, fun _ => rfl, rfl⟩, ⟨⟨_, rfl⟩, rfl, rfl, fun _ => rfl, rfl⟩, trivial⟩ (.name _ _) ?_
  refine we_name rfl ⟨_, rfl, by simp; lia, ⟨rfl, rfl⟩, ?_, ?_⟩
  · rintro i W acc τ' hW ⟨rfl, rfl⟩
    obtain ⟨hi, rfl⟩ := range_get hW
    refine ⟨_, rfl, rfl, fun Ca => turn0 <| we_or <| we_at' <| wl_of' <| we_name rfl ⟨_, rfl, we_name rfl ⟨i, rfl, by simp; lia, _, bool_at hi, _, rfl, br (fun c => ?_) fun c => ?_⟩⟩⟩
    · exact ⟨by rw [← take_snocI hi]; simp only [c, Bool.true_or], rfl⟩
    · exact we_at' <| wl_of' <| we_name rfl ⟨_, rfl, we_name rfl ⟨i, rfl, by simp; lia, _, bool_at hi, by rw [← take_snocI hi]; simp only [c, Bool.false_or], rfl⟩⟩
  · rintro acc υ ⟨rfl, rfl⟩
    rw [List.length_map, List.length_range, List.take_length]
    refine wa_nil <| f_plain Bx (by lia) (by simp) (by lia) <| o_vne (by simp only [lay]; exact lays_prs _) (by simp only [lay]; exact lays_prs _) (deep_prs _) (deep_prs _) ⟨_, rfl, ?_⟩
    rw [veq_prs, decide_eq_true (law_joined hP hQ e1 m1 m2)]
    refine ws_nil ?_
    refine jw_cons <| JW.of <| s_if' <| wt_cmp' <| we_fn rfl (n_cut_set Bx) (e117 Bx) <| wa_cons' <| we_name rfl <| wa_cons' <| we_name rfl <| wa_nil <| f_cut (b := true) (c := true) (ps := ps) (qs := qs) Bx (by lia) rfl rfl (by lia) x1 (fun _ => x2) fun _ _ => ?_
    refine we_fn rfl (n__law_plain Bx) (e186 Bx) <| wa_cons' <| we_name rfl <| wa_cons' <| we_wn <| wn_comp ["spot"] false [("in_one", .val (.lst ((es.map (isIn ps)).map V.bool))), ("in_two", .val (.lst ((es.map (isIn qs)).map V.bool)))] (fun Ws acc i τ' => acc = ((es.take i).map fun n => isIn ps n && isIn qs n).map V.bool ∧ τ' = υ) rfl (by unfold ScOk; decide) ⟨rfl, rfl, trivial⟩ ⟨⟨⟨_, rfl⟩, rfl, rfl, fun _ => rfl, rfl⟩, ⟨⟨_, rfl⟩, rfl, rfl, fun _ => rfl, rfl⟩, trivial⟩ (.name _ _) ?_
    refine we_name rfl ⟨_, rfl, by simp; lia, ⟨rfl, rfl⟩, ?_, ?_⟩
    · rintro i W acc τ' hW ⟨rfl, rfl⟩
      obtain ⟨hi, rfl⟩ := range_get hW
      refine ⟨_, rfl, rfl, fun Ca => turn0 <| we_and <| we_at' <| wl_of' <| we_name rfl ⟨_, rfl, we_name rfl ⟨i, rfl, by simp; lia, _, bool_at hi, _, rfl, br (fun c => ?_) fun c => ?_⟩⟩⟩
      · exact we_at' <| wl_of' <| we_name rfl ⟨_, rfl, we_name rfl ⟨i, rfl, by simp; lia, _, bool_at hi, by rw [← take_snocI hi]; simp only [c, Bool.true_and], rfl⟩⟩
      · exact ⟨by rw [← take_snocI hi]; simp only [c, Bool.false_and], rfl⟩
    · rintro acc υ ⟨rfl, rfl⟩
      rw [List.length_map, List.length_range, List.take_length]
      refine wa_nil <| f_plain Bx (by lia) (by simp) (by lia) <| o_vne (by simp only [lay]; exact lays_prs _) (by simp only [lay]; exact lays_prs _) (deep_prs _) (deep_prs _) ⟨_, rfl, ?_⟩
      rw [veq_prs, decide_eq_true (law_cut hP hQ e1 m1 m2)]
      refine ws_nil ?_
      refine jw_cons <| JW.of <| s_if' <| wt_cmp' <| we_fn rfl (n_less_set Bx) (e124 Bx) <| wa_cons' <| we_name rfl <| wa_cons' <| we_name rfl <| wa_nil <| f_less (b := true) (c := true) (ps := ps) (qs := qs) Bx (by lia) rfl rfl (by lia) x2 (fun _ => x1) fun _ _ => ?_
      refine we_fn rfl (n__law_plain Bx) (e186 Bx) <| wa_cons' <| we_name rfl <| wa_cons' <| we_wn <| wn_comp ["spot"] false [("in_one", .val (.lst ((es.map (isIn ps)).map V.bool))), ("in_two", .val (.lst ((es.map (isIn qs)).map V.bool)))] (fun Ws acc i τ' => acc = ((es.take i).map fun n => isIn ps n && !isIn qs n).map V.bool ∧ τ' = υ) rfl (by unfold ScOk; decide) ⟨rfl, rfl, trivial⟩ ⟨⟨⟨_, rfl⟩, rfl, rfl, fun _ => rfl, rfl⟩, ⟨⟨_, rfl⟩, rfl, rfl, fun _ => rfl, rfl⟩, trivial⟩ (.name _ _) ?_
      refine we_name rfl ⟨_, rfl, by simp; lia, ⟨rfl, rfl⟩, ?_, ?_⟩
      · rintro i W acc τ' hW ⟨rfl, rfl⟩
        obtain ⟨hi, rfl⟩ := range_get hW
        refine ⟨_, rfl, rfl, fun Ca => turn0 <| we_and <| we_at' <| wl_of' <| we_name rfl ⟨_, rfl, we_name rfl ⟨i, rfl, by simp; lia, _, bool_at hi, _, rfl, br (fun c => ?_) fun c => ?_⟩⟩⟩
        · exact we_un <| we_at' <| wl_of' <| we_name rfl ⟨_, rfl, we_name rfl ⟨i, rfl, by simp; lia, _, bool_at hi, o_not ⟨by rw [← take_snocI hi]; simp only [c, Bool.true_and], rfl⟩⟩⟩
        · exact ⟨by rw [← take_snocI hi]; simp only [c, Bool.false_and], rfl⟩
      · rintro acc υ ⟨rfl, rfl⟩
        rw [List.length_map, List.length_range, List.take_length]
        refine wa_nil <| f_plain Bx (by lia) (by simp) (by lia) <| o_vne (by simp only [lay]; exact lays_prs _) (by simp only [lay]; exact lays_prs _) (deep_prs _) (deep_prs _) ⟨_, rfl, ?_⟩
        rw [veq_prs, decide_eq_true (law_less hP hQ e1 m1 m2)]
        refine ws_nil ?_
        refine jw_cons <| JW.of <| s_if' <| wt_cmp' <| we_fn rfl (n_less_set Bx) (e124 Bx) <| wa_cons' <| we_name rfl <| wa_cons' <| we_name rfl <| wa_nil <| f_less (b := true) (c := true) (ps := qs) (qs := ps) Bx (by lia) rfl rfl (by lia) x1 (fun _ => x2) fun _ _ => ?_
        refine we_fn rfl (n__law_plain Bx) (e186 Bx) <| wa_cons' <| we_name rfl <| wa_cons' <| we_wn <| wn_comp ["spot"] false [("in_one", .val (.lst ((es.map (isIn ps)).map V.bool))), ("in_two", .val (.lst ((es.map (isIn qs)).map V.bool)))] (fun Ws acc i τ' => acc = ((es.take i).map fun n => isIn qs n && !isIn ps n).map V.bool ∧ τ' = υ) rfl (by unfold ScOk; decide) ⟨rfl, rfl, trivial⟩ ⟨⟨⟨_, rfl⟩, rfl, rfl, fun _ => rfl, rfl⟩, ⟨⟨_, rfl⟩, rfl, rfl, fun _ => rfl, rfl⟩, trivial⟩ (.name _ _) ?_
        refine we_name rfl ⟨_, rfl, by simp; lia, ⟨rfl, rfl⟩, ?_, ?_⟩
        · rintro i W acc τ' hW ⟨rfl, rfl⟩
          obtain ⟨hi, rfl⟩ := range_get hW
          refine ⟨_, rfl, rfl, fun Ca => turn0 <| we_and <| we_at' <| wl_of' <| we_name rfl ⟨_, rfl, we_name rfl ⟨i, rfl, by simp; lia, _, bool_at hi, _, rfl, br (fun c => ?_) fun c => ?_⟩⟩⟩
          · exact we_un <| we_at' <| wl_of' <| we_name rfl ⟨_, rfl, we_name rfl ⟨i, rfl, by simp; lia, _, bool_at hi, o_not ⟨by rw [← take_snocI hi]; simp only [c, Bool.true_and], rfl⟩⟩⟩
          · exact ⟨by rw [← take_snocI hi]; simp only [c, Bool.false_and], rfl⟩
        · rintro acc υ ⟨rfl, rfl⟩
          rw [List.length_map, List.length_range, List.take_length]
          refine wa_nil <| f_plain Bx (by lia) (by simp) (by lia) <| o_vne (by simp only [lay]; exact lays_prs _) (by simp only [lay]; exact lays_prs _) (deep_prs _) (deep_prs _) ⟨_, rfl, ?_⟩
          rw [veq_prs, decide_eq_true (law_less hQ hP e1 m2 m1)]
          refine ws_nil ?_
          refine jw_cons <| JW.of <| s_if' <| wt_or' <| wt_not' <| wt_val <| we_fn rfl (n__law_counts Bx) (e198 Bx) <| wa_cons' <| we_name rfl <| wa_cons' <| we_name rfl <| wa_cons' <| we_name rfl <| wa_nil <| f_counts u F.ne Bx hr5 (by lia) s1 (count_all (settled_ok hP).1 (settled_in hP)) (by lia) fun τ1 h1 => ⟨true, rfl, ?_⟩
          refine wt_or' <| wt_not' <| wt_val <| we_fn rfl (n__law_counts Bx) (e198 Bx) <| wa_cons' <| we_name rfl <| wa_cons' <| we_name rfl <| wa_cons' <| we_name rfl <| wa_nil <| f_counts u F.ne Bx hr5 (by lia) s2 (count_all (settled_ok hQ).1 (settled_in hQ)) (by lia) fun τ2 h2 => ⟨true, rfl, wt_or_nil <| ws_nil ?_⟩
          refine jw_cons <| JW.of <| s_assign' (.inl rfl) <| we_tuple' <| wa_cons' <| we_fn rfl (n__law_rank Bx) (e191 Bx) <| wa_cons' <| we_name rfl <| wa_cons' <| we_MOST Bx rfl <| wa_nil <| f_rank (ps := settledS ps) Bx (by lia) rfl (by unfold settledS; lia) ?_
          refine wa_cons' <| we_fn rfl (n__law_rank Bx) (e191 Bx) <| wa_cons' <| we_name rfl <| wa_cons' <| we_MOST Bx rfl <| wa_nil <| f_rank (ps := settledS qs) Bx (by lia) rfl (by unfold settledS; lia) <| wa_nil ⟨by simp, ?_⟩
          exact JW.via (law_16 B tp CH CH2 F hr hP hQ hl hl2 (by lia)) ⟨rfl, rfl, rfl, rfl, rfl, rfl, trivial⟩

set_option maxHeartbeats 4000000 in
theorem law_1 (B : ∀ I, Bs p (lawCx p L f B0 A0 outer mu I mg mb r G)) (tp : ∀ I, TopOk (lawCx p L f B0 A0 outer mu I mg mb r G)) (CH : CodeHd B0 221 219) (CH2 : CodeHd B0 226 224) (F : Four mu U A) (hr : 20 < r) :
    JW prog w (lawCx p L f B0 A0 outer mu (I1 U A) mg mb r G) [("urn", .val (.raw (.ref U)))] (execs ((bodyAt (F227 p)).drop 1) (lawCx p L f B0 A0 outer mu (I1 U A) mg mb r G).env) 0 X (fun o _ _ => o = .ret (.bool true)) := by
  have Bx := B (I1 U A)
  have u : Urn (lawCx p L f B0 A0 outer mu (I1 U A) mg mb r G) U A := urn1 F
  have hne := F.ne
  have hr1 : 1 < (lawCx p L f B0 A0 outer mu (I1 U A) mg mb r G).r := by show 1 < r; lia
  have hr0 : 0 < (lawCx p L f B0 A0 outer mu (I1 U A) mg mb r G).r := by lia
  refine jw_cons <| JW.of <| s_swap' (names := ["bare", "way", "alike"]) (fun x hx => ?_) <| we_tuple' <| wa_cons' <| we_pullc u hne Bx hr0 rfl rfl (by lia) (by lia) (by lia) fun b b0 b1 => wa_cons' <| we_pullc u hne Bx hr0 rfl rfl (by lia) (by lia) (by lia) fun wy w0 w1 => wa_cons' <| we_pullc u hne Bx hr0 rfl rfl (by lia) (by lia) (by lia) fun al a0 a1 => wa_nil ⟨by simp, _, rfl, rfl, ?_⟩
  · rcases List.mem_cons.mp hx with rfl | hx
    · exact .inl rfl
    · rcases List.mem_cons.mp hx with rfl | hx
      · exact .inl rfl
      · obtain rfl := List.mem_singleton.mp hx; exact .inl rfl
  -- from the lengths on
  have rest : ∀ (ls : List Int) (τ : Nat), ls.length ≤ 3 → Lens ls → τ ≤ 100 → JW prog w (lawCx p L f B0 A0 outer mu (I1 U A) mg mb r G) [("lengths", .val (.lst (ls.map V.int))), ("urn", .val (.raw (.ref U))), ("bare", .val (.int b)), ("alike", .val (.int al))] (execs ((bodyAt (F227 p)).drop 3) (lawCx p L f B0 A0 outer mu (I1 U A) mg mb r G).env) τ X (fun o _ _ => o = .ret (.bool true)) := fun ls τ hl hL hτ => by
    have rest2 : ∀ (os : List Int) (υ : Nat), Lens4 os → υ ≤ 200 → JW prog w (lawCx p L f B0 A0 outer mu (I1 U A) mg mb r G) [("others", .val (.lst (os.map V.int))), ("lengths", .val (.lst (ls.map V.int))), ("urn", .val (.raw (.ref U)))] (execs ((bodyAt (F227 p)).drop 4) (lawCx p L f B0 A0 outer mu (I1 U A) mg mb r G).env) υ X (fun o _ _ => o = .ret (.bool true)) := fun os υ hO hυ => by
      have hO4 := hO.2.2
      refine jw_cons <| JW.of <| s_tuple <| we_tuple' <| wa_cons' <| we_fn rfl (n__law_pairs Bx) (e167 Bx) <| wa_cons' <| we_name rfl <| wa_cons' <| we_fn rfl (n__law_stretches Bx) (e160 Bx) <| wa_cons' <| we_name rfl <| wa_cons' <| we_name rfl <| wa_nil <| f_stretches u hne Bx hr1 (hL.four (by lia)) (by lia) fun s1 t1 l1 i1 h1 => wa_nil <| f_pairs u hne Bx hr1 i1 (by lia) (by lia) fun ps t2 lp iP h2 => ?_
      refine wa_cons' <| we_fn rfl (n__law_pairs Bx) (e167 Bx) <| wa_cons' <| we_name rfl <| wa_cons' <| we_fn rfl (n__law_stretches Bx) (e160 Bx) <| wa_cons' <| we_name rfl <| wa_cons' <| we_name rfl <| wa_nil <| f_stretches u hne Bx hr1 hO (by lia) fun s3 t3 l3 i3 h3 => wa_nil <| f_pairs u hne Bx hr1 i3 (by lia) (by lia) fun qs t4 lq iQ h4 => wa_nil ⟨by simp, _, as_pair (.inr ⟨rfl, rfl⟩) (.inr ⟨rfl, rfl⟩), ?_⟩
      refine jw_cons <| JW.of <| s_assign' (.inl rfl) <| we_fn rfl (n__law_edges Bx) (e174 Bx) <| wa_cons' <| we_bin' <| we_name rfl <| we_name rfl <| o_addT (by simp; lia) <| wa_nil <| f_edges (ps := ps ++ qs) Bx hr0 (by rw [List.map_append]; rfl) (by simp; lia) fun es e1 e2 e3 => ?_
      have m1 : ∀ x ∈ edgeNs ps, x ∈ es := fun x hx => by
        rw [e2, edge_mem]
        obtain ⟨q, hq, h⟩ := edge_mem.mp hx
        exact ⟨q, by simp [hq], h⟩
      have m2 : ∀ x ∈ edgeNs qs, x ∈ es := fun x hx => by
        rw [e2, edge_mem]
        obtain ⟨q, hq, h⟩ := edge_mem.mp hx
        exact ⟨q, by simp [hq], h⟩
      refine jw_cons <| JW.of <| s_tuple <| we_tuple' <| wa_cons' <| we_wn <| wn_comp ["number"] false [("one", .val (.tup (ps.map pr)))] (fun Ws acc i τ' => acc = ((es.take i).map (isIn ps)).map V.bool ∧ τ' = t4) rfl (by unfold ScOk; decide) ⟨rfl, trivial⟩ ⟨⟨⟨_, rfl⟩, rfl, rfl, fun _ => rfl, rfl⟩, trivial⟩ (.name _ _) ?_
      refine we_name rfl ⟨_, rfl, by simp; lia, ⟨rfl, rfl⟩, ?_, ?_⟩
      · rintro i W acc τ' hW ⟨rfl, rfl⟩
        obtain ⟨hi', rfl⟩ := map_get hW
        refine ⟨_, rfl, rfl, fun Ca => ?_⟩
        have B2 := fun sc cl => Bx.comp sc cl Ca
        refine turn0 <| we_fn rfl (n__law_is_in (B2 _ _)) (e179 (B2 _ _)) <| wa_cons' <| we_name rfl <| wa_cons' <| we_name rfl <| wa_nil <| f_is_in (ps := ps) (B2 _ _) hr0 rfl (by lia) ⟨?_, rfl⟩
        rw [take_snoc hi']
      rintro acc υ2 ⟨rfl, rfl⟩
      rw [List.length_map, List.take_length]
      refine wa_cons' <| we_wn <| wn_comp ["number"] false [("two", .val (.tup (qs.map pr)))] (fun Ws acc i τ' => acc = ((es.take i).map (isIn qs)).map V.bool ∧ τ' = υ2) rfl (by unfold ScOk; decide) ⟨rfl, trivial⟩ ⟨⟨⟨_, rfl⟩, rfl, rfl, fun _ => rfl, rfl⟩, trivial⟩ (.name _ _) ?_
      refine we_name rfl ⟨_, rfl, by simp; lia, ⟨rfl, rfl⟩, ?_, ?_⟩
      · rintro i W acc τ' hW ⟨rfl, rfl⟩
        obtain ⟨hi', rfl⟩ := map_get hW
        refine ⟨_, rfl, rfl, fun Ca => ?_⟩
        have B2 := fun sc cl => Bx.comp sc cl Ca
        refine turn0 <| we_fn rfl (n__law_is_in (B2 _ _)) (e179 (B2 _ _)) <| wa_cons' <| we_name rfl <| wa_cons' <| we_name rfl <| wa_nil <| f_is_in (ps := qs) (B2 _ _) hr0 rfl (by lia) ⟨?_, rfl⟩
        rw [take_snoc hi']
      rintro acc υ3 ⟨rfl, rfl⟩
      rw [List.length_map, List.take_length]
      refine wa_nil ⟨by simp, _, as_pair (.inr ⟨rfl, rfl⟩) (.inr ⟨rfl, rfl⟩), ?_⟩
      refine jw_cons <| JW.of <| s_swap' (names := ["first", "second"]) (fun x hx => ?_) <| we_tuple' <| wa_cons' <| we_fn rfl (n__law_plain Bx) (e186 Bx) <| wa_cons' <| we_name rfl <| wa_cons' <| we_name rfl <| wa_nil <| f_plain Bx hr0 (by simp) (by lia) ?_
      · rcases List.mem_cons.mp hx with rfl | hx
        · exact .inl rfl
        · obtain rfl := List.mem_singleton.mp hx; exact .inl rfl
      rw [law_first iP e1 m1]
      refine wa_cons' <| we_fn rfl (n__law_plain Bx) (e186 Bx) <| wa_cons' <| we_name rfl <| wa_cons' <| we_name rfl <| wa_nil <| f_plain Bx hr0 (by simp) (by lia) ?_
      rw [law_first iQ e1 m2]
      refine wa_nil ⟨by simp, _, rfl, rfl, ?_⟩
      exact JW.via (law_9 B tp CH CH2 F hr iP iQ (by lia) (by lia) (by lia) e1 e2 e3) ⟨rfl, rfl, rfl, rfl, rfl, rfl, rfl, rfl, trivial⟩
    -- the other lengths
    have none4 : Lens4 [] := ⟨fun x hx => (nomatch hx), by simp, by simp⟩
    refine jw_cons <| JW.of <| s_assign' (.inl rfl) <| we_if' <| wt_and' <| wt_cmp' <| we_name rfl <| we_int <| o_eq' ⟨_, rfl, br2 (fun c1 => wt_and' <| wt_cmp' <| we_name rfl <| we_int <| o_eq' ⟨_, rfl, br2 (fun c2 => wt_and_nil ?_) fun c2 => ?_⟩) fun c1 => ?_⟩
    · exact we_list' <| wa_nil ⟨by simp, JW.via (rest2 [] _ none4 (by lia)) ⟨rfl, rfl, rfl, trivial⟩⟩
    all_goals
      refine we_if' <| wt_and' <| wt_cmp' <| we_name rfl <| we_int <| o_gt ⟨_, rfl, br2 (fun c3 => wt_and' <| nil_ne <| wl_of' <| we_name rfl ⟨_, rfl, rfl, lays_ints _, deep_ints _, br (fun c4 => wt_and_nil ?_) fun c4 => ?_⟩) fun c3 => ?_⟩
      · have hls : ls ≠ [] := fun e => by rw [e] at c4; cases c4
        exact we_fn rfl (n__law_cut_otherwise Bx) (e155 Bx) <| wa_cons' <| we_name rfl <| wa_cons' <| we_name rfl <| wa_nil <| f_cuto u hne Bx hr1 hL hls hl (by lia) fun ls' υ h1 h2 => JW.via (rest2 ls' υ h1 (by lia)) ⟨rfl, rfl, rfl, trivial⟩
      all_goals
        refine we_fn rfl (n__law_lengths Bx) (e148 Bx) <| wa_cons' <| we_name rfl <| wa_cons' <| we_bin' <| we_int <| we_pullc u hne Bx hr0 rfl rfl (by lia) (by lia) (by lia) fun q q0 q1 => o_add ?_
        obtain ⟨m, hm⟩ : ∃ m : Nat, 1 + q = m := ⟨(1 + q).toNat, by lia⟩
        rw [hm]
        exact wa_nil <| f_lengths u hne Bx hr1 (by lia) (by lia) fun ls' υ h1 h2 h3 => JW.via (rest2 ls' υ (h2.four (by lia)) (by lia)) ⟨rfl, rfl, rfl, trivial⟩
  refine jw_cons <| JW.of <| s_assign' (.inl rfl) <| we_fn rfl (n__law_lengths Bx) (e148 Bx) <| wa_cons' <| we_name rfl <| wa_cons' <| we_if' <| wt_cmp' <| we_name rfl <| we_int <| o_gt ⟨_, rfl, br2 (fun c => ?_) fun c => ?_⟩
  · refine we_bin' <| we_int <| we_pullc u hne Bx hr0 rfl rfl (by lia) (by lia) (by lia) fun q q0 q1 => o_add ?_
    obtain ⟨m, hm⟩ : ∃ m : Nat, 1 + q = m := ⟨(1 + q).toNat, by lia⟩
    rw [hm]
    exact wa_nil <| f_lengths u hne Bx hr1 (by lia) (by lia) fun ls υ h1 h2 h3 => JW.via (rest ls υ (by lia) h2 (by lia)) ⟨rfl, rfl, rfl, rfl, trivial⟩
  · exact we_int <| wa_nil <| f_lengths (most := 0) u hne Bx hr1 (by lia) (by lia) fun ls υ h1 h2 h3 => JW.via (rest ls υ (by lia) h2 (by lia)) ⟨rfl, rfl, rfl, rfl, trivial⟩
end
end Mini
end

section
open PySem PySem.W PyProof.Rows
set_option maxRecDepth 100000
namespace Mini
theorem nsIn_some {K : Frag} {h : Heap} {N : Addr} {mg : Str → Option Value} {n : Str} {v : Option Value} (X : K.In h) (G : h.Ns N mg) (e : nsIn K N n = some v) : mg n = v := by
  obtain ⟨o, es, ep, ho, hd, _, hf⟩ := G
  unfold nsIn at e
  split at e
  · rename_i c d es' n' sl q
    have := X _ _ q
    rw [ho] at this
    cases this
    cases hd
    rw [← hf]
    unfold nsFind findBy
    rw [← Array.find?_toList]
    split at e
    · rename_i en he
      cases e
      rw [he]; rfl
    · rename_i he
      split at e
      · cases e
      · cases e
        rw [he]; rfl
  · cases e
noncomputable def I0 (n : Nat) (h : Heap) : Prop := (n = 0 → TabP 219 keysS 0 h ∧ TabP 224 keysL 0 h) ∧ Grown2 h
theorem tab_empty {P : Addr} {keys : List (Nat × Nat)} {h : Heap} (e : h.get? P = some (tabObj #[])) : TabP P keys 0 h := ⟨#[], e, trivial, fun _ _ => rfl⟩
section
variable {prog : Program} {w : World} {p : Params}
theorem cells227 (p : Params) (L fa : Addr) : (callEnvC (F227 p) L fa).cells.map (·.2) = [L + 1, L + 2, L + 3, L + 4] ∨ (callEnvC (F227 p) L fa).cells.map (·.2) = [L + 4, L + 3, L + 2, L + 1] := by
  first
  | exact .inl rfl
  | exact .inr rfl
theorem cap_of {l : List (Str × Addr)} (nd : (l.map (·.2)).Nodup) {x y : Str} {c : Addr} (hx : l.lookup x = some c) (hy : l.lookup y = some c) : x = y := own_uniq nd (mem_of_lookup hx) (mem_of_lookup hy)

set_option maxHeartbeats 4000000 in
theorem law_enter {base : Heap} {s₁ : Shared} {h₁ : Heap} {tk L fa : Nat} {mg mb : Str → Option Value} {nsl : List Int} {a : Addr} {vs : List Value} {n : Nat} {m : Str → Option Value} {Q1 : Flow → Shared → Prop} {E1 : Value → Shared → Prop}
    (X : (KP p).In base) (hg : base.Ns mainGlobals mg) (hb : base.Ns builtinsNs mb) (hbo : ∀ x : Str, x ≠ "__name__" → mb x = bootBuiltins x) (hlim : base.NoLimit) (htop : ∃ bm o, mg "__builtins__" = some (.ref bm) ∧ bm ≠ builtinsNs ∧ bm ≠ mainGlobals ∧ base.get? bm = some o ∧ o.cls = .type "module" ∧ o.dict = some builtinsNs ∧ o.data = .plain)
    (CH : CodeHd base 221 219) (CH2 : CodeHd base 226 224) (n219 : base.get? 219 = none) (n224 : base.get? 224 = none) (hL : base.objs.size ≤ L) (hL1 : 219 < L) (hL2 : 224 < L)
    (hns : h₁.Ns L m) (keep : ∀ b o, base.get? b = some o → h₁.get? b = some o) (t219 : h₁.get? 219 = some (tabObj #[])) (t224 : h₁.get? 224 = some (tabObj #[])) (hcells : ∀ c ∈ ([L + 1, L + 2, L + 3, L + 4] : List Addr), ∃ v, h₁.IsCell c v) (hscript : m "script" = some (.ref a)) (ha : base.get? a = some (lstO vs n)) (hv : IntVals nsl vs) (hz : nsl.length ≤ 1000)
    (hQ : ∀ h' tk', base.StaysIn h' → Grown2 h' → Q1 (.ret (.bool true)) { s₁ with heap := h', toks := tk' }) :
    wpAny (model prog w) (callerA.deeper (callEnvC (F227 p) L fa)) (execs (bodyAt (F227 p)) (callEnvC (F227 p) L fa)) Q1 E1 { s₁ with heap := h₁, toks := tk } := by
  have big : ∀ {b : Addr}, L ≤ b → base.get? b = none := fun {b} hb => Heap.get?_none_of_le (Nat.le_trans hL hb)
  have hcm : ∀ {x : Str} {c : Addr}, (callEnvC (F227 p) L fa).cells.lookup x = some c → c ∈ ([L + 1, L + 2, L + 3, L + 4] : List Addr) := fun {x c} h => by
    have h1 : c ∈ (callEnvC (F227 p) L fa).cells.map (·.2) := List.mem_map_of_mem (f := (·.2)) (mem_of_lookup h)
    rcases cells227 p L fa with e | e <;> rw [e] at h1
    · exact h1
    · simp only [List.mem_cons, List.not_mem_nil, or_false] at h1 ⊢
      rcases h1 with h | h | h | h
      · exact .inr (.inr (.inr h))
      · exact .inr (.inr (.inl h))
      · exact .inr (.inl h)
      · exact .inl h
  have hcL : ∀ {c : Addr}, c ∈ ([L + 1, L + 2, L + 3, L + 4] : List Addr) → L < c := fun {c} h => by
    simp only [List.mem_cons, List.not_mem_nil, or_false] at h
    rcases h with h | h | h | h <;> rw [h] <;> exact Nat.lt_add_of_pos_right (by decide)
  have hcnd : ((callEnvC (F227 p) L fa).cells.map (·.2)).Nodup := by
    rcases cells227 p L fa with e | e <;> rw [e] <;> simp <;> lia
  have Iloc : ∀ σ h h', (∀ a ∈ ([219, 224] : List Addr), ∀ o, h.get? a = some o → h'.get? a = some o) → I0 σ h → I0 σ h' := fun σ h h' k hi => ⟨fun e => ⟨(hi.1 e).1.keep (k 219 (by simp)), (hi.1 e).2.keep (k 224 (by simp))⟩, hi.2.keep k⟩
  have ok : (lawCx p L fa base (callerA.deeper (callEnvC (F227 p) L fa)) [callEnvC (F227 p) L fa] [219, 224] I0 mg mb 100 { s₁ with heap := base }).Ok := by
    refine ⟨Around.frames_deeper rfl, rfl, by show 1 + claimMargin + 1 + 100 < recursionLimit; decide, by show 4 + 3 + 100 + 8 * 100 < cLine; decide, rfl, hg, hb, hlim, rfl, rfl, fun a ha => ?_, X, fun _ _ e => e, ⟨L, _, [], rfl, rfl, rfl⟩, fun env he L' hf ha => ?_, Iloc⟩
    · rcases List.mem_cons.mp ha with rfl | ha
      · exact n219
      · obtain rfl := List.mem_singleton.mp ha; exact n224
    · obtain rfl := List.mem_singleton.mp he
      cases hf
      rcases List.mem_cons.mp ha with e | ha
      · exact Nat.ne_of_gt hL1 e
      · exact Nat.ne_of_gt hL2 (List.mem_singleton.mp ha)
  have sp : (lawCx p L fa base (callerA.deeper (callEnvC (F227 p) L fa)) [callEnvC (F227 p) L fa] [219, 224] I0 mg mb 100 { s₁ with heap := base }).Sp :=
    ⟨big (Nat.le_refl _), fun env he => (nomatch he), fun x c h => big (Nat.le_of_lt (hcL (hcm h))), big (Nat.le_refl _), fun x c h => big (Nat.le_of_lt (hcL (hcm h))), fun x y c hx hy => cap_of hcnd hx hy⟩
  have st : St (lawCx p L fa base (callerA.deeper (callEnvC (F227 p) L fa)) [callEnvC (F227 p) L fa] [219, 224] I0 mg mb 100 { s₁ with heap := base }) [("script", .val (.lst (nsl.map V.int)))] [] 0 { s₁ with heap := h₁, toks := tk } := by
    have nmu : ∀ b : Addr, L ≤ b → b ∉ ([219, 224] : List Addr) := fun b hb q => by
      rcases List.mem_cons.mp q with e | q
      · exact Nat.ne_of_gt (Nat.lt_of_lt_of_le hL1 hb) e
      · exact Nat.ne_of_gt (Nat.lt_of_lt_of_le hL2 hb) (List.mem_singleton.mp q)
    refine ⟨⟨nmu L (Nat.le_refl _), fun x c h => nmu c (Nat.le_of_lt (hcL (hcm h))), ok.fmu⟩, ⟨keep, ⟨by rw [show (callEnvC (F227 p) L fa).scope.kind = .function from rfl]; decide, L, m, rfl, big (Nat.le_refl _), hns⟩, trivial⟩, ⟨fun _ => ⟨tab_empty t219, tab_empty t224⟩, tab_empty t219, tab_empty t224⟩,
      ⟨fun x b hx => ?_, ⟨m, hns⟩, fun x c h => hcells c (hcm h), fun q hq => (nomatch hq), .nil, fun q hq => (nomatch hq)⟩, fun b hb => ?_, ⟨h₁, tk, rfl⟩, fun b o e _ => .inl (keep b o e)⟩
    · rw [List.lookup_cons] at hx
      cases q : x == ("script" : Str) with
      | false => rw [q] at hx; cases hx
      | true =>
        rw [q] at hx; cases hx
        rw [beq_iff_eq.mp q]
        refine ⟨.ref a, .inl ⟨rfl, m, hns, hscript⟩, ?_⟩
        simp only [BdRep, Rep]
        refine ⟨a, vs, n, rfl, fun q => ?_, keep _ _ ha, hv.rep⟩
        rcases q with q | q
        · rcases List.mem_cons.mp q with rfl | q
          · rw [n219] at ha; cases ha
          · obtain rfl := List.mem_singleton.mp q; rw [n224] at ha; cases ha
        · simp at q
    · rcases List.mem_cons.mp hb with rfl | hb
      · show (h₁.get? 219).isSome; rw [t219]; rfl
      · obtain rfl := List.mem_singleton.mp hb; show (h₁.get? 224).isSome; rw [t224]; rfl
  have B : ∀ (mu : List Addr) (I : Nat → Heap → Prop), Bs p (lawCx p L fa base (callerA.deeper (callEnvC (F227 p) L fa)) [callEnvC (F227 p) L fa] mu I mg mb 100 { s₁ with heap := base }) := fun mu I => ⟨rfl, fun x v e => nsIn_some X hg e, hbo⟩
  have ex : ∀ s, Ex (lawCx p L fa base (callerA.deeper (callEnvC (F227 p) L fa)) [callEnvC (F227 p) L fa] [219, 224] I0 mg mb 100 { s₁ with heap := base }) (fun _ => False) s E1 := fun s n e b s' hx => hx.elim
  generalize hC : (lawCx p L fa base (callerA.deeper (callEnvC (F227 p) L fa)) [callEnvC (F227 p) L fa] [219, 224] I0 mg mb 100 { s₁ with heap := base }) = C0 at ok sp st ex
  have henv : C0.env = callEnvC (F227 p) L fa := by rw [← hC]; rfl
  have hA : C0.A = callerA.deeper (callEnvC (F227 p) L fa) := by rw [← hC]; rfl
  have B0 : Bs p C0 := by rw [← hC]; exact B _ _
  have hI0 : C0.I = I0 := by rw [← hC]; rfl
  have hmu : C0.mu = [219, 224] := by rw [← hC]; rfl
  have hr0 : C0.r = 100 := by rw [← hC]; rfl
  have hwide : ∀ N I', C0.wide N I' = lawCx p L fa base (callerA.deeper (callEnvC (F227 p) L fa)) [callEnvC (F227 p) L fa] ([219, 224] ++ N) I' mg mb 100 { s₁ with heap := base } := fun N I' => by rw [← hC]; rfl
  -- the urn
  refine wpAny_execs_cons (wpAny_Assign_Name ?_ rfl)
  obtain ⟨o136, ho136, hd136⟩ := e136 B0
  rw [← hA, ← henv]
  refine call_name ok st (by rw [henv]; rfl) (.inl (n__law_urn B0)) (by decide) rfl (Calls.callWith_function (o := o136) (fd := F136 p) (Calls.evalArgs_plain (Calls.spliced_cons ?_)))
  obtain ⟨v, l, r⟩ := st.loc.look "script" _ rfl
  refine look_name ok l (Calls.spliced_nil ⟨⟨st.inv.base _ _ (ok.kin _ _ ho136), hd136⟩, ?_⟩) (by decide)
  refine f_urn (ns := nsl) (X := fun _ => False) B0 (by rw [hr0]; decide) hz ok st (RepL.one r) (ex _) fun U A s' d to n1 n2 hne hU hl hc hT => ?_
  have h1 : ∀ b ∈ [U, A], Heap.get? h₁ b = none := fun b hb => by
    rcases List.mem_cons.mp hb with rfl | hb
    · exact n1
    · obtain rfl := List.mem_singleton.mp hb; exact n2
  have n3 : ∀ b ∈ [U, A], b ≠ 219 ∧ b ≠ 224 := fun b hb => ⟨fun e => (by have := h1 b hb; rw [e, t219] at this; cases this), fun e => (by have := h1 b hb; rw [e, t224] at this; cases this)⟩
  have F : Four ([219, 224] ++ [U, A]) U A := ⟨by simp, by simp, by simp, by simp, hne, (n3 U (by simp)).1, (n3 U (by simp)).2, (n3 A (by simp)).1, (n3 A (by simp)).2⟩
  have hi : I1 U A 0 s'.heap := by
    have hi0 := to.i
    rw [hI0] at hi0
    exact ⟨fun _ => ⟨⟨d, hU, hl, by rw [hc]; rfl, hT, by decide⟩, hi0.1 rfl⟩, hi0.2⟩
  have hG : ∀ b ∈ [U, A], C0.G.heap.get? b = none := fun b hb => (fresh_facts st (h1 b hb)).1
  have hg' : ∀ n h, I1 U A n h → C0.I 1 h := fun n h q => by rw [hI0]; exact ⟨fun e => by lia, q.2⟩
  have okw := wide_ok (N := [U, A]) (I' := I1 U A) ok st h1 (by rw [hmu]; exact loc1 F)
  have stw := st.wide (I' := I1 U A) (n := 0) to h1 (fun b hb => by
    obtain ⟨t1, t2, t3, n', vs', m', g1, g2, _⟩ := hU
    rcases List.mem_cons.mp hb with rfl | hb
    · rw [g1]; rfl
    · obtain rfl := List.mem_singleton.mp hb; rw [g2]; rfl) hi
  have spw : (C0.wide [U, A] (I1 U A)).Sp := sp.wide
  refine store_ (C := C0.wide [U, A] (I1 U A)) okw spw (stw.del "urn") (.inl (by show C0.env.kindOf _ = _; rw [henv]; rfl)) (b := .val (.raw (.ref U))) (by simp only [BdRep, Rep]) fun s₃ st₃ k₃ => ?_
  have run : JW prog w (C0.wide [U, A] (I1 U A)) (("urn", .val (.raw (.ref U))) :: del "urn" [("script", .val (.lst (nsl.map V.int)))]) (execs ((bodyAt (F227 p)).drop 1) (C0.wide [U, A] (I1 U A)).env) 0 (fun _ => False) (fun o _ _ => o = .ret (.bool true)) := by
    rw [hwide]
    exact JW.via (law_1 (fun I => B _ I) (fun I => htop) CH CH2 F (by decide)) ⟨rfl, trivial⟩
  refine run okw spw s₃ _ Q1 E1 st₃ (po_wide (Q := fun o _ _ => o = .ret (.bool true)) (fun _ => 1) hG hg' fun f o ρ' σ' s4 own4 st4 rr q => ?_) (ex_wide (s := s₃) (fun _ => 1) hG hg' (ex _))
  subst q
  obtain ⟨v', rfl, rv⟩ := rr
  simp only [Rep] at rv; subst rv
  obtain ⟨h', tk', e⟩ := st4.gs
  have hi4 := st4.i
  rw [hI0] at hi4
  have hb4 := st4.inv.base
  subst hC
  rw [e] at hi4 hb4 ⊢
  exact hQ h' tk' hb4 hi4.2
end
end Mini
end

section
open PySem PySem.W PyProof.Rows
set_option maxRecDepth 100000
set_option maxHeartbeats 8000000
namespace Mini
theorem post_true (xs : List WData) : PySem.Challenge.rw_pq0931_01.row.claim.post xs (.bool true) xs = true := by kernel_rfl
end Mini
theorem PySem.Challenge.cw_pq0931_01_holds : PySem.Challenge.rw_pq0931_01.Holds := by
  refine Mini.hd ?_
  k_go0
  rename_i w s₀ s₁ mg mb G Y fa o pm doc ho hgens X V T B TE TW hcd ns hs hlay0 hL1 hr1 hl2 w8 w7 a vs w4 hL ra w1 r0 hI hr2 hc1 hc2 hD h₁ tk o4 o3 o2 o1 d4 d3 d2 d1 X0 X' T' K' F' cH N' l0
  have n219 := N' (219, tabObj #[]) (by simp)
  have n224 := N' (224, tabObj #[]) (by simp)
  have hbm : ∃ bm o, mg "__builtins__" = some (.ref bm) ∧ bm ≠ builtinsNs ∧ bm ≠ mainGlobals ∧ (ghostOf s₁.heap [(221, 219), (226, 224)]).get? bm = some o ∧ o.cls = .type "module" ∧ o.dict = some builtinsNs ∧ o.data = .plain := by
    obtain ⟨bm, ob, b1, b2, b3, b4, b5, b6⟩ := T'.bmain
    refine ⟨bm, ob, b1, b2, fun q => ?_, b3, b4, b5, b6⟩
    obtain ⟨o', es, ep, e, hd', _⟩ := T'.g
    rw [q, e] at b3; cases b3; rw [hd'] at b6; cases b6
  have hlist : ∃ vs', (ghostOf s₁.heap [(221, 219), (226, 224)]).get? a = some (Mini.lstO vs' 0) ∧ Mini.IntVals ns vs' := by
    obtain ⟨oL, gL, cL, nL, dL⟩ := hL
    generalize ofPy (PyData.list (List.map PyData.int ns)) = D at w1
    cases w1 with
    | @list _ vs2 _ hg hall =>
      rw [gL] at hg; cases hg
      have e : vs2.toArray = vs.toArray := by injection dL
      have e2 : vs2 = vs := by simpa using congrArg Array.toList e
      exact ⟨vs2, ghost_get hT9 gL (fun q => by cases q), by rw [e2]; exact Mini.intsAre_vals hI⟩
    | bytearray hg => rw [gL] at hg; cases hg; simp at cL
    | tuple hg _ => rw [gL] at hg; cases hg; simp at cL
    | dict hg _ => rw [gL] at hg; cases hg; simp at cL
    | set hg _ _ _ => rw [gL] at hg; cases hg; simp at cL
    | frozenset hg _ _ _ => rw [gL] at hg; cases hg; simp at cL
    | obj hg _ _ _ => rw [gL] at hg; cases hg; simp at cL
  obtain ⟨vs', ha, hv⟩ := hlist
  refine Mini.law_enter (p := w.params) (base := ghostOf s₁.heap [(221, 219), (226, 224)]) (s₁ := s₁) (L := s₁.heap.objs.size) (fa := fa) (nsl := ns) (a := a) (vs := vs') (n := 0) X' T'.g T'.b T'.builtins T'.nolimit hbm cH codeHd n219.2.2 n224.2.2 F'.above l0.1 l0.2 F'.ns F'.keep n219.1 n224.1 ?_ ?_ ha hv (by lia) fun h' tk' hst hgr => ?_
  · intro c hc
    simp only [List.mem_cons, List.not_mem_nil, or_false] at hc
    rcases hc with rfl | rfl | rfl | rfl
    · exact ⟨_, _, (N' (s₁.heap.objs.size + 1, o1) (by simp)).1, d1⟩
    · exact ⟨_, _, (N' (s₁.heap.objs.size + 1 + 1, o2) (by simp)).1, d2⟩
    · exact ⟨_, _, (N' (s₁.heap.objs.size + 1 + 1 + 1, o3) (by simp)).1, d3⟩
    · exact ⟨_, _, (N' (s₁.heap.objs.size + 1 + 1 + 1 + 1, o4) (by simp)).1, d4⟩
  · rfl
  · refine ⟨⟨.inl ⟨_, .bool true, [], rfl, fun _ => rfl, .bool true, Mini.post_true _, fun _ => ⟨.nil, fun a ha => nomatch ha⟩⟩, hst, rfl, hgens⟩, ?_, ?_, trivial⟩
    · obtain ⟨ps, e, _⟩ := hgr.1
      exact ⟨ps, e⟩
    · obtain ⟨ps, e, _⟩ := hgr.2
      exact ⟨ps, e⟩
end

