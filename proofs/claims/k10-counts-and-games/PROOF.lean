import PyProof.Rows.All
import Wide.All
import OpenK.AllK
import Wide.FinOn
import PyProof.EqAt
import PyProof.EqKinds
import PyProof.TupleCall
import PyProof.Rows.FactsT2
import KE.KRevIter
import HandS.ForMost
import HandS.ForExc
import HandS.Evl
import HandS.Conv
import HandS.SortInts
import HandS.IsInst
import HandS.SetFor
import HandS.Rev
import KE.SortData
import PySem.Challenge.RW_topturn_k10_whole_counts_and_games
set_option Elab.async false
set_option linter.all false
set_option maxRecDepth 100000
set_option maxHeartbeats 4000000

/-! The mathematics of the turned cards, in plain Lean. -/
namespace Tt
/-- the cards 1 .. n -/
def rng (n : Nat) : List Int := (List.range n).map fun i => (1 : Int) + (i : Nat)
theorem rng_len (n : Nat) : (rng n).length = n := by simp [rng]
theorem rng_get {n i : Nat} (h : i < n) : (rng n)[i]? = some ((1 : Int) + (i : Nat)) := by
  unfold rng
  rw [List.getElem?_map, List.getElem?_range h]
  rfl
theorem mem_rng {n : Nat} {x : Int} : x ∈ rng n ↔ 1 ≤ x ∧ x ≤ n := by
  unfold rng
  rw [List.mem_map]
  constructor
  · rintro ⟨i, hi, rfl⟩
    have := List.mem_range.mp hi
    omega
  · intro h
    exact ⟨(x - 1).toNat, List.mem_range.mpr (by omega), by omega⟩
theorem rng_lt (n : Nat) : (rng n).Pairwise (· < ·) := by
  unfold rng
  rw [List.pairwise_map]
  refine List.Pairwise.imp ?_ List.pairwise_lt_range
  intro a b h
  omega
theorem rng_le (n : Nat) : (rng n).Pairwise (· ≤ ·) := (rng_lt n).imp fun h => Int.le_of_lt h
theorem rng_nodup (n : Nat) : (rng n).Nodup := (rng_lt n).imp fun h => Int.ne_of_lt h
theorem rng_succ (n : Nat) : rng (n + 1) = rng n ++ [(1 : Int) + (n : Nat)] := by
  unfold rng
  rw [List.range_succ, List.map_append]
  rfl

/-- a deck, of whatever size -/
def IsDk (d : List Int) : Prop := d.Perm (rng d.length)
theorem IsDk.nodup {d : List Int} (h : IsDk d) : d.Nodup := h.symm.nodup (rng_nodup _)
theorem IsDk.mem {d : List Int} (h : IsDk d) {x : Int} : x ∈ d ↔ 1 ≤ x ∧ x ≤ d.length := by
  rw [h.mem_iff, mem_rng]
theorem IsDk.at {d : List Int} (h : IsDk d) {i : Nat} {x : Int} (e : d[i]? = some x) : 1 ≤ x ∧ x ≤ d.length := h.mem.mp (List.mem_of_getElem? e)
theorem IsDk.perm {d e : List Int} (h : IsDk d) (p : e.Perm d) : IsDk e := by
  unfold IsDk
  rw [p.length_eq]
  exact p.trans h
/-- sorted and alike -/
theorem sorted_rng {l : List Int} {n : Nat} (p : l.Perm (rng n)) (s : l.Pairwise (· ≤ ·)) : l = rng n :=
  p.eq_of_pairwise (fun a b _ _ h1 h2 => Int.le_antisymm h1 h2) s (rng_le n)
theorem isDk_iff {d l : List Int} (p : l.Perm d) (s : l.Pairwise (· ≤ ·)) : l = rng d.length ↔ IsDk d :=
  ⟨fun e => by unfold IsDk; rw [← e]; exact p.symm, fun h => sorted_rng (p.trans h) s⟩
theorem two_at {d : List Int} (h : d.Nodup) {i j : Nat} {x : Int} (a : d[i]? = some x) (b : d[j]? = some x) : i = j := by
  obtain ⟨h1, e1⟩ := List.getElem?_eq_some_iff.mp a
  obtain ⟨h2, e2⟩ := List.getElem?_eq_some_iff.mp b
  exact (List.getElem_inj h).mp (e1.trans e2.symm)

/-- the first k turned over -/
def ov (d : List Int) (k : Int) : List Int := (d.take k.toNat).reverse ++ d.drop k.toNat
theorem ov_perm (d : List Int) (k : Int) : (ov d k).Perm d := by
  unfold ov
  exact ((List.reverse_perm _).append_right _).trans (List.Perm.of_eq (List.take_append_drop _ _))
theorem ov_len (d : List Int) (k : Int) : (ov d k).length = d.length := (ov_perm d k).length_eq
theorem IsDk.ov {d : List Int} (h : IsDk d) (k : Int) : IsDk (ov d k) := h.perm (ov_perm d k)
theorem ov_ov (d : List Int) {k : Int} (h : k ≤ d.length) : ov (ov d k) k = d := by
  have e : ((d.take k.toNat).reverse).length = k.toNat := by rw [List.length_reverse, List.length_take]; omega
  unfold ov
  rw [List.take_append_of_le_length (by omega), List.take_of_length_le (by omega), List.reverse_reverse, List.drop_append_of_le_length (by omega), List.drop_of_length_le (by omega), List.nil_append, List.take_append_drop]
theorem ov_lo {d : List Int} {k : Int} {i : Nat} (h : k ≤ d.length) (hi : (i : Int) < k) : (ov d k)[i]? = d[k.toNat - 1 - i]? := by
  have e : ((d.take k.toNat).reverse).length = k.toNat := by rw [List.length_reverse, List.length_take]; omega
  have e2 : (d.take k.toNat).length = k.toNat := by rw [List.length_take]; omega
  unfold ov
  rw [List.getElem?_append_left (by omega), List.getElem?_reverse (by omega), List.getElem?_take_of_lt (by omega), e2]
theorem ov_hi {d : List Int} {k : Int} {i : Nat} (h0 : 0 ≤ k) (h : k ≤ d.length) (hi : k ≤ i) : (ov d k)[i]? = d[i]? := by
  have e : ((d.take k.toNat).reverse).length = k.toNat := by rw [List.length_reverse, List.length_take]; omega
  unfold ov
  rw [List.getElem?_append_right (by omega), List.getElem?_drop, e]
  congr 1
  omega
theorem ov_top {d : List Int} {k : Int} (h1 : 1 ≤ k) (h : k ≤ d.length) : (ov d k)[0]? = d[k.toNat - 1]? := ov_lo h (by omega)
theorem ov_end {d : List Int} {k : Int} (h1 : 1 ≤ k) (h : k ≤ d.length) : (ov d k)[k.toNat - 1]? = d[0]? := by
  rw [ov_lo h (by omega)]
  congr 1
  omega
/-- the law's own way to turn over -/
def lov (d : List Int) (k : Int) : List Int := (List.range k.toNat).map (fun i : Nat => d.getD (k - 1 - (i : Int)).toNat 0) ++ d.drop k.toNat
theorem lov_eq {d : List Int} {k : Int} (h : k ≤ d.length) : lov d k = ov d k := by
  unfold lov ov
  congr 1
  refine List.ext_getElem? fun i => ?_
  by_cases hi : i < k.toNat
  · have e2 : (d.take k.toNat).length = k.toNat := by rw [List.length_take]; omega
    rw [List.getElem?_map, List.getElem?_range hi, List.getElem?_reverse (by omega), e2, List.getElem?_take_of_lt (by omega)]
    have e3 : (k - 1 - (i : Int)).toNat = k.toNat - 1 - i := by omega
    simp only [Option.map_some, e3]
    rw [List.getD_eq_getElem?_getD, List.getElem?_eq_getElem (by omega)]
    rfl
  · rw [List.getElem?_eq_none (by simp; omega), List.getElem?_eq_none (by simp; omega)]

/-! ### games -/
inductive Gm : List Int → List Int → List Int → Prop where
  | stop {d : List Int} : d[0]? = some 1 → Gm d [] d
  | turn {d ts e : List Int} {k : Int} : d[0]? = some k → k ≠ 1 → Gm (ov d k) ts e → Gm d (k :: ts) e
theorem Gm.det {d ts e : List Int} (g : Gm d ts e) : ∀ {ts' e' : List Int}, Gm d ts' e' → ts' = ts ∧ e' = e := by
  induction g with
  | stop h =>
    intro ts' e' g'
    cases g' with
    | stop _ => exact ⟨rfl, rfl⟩
    | turn h' n _ => rw [h] at h'; exact absurd (Option.some.inj h').symm n
  | turn h n _ ih =>
    intro ts' e' g'
    cases g' with
    | stop h' => rw [h] at h'; exact absurd (Option.some.inj h') n
    | turn h' n' g2 =>
      rw [h] at h'
      cases Option.some.inj h'
      obtain ⟨e1, e2⟩ := ih g2
      exact ⟨by rw [e1], e2⟩
/-- a deck that is won by k's place -/
def inPl (d : List Int) (k : Nat) : Bool := decide (d[k + 1]? = some ((k : Int) + 2))
/-- worths below m -/
def W (f : Nat → Bool) : Nat → Nat
  | 0 => 0
  | m + 1 => W f m + if f m = true then 2 ^ m else 0
theorem W_lt (f : Nat → Bool) : ∀ m, W f m < 2 ^ m
  | 0 => Nat.one_pos
  | m + 1 => by
    have h := W_lt f m
    unfold W
    have e : 2 ^ (m + 1) = 2 ^ m + 2 ^ m := by rw [Nat.pow_succ]; omega
    split <;> omega
theorem W_congr {f g : Nat → Bool} : ∀ {m : Nat}, (∀ i, i < m → f i = g i) → W f m = W g m
  | 0, _ => rfl
  | m + 1, h => by
    unfold W
    rw [W_congr fun i hi => h i (by omega), h m (by omega)]
theorem W_rise {f g : Nat → Bool} {j : Nat} (hj : f j = false) (hg : g j = true) : ∀ {m : Nat}, j < m → (∀ i, j < i → i < m → f i = g i) → W f m < W g m
  | 0, h, _ => by omega
  | m + 1, h, a => by
    unfold W
    by_cases e : j = m
    · subst e
      have := W_lt f j
      rw [hj, hg]
      simp
      omega
    · have ih := W_rise hj hg (m := m) (by omega) fun i h1 h2 => a i h1 (by omega)
      rw [a m (by omega) (by omega)]
      split <;> omega
def wt (d : List Int) : Nat := W (inPl d) (d.length - 1)
theorem wt_lt (d : List Int) : wt d < 2 ^ (d.length - 1) := W_lt _ _
theorem wt_rise {d : List Int} {k : Int} (h : IsDk d) (h0 : d[0]? = some k) (hk : k ≠ 1) : wt d < wt (ov d k) := by
  obtain ⟨k1, k2⟩ := h.at h0
  have ek : k.toNat - 2 + 1 = k.toNat - 1 := by omega
  unfold wt
  rw [ov_len]
  refine W_rise (j := k.toNat - 2) ?_ ?_ (by omega) fun i h1 h2 => ?_
  · unfold inPl
    refine decide_eq_false fun e => ?_
    have e3 : ((k.toNat - 2 : Nat) : Int) + 2 = k := by omega
    rw [e3] at e
    have := two_at h.nodup h0 e
    omega
  · unfold inPl
    refine decide_eq_true ?_
    rw [ek, ov_end k1 k2, h0]
    congr 1
    omega
  · unfold inPl
    rw [ov_hi (by omega) k2 (by omega)]
/-- each game ends; as many turns at most as the weight grows -/
theorem Gm.ends : ∀ (m : Nat) (d : List Int), IsDk d → 0 < d.length → 2 ^ (d.length - 1) - wt d ≤ m → ∃ ts e, Gm d ts e
  | m, d, h, h0, hm => by
    obtain ⟨k, hk⟩ : ∃ k, d[0]? = some k := ⟨d[0], List.getElem?_eq_getElem h0⟩
    by_cases h1 : k = 1
    · subst h1
      exact ⟨[], d, .stop hk⟩
    · have r := wt_rise h hk h1
      have l := wt_lt (ov d k)
      rw [ov_len] at l
      cases m with
      | zero => omega
      | succ m =>
        obtain ⟨ts, e, g⟩ := Gm.ends m (ov d k) (h.ov k) (by rw [ov_len]; exact h0) (by rw [ov_len]; omega)
        exact ⟨k :: ts, e, .turn hk h1 g⟩
theorem Gm.all {d : List Int} (h : IsDk d) (h0 : 0 < d.length) : ∃ ts e, Gm d ts e := Gm.ends _ d h h0 (Nat.le_refl _)
theorem Gm.perm {d ts e : List Int} (g : Gm d ts e) : e.Perm d := by
  induction g with
  | stop _ => exact .refl _
  | turn _ _ _ ih => exact ih.trans (ov_perm _ _)
theorem Gm.one {d ts e : List Int} (g : Gm d ts e) : e[0]? = some 1 := by
  induction g with
  | stop h => exact h
  | turn _ _ _ ih => exact ih
theorem Gm.wt {d ts e : List Int} (g : Gm d ts e) : IsDk d → ts.length + wt d ≤ wt e := by
  induction g with
  | stop _ => intro _; simp
  | turn h n _ ih =>
    intro hd
    have := ih (hd.ov _)
    have := wt_rise hd h n
    simp only [List.length_cons]
    omega
theorem Gm.short {d ts e : List Int} (g : Gm d ts e) (h : IsDk d) : ts.length < 2 ^ (d.length - 1) := by
  have h1 := g.wt h
  have h2 := wt_lt e
  rw [g.perm.length_eq] at h2
  omega

/-! ### backwards -/
def bk (d : List Int) (t : Int) : Option (List Int) := if 2 ≤ t ∧ t ≤ d.length ∧ d[t.toNat - 1]? = some t then some (ov d t) else none
def bks : List Int → List Int → Option (List Int)
  | d, [] => some d
  | d, t :: r => (bk d t).bind fun x => bks x r
theorem bks_append : ∀ (d l r : List Int), bks d (l ++ r) = (bks d l).bind fun x => bks x r
  | d, [], r => rfl
  | d, t :: l, r => by
    show (bk d t).bind (fun x => bks x (l ++ r)) = ((bk d t).bind fun x => bks x l).bind fun x => bks x r
    cases e : bk d t with
    | none => rfl
    | some x => exact bks_append x l r
theorem bk_len {d x : List Int} {t : Int} (h : bk d t = some x) : x.length = d.length := by
  unfold bk at h
  split at h
  · rw [← Option.some.inj h, ov_len]
  · cases h
theorem bk_perm {d x : List Int} {t : Int} (h : bk d t = some x) : x.Perm d := by
  unfold bk at h
  split at h
  · rw [← Option.some.inj h]
    exact ov_perm _ _
  · cases h
theorem bk_some {d x : List Int} {t : Int} (h : bk d t = some x) : 2 ≤ t ∧ t ≤ d.length ∧ d[t.toNat - 1]? = some t ∧ x = ov d t := by
  unfold bk at h
  split at h
  · rename_i c
    exact ⟨c.1, c.2.1, c.2.2, (Option.some.inj h).symm⟩
  · cases h
theorem bk_turn {d : List Int} {k : Int} (h : IsDk d) (h0 : d[0]? = some k) (hk : k ≠ 1) : bk (ov d k) k = some d := by
  obtain ⟨k1, k2⟩ := h.at h0
  unfold bk
  rw [if_pos ⟨by omega, by rw [ov_len]; exact k2, by rw [ov_end (by omega) k2, h0]⟩, ov_ov d k2]
theorem Gm.back {d ts e : List Int} (g : Gm d ts e) : IsDk d → bks e ts.reverse = some d := by
  induction g with
  | stop _ => intro _; rfl
  | turn h n _ ih =>
    intro hd
    rw [List.reverse_cons, bks_append, ih (hd.ov _)]
    show (bk _ _).bind (fun x => bks x []) = _
    rw [bk_turn hd h n]
    rfl
/-- the test that a top fails -/
def bkT (d : List Int) (t : Int) : Bool := decide (t < 2) || (decide ((d.length : Int) < t) || !decide (d.getD (t.toNat - 1) 0 = t))
theorem bkT_yes {d : List Int} {t : Int} (h : bkT d t = true) : bk d t = none := by
  unfold bk
  rw [if_neg]
  rintro ⟨h1, h2, h3⟩
  unfold bkT at h
  rw [List.getD_eq_getElem?_getD, h3] at h
  simp at h
  omega
theorem bkT_no {d : List Int} {t : Int} (h : bkT d t = false) : 2 ≤ t ∧ t ≤ d.length ∧ bk d t = some (ov d t) := by
  unfold bkT at h
  simp only [Bool.or_eq_false_iff, decide_eq_false_iff_not, Bool.not_eq_false', decide_eq_true_eq] at h
  obtain ⟨h1, h2, h3⟩ := h
  have hlt : t.toNat - 1 < d.length := by omega
  rw [List.getD_eq_getElem?_getD, List.getElem?_eq_getElem hlt] at h3
  have e3 : d[t.toNat - 1]? = some t := (List.getElem?_eq_getElem hlt).trans (congrArg some h3)
  exact ⟨by omega, by omega, if_pos ⟨by omega, by omega, e3⟩⟩
/-- the deck whose game has this end and these tops, if any -/
def bksO (e ts : List Int) : Option (List Int) := if e[0]? = some 1 then bks e ts.reverse else none
end Tt

/-! Own rules: a list made of the reversed items of a list. -/
namespace RvL
open PySem PySem.Spec PyProof.Rows RT
section
variable {prog : Program} {w : World} {A : Around} {E : Value → Shared → Prop} {s : Shared}
theorem ext_rev {R : Result → Shared → Prop} {it l S : Addr} {items : Array Value} (hh : A.handled = none) (hit : s.heap.IsRevIter it l ((items.size : Int) - 1)) (hl : s.heap.IsList l items) (hne : l ≠ it) (hn : items.size ≤ sizeLine)
    (hSi : S ≠ it) (hSl : S ≠ l) (res : Value) (c₀ : Nat) (hS : s.heap.get? S = some { cls := .type "list", data := .seq #[] c₀ })
    (hR : ∀ h' tk acc' c', (∀ b o, b ≠ S → b ≠ it → s.heap.get? b = some o → h'.get? b = some o) → h'.get? S = some { cls := .type "list", dict := none, data := .seq acc' c', slots := #[] } →
      ItemsOf (fun i v => items[items.size - 1 - i]? = some v) acc' items.size → R (.ok (.ret res)) { s with heap := h', toks := tk }) :
    wpAny (model prog w) A.in1 (Builtin.List.listExtendWith (.ref S) (.ref it) res)
      (fun fin s' => match fin with | .done f => R (.ok f) s' | .again c' => c'.quiet = true ∧ codeAny (model prog w) A c' R s') (fun e s' => R (.error e) s') s := by
  have W := (Walks.listRev (prog := prog) (w := w) (A := A.in1) hh it l hne items).toS
  have hSf : S ∉ [it, l] := by simp only [List.mem_cons, List.not_mem_nil, or_false, not_or]; exact ⟨hSi, hSl⟩
  have hT : s.TypeIs (.ref it) "list_reverseiterator" := hit.typeIs
  have h1 : Builtin.List.listSameRef (.ref S) (.ref it) = false := by simp [Builtin.List.listSameRef, hSi]
  unfold Builtin.List.listExtendWith
  refine wpAny_bind (wpAny_typeOf hT ?_)
  rw [if_neg (by rw [h1]; decide)]
  refine wpAny_bind (wpAny_pyIter_revIter hit ?_)
  refine wpAny_bind (wpAny_holding ?_)
  unfold Builtin.List.listLengthHint
  refine wpAny_bind (wpAny_specialOf hT nolen_lri ?_)
  show wpAny _ A.in1 (specialOf (Value.ref it) (Str.ofString "__length_hint__") >>= _) _ _ _
  refine wpAny_bind (wpAny_specialOf hT hint_lri ?_)
  generalize hid : ("list_reverseiterator.__length_hint__" : String) = id0
  wp_delta
  rw [show splitId id0 = some ("list_reverseiterator", "__length_hint__") from by subst hid; decide +kernel]
  subst hid
  refine wpAny_bind (wpAny_isInstance (b := true) hT (by rw [isSubtype_type]; kernel_rfl) ?_)
  refine wpAny_pure ?_
  rw [if_neg (by decide)]
  have e0 : ((items.size : Nat) : Int) - 1 - ((0 : Nat) : Int) = (items.size : Int) - 1 := by omega
  refine wpAny_pure ⟨plainId_quiet F.plain_extend_loop _, codeAny_extend_loopS W hn _ hSf _ items.size 0 _ _ _ rfl (Nat.zero_le _) ⟨Nat.zero_le _, by rw [e0]; exact hit, hl⟩ hS (ItemsOf.nil _) fun s' acc' c' hm hS' hacc => ?_⟩
  rw [Moved.eq_with hm]
  refine hR s'.heap s'.toks acc' c' (fun b o hb hbi e => hm.heap b o (fun hmem => ?_) e) hS' hacc
  rcases List.mem_cons.mp hmem with e' | hmem
  · exact hb e'
  · exact hbi (List.mem_singleton.mp hmem)
theorem init_rev {R : Result → Shared → Prop} {it l S : Addr} {items : Array Value} (hh : A.handled = none) (hit : s.heap.IsRevIter it l ((items.size : Int) - 1)) (hl : s.heap.IsList l items) (hne : l ≠ it) (hn : items.size ≤ sizeLine)
    (hSi : S ≠ it) (hSl : S ≠ l) (hS : s.heap.get? S = some { cls := .type "list", data := .seq #[] })
    (hR : ∀ h' tk acc' c', (∀ b o, b ≠ S → b ≠ it → s.heap.get? b = some o → h'.get? b = some o) → h'.get? S = some { cls := .type "list", dict := none, data := .seq acc' c', slots := #[] } →
      ItemsOf (fun i v => items[items.size - 1 - i]? = some v) acc' items.size → R (.ok (.ret .none)) { s with heap := h', toks := tk }) :
    wpAny (model prog w) A.in1 (Builtin.«list.__init__» ⟨[.ref S, .ref it], []⟩)
      (fun fin s' => match fin with | .done f => R (.ok f) s' | .again c' => c'.quiet = true ∧ codeAny (model prog w) A c' R s') (fun e s' => R (.error e) s') s := by
  show wpAny _ _ (do let old ← Builtin.List.listItems (.ref S); Builtin.List.listUpdate (.ref S) (fun _ => #[]); letGo old.toList.reverse; Builtin.List.listExtendWith (.ref S) (.ref it) .none) _ _ s
  refine wpAny_bind ?_
  unfold Builtin.List.listItems
  refine wpAny_bind (wpAny_seqItems hS rfl (wpAny_pure ?_))
  show wpAny _ _ (updateSeq S (fun _ => #[]) >>= fun _ => letGo (#[] : Array Value).toList.reverse >>= fun _ => Builtin.List.listExtendWith (.ref S) (.ref it) .none) _ _ s
  refine wpAny_bind (wpAny_updateSeq hS rfl ?_)
  have hS₂ := Heap.get?_update_self (Obj.mapSeq (fun _ => (#[] : Array Value))) hS rfl
  have oth : ∀ b o, b ≠ S → s.heap.get? b = some o → (s.heap.update S (Obj.mapSeq (fun _ => (#[] : Array Value)))).get? b = some o :=
    fun b o hb e => (Heap.get?_update_other _ _ (Ne.symm hb)).trans e
  refine wpAny_bind (wpAny_letGo ?_)
  refine ext_rev (s := { s with heap := s.heap.update S (Obj.mapSeq (fun _ => (#[] : Array Value))) }) hh (hit.at fun o e => oth _ _ (Ne.symm hSi) e) (hl.at fun o e => oth _ _ (Ne.symm hSl) e) hne hn hSi hSl .none _ hS₂ fun h' tk acc' c' hk hS' hacc => ?_
  exact hR h' tk acc' c' (fun b o hb hbi e => hk b o hb hbi (oth b o hb e)) hS' hacc
theorem call_list_rev {Q : Value → Shared → Prop} {it l : Addr} {items : Array Value} (hh : A.handled = none) (hit : s.heap.IsRevIter it l ((items.size : Int) - 1)) (hl : s.heap.IsList l items) (hne : l ≠ it) (hn : items.size ≤ sizeLine)
    (hQ : ∀ h' tk acc' c', (∀ b o, b ≠ it → s.heap.get? b = some o → h'.get? b = some o) →
      h'.get? s.heap.objs.size = some { cls := .type "list", dict := none, data := .seq acc' c', slots := #[] } → ItemsOf (fun i v => items[items.size - 1 - i]? = some v) acc' items.size → Q (.ref s.heap.objs.size) { s with heap := h', toks := tk }) :
    wpAny (model prog w) A (call (.type "list") [.ref it]) Q E s := by
  obtain ⟨oi, hoi, _⟩ := id hit
  obtain ⟨ol, hol, _⟩ := id hl
  refine callType_codes (Q₁ := fun obj s₁ => obj = .ref s.heap.objs.size ∧ s₁ = { s with heap := s.heap.push { cls := .type "list", data := .seq #[] } }) F.called_list (F.typeCall_list_1 _) F.entry_list_init
    (code_list_new _ ⟨rfl, rfl⟩) fun obj s₁ h₁ => ?_
  obtain ⟨rfl, rfl⟩ := h₁
  have hS : (s.heap.push { cls := .type "list", data := .seq #[] }).get? s.heap.objs.size = some { cls := .type "list", data := .seq #[] } := Heap.get?_push_size _ rfl
  refine ⟨⟨_, hS, rfl⟩, F.args_list_init_2 _ _, init_rev (A := A.in1) (s := { s with heap := s.heap.push { cls := .type "list", data := .seq #[] } }) hh (hit.at fun o e => Heap.get?_push_of_some _ e) (hl.push _) hne hn (Nat.ne_of_gt (Heap.lt_size hoi)) (Nat.ne_of_gt (Heap.lt_size hol)) hS fun h' tk acc' c' hk hS' hacc => ?_⟩
  exact ⟨rfl, hQ h' tk acc' c' (fun b o hb e => hk b o (Nat.ne_of_lt (Heap.lt_size e)) hb (Heap.get?_push_of_some _ e)) hS' hacc⟩
end
end RvL
namespace L2
open PySem PySem.Spec PyProof.Rows RT RvL
/-- an untracked new object is tracked from here on -/
theorem Inv.track {X : Cx} {pins : List (Addr × Obj)} {σ : St} {H : Hp} {s : Shared} {S : Addr} {o : HO} (I : Inv X pins σ H s) (fp : FpOk X pins H S) (new : ObjOk X.prog X.w (upd H S o) s.heap S o) : Inv X pins σ (upd H S o) s := by
  obtain ⟨f0, f1, f2, f3, f4, f5⟩ := fp
  refine I.step (h' := s.heap) (t' := s.toks) (g' := s.gens) (d' := s.drawn) (ch := [S]) (fun b hb => ?_) (fun b o _ _ _ e _ => e) (fun b o _ _ _ e _ => ⟨o.slots, e⟩) (fun b o hc _ n => ?_) (fun b o _ e => ⟨o, e⟩)
    (fun b xs e => by rw [upd_ne (ne_of_none e f0)]; exact e) (fun b ob u e => by rw [upd_ne (ne_of_none e f0)]; exact e) (fun b ps e => ⟨#[], by rw [upd_ne (ne_of_none e f0), e]; simp⟩) (fun m hm => hm) (fun b u e => ?_) I.bare
  · have e : b = S := by simpa using hb
    subst e
    exact ⟨f3, f1, f4, f5⟩
  · rw [upd_ne (fun z => hc (by simp [z]))]
    exact n
  · by_cases hb : b = S
    · subst hb
      rw [upd_same] at e
      cases e
      exact new
    · rw [upd_ne hb] at e
      exact (I.hok b u e).stay (fun c v _ q => q) (fun c q => by rw [upd_ne (ne_of_none q f0)]; exact q) fun c xs q => by rw [upd_ne (ne_of_none q f0)]; exact q
def tLstRev (K : PySem.W.Frag) (te : TE) : TE := fun σ H Q => te σ H fun v H1 => ∃ (a : Addr) (xs : List V), v = .ref a ∧ SqL K H1 a xs ∧ ∀ q, H1 q = none → Q (.ref q) (upd H1 q (.lst xs.reverse))
section
variable {X : Cx}
theorem pe_listRev {e : Expr} {te : TE} {p p2 pos pos2 : Pos} (hc : X.calm = true) (hg : Gl X "list") (hm : X.mg "list" = none) (hg2 : Gl X "reversed") (hm2 : X.mg "reversed" = none) (he : PE X e te)
    (hs : starEach [e] X.env = (false, eval e X.env) :: starEach [] X.env := by rfl)
    (hs2 : starEach [.Call (.Name "reversed" p2) [e] [] pos2] X.env = (false, eval (.Call (.Name "reversed" p2) [e] [] pos2) X.env) :: starEach [] X.env := by rfl) :
    PE X (.Call (.Name "list" p) [.Call (.Name "reversed" p2) [e] [] pos2] [] pos) (tLstRev X.K te) := by
  refine ⟨fun pins s σ H Q I h => ?_⟩
  refine Call_ (ld_blt I hg hm boot_list (PyProof.Rows.callWith_type1 (args_cons (Call_ (ld_blt I hg2 hm2 PyProof.Rows.boot_reversed (PyProof.Rows.callWith_type1 (args_cons (thn (he.run pins s σ H _ I h) fun u s1 ⟨v, H1, I1, r1, q1⟩ => args_nil ?_) hs) hs rfl))) hs2) hs2 rfl))
  obtain ⟨a, xs, ev, hq, q⟩ := q1
  subst ev
  obtain rfl : u = Value.ref a := r1
  obtain ⟨its, rv, p', hz⟩ := I1.list hq
  refine call_reversed_list p'.isList (args_nil ?_)
  have k0 : ∀ b o, s1.heap.get? b = some o → (s1.heap.push (revObj a ((its.toArray.size : Int) - 1))).get? b = some o := fun b o e => Heap.get?_push_of_some _ e
  have I2 : Inv X pins σ H1 { s1 with heap := s1.heap.push (revObj a ((its.toArray.size : Int) - 1)) } := I1.kept (t' := s1.toks) k0
  obtain ⟨f0, f1, f2, f3, f4, f5⟩ := I1.fpOk (H' := H1) (b := s1.heap.objs.size) (Nat.le_refl _) (I1.hok.fresh (Nat.le_refl _))
  have hl := p'.isList
  obtain ⟨ol, hol, _⟩ := id hl
  have hne : a ≠ s1.heap.objs.size := Nat.ne_of_lt (Heap.lt_size hol)
  have hn : its.toArray.size ≤ sizeLine := by rw [List.size_toArray, ← rv.length]; exact hz
  refine call_list_rev (s := { s1 with heap := s1.heap.push (revObj a ((its.toArray.size : Int) - 1)) }) (I1.ok.hd hc) ⟨_, Heap.get?_push_size _ rfl, rfl, rfl⟩ (hl.push _) hne hn fun h' tk acc c' hk e' hi => ?_
  have hsz : (s1.heap.push (revObj a ((its.toArray.size : Int) - 1))).objs.size = s1.heap.objs.size + 1 := Heap.size_push ..
  have hfr : H1 (s1.heap.objs.size + 1) = none := I1.hok.fresh (Nat.le_succ _)
  rw [hsz] at e'
  have I3 : Inv X pins σ H1 { s1 with heap := h', toks := tk } := I2.turned (t' := tk) (fun b o hb e => hk b o hb e) f0 f1 f3 f4 f5
  have hz2 : (s1.heap.push (revObj a ((its.toArray.size : Int) - 1))).objs.size ≤ s1.heap.objs.size + 1 := Nat.le_of_eq hsz
  refine ⟨.ref (s1.heap.objs.size + 1), upd H1 (s1.heap.objs.size + 1) (.lst xs.reverse), ?_, by rw [hsz]; rfl, q _ hfr⟩
  exact I3.track (I2.fpOk (H' := H1) (b := s1.heap.objs.size + 1) hz2 hfr) (show ObjOk X.prog X.w _ _ _ (.lst xs.reverse) from ⟨by rw [List.length_reverse]; exact hz, acc.toList, c', vals_rev rv hi, by rw [Array.toArray_toList]; exact e'⟩)
end
end L2

/-! What the readings come to: lists of ints. -/
namespace Tt
open PySem PySem.Spec PyProof.Rows L2 Evl

/-! ### data that is compared -/
structure Dat {α : Type} [DecidableEq α] (f : α → PyData) (n : Nat) : Prop where
  eq : ∀ a b, PyData.eqv (f a) (f b) = decide (a = b)
  can : ∀ a, (f a).canLay0 = true
  dep : ∀ a, (f a).depth ≤ n
theorem Dat.int : Dat PyData.int 0 := ⟨fun a b => by simp [PyData.eqv, BEq.beq], fun _ => rfl, fun _ => by simp [PyData.depth]⟩
theorem Dat.bool : Dat PyData.bool 0 := ⟨fun a b => by cases a <;> cases b <;> rfl, fun _ => rfl, fun _ => by simp [PyData.depth]⟩
theorem Dat.list {α : Type} [DecidableEq α] {f : α → PyData} {n : Nat} (d : Dat f n) : Dat (fun l : List α => PyData.list (l.map f)) (n + 1) where
  eq := fun a b => by
    show PyData.eqvAll (a.map f) (b.map f) = _
    induction a generalizing b with
    | nil => cases b <;> simp [PyData.eqvAll]
    | cons x a ih =>
      cases b with
      | nil => simp [PyData.eqvAll]
      | cons y b =>
        rw [List.map_cons, List.map_cons, PyData.eqvAll, d.eq, ih]
        by_cases h : x = y <;> by_cases h2 : a = b <;> simp [h, h2]
  can := fun a => by
    show PyData.canLayAll0 (a.map f) = true
    induction a with
    | nil => rfl
    | cons x a ih => rw [List.map_cons, PyData.canLayAll0, d.can, ih]; rfl
  dep := fun a => by
    have h : PyData.depthAll (a.map f) ≤ n := by
      induction a with
      | nil => simp [PyData.depthAll]
      | cons x a ih =>
        have := d.dep x
        simp only [List.map_cons, PyData.depthAll]
        omega
    simp only [PyData.depth]
    omega
theorem Dat.shaped {α : Type} [DecidableEq α] {f : α → PyData} {n : Nat} (d : Dat f n) (hn : n ≤ 64) (a : α) : SeqAt.shaped (f a) = true := by
  unfold SeqAt.shaped
  rw [d.can a]
  have := d.dep a
  simp only [Bool.true_and, decide_eq_true_eq]
  omega
abbrev dI (ns : List Int) : PyData := .list (ns.map PyData.int)
abbrev dB (ns : List Bool) : PyData := .list (ns.map PyData.bool)
abbrev dII (ns : List (List Int)) : PyData := .list (ns.map dI)
theorem dpAll {K : PySem.W.Frag} {H : Hp} {α : Type} {g : α → V} {f : α → PyData} (h : ∀ a, Dp K H (g a) (f a)) : ∀ l : List α, DpAll K H (l.map g) (l.map f)
  | [] => .nil
  | a :: l => .cons (h a) (dpAll h l)

/-! ### lists of ints in the heap -/
abbrev At (H : Hp) (a : Addr) (ns : List Int) : Prop := H a = some (.lst (ns.map V.int))
section
variable {K : PySem.W.Frag} {σ : L2.St} {H H' : Hp} {ta tb te tx : TE} {t u : TT} {x y z v : V} {r : R2} {a b p q l : Addr} {ns ms : List Int} {xs ys : List V}
theorem Dp.ints (h : SqL K H a (ns.map V.int)) : Dp K H (.ref a) (dI ns) := .lst h (dpAll (fun i => .int i) ns)
theorem Dp.bools {bs : List Bool} (h : SqL K H a (bs.map V.bl)) : Dp K H (.ref a) (dB bs) := .lst h (dpAll (fun i => .bl i) bs)
/-- a list, new or not -/
def EvR (te : TE) (σ : L2.St) (H : Hp) (xs : List V) : Prop := ∀ H1, Ex H H1 → ∀ Q : VK, (∀ p H2, Ex H1 H2 → H2 p = some (.lst xs) → Q (.ref p) H2) → te σ H1 Q
theorem EvR.new (h : EvL te σ H xs) : EvR te σ H xs := fun H1 e Q q => h H1 e Q fun p H2 _ e2 h2 => q p H2 e2 h2
theorem EvR.old (h : Ev te σ H (.ref a)) (ha : H a = some (.lst xs)) : EvR te σ H xs := fun H1 e Q q => h H1 e Q fun H2 e2 => q a H2 e2 (e2 _ _ (e _ _ ha))
theorem EvR.mono (e : Ex H H') (h : EvR te σ H xs) : EvR te σ H' xs := fun H1 a Q q => h H1 (e.trans a) Q q
theorem ev_eqR (ha : EvR ta σ H (ns.map V.int)) (hb : EvR tb σ H (ms.map V.int)) : Ev (tOp (rEqD K) ta tb) σ H (.bl (decide (ns = ms))) := fun H1 e Q q =>
  ha H1 e _ fun p H2 e2 hp => hb H2 (e.trans e2) _ fun r H3 e3 hr =>
    ⟨dI ns, dI ms, Dp.ints (sq_of (e3 _ _ hp)), Dp.ints (sq_of hr), Dat.int.list.shaped (by decide) ns, Dat.int.list.shaped (by decide) ms, by rw [Dat.int.list.eq]; exact q H3 (e2.trans e3)⟩
theorem ev_neR (ha : EvR ta σ H (ns.map V.int)) (hb : EvR tb σ H (ms.map V.int)) : Ev (tOp (rNeD K) ta tb) σ H (.bl (!decide (ns = ms))) := fun H1 e Q q =>
  ha H1 e _ fun p H2 e2 hp => hb H2 (e.trans e2) _ fun r H3 e3 hr =>
    ⟨dI ns, dI ms, Dp.ints (sq_of (e3 _ _ hp)), Dp.ints (sq_of hr), Dat.int.list.shaped (by decide) ns, Dat.int.list.shaped (by decide) ms, by rw [Dat.int.list.eq]; exact q H3 (e2.trans e3)⟩
theorem el_cat (ha : EvR ta σ H xs) (hb : EvR tb σ H ys) (hz : xs.length + ys.length ≤ 100000) : EvL (tOp rCat ta tb) σ H (xs ++ ys) := fun H1 e Q q =>
  ha H1 e _ fun p H2 e2 hp => hb H2 (e.trans e2) _ fun r H3 e3 hr =>
    ⟨p, r, xs, ys, rfl, rfl, e3 _ _ hp, hr, sz_of hz, fun s hs => q s _ (fresh_back (e2.trans e3) hs) ((e2.trans e3).trans (Ex.new hs)) upd_same⟩
theorem rv_ix {i : Int} {x : Int} (j : Nat) (h : SqL K H a (ns.map V.int)) (ej : i = (j : Int)) (e : ns[j]? = some x) : RV (rIxL K) (.ref a) (.int i) H (.int x) :=
  rv_ixL h (at_of ej (by rw [List.getElem?_map, e]; rfl))
/-- an item of a list that is read -/
theorem ev_ixR {i : Int} {x : Int} (j : Nat) (ha : EvR ta σ H (ns.map V.int)) (hb : Ev tb σ H (.int i)) (ej : i = (j : Int)) (e : ns[j]? = some x) : Ev (tOp (rIxL K) ta tb) σ H (.int x) := fun H1 e1 Q q =>
  ha H1 e1 _ fun p H2 e2 hp => hb H2 (e1.trans e2) _ fun H3 e3 => rv_ix j (sq_of (e3 _ _ hp)) ej e H3 (Ex.refl H3) Q fun H4 e4 => q H4 ((e2.trans e3).trans e4)
theorem ev_lenI (ha : Ev ta σ H (.ref a)) (h : SqL K H a (ns.map V.int)) : Ev (tCB (rLenS K) (tCons ta tNil)) σ H (.int (ns.length : Int)) := by
  have := ev_len (K := K) ha h
  rwa [List.length_map] at this
theorem ev_lenR (ha : EvR ta σ H (ns.map V.int)) : Ev (tCB (rLenS K) (tCons ta tNil)) σ H (.int (ns.length : Int)) := fun H1 e Q q =>
  ha H1 e _ fun p H2 e2 h2 => ⟨p, ns.map V.int, rfl, Or.inl (sq_of h2), by rw [List.length_map]; exact q H2 e2⟩
theorem el_listR (ha : EvR ta σ H xs) : EvL (tCB (rListS K) (tCons ta tNil)) σ H xs := fun H1 e Q q =>
  ha H1 e _ fun p H2 e2 h2 => ⟨p, xs, rfl, Or.inl (sq_of h2), fun l hl => q l _ (fresh_back e2 hl) (e2.trans (Ex.new hl)) upd_same⟩
theorem rgV_rng (n : Nat) : rgV 1 ((n : Int) + 1) = (rng n).map V.int := by
  unfold rgV rng
  rw [List.map_map]
  have e : ((n : Int) + 1 - 1).toNat = n := by omega
  rw [e]
  rfl
theorem el_rng {n : Nat} {m : Int} (ha : Ev ta σ H (.int 1)) (hb : Ev tb σ H (.int m)) (em : m = (n : Int) + 1) (hn : n ≤ 100000) : EvL (tLstRg (tRg2 ta tb)) σ H ((rng n).map V.int) := fun H1 e Q q =>
  ha H1 e _ fun H2 e2 => hb H2 (e.trans e2) _ fun H3 e3 => ⟨1, m, rfl, rfl, RgOk.of_le (by omega) (by omega) (by omega) (by omega), fun p hp => q p _ (fresh_back (e2.trans e3) hp) ((e2.trans e3).trans (Ex.new hp)) (by rw [upd_same, em, rgV_rng])⟩
theorem el_rev (ha : EvR te σ H xs) : EvL (tLstRev K te) σ H xs.reverse := fun H1 e Q q =>
  ha H1 e _ fun p H2 e2 hp => ⟨p, xs, rfl, sq_of hp, fun s hs => q s _ (fresh_back e2 hs) (e2.trans (Ex.new hs)) upd_same⟩
theorem cut_to (xs : List V) {k : Int} (h : 0 ≤ k) : cutV xs none (some k) = xs.take k.toNat := by
  obtain ⟨j, rfl⟩ : ∃ j : Nat, k = (j : Int) := ⟨k.toNat, by omega⟩
  unfold cutV
  rw [HT.sIx_nat, HT.sIx_none]
  rw [List.drop_zero, Nat.sub_zero]
  show xs.take (min j xs.length) = xs.take j
  by_cases hj : j ≤ xs.length
  · rw [Nat.min_eq_left hj]
  · rw [List.take_of_length_le (by omega), List.take_of_length_le (by omega)]
theorem cut_from (xs : List V) {k : Int} (h : 0 ≤ k) : cutV xs (some k) none = xs.drop k.toNat := by
  obtain ⟨j, rfl⟩ : ∃ j : Nat, k = (j : Int) := ⟨k.toNat, by omega⟩
  unfold cutV
  rw [HT.sIx_nat, HT.sIx_none]
  show List.take (xs.length - min j xs.length) (List.drop (min j xs.length) xs) = xs.drop j
  by_cases hj : j ≤ xs.length
  · rw [Nat.min_eq_left hj, List.take_of_length_le (by rw [List.length_drop]; omega)]
  · rw [List.drop_of_length_le (by omega), List.drop_of_length_le (by omega), List.take_nil]
theorem el_sl2 {tl th : TO} {lo hi : Option Int} (h : EvR te σ H xs) (h1 : EvO tl σ H lo) (h2 : EvO th σ H hi) : EvL (tSl (rSlL K) te tl th) σ H (cutV xs lo hi) := fun H1 e _ q =>
  h H1 e _ fun a H2 e2 ha => h1 H2 (e.trans e2) _ fun H3 e3 => h2 H3 ((e.trans e2).trans e3) _ fun H4 e4 =>
    ⟨a, xs, rfl, sq_of (e4 _ _ (e3 _ _ ha)), fun p hp => q p _ (fresh_back ((e2.trans e3).trans e4) hp) (((e2.trans e3).trans e4).trans (Ex.new hp)) upd_same⟩
theorem el_take {th : TO} {k : Int} (h : EvR te σ H (ns.map V.int)) (h2 : EvO th σ H (some k)) (hk : 0 ≤ k) : EvL (tSl (rSlL K) te tNoPart th) σ H ((ns.take k.toNat).map V.int) := by
  rw [List.map_take, ← cut_to _ hk]
  exact el_sl2 h eo_none h2
theorem el_drop {tl : TO} {k : Int} (h : EvR te σ H (ns.map V.int)) (h2 : EvO tl σ H (some k)) (hk : 0 ≤ k) : EvL (tSl (rSlL K) te tl tNoPart) σ H ((ns.drop k.toNat).map V.int) := by
  rw [List.map_drop, ← cut_from _ hk]
  exact el_sl2 h h2 eo_none
/-- the one rising list of these ints -/
def srt (ns : List Int) : List Int := ns.mergeSort (fun a b => decide (a ≤ b))
theorem srt_perm (ns : List Int) : (srt ns).Perm ns := List.mergeSort_perm ns _
theorem srt_le (ns : List Int) : (srt ns).Pairwise (· ≤ ·) := by
  have h := List.pairwise_mergeSort (le := fun a b : Int => decide (a ≤ b)) (fun a b c h1 h2 => by simp at *; omega) (fun a b => by simp; omega) ns
  exact h.imp fun h => by simpa using h
theorem srt_one {ns l : List Int} (hp : l.Perm ns) (hs : l.Pairwise (· ≤ ·)) : l = srt ns :=
  (hp.trans (srt_perm ns).symm).eq_of_pairwise (fun a b _ _ h1 h2 => Int.le_antisymm h1 h2) hs (srt_le ns)
theorem srt_rng (ns : List Int) : srt ns = rng ns.length ↔ IsDk ns := isDk_iff (srt_perm ns) (srt_le ns)
theorem el_sorted (ha : EvR ta σ H (ns.map V.int)) : EvL (tCB (rSortedI K) (tCons ta tNil)) σ H ((srt ns).map V.int) := fun H1 e Q q =>
  ha H1 e _ fun a H2 e2 h2 => ⟨a, ns, rfl, sq_of h2, fun ns' p hp hs hn => q p _ (fresh_back e2 hn) (e2.trans (Ex.new hn)) (by rw [upd_same, srt_one hp hs])⟩
/-- isinstance(x, c), c built in -/
theorem ev_isi {T : String} {c : String} {bb : Bool} (ha : Ev ta σ H x) (ty : ∀ H1, Ex H H1 → TyX K H1 x (.type T)) (hk : kitB T c = some bb) : Ev (tCB (rIsi K) (tCons ta (tCons (tC (.ty c)) tNil))) σ H (.bl bb) := fun H1 e Q q =>
  ha H1 e _ fun H2 e2 => ⟨x, .ty c, .type T, .type c, bb, rfl, .ty c, ty H2 (e.trans e2), kit_ty hk, q H2 e2⟩
variable {D : Ends} {tz : TS}
/-- l.append(p.pop(i)) -/
theorem s_appPop {j : Nat} {i : Int} (hl : H l = some (.lst xs)) (hp : H p = some (.lst ys)) (ne : l ≠ p) (ha : Ev ta σ H (.ref l)) (hb : Ev tb σ H (.ref p)) (hi : Ev te σ H (.int i)) (ei : i = (j : Int)) (hj : ys[j]? = some y) (hy : ys.length ≤ 1000) (hz : xs.length < 100000)
    (k : ∀ H1, Ex H H1 → D.nx σ (upd (upd H1 p (.lst (ys.eraseIdx j))) l (.lst (xs ++ [y])))) :
    tDrop (tBM K "list" rAppend ta (tCons (tBM K "list" rPopAt tb (tCons te tNil)) tNil)) D σ H := ha H (Ex.refl H) _ fun H1 e1 =>
  ⟨Or.inl ⟨rfl, xs, sq_of (e1 l _ hl)⟩, hb H1 e1 _ fun H2 e2 => ⟨Or.inl ⟨rfl, ys, sq_of (e2 _ _ (e1 _ _ hp))⟩, hi H2 (e1.trans e2) _ fun H3 e3 => by
    have hlt : j < ys.length := (List.getElem?_eq_some_iff.mp hj).1
    refine ⟨p, ys, i, j, y, rfl, rfl, e3 _ _ (e2 _ _ (e1 _ _ hp)), by omega, by omega, by rw [ei]; exact seqIndex_of (by omega) (by omega), hj, ?_⟩
    exact ⟨l, xs, y, rfl, rfl, by rw [upd_ne ne]; exact e3 _ _ (e2 _ _ (e1 _ _ hl)), sz_lt hz, k H3 ((e1.trans e2).trans e3)⟩⟩⟩
/-- l.remove(k) -/
theorem q_remove {k : Int} {j : Nat} (hl : At H l ns) (ha : Ev ta σ H (.ref l)) (hi : Ev te σ H (.int k)) (hj : ns[j]? = some k) (hno : ∀ m : Nat, m < j → ns[m]? ≠ some k) (c : ∀ H1, Ex H H1 → tz D σ (upd H1 l (.lst ((ns.eraseIdx j).map V.int)))) :
    tSeq (tDrop (tBM K "list" rRemI ta (tCons te tNil))) tz D σ H := ha H (Ex.refl H) _ fun H1 e1 =>
  ⟨Or.inl ⟨rfl, _, sq_of (e1 l _ hl)⟩, hi H1 e1 _ fun H2 e2 => ⟨l, ns, k, j, rfl, rfl, e2 _ _ (e1 _ _ hl), hj, hno, c H2 (e1.trans e2)⟩⟩
end
end Tt
namespace Tt
open PySem PySem.Spec PyProof.Rows L2 Evl
/-! ### an int of which something is known -/
def EvI (te : TE) (σ : L2.St) (H : Hp) (P : Int → Prop) : Prop := ∀ H1, Ex H H1 → ∀ Q : VK, (∀ z H2, Ex H1 H2 → P z → Q (.int z) H2) → te σ H1 Q
section
variable {K : PySem.W.Frag} {σ : L2.St} {H H' : Hp} {ta tb te : TE} {P R : Int → Prop} {i j : Int}
theorem ei_ev (h : Ev te σ H (.int i)) (p : P i) : EvI te σ H P := fun H1 e Q q => h H1 e Q fun H2 e2 => q i H2 e2 p
theorem ei_imp (h : EvI te σ H P) (c : ∀ z, P z → R z) : EvI te σ H R := fun H1 e Q q => h H1 e Q fun z H2 e2 p => q z H2 e2 (c z p)
theorem EvI.mono (e : Ex H H') (h : EvI te σ H P) : EvI te σ H' P := fun H1 a Q q => h H1 (e.trans a) Q q
theorem ei_mod (ha : EvI ta σ H P) (hb : Ev tb σ H (.int j)) (hj : 0 < j) : EvI (tOp (rI (fun _ j => 0 < j) fun i j => .int (i % j)) ta tb) σ H (fun z => 0 ≤ z ∧ z < j) := fun H1 e Q q =>
  ha H1 e _ fun i H2 e2 _ => hb H2 (e.trans e2) _ fun H3 e3 => ⟨i, j, rfl, rfl, hj, q _ H3 (e2.trans e3) ⟨Int.emod_nonneg _ (by omega), Int.emod_lt_of_pos _ hj⟩⟩
theorem ei_fdiv (ha : EvI ta σ H P) (hb : Ev tb σ H (.int j)) (hj : 0 < j) (h2 : j < 1073741824) : EvI (tOp (rI CDivN fun i j => .int (i.fdiv j)) ta tb) σ H (fun _ => True) := fun H1 e Q q =>
  ha H1 e _ fun i H2 e2 _ => hb H2 (e.trans e2) _ fun H3 e3 => ⟨i, j, rfl, rfl, ⟨by omega, by omega⟩, q _ H3 (e2.trans e3) True.intro⟩
theorem ei_op {f : Int → Int → Int} (ha : EvI ta σ H P) (hb : EvI tb σ H R) : EvI (tOp (rI0 fun i j => .int (f i j)) ta tb) σ H (fun z => ∃ x y, P x ∧ R y ∧ z = f x y) := fun H1 e Q q =>
  ha H1 e _ fun i H2 e2 pi => hb H2 (e.trans e2) _ fun j H3 e3 rj => ⟨i, j, rfl, rfl, q _ H3 (e2.trans e3) ⟨i, j, pi, rj, rfl⟩⟩
variable {D : Ends} {tu tw tz : TS}
theorem q_asgI {k : Nat} (h : EvI te σ H P) (c : ∀ z H1, P z → Ex H H1 → tz D (σ.set k (some (.int z))) H1) : tSeq (tAsg te (gName k)) tz D σ H := h H (Ex.refl _) _ fun z H1 e p => c z H1 p e
theorem s_asgI {k : Nat} (h : EvI te σ H P) (c : ∀ z H1, P z → Ex H H1 → D.nx (σ.set k (some (.int z))) H1) : tAsg te (gName k) D σ H := h H (Ex.refl _) _ fun z H1 e p => c z H1 p e
/-- a test of which the answer is either -/
def EvTP (t : TT) (σ : L2.St) (H : Hp) : Prop := ∀ H1, Ex H H1 → ∀ Q : Bool → Hp → Prop, (∀ b H2, Ex H1 H2 → Q b H2) → t σ H1 Q
theorem ep_eq (ha : EvI ta σ H P) (hb : EvI tb σ H R) : EvTP (tTest (tOp rEq ta tb)) σ H := fun H1 e Q q =>
  ha H1 e _ fun i H2 e2 _ => hb H2 (e.trans e2) _ fun j H3 e3 _ => ⟨rfl, _, rfl, q _ H3 (e2.trans e3)⟩
theorem ep_gt (ha : EvI ta σ H P) (hb : EvI tb σ H R) : EvTP (tTest (tOp (rI0 fun i j => .bl (decide (j < i))) ta tb)) σ H := fun H1 e Q q =>
  ha H1 e _ fun i H2 e2 _ => hb H2 (e.trans e2) _ fun j H3 e3 _ => ⟨i, j, rfl, rfl, _, rfl, q _ H3 (e2.trans e3)⟩
theorem q_any {t : TT} (h : EvTP t σ H) (h1 : ∀ H1, Ex H H1 → tu { D with nx := tz D } σ H1) (h2 : ∀ H1, Ex H H1 → tz D σ H1) : tSeq (tIfS t tu tNext) tz D σ H := h H (Ex.refl _) _ fun b H1 e => by
  cases b with
  | true => exact h1 H1 e
  | false => exact h2 H1 e
theorem given_filter (p : Int → Bool) (ms : List Int) : given ms.length (fun i => p (ms.getD i 0)) (fun i => V.int (ms.getD i 0)) = (ms.filter p).map V.int := by
  have e : (List.range ms.length).map (fun i => ms.getD i 0) = ms := by
    refine List.ext_getElem? fun i => ?_
    by_cases hi : i < ms.length
    · rw [List.getElem?_map, List.getElem?_range hi, List.getElem?_eq_getElem hi]
      simp [List.getD_eq_getElem?_getD, List.getElem?_eq_getElem hi]
    · rw [List.getElem?_eq_none (by simp; omega), List.getElem?_eq_none (by omega)]
  unfold given
  have h2 : (ms.filter p) = ((List.range ms.length).filter (p ∘ fun i => ms.getD i 0)).map (fun i => ms.getD i 0) := by
    rw [← List.filter_map, e]
  rw [h2, List.map_map]
  rfl
theorem rv_eqI {i j : Int} : RV rEq (.int i) (.int j) H (.bl (decide (i = j))) := fun H1 _ _ q => ⟨rfl, by
  have e : decide (V.int i = V.int j) = decide (i = j) := by simp
  rw [e]
  exact q H1 (Ex.refl H1)⟩
theorem rv_neI {i j : Int} : RV rNe (.int i) (.int j) H (.bl (!decide (i = j))) := fun H1 _ _ q => ⟨rfl, by
  have e : decide (V.int i = V.int j) = decide (i = j) := by simp
  rw [e]
  exact q H1 (Ex.refl H1)⟩
theorem ei_ix {ns : List Int} (ha : EvR ta σ H (ns.map V.int)) (hb : EvI tb σ H (fun z => 0 ≤ z ∧ z < (ns.length : Int))) : EvI (tOp (rIxL K) ta tb) σ H (fun x => x ∈ ns) := fun H1 e Q q =>
  ha H1 e _ fun p H2 e2 hp => hb H2 (e.trans e2) _ fun i H3 e3 hi => by
    have hlt : i.toNat < ns.length := by omega
    have ei : ns[i.toNat]? = some ns[i.toNat] := List.getElem?_eq_getElem hlt
    exact rv_ix i.toNat (sq_of (e3 _ _ hp)) (by omega) ei H3 (Ex.refl H3) Q fun H4 e4 => q _ H4 ((e2.trans e3).trans e4) (List.mem_of_getElem? ei)
/-- a new list of ints of which something is known -/
def EvLP (te : TE) (σ : L2.St) (H : Hp) (P : List Int → Prop) : Prop := ∀ H1, Ex H H1 → ∀ Q : VK, (∀ p ns H2, H1 p = none → Ex H1 H2 → At H2 p ns → P ns → Q (.ref p) H2) → te σ H1 Q
theorem q_asgLP {k : Nat} {P : List Int → Prop} (h : EvLP te σ H P) (c : ∀ p ns H1, H p = none → Ex H H1 → At H1 p ns → P ns → tz D (σ.set k (some (.ref p))) H1) : tSeq (tAsg te (gName k)) tz D σ H := h H (Ex.refl _) _ fun p ns H1 n e hp pn => c p ns H1 n e hp pn
theorem s_asgLP {k : Nat} {P : List Int → Prop} (h : EvLP te σ H P) (c : ∀ p ns H1, H p = none → Ex H H1 → At H1 p ns → P ns → D.nx (σ.set k (some (.ref p))) H1) : tAsg te (gName k) D σ H := h H (Ex.refl _) _ fun p ns H1 n e hp pn => c p ns H1 n e hp pn
/-- for i in range(n), n not known; the word does not speak of the turn -/
theorem q_forRI {j : Nat} {m : Int} (h : EvI te σ H (fun z => 0 ≤ z ∧ z < m)) (hm : m ≤ 100000) (Pv : L2.St → Hp → Prop) (h0 : ∀ H1, Ex H H1 → Pv σ H1)
    (hs : ∀ (i : Nat) σ' H', (i : Int) < m → Pv σ' H' → tu { D with nx := Pv, ct := Pv, bk := tz D } (σ'.set j (some (.int (i : Int)))) H') (hd : ∀ σ' H', Pv σ' H' → tz D σ' H') : tSeq (tFor (iRng1 (tCons te tNil)) (gName j) tu) tz D σ H :=
  h H (Ex.refl H) _ fun z H1 e hz => ⟨z, rfl, by omega, by omega, for_range (lo := 0) (n := z.toNat) (fun _ => Pv) (h0 H1 e) (fun i σ' H' hi p => by
    have e0 : (0 : Int) + (i : Int) = (i : Int) := Int.zero_add _
    show tu { D with nx := Pv, ct := Pv, bk := tz D } (σ'.set j (some (.int ((0 : Int) + (i : Int))))) H'
    rw [e0]
    exact hs i σ' H' (by omega) p) fun σ' H' p => hd σ' H' p⟩
/-- a list is stored anew, perhaps -/
theorem q_maybe {k : Nat} {P : List Int → Prop} {t : TT} {p0 : Addr} {ns0 : List Int} (h : EvTP t σ H) (h1 : EvLP te σ H P) (hσ : σ.set k (some (.ref p0)) = σ) (h0 : At H p0 ns0) (hP : P ns0) (c : ∀ p ns H1, Ex H H1 → At H1 p ns → P ns → tz D (σ.set k (some (.ref p))) H1) :
    tSeq (tIfS t (tAsg te (gName k)) tNext) tz D σ H :=
  q_any h (fun H1 e1 => s_asgLP (D := { D with nx := tz D }) (fun H2 e2 Q q => h1 H2 (e1.trans e2) Q q) fun p ns H2 _ e2 hp pn => c p ns H2 (e1.trans e2) hp pn) (fun H1 e1 => by
    have g := c p0 ns0 H1 e1 (e1 _ _ h0) hP
    rw [hσ] at g
    exact g)
theorem ei_c {i : Int} : EvI (tC (.int i)) σ H (fun z => z = i) := ei_ev ev_c rfl
theorem EvLP.imp {P R : List Int → Prop} (h : EvLP te σ H P) (c : ∀ z, P z → R z) : EvLP te σ H R := fun H1 e Q q => h H1 e Q fun p ns H2 n e2 hp pn => q p ns H2 n e2 hp (c ns pn)
/-- an item of a list is an int -/
theorem int_item {ns : List Int} {i : Nat} {y : V} (h : (ns.map V.int)[i]? = some y) : ∃ c, ns[i]? = some c ∧ y = V.int c := by
  rw [List.getElem?_map] at h
  cases e : ns[i]? with
  | none => rw [e] at h; cases h
  | some c => rw [e] at h; exact ⟨c, rfl, (Option.some.inj h).symm⟩
theorem upd_at {p b : Addr} {o u : HO} (h : H b = some u) (ne : b ≠ p) : (upd H p o) b = some u := by
  rw [upd_ne ne]
  exact h
/-- a call of one argument that is a list, new or not -/
theorem el_call1R {sp : Sp} {E : XK} {xs ys : List V} (h : EvR te σ H xs) (hs : ∀ p H1, Ex H H1 → H1 p = some (.lst xs) → SpL sp [.ref p] H1 ys) : EvL (tCall sp [] E (tCons te tNil)) σ H ys := fun H1 e Q q =>
  h H1 e _ fun p H2 e2 hp => hs p H2 (e.trans e2) hp H2 (Ex.refl _) Q (fun r H3 nr e3 hr => q r H3 (fresh_back e2 nr) (e2.trans e3) hr) E
theorem ev_call1R {sp : Sp} {E : XK} {xs : List V} {z : V} (h : EvR te σ H xs) (hs : ∀ p H1, Ex H H1 → H1 p = some (.lst xs) → SpV sp [.ref p] H1 z) : Ev (tCall sp [] E (tCons te tNil)) σ H z := fun H1 e Q q =>
  h H1 e _ fun p H2 e2 hp => hs p H2 (e.trans e2) hp H2 (Ex.refl _) Q (fun H3 e3 => q H3 (e2.trans e3)) E
theorem el_call2R {sp : Sp} {E : XK} {xs ys zs : List V} (h : EvR ta σ H xs) (h2 : EvR tb σ H ys) (hs : ∀ p q H1, Ex H H1 → H1 p = some (.lst xs) → H1 q = some (.lst ys) → SpL sp [.ref p, .ref q] H1 zs) : EvL (tCall sp [] E (tCons ta (tCons tb tNil))) σ H zs := fun H1 e Q q =>
  h H1 e _ fun p H2 e2 hp => h2 H2 (e.trans e2) _ fun r H3 e3 hr => hs p r H3 ((e.trans e2).trans e3) (e3 _ _ hp) hr H3 (Ex.refl _) Q (fun x H4 nx e4 hx => q x H4 (fresh_back (e2.trans e3) nx) ((e2.trans e3).trans e4) hx) E
/-- for x in reversed(xs) -/
theorem q_forRev {a : Addr} {xs : List V} {j : Nat} (h : Ev ta σ H (.ref a)) (hx : SqL K H a xs) (Pv : Nat → L2.St → Hp → Prop) (h0 : ∀ H1, Ex H H1 → Pv 0 σ H1) (hl : ∀ i σ' H', Pv i σ' H' → SqL K H' a xs)
    (hs : ∀ i x σ' H', i < xs.length → xs[xs.length - 1 - i]? = some x → Pv i σ' H' → tu { D with nx := Pv (i + 1), ct := Pv (i + 1), bk := tz D } (σ'.set j (some x)) H') (hd : ∀ σ' H', Pv xs.length σ' H' → tz D σ' H') : tSeq (tFor (iRev K (tCons ta tNil)) (gName j) tu) tz D σ H :=
  h H (Ex.refl H) _ fun H1 e => ⟨a, xs, rfl, ex_l e hx, RT.for_Itv (D := { D with nx := tz D }) Pv (h0 H1 e) hl hs hd⟩
theorem et_yes {σ : L2.St} {H : Hp} : EvT tYes σ H true := fun H1 _ Q q => q H1 (Ex.refl H1)
theorem given_int (n : Nat) (g : Nat → Int) : given n (fun _ => true) (fun i => V.int (g i)) = ((List.range n).map g).map V.int := by
  unfold given
  rw [List.filter_eq_self.mpr (fun _ _ => rfl), List.map_map]
  rfl
theorem range_getD {α : Type} (l : List α) (d : α) : (List.range l.length).map (fun i => l.getD i d) = l := by
  refine List.ext_getElem? fun i => ?_
  by_cases hi : i < l.length
  · rw [List.getElem?_map, List.getElem?_range hi, List.getElem?_eq_getElem hi]
    simp [List.getD_eq_getElem?_getD, List.getElem?_eq_getElem hi]
  · rw [List.getElem?_eq_none (by simp; omega), List.getElem?_eq_none (by omega)]
theorem at_nat {α : Type} {xs : List α} {j : Nat} {x : α} (h : xs[j]? = some x) : atI xs (j : Int) = some x := by
  have hj := (List.getElem?_eq_some_iff.mp h).1
  unfold atI
  rw [ixN_nat hj]
  exact h
/-- a list of ints of which something is known, new or not -/
def EvRP (te : TE) (σ : L2.St) (H : Hp) (P : List Int → Prop) : Prop := ∀ H1, Ex H H1 → ∀ Q : VK, (∀ p ns H2, Ex H1 H2 → At H2 p ns → P ns → Q (.ref p) H2) → te σ H1 Q
theorem EvRP.ofR {ns : List Int} (h : EvR te σ H (ns.map V.int)) : EvRP te σ H (fun l => l = ns) := fun H1 e Q q => h H1 e Q fun p H2 e2 hp => q p ns H2 e2 hp rfl
theorem EvRP.ofL {P : List Int → Prop} (h : EvLP te σ H P) : EvRP te σ H P := fun H1 e Q q => h H1 e Q fun p ns H2 _ e2 hp pn => q p ns H2 e2 hp pn
theorem EvLP.ofL {P : List Int → Prop} {ns : List Int} (h : EvL te σ H (ns.map V.int)) (hP : P ns) : EvLP te σ H P := fun H1 e Q q => h H1 e Q fun p H2 np e2 hp => q p ns H2 np e2 hp hP
theorem elp_cat {P R : List Int → Prop} (ha : EvRP ta σ H P) (hb : EvRP tb σ H R) (hz : ∀ ns ms, P ns → R ms → ns.length + ms.length ≤ 100000) : EvLP (tOp rCat ta tb) σ H (fun l => ∃ ns ms, P ns ∧ R ms ∧ l = ns ++ ms) := fun H1 e Q q =>
  ha H1 e _ fun p ns H2 e2 hp pn => hb H2 (e.trans e2) _ fun r ms H3 e3 hr pm => by
    refine ⟨p, r, ns.map V.int, ms.map V.int, rfl, rfl, e3 _ _ hp, hr, sz_of (by rw [List.length_map, List.length_map]; exact hz ns ms pn pm), fun s hs => ?_⟩
    rw [← List.map_append]
    exact q s (ns ++ ms) _ (fresh_back (e2.trans e3) hs) ((e2.trans e3).trans (Ex.new hs)) upd_same ⟨ns, ms, pn, pm, rfl⟩
theorem elp3 {tc : TE} {P R S : Int → Prop} (ha : EvI ta σ H P) (hb : EvI tb σ H R) (hc : EvI tc σ H S) : EvLP (tLst (tCons ta (tCons tb (tCons tc tNil)))) σ H (fun l => l.length = 3) := fun H1 e Q q =>
  ha H1 e _ fun i H2 e2 _ => hb H2 (e.trans e2) _ fun j H3 e3 _ => hc H3 ((e.trans e2).trans e3) _ fun k H4 e4 _ => ⟨by show 3 ≤ sizeLine; decide, fun p hp => q p [i, j, k] _ (fresh_back ((e2.trans e3).trans e4) hp) (((e2.trans e3).trans e4).trans (Ex.new hp)) upd_same rfl⟩
theorem ei_ixP {P : List Int → Prop} {R : Int → Prop} (ha : EvRP ta σ H P) (hb : EvI tb σ H R) (hi : ∀ ns z, P ns → R z → 0 ≤ z ∧ z < (ns.length : Int)) : EvI (tOp (rIxL K) ta tb) σ H (fun _ => True) := fun H1 e Q q =>
  ha H1 e _ fun p ns H2 e2 hp pn => hb H2 (e.trans e2) _ fun i H3 e3 ri => by
    obtain ⟨i0, i1⟩ := hi ns i pn ri
    have hlt : i.toNat < ns.length := by omega
    have ei : ns[i.toNat]? = some ns[i.toNat] := List.getElem?_eq_getElem hlt
    exact rv_ix i.toNat (sq_of (e3 _ _ hp)) (by omega) ei H3 (Ex.refl H3) Q fun H4 e4 => q _ H4 ((e2.trans e3).trans e4) True.intro
theorem ei_fdivP {P : Int → Prop} {j : Int} (ha : EvI ta σ H P) (hb : Ev tb σ H (.int j)) (hj : 0 < j) (h2 : j < 1073741824) : EvI (tOp (rI CDivN fun i j => .int (i.fdiv j)) ta tb) σ H (fun z => ∃ x, P x ∧ z = x.fdiv j) := fun H1 e Q q =>
  ha H1 e _ fun i H2 e2 pi => hb H2 (e.trans e2) _ fun H3 e3 => ⟨i, j, rfl, rfl, ⟨by omega, by omega⟩, q _ H3 (e2.trans e3) ⟨i, pi, rfl⟩⟩
/-- a list times a number of which something is known -/
theorem elp_rep {x : Int} {R : Int → Prop} (ha : Ev ta σ H (.int x)) (hb : EvI tb σ H R) (hR : ∀ z, R z → 0 ≤ z ∧ z ≤ 100) : EvLP (tOp rRep (tLst (tCons ta tNil)) tb) σ H (fun l => l.length ≤ 100) := fun H1 e Q q =>
  ha H1 e _ fun H2 e2 => ⟨by show 1 ≤ sizeLine; decide, fun p hp => hb _ ((e.trans e2).trans (Ex.new hp)) _ fun k H3 e3 rk => by
    obtain ⟨k0, k1⟩ := hR k rk
    have ex : Ex H1 H3 := (e2.trans (Ex.new hp)).trans e3
    refine ⟨p, k, [.int x], rfl, rfl, e3 _ _ upd_same, by omega, by omega, sz_of (by rw [List.length_singleton]; omega), fun r hr => ?_⟩
    have e0 : (List.replicate k.toNat [V.int x]).flatten = (List.replicate k.toNat x).map V.int := by
      generalize k.toNat = n
      induction n with
      | zero => rfl
      | succ n ih => rw [List.replicate_succ, List.replicate_succ, List.flatten_cons, ih]; rfl
    refine q r (List.replicate k.toNat x) _ (fresh_back ex hr) (ex.trans (Ex.new hr)) ?_ (by show (List.replicate k.toNat x).length ≤ 100; rw [List.length_replicate]; omega)
    show upd _ _ _ _ = _
    rw [upd_same, e0]⟩
/-- an if without else, both ways coming to Inv -/
theorem q_two {D : Ends} {tu tz : TS} {t : TT} (M : L2.St → Hp → Prop) (h : EvTP t σ H) (h1 : ∀ N : L2.St → Hp → Prop, (∀ σ' H', M σ' H' → N σ' H') → ∀ H1, Ex H H1 → tu { D with nx := N } σ H1) (h2 : ∀ H1, Ex H H1 → M σ H1) (k : ∀ σ' H', M σ' H' → tz D σ' H') :
    tSeq (tIfS t tu tNext) tz D σ H := q_any h (fun H1 e1 => h1 (tz D) k H1 e1) (fun H1 e1 => k _ _ (h2 H1 e1))
theorem rv_isN {x : V} : RV (fun x y H Q => y = .non ∧ Q (.bl (decide (x = .non))) H) x .non H (.bl (decide (x = .non))) := fun H1 _ _ q => ⟨rfl, q H1 (Ex.refl H1)⟩
theorem q_maybeF {D : Ends} {tz : TS} {k : Nat} {P : List Int → Prop} {t : TT} {p0 : Addr} {ns0 : List Int} (h : EvTP t σ H) (h1 : EvLP te σ H P) (hσ : σ.set k (some (.ref p0)) = σ) (h0 : At H p0 ns0) (hP : P ns0) (c : ∀ p ns H1, Ex H H1 → At H1 p ns → P ns → (p = p0 ∨ H p = none) → tz D (σ.set k (some (.ref p))) H1) :
    tSeq (tIfS t (tAsg te (gName k)) tNext) tz D σ H :=
  q_any h (fun H1 e1 => s_asgLP (D := { D with nx := tz D }) (fun H2 e2 Q q => h1 H2 (e1.trans e2) Q q) fun p ns H2 np e2 hp pn => c p ns H2 (e1.trans e2) hp pn (Or.inr (fresh_back e1 np))) (fun H1 e1 => by
    have g := c p0 ns0 H1 e1 (e1 _ _ h0) hP (Or.inl rfl)
    rw [hσ] at g
    exact g)
end
end Tt

/-! Lists of lists of ints. -/
namespace Tt
open PySem PySem.Spec PyProof.Rows L2 Evl
/-- at a: a list of the lists at ps, which hold the rows -/
structure AtL (H : Hp) (a : Addr) (ps : List Addr) (rows : List (List Int)) : Prop where
  top : H a = some (.lst (ps.map V.ref))
  len : ps.length = rows.length
  row : ∀ (i : Nat) (p : Addr) (ns : List Int), ps[i]? = some p → rows[i]? = some ns → At H p ns
section
variable {K : PySem.W.Frag} {σ : L2.St} {H H' : Hp} {ta tb te tx : TE} {t : TT} {a b p q l : Addr} {ps qs : List Addr} {rows rws : List (List Int)}
theorem AtL.ex (h : AtL H a ps rows) (e : Ex H H') : AtL H' a ps rows := ⟨e _ _ h.top, h.len, fun i p ns h1 h2 => e _ _ (h.row i p ns h1 h2)⟩
theorem AtL.mem (h : AtL H a ps rows) {p : Addr} (hp : p ∈ ps) : ∃ (i : Nat) (ns : List Int), ps[i]? = some p ∧ rows[i]? = some ns ∧ At H p ns := by
  obtain ⟨i, hi⟩ := List.mem_iff_getElem?.mp hp
  have hlt : i < rows.length := by rw [← h.len]; exact (List.getElem?_eq_some_iff.mp hi).1
  exact ⟨i, rows[i], hi, List.getElem?_eq_getElem hlt, h.row i p _ hi (List.getElem?_eq_getElem hlt)⟩
theorem AtL.top_out (h : AtL H a ps rows) : a ∉ ps := fun hm => by
  obtain ⟨i, ns, _, _, hat⟩ := h.mem hm
  have e : ps.map V.ref = ns.map V.int := HO.lst.inj (Option.some.inj (h.top.symm.trans hat))
  cases ps with
  | nil => cases hm
  | cons x r =>
    cases ns with
    | nil => cases e
    | cons y s => exact absurd (List.cons.inj e).1 (by intro w; cases w)
theorem AtL.at_ (h : AtL H a ps rows) {i : Nat} {ns : List Int} (hi : rows[i]? = some ns) : ∃ p, ps[i]? = some p ∧ At H p ns := by
  have hlt : i < ps.length := by rw [h.len]; exact (List.getElem?_eq_some_iff.mp hi).1
  exact ⟨ps[i], List.getElem?_eq_getElem hlt, h.row i _ _ (List.getElem?_eq_getElem hlt) hi⟩
theorem AtL.upd_other {o : HO} (h : AtL H a ps rows) (na : a ≠ b) (nb : b ∉ ps) : AtL (upd H b o) a ps rows := ⟨upd_at h.top na, h.len, fun i p ns h1 h2 => upd_at (h.row i p ns h1 h2) fun z => nb (by rw [← z]; exact List.mem_of_getElem? h1)⟩
theorem dp_rows : ∀ (ps : List Addr) (rows : List (List Int)), ps.length = rows.length → (∀ (i : Nat) (p : Addr) (ns : List Int), ps[i]? = some p → rows[i]? = some ns → At H p ns) → DpAll K H (ps.map V.ref) (rows.map dI)
  | [], [], _, _ => .nil
  | [], _ :: _, h, _ => by simp at h
  | _ :: _, [], h, _ => by simp at h
  | p :: ps, r :: rows, h, f => .cons (Dp.ints (sq_of (f 0 p r rfl rfl))) (dp_rows ps rows (by simpa using h) fun i q ns h1 h2 => f (i + 1) q ns h1 h2)
theorem AtL.dp (h : AtL H a ps rows) : Dp K H (.ref a) (dII rows) := .lst (sq_of h.top) (dp_rows ps rows h.len h.row)
/-- a new list of new lists -/
def EvLL (te : TE) (σ : L2.St) (H : Hp) (rows : List (List Int)) : Prop := ∀ H1, Ex H H1 → ∀ Q : VK, (∀ p ps H2, H1 p = none → Ex H1 H2 → AtL H2 p ps rows → (∀ x ∈ ps, H1 x = none) → ps.Nodup → Q (.ref p) H2) → te σ H1 Q
def EvRL (te : TE) (σ : L2.St) (H : Hp) (rows : List (List Int)) : Prop := ∀ H1, Ex H H1 → ∀ Q : VK, (∀ p ps H2, Ex H1 H2 → AtL H2 p ps rows → Q (.ref p) H2) → te σ H1 Q
theorem EvRL.new (h : EvLL te σ H rows) : EvRL te σ H rows := fun H1 e Q q => h H1 e Q fun p ps H2 _ e2 h2 _ _ => q p ps H2 e2 h2
theorem EvRL.old (h : Ev te σ H (.ref a)) (ha : AtL H a ps rows) : EvRL te σ H rows := fun H1 e Q q => h H1 e Q fun H2 e2 => q a ps H2 e2 (ha.ex (e.trans e2))
theorem ev_eqRL (ha : EvRL ta σ H rows) (hb : EvRL tb σ H rws) : Ev (tOp (rEqD K) ta tb) σ H (.bl (decide (rows = rws))) := fun H1 e Q q =>
  ha H1 e _ fun p ps H2 e2 hp => hb H2 (e.trans e2) _ fun r rs H3 e3 hr =>
    ⟨dII rows, dII rws, (hp.ex e3).dp, hr.dp, Dat.int.list.list.shaped (by decide) rows, Dat.int.list.list.shaped (by decide) rws, by rw [Dat.int.list.list.eq]; exact q H3 (e2.trans e3)⟩
theorem ev_neRL (ha : EvRL ta σ H rows) (hb : EvRL tb σ H rws) : Ev (tOp (rNeD K) ta tb) σ H (.bl (!decide (rows = rws))) := fun H1 e Q q =>
  ha H1 e _ fun p ps H2 e2 hp => hb H2 (e.trans e2) _ fun r rs H3 e3 hr =>
    ⟨dII rows, dII rws, (hp.ex e3).dp, hr.dp, Dat.int.list.list.shaped (by decide) rows, Dat.int.list.list.shaped (by decide) rws, by rw [Dat.int.list.list.eq]; exact q H3 (e2.trans e3)⟩
theorem ev_lenRL (ha : EvRL ta σ H rows) : Ev (tCB (rLenS K) (tCons ta tNil)) σ H (.int (rows.length : Int)) := fun H1 e Q q =>
  ha H1 e _ fun p ps H2 e2 h2 => ⟨p, ps.map V.ref, rfl, Or.inl (sq_of h2.top), by rw [List.length_map, h2.len]; exact q H2 e2⟩
theorem rv_ixP {i : Int} (j : Nat) (h : H a = some (.lst (ps.map V.ref))) (ej : i = (j : Int)) (e : ps[j]? = some p) : RV (rIxL K) (.ref a) (.int i) H (.ref p) :=
  rv_ixL (sq_of h) (at_of ej (by rw [List.getElem?_map, e]; rfl))
/-- which turns give a row, and which -/
def givenL (n : Nat) (f : Nat → Bool) (v : Nat → List Int) : List (List Int) := ((List.range n).filter f).map v
theorem givenL_yes {n : Nat} {f : Nat → Bool} {v : Nat → List Int} (h : f n = true) : givenL (n + 1) f v = givenL n f v ++ [v n] := by
  unfold givenL
  rw [List.range_succ, List.filter_append, List.map_append, List.filter_cons, if_pos h] <;> rfl
theorem givenL_no {n : Nat} {f : Nat → Bool} {v : Nat → List Int} (h : f n = false) : givenL (n + 1) f v = givenL n f v := by
  unfold givenL
  rw [List.range_succ, List.filter_append, List.map_append, List.filter_cons, if_neg (by rw [h]; decide)]
  show _ ++ [] = _
  rw [List.append_nil]
theorem givenL_len (n : Nat) (f : Nat → Bool) (v : Nat → List Int) : (givenL n f v).length ≤ n := by
  unfold givenL
  rw [List.length_map]
  have h := List.length_filter_le f (List.range n)
  rwa [List.length_range] at h
/-- one row more -/
theorem AtL.snoc {o : List V} (h : AtL H a ps rows) (np : p ≠ a) {ns : List Int} (hp : At H p ns) : AtL (upd H a (.lst (ps.map V.ref ++ [.ref p]))) a (ps ++ [p]) (rows ++ [ns]) := by
  refine ⟨by rw [upd_same, List.map_append]; rfl, by simp [h.len], fun i x ms h1 h2 => ?_⟩
  by_cases hi : i < ps.length
  · rw [List.getElem?_append_left hi] at h1
    rw [List.getElem?_append_left (by rw [← h.len]; exact hi)] at h2
    exact upd_at (h.row i x ms h1 h2) fun z => h.top_out (by rw [← z]; exact List.mem_of_getElem? h1)
  · rw [List.getElem?_append_right (by omega)] at h1
    rw [List.getElem?_append_right (by rw [← h.len]; omega)] at h2
    have e0 : i - ps.length = 0 := by
      have := (List.getElem?_eq_some_iff.mp h1).1
      simp at this
      omega
    rw [e0] at h1
    rw [← h.len, e0] at h2
    cases Option.some.inj h1
    cases Option.some.inj h2
    exact upd_at hp np
def CwL (H : Hp) (f : Nat → Bool) (v : Nat → List Int) (Dl : Addr) (i : Nat) (H' : Hp) : Prop := H Dl = none ∧ Ex H H' ∧ ∃ ps, AtL H' Dl ps (givenL i f v) ∧ (∀ x ∈ ps, H x = none) ∧ ps.Nodup
theorem cwL_turn {f : Nat → Bool} {v : Nat → List Int} {Dl : Addr} {i : Nat} {σ2 : L2.St} (c : CwL H f v Dl i H') (hi : i < 50000) (ht : EvT t σ2 H (f i)) (he : f i = true → EvL te σ2 H ((v i).map V.int)) :
    t σ2 H' fun b H3 => if b = true then te σ2 H3 fun y H4 => ∃ acc, H4 Dl = some (.lst acc) ∧ acc.length < sizeLine ∧ CwL H f v Dl (i + 1) (upd H4 Dl (.lst (acc ++ [y]))) else CwL H f v Dl (i + 1) H3 := by
  obtain ⟨c1, c2, ps, c3, c4, c5⟩ := c
  refine ht H' c2 _ fun H3 e3 => ?_
  cases hf : f i with
  | true =>
    show te σ2 H3 fun y H4 => ∃ acc, H4 Dl = some (.lst acc) ∧ acc.length < sizeLine ∧ CwL H f v Dl (i + 1) (upd H4 Dl (.lst (acc ++ [y])))
    refine he hf H3 (c2.trans e3) _ fun p H4 np e4 hp => ?_
    have c34 := (c3.ex e3).ex e4
    have npD : p ≠ Dl := fun z => by
      rw [z, (c3.ex e3).top] at np
      cases np
    have npp : p ∉ ps := fun hm => by
      obtain ⟨_, _, _, _, hat⟩ := (c3.ex e3).mem hm
      rw [hat] at np
      cases np
    refine ⟨ps.map V.ref, c34.top, ?_, c1, Ex.mut ((c2.trans e3).trans e4) c1, ps ++ [p], ?_, ?_, ?_⟩
    · rw [List.length_map, c34.len]
      have := givenL_len i f v
      exact sz_lt (by omega)
    · rw [givenL_yes hf]
      exact c34.snoc (o := []) npD hp
    · intro x hx
      rcases List.mem_append.mp hx with hx | hx
      · exact c4 x hx
      · rw [List.mem_singleton.mp hx]
        exact fresh_back (c2.trans e3) np
    · rw [List.nodup_append]
      exact ⟨c5, by simp, fun x hx y hy => by rw [List.mem_singleton.mp hy]; exact fun z => npp (by rw [← z]; exact hx)⟩
  | false =>
    show CwL H f v Dl (i + 1) H3
    refine ⟨c1, c2.trans e3, ps, ?_, c4, c5⟩
    rw [givenL_no hf]
    exact c3.ex e3
theorem AtL.none (hD : H a = none) : AtL (upd H a (.lst [])) a [] [] := ⟨upd_same, rfl, fun i p ns h => by simp at h⟩
/-- [row for k in range(lo, n) if test] -/
theorem ell_lcR2 {ta : TA} {j : Nat} {vs : List Nat} {lo n : Int} (f : Nat → Bool) (v : Nat → List Int) (h : EvA ta σ H [.int lo, .int n]) (hn : 0 ≤ lo ∧ lo ≤ 40000 ∧ 0 ≤ n ∧ n ≤ 40000) (hw : ∀ x, wipe ((wipe σ vs).set j (some x)) vs = wipe σ vs)
    (ht : ∀ (i : Nat) H1, Ex H H1 → lo + (i : Int) < n → EvT t ((wipe σ vs).set j (some (.int (lo + (i : Int))))) H1 (f i)) (he : ∀ (i : Nat) H1, Ex H H1 → lo + (i : Int) < n → f i = true → EvL te ((wipe σ vs).set j (some (.int (lo + (i : Int))))) H1 ((v i).map V.int)) :
    EvLL (tLc (iRng2 ta) (gName j) t te vs) σ H (givenL (n - lo).toNat f v) := fun H0 e Q q => h H0 e _ fun H1 e1 => ⟨lo, n, rfl, ⟨by omega, by omega, by omega, by omega⟩, fun Dl hD =>
  lc_range (lo := lo) (n := (n - lo).toNat) (CwL H1 f v Dl) ⟨hD, Ex.new hD, [], AtL.none hD, (fun _ z => by cases z), List.nodup_nil⟩ (fun i H' hi c =>
    ⟨hw _, cwL_turn c (by omega) (ht i H1 (e.trans e1) (by omega)) (fun hf => he i H1 (e.trans e1) (by omega) hf)⟩) (fun H' c => by
      obtain ⟨c1, c2, ps, c3, c4, c5⟩ := c
      exact q Dl ps H' (fresh_back e1 c1) (e1.trans c2) c3 (fun x hx => fresh_back e1 (c4 x hx)) c5)⟩
theorem ell_lcR1 {ta : TA} {j : Nat} {vs : List Nat} {n : Int} (f : Nat → Bool) (v : Nat → List Int) (h : EvA ta σ H [.int n]) (hn : 0 ≤ n ∧ n ≤ 40000) (hw : ∀ x, wipe ((wipe σ vs).set j (some x)) vs = wipe σ vs)
    (ht : ∀ (i : Nat) H1, Ex H H1 → (i : Int) < n → EvT t ((wipe σ vs).set j (some (.int (i : Int)))) H1 (f i)) (he : ∀ (i : Nat) H1, Ex H H1 → (i : Int) < n → f i = true → EvL te ((wipe σ vs).set j (some (.int (i : Int)))) H1 ((v i).map V.int)) :
    EvLL (tLc (iRng1 ta) (gName j) t te vs) σ H (givenL n.toNat f v) := fun H0 e Q q => h H0 e _ fun H1 e1 => ⟨n, rfl, by omega, by omega, fun Dl hD =>
  lc_range (lo := 0) (n := n.toNat) (CwL H1 f v Dl) ⟨hD, Ex.new hD, [], AtL.none hD, (fun _ z => by cases z), List.nodup_nil⟩ (fun i H' hi c => by
    have e0 : (0 : Int) + (i : Int) = (i : Int) := Int.zero_add _
    show wipe ((wipe σ vs).set j (some (.int ((0 : Int) + (i : Int))))) vs = wipe σ vs ∧ t ((wipe σ vs).set j (some (.int ((0 : Int) + (i : Int))))) H' fun b H3 => if b = true then te ((wipe σ vs).set j (some (.int ((0 : Int) + (i : Int))))) H3 fun y H4 => ∃ acc, H4 Dl = some (.lst acc) ∧ acc.length < sizeLine ∧ CwL H1 f v Dl (i + 1) (upd H4 Dl (.lst (acc ++ [y]))) else CwL H1 f v Dl (i + 1) H3
    rw [e0]
    exact ⟨hw _, cwL_turn c (by omega) (ht i H1 (e.trans e1) (by omega)) (fun hf => he i H1 (e.trans e1) (by omega) hf)⟩) (fun H' c => by
      obtain ⟨c1, c2, ps, c3, c4, c5⟩ := c
      exact q Dl ps H' (fresh_back e1 c1) (e1.trans c2) c3 (fun x hx => fresh_back e1 (c4 x hx)) c5)⟩
variable {D : Ends} {tz tu : TS}
theorem q_asgLL {k : Nat} (h : EvLL te σ H rows) (c : ∀ p ps H1, H p = none → Ex H H1 → AtL H1 p ps rows → (∀ x ∈ ps, H x = none) → ps.Nodup → tz D (σ.set k (some (.ref p))) H1) : tSeq (tAsg te (gName k)) tz D σ H := h H (Ex.refl _) _ fun p ps H1 n e hp hn nd => c p ps H1 n e hp hn nd
theorem s_retLL (h : EvLL te σ H rows) (c : ∀ p ps H1, H p = none → Ex H H1 → AtL H1 p ps rows → (∀ x ∈ ps, H x = none) → ps.Nodup → D.rt (.ref p) H1) : tRet te D σ H := h H (Ex.refl _) _ c
def RetLL (rows : List (List Int)) (H : Hp) (Q : VK) : Prop := ∀ p ps H2, H p = none → Ex H H2 → AtL H2 p ps rows → (∀ x ∈ ps, H x = none) → ps.Nodup → Q (.ref p) H2
def SpLL (sp : Sp) (vs : List V) (H : Hp) (rows : List (List Int)) : Prop := ∀ H1, Ex H H1 → ∀ Q : VK, RetLL rows H1 Q → ∀ E : XK, sp vs H1 Q E
theorem ell_call {sp : Sp} {dvs vs : List V} {E : XK} {ta : TA} (h : EvA ta σ H vs) (hs : SpLL sp (vs ++ dvs) H rows) : EvLL (tCall sp dvs E ta) σ H rows := fun H1 e Q q =>
  h H1 e _ fun H2 e2 => hs H2 (e.trans e2) Q (fun p ps H3 hp e3 h3 hn nd => q p ps H3 (fresh_back e2 hp) (e2.trans e3) h3 (fun x hx => fresh_back e2 (hn x hx)) nd) E
/-- a call of one argument that is a list, new or not -/
theorem ell_call1R {sp : Sp} {E : XK} {xs : List V} (h : EvR te σ H xs) (hs : ∀ p H1, Ex H H1 → H1 p = some (.lst xs) → SpLL sp [.ref p] H1 rows) : EvLL (tCall sp [] E (tCons te tNil)) σ H rows := fun H1 e Q q =>
  h H1 e _ fun p H2 e2 hp => hs p H2 (e.trans e2) hp H2 (Ex.refl _) Q (fun r rs H3 nr e3 hr hn nd => q r rs H3 (fresh_back e2 nr) (e2.trans e3) hr (fun x hx => fresh_back e2 (hn x hx)) nd) E
theorem s_clear {xs : List V} (hl : H l = some (.lst xs)) (ha : Ev ta σ H (.ref l)) (k : ∀ H1, Ex H H1 → D.nx σ (upd H1 l (.lst []))) : tDrop (tBM0 K "list" (fun x vs H Q => ∃ l xs, x = .ref l ∧ vs = [] ∧ H l = some (.lst xs) ∧ Q .non (upd H l (.lst []))) ta) D σ H := ha H (Ex.refl H) _ fun H1 e1 =>
  ⟨Or.inl ⟨rfl, xs, sq_of (e1 l _ hl)⟩, ⟨l, xs, rfl, rfl, e1 _ _ hl, k H1 e1⟩⟩
theorem givenL_all (n : Nat) (v : Nat → List Int) : givenL n (fun _ => true) v = (List.range n).map v := by
  unfold givenL
  rw [List.filter_eq_self.mpr (fun _ _ => rfl)]
theorem givenL_at {n j : Nat} {v : Nat → List Int} {r : List Int} (h : (givenL n (fun _ => true) v)[j]? = some r) : j < n ∧ r = v j := by
  rw [givenL_all, List.getElem?_map] at h
  by_cases hj : j < n
  · rw [List.getElem?_range hj] at h
    exact ⟨hj, (Option.some.inj h).symm⟩
  · rw [List.getElem?_eq_none (by simp; omega)] at h
    cases h
theorem AtL.two {ns ms : List Int} (h : H l = some (.lst [.ref a, .ref b])) (h1 : At H a ns) (h2 : At H b ms) : AtL H l [a, b] [ns, ms] := by
  refine ⟨h, rfl, fun i p xs e1 e2 => ?_⟩
  match i, e1, e2 with
  | 0, e1, e2 =>
    cases Option.some.inj e1
    cases Option.some.inj e2
    exact h1
  | 1, e1, e2 =>
    cases Option.some.inj e1
    cases Option.some.inj e2
    exact h2
  | i + 2, e1, _ => simp at e1
theorem erl_two {ns ms : List Int} (ha : EvR ta σ H (ns.map V.int)) (hb : EvR tb σ H (ms.map V.int)) : EvRL (tLst (tCons ta (tCons tb tNil))) σ H [ns, ms] := fun H1 e Q q =>
  ha H1 e _ fun p H2 e2 hp => hb H2 (e.trans e2) _ fun r H3 e3 hr => ⟨by show 2 ≤ sizeLine; decide, fun s hs => q s [p, r] _ ((e2.trans e3).trans (Ex.new hs)) (AtL.two upd_same (Ex.new hs _ _ (e3 _ _ hp)) (Ex.new hs _ _ hr))⟩
end
/-- the decks that lead to one by a turn -/
def aheadsM (ns : List Int) : List (List Int) := givenL (ns.length - 1) (inPl ns) (fun i => ov ns (2 + (i : Int)))
theorem inPl_at {ns : List Int} {i : Nat} (h : i + 1 < ns.length) : ∃ c, ns[i + 1]? = some c ∧ decide (c = (i : Int) + 2) = inPl ns i := by
  have e : ns[i + 1]? = some ns[i + 1] := List.getElem?_eq_getElem h
  refine ⟨_, e, ?_⟩
  unfold inPl
  rw [e]
  by_cases z : ns[i + 1] = (i : Int) + 2 <;> simp [z]
end Tt

/-! Cards beneath. -/
namespace Tt
theorem ov_app {d b : List Int} {k : Int} (h : k ≤ d.length) : ov (d ++ b) k = ov d k ++ b := by
  unfold ov
  rw [List.take_append_of_le_length (by omega), List.drop_append_of_le_length (by omega), List.append_assoc]
theorem app0 {d b : List Int} {k : Int} (h : d[0]? = some k) : (d ++ b)[0]? = some k := by
  rw [List.getElem?_append_left (List.getElem?_eq_some_iff.mp h).1, h]
theorem Gm.app {d ts e : List Int} (g : Gm d ts e) : IsDk d → ∀ b : List Int, Gm (d ++ b) ts (e ++ b) := by
  induction g with
  | stop h => exact fun _ b => .stop (app0 h)
  | turn h n _ ih =>
    intro hd b
    refine .turn (app0 h) n ?_
    rw [ov_app (hd.at h).2]
    exact ih (hd.ov _) b
/-- the next m cards in their order -/
def nextM (n m : Nat) : List Int := (List.range m).map fun i : Nat => (n : Int) + 1 + (i : Int)
theorem nextM_len (n m : Nat) : (nextM n m).length = m := by simp [nextM]
theorem nextM_get {n m i : Nat} (h : i < m) : (nextM n m)[i]? = some ((n : Int) + 1 + (i : Int)) := by
  unfold nextM
  rw [List.getElem?_map, List.getElem?_range h]
  rfl
theorem rng_add (n m : Nat) : rng (n + m) = rng n ++ nextM n m := by
  refine List.ext_getElem? fun i => ?_
  by_cases h : i < n
  · rw [rng_get (by omega), List.getElem?_append_left (by rw [rng_len]; exact h), rng_get h]
  · rw [List.getElem?_append_right (by rw [rng_len]; omega), rng_len]
    by_cases h2 : i < n + m
    · rw [rng_get h2, nextM_get (by omega)]
      congr 1
      omega
    · rw [List.getElem?_eq_none (by rw [rng_len]; omega), List.getElem?_eq_none (by rw [nextM_len]; omega)]
theorem IsDk.app {d b : List Int} {m : Nat} (h : IsDk d) (hb : b.Perm (nextM d.length m)) : IsDk (d ++ b) := by
  have e := hb.length_eq
  rw [nextM_len] at e
  unfold IsDk
  rw [List.length_append, e, rng_add]
  exact List.Perm.append h hb
theorem inPl_app {d b : List Int} {i : Nat} (h : i + 1 < d.length) : inPl (d ++ b) i = inPl d i := by
  unfold inPl
  rw [List.getElem?_append_left h]
theorem inPl_next {d : List Int} {m i : Nat} (h : d.length ≤ i + 1) (h2 : i + 1 < d.length + m) : inPl (d ++ nextM d.length m) i = true := by
  unfold inPl
  rw [List.getElem?_append_right h, nextM_get (by omega)]
  refine decide_eq_true ?_
  congr 1
  omega
def cnt (f : Nat → Bool) (n : Nat) : Nat := ((List.range n).filter f).length
theorem cnt_succ (f : Nat → Bool) (n : Nat) : cnt f (n + 1) = cnt f n + if f n = true then 1 else 0 := by
  unfold cnt
  rw [List.range_succ, List.filter_append, List.length_append, List.filter_cons]
  split <;> rfl
theorem cnt_congr {f g : Nat → Bool} : ∀ {n : Nat}, (∀ i, i < n → f i = g i) → cnt f n = cnt g n
  | 0, _ => rfl
  | n + 1, h => by
    rw [cnt_succ, cnt_succ, cnt_congr fun i hi => h i (by omega), h n (by omega)]
theorem cnt_all {f : Nat → Bool} {n : Nat} : ∀ {m : Nat}, (∀ i, n ≤ i → i < n + m → f i = true) → cnt f (n + m) = cnt f n + m
  | 0, _ => rfl
  | m + 1, h => by
    rw [← Nat.add_assoc, cnt_succ, cnt_all fun i h1 h2 => h i h1 (by omega), if_pos (h (n + m) (by omega) (by omega))]
    omega
theorem cnt_next {d : List Int} {m : Nat} (h : 1 ≤ d.length) : cnt (inPl (d ++ nextM d.length m)) (d.length + m - 1) = cnt (inPl d) (d.length - 1) + m := by
  have e : d.length + m - 1 = (d.length - 1) + m := by omega
  rw [e, cnt_all fun i h1 h2 => inPl_next (by omega) (by omega), cnt_congr fun i hi => inPl_app (by omega)]
/-- the weight, card by card -/
theorem W_next {d : List Int} {m i : Nat} (h : 1 ≤ d.length) (hi : i < d.length + m - 1) :
    W (inPl (d ++ nextM d.length m)) (max (i + 1) (d.length - 1)) = W (inPl (d ++ nextM d.length m)) (max i (d.length - 1)) + if d.length - 1 ≤ i then 2 ^ i else 0 := by
  by_cases c : d.length - 1 ≤ i
  · rw [if_pos c, Nat.max_eq_left (by omega), Nat.max_eq_left c]
    show W _ i + (if inPl _ i = true then 2 ^ i else 0) = _
    rw [if_pos (inPl_next (by omega) (by omega))]
  · rw [if_neg c, Nat.max_eq_right (by omega), Nat.max_eq_right (by omega)]
    rfl
theorem W_base {d : List Int} {m : Nat} : W (inPl (d ++ nextM d.length m)) (d.length - 1) = wt d := W_congr fun i hi => inPl_app (by omega)
end Tt

/-! Own rule: sorted of a list of lists of ints. -/
namespace L2
open PySem PySem.Spec PyProof.Rows
abbrev AR := Addr × List Int
def leR (x y : AR) : Bool := decide (x.2 ≤ y.2)
def rSortedLL (K : PySem.W.Frag) : List V → Hp → VK → Prop := fun vs H Q => ∃ (a : Addr) (bs : List AR), vs = [V.ref a] ∧ SqL K H a (bs.map fun b => V.ref b.1) ∧ (∀ b ∈ bs, H b.1 = some (.lst (b.2.map V.int))) ∧
  ∀ p : Addr, H p = none → Q (.ref p) (upd H p (.lst ((bs.mergeSort leR).map fun b => V.ref b.1)))
theorem each_refs2 : ∀ {bs : List AR} {its : List Value}, Vals (bs.map fun b => V.ref b.1) its → PySem.W.EachIs (fun v (b : AR) => v = Value.ref b.1) its bs
  | [], its, h => by
    rw [List.map_nil] at h
    cases h
    exact .nil
  | b :: bs, its, h => by
    rw [List.map_cons] at h
    cases h with
    | cons r t => exact .cons r (each_refs2 t)
theorem vals_refs2 : ∀ {bs : List AR} {its : List Value}, PySem.W.EachIs (fun v (b : AR) => v = Value.ref b.1) its bs → Vals (bs.map fun b => V.ref b.1) its
  | [], its, h => by
    cases h
    exact .nil
  | b :: bs, its, h => by
    cases h with
    | cons r t => exact .cons r (vals_refs2 t)
section
variable {X : Cx} {pins : List (Addr × Obj)} {σ : St} {H : Hp} {s : Shared}
theorem dp_ints (K : PySem.W.Frag) {a : Addr} {ns : List Int} (h : SqL K H a (ns.map V.int)) : Dp K H (.ref a) (.list (ns.map PyData.int)) := by
  refine .lst h ?_
  clear h
  induction ns with
  | nil => exact .nil
  | cons n ns ih => exact .cons (.int n) ih
theorem each_reads (I : Inv X pins σ H s) : ∀ {bs : List AR} {its : List Value}, (∀ b ∈ bs, H b.1 = some (.lst (b.2.map V.int))) → Vals (bs.map fun b => V.ref b.1) its → PySem.W.EachIs (fun v (b : AR) => ∃ as, Reads s.heap v (.list (b.2.map PyData.int)) as) its bs
  | [], its, _, h => by
    rw [List.map_nil] at h
    cases h
    exact .nil
  | b :: bs, its, hb, h => by
    rw [List.map_cons] at h
    cases h with
    | cons r t => exact .cons (Dp.reads I _ (.ref b.1) _ (dp_ints _ (Or.inl (Or.inl (hb b List.mem_cons_self)))) r) (each_reads I (fun c hc => hb c (List.mem_cons_of_mem _ hc)) t)
theorem cr_sortedLL (hu : X.A.units + 64 < cLine) : CallR X (.builtin "sorted") (rSortedLL X.K) := by
  intro pins s σ H vs us Q I r h
  obtain ⟨a, bs, rfl, hs, hb, q⟩ := h
  obtain ⟨its, rv, hl, hz⟩ := I.list hs
  rw [List.length_map] at hz
  rw [Vals.ref1 r]
  refine PySem.W.sorted_data (enc := fun b : AR => PyData.list (b.2.map PyData.int)) hl.isList (each_refs2 rv) (each_reads I hb rv) (PySem.W.AllAlike.of fun b b' => PySem.W.alike_ints _ _) (PySem.W.Sortable.others fun b => ⟨(by intro z; cases z), fun xs z => by cases z⟩) hz
    (fun b _ => ?_) fun out h1 h2 => ?_
  · have e1 := PySem.W.depth_ints b.2
    simp only [PyData.depth, e1]
    omega
  · obtain ⟨ep, he'⟩ := PyProof.Rows.sortedAll_at s.heap its out.toArray
    have e2 : PySem.W.dataLe false (fun b : AR => PyData.list (b.2.map PyData.int)) = leR := PySem.W.dataLe_rows (fun b : AR => b.2)
    rw [e2] at h2
    have hlen : ((bs.mergeSort leR).map fun b => V.ref b.1).length ≤ sizeLine := by
      rw [List.length_map, List.length_mergeSort]
      exact hz
    exact ⟨.ref _, upd H (s.heap.objs.size + 1) (.lst ((bs.mergeSort leR).map fun b => V.ref b.1)), I.laid (t' := s.toks) (fun _ _ => PyProof.Rows.sortedAll_old) (Nat.le_succ _) ⟨hlen, out, ep, vals_refs2 h2, he'⟩, rfl, q _ (I.hok.fresh (Nat.le_succ _))⟩
end
end L2
namespace Tt
open PySem PySem.Spec PyProof.Rows L2 Evl
/-- the one rising order of these rows -/
def srtL (rows : List (List Int)) : List (List Int) := rows.mergeSort (fun a b => decide (a ≤ b))
theorem srtL_perm (rows : List (List Int)) : (srtL rows).Perm rows := List.mergeSort_perm rows _
theorem row_tr {a b c : List Int} (h1 : a ≤ b) (h2 : b ≤ c) : a ≤ c := List.le_trans h1 h2
theorem srtL_le (rows : List (List Int)) : (srtL rows).Pairwise (· ≤ ·) := by
  have h := List.pairwise_mergeSort (le := fun a b : List Int => decide (a ≤ b)) (fun a b c h1 h2 => by simp only [decide_eq_true_eq] at *; exact row_tr h1 h2) (fun a b => by
    simp only [Bool.or_eq_true, decide_eq_true_eq]
    exact List.le_total a b) rows
  exact h.imp fun h => by simpa using h
theorem srtL_one {ns l : List (List Int)} (hp : l.Perm ns) (hs : l.Pairwise (· ≤ ·)) : l = srtL ns :=
  (hp.trans (srtL_perm ns).symm).eq_of_pairwise (fun a b _ _ h1 h2 => List.le_antisymm h1 h2) hs (srtL_le ns)
theorem srtR_rows (bs : List AR) : (bs.mergeSort leR).map (·.2) = srtL (bs.map (·.2)) := by
  refine srtL_one ((List.mergeSort_perm bs leR).map _) ?_
  rw [List.pairwise_map]
  have h := List.pairwise_mergeSort (le := leR) (fun a b c h1 h2 => by unfold leR at *; simp only [decide_eq_true_eq] at *; exact row_tr h1 h2) (fun a b => by
    unfold leR
    simp only [Bool.or_eq_true, decide_eq_true_eq]
    exact List.le_total _ _) bs
  exact h.imp fun h => by unfold leR at h; simpa using h
section
variable {K : PySem.W.Frag} {σ : L2.St} {H H' : Hp} {ta tb te tx : TE} {t : TT} {a b p q l : Addr} {ps qs : List Addr} {rows rws : List (List Int)}
theorem zip_fst : ∀ {ps : List Addr} {rows : List (List Int)}, ps.length = rows.length → (ps.zip rows).map (·.1) = ps
  | [], [], _ => rfl
  | [], _ :: _, h => by simp at h
  | _ :: _, [], h => by simp at h
  | p :: ps, r :: rows, h => by
    rw [List.zip_cons_cons, List.map_cons, zip_fst (by simpa using h)]
theorem zip_snd : ∀ {ps : List Addr} {rows : List (List Int)}, ps.length = rows.length → (ps.zip rows).map (·.2) = rows
  | [], [], _ => rfl
  | [], _ :: _, h => by simp at h
  | _ :: _, [], h => by simp at h
  | p :: ps, r :: rows, h => by
    rw [List.zip_cons_cons, List.map_cons, zip_snd (by simpa using h)]
theorem AtL.pair (h : AtL H a ps rows) : ∀ b ∈ ps.zip rows, H b.1 = some (.lst (b.2.map V.int)) := by
  intro b hb
  obtain ⟨i, hi⟩ := List.mem_iff_getElem?.mp hb
  rw [List.getElem?_zip_eq_some] at hi
  exact h.row i b.1 b.2 hi.1 hi.2
theorem atL_pairs {bs : List AR} (h : H a = some (.lst (bs.map fun b => V.ref b.1))) (hb : ∀ b ∈ bs, H b.1 = some (.lst (b.2.map V.int))) : AtL H a (bs.map (·.1)) (bs.map (·.2)) := by
  refine ⟨by rw [h, List.map_map]; rfl, by rw [List.length_map, List.length_map], fun i p ns h1 h2 => ?_⟩
  rw [List.getElem?_map] at h1 h2
  cases e : bs[i]? with
  | none => rw [e] at h1; cases h1
  | some b =>
    rw [e] at h1 h2
    cases Option.some.inj h1
    cases Option.some.inj h2
    exact hb b (List.mem_of_getElem? e)
theorem AtL.sorted (h : AtL H a ps rows) (hq : H q = Option.none) : ∃ ps', AtL (upd H q (.lst (((ps.zip rows).mergeSort leR).map fun b => V.ref b.1))) q ps' (srtL rows) ∧ ps'.Perm ps := by
  refine ⟨((ps.zip rows).mergeSort leR).map (·.1), ?_, ?_⟩
  · have e := srtR_rows (ps.zip rows)
    rw [zip_snd h.len] at e
    rw [← e]
    exact atL_pairs upd_same fun b hb => Ex.new hq _ _ (h.pair b ((List.mergeSort_perm _ _).mem_iff.mp hb))
  · have := (List.mergeSort_perm (ps.zip rows) leR).map (·.1)
    rwa [zip_fst h.len] at this
theorem sq_pairs (h : AtL H a ps rows) : SqL K H a ((ps.zip rows).map fun b => V.ref b.1) := by
  have e : ((ps.zip rows).map fun b => V.ref b.1) = ps.map V.ref := by
    conv => rhs; rw [← zip_fst h.len, List.map_map]
    rfl
  rw [e]
  exact sq_of h.top
theorem ell_sorted (h : EvLL te σ H rows) : EvLL (tCB (rSortedLL K) (tCons te tNil)) σ H (srtL rows) := fun H1 e Q q =>
  h H1 e _ fun p ps H2 np e2 hp hn nd => ⟨p, ps.zip rows, rfl, sq_pairs hp, hp.pair, fun r hr => by
    obtain ⟨ps', h1, h2⟩ := hp.sorted hr
    exact q r ps' _ (fresh_back e2 hr) (e2.trans (Ex.new hr)) h1 (fun x hx => hn x (h2.mem_iff.mp hx)) (h2.symm.nodup nd)⟩
theorem erl_sorted (h : EvRL te σ H rows) : EvRL (tCB (rSortedLL K) (tCons te tNil)) σ H (srtL rows) := fun H1 e Q q =>
  h H1 e _ fun p ps H2 e2 hp => ⟨p, ps.zip rows, rfl, sq_pairs hp, hp.pair, fun r hr => by
    obtain ⟨ps', h1, h2⟩ := hp.sorted hr
    exact q r ps' _ (e2.trans (Ex.new hr)) h1⟩
/-- two lists of rows put together -/
theorem AtL.cat (h1 : AtL H a ps rows) (h2 : AtL H b qs rws) (hq : H q = Option.none) : AtL (upd H q (.lst (ps.map V.ref ++ qs.map V.ref))) q (ps ++ qs) (rows ++ rws) := by
  refine ⟨by rw [upd_same, List.map_append], by simp [h1.len, h2.len], fun i x ns e1 e2 => Ex.new hq _ _ ?_⟩
  by_cases hi : i < ps.length
  · rw [List.getElem?_append_left hi] at e1
    rw [List.getElem?_append_left (by rw [← h1.len]; exact hi)] at e2
    exact h1.row i x ns e1 e2
  · rw [List.getElem?_append_right (by omega)] at e1
    rw [List.getElem?_append_right (by rw [← h1.len]; omega), ← h1.len] at e2
    exact h2.row _ x ns e1 e2
theorem erl_cat (ha : EvRL ta σ H rows) (hb : EvRL tb σ H rws) (hz : rows.length + rws.length ≤ 100000) : EvRL (tOp rCat ta tb) σ H (rows ++ rws) := fun H1 e Q q =>
  ha H1 e _ fun p ps H2 e2 hp => hb H2 (e.trans e2) _ fun r rs H3 e3 hr => by
    have hp3 := hp.ex e3
    exact ⟨p, r, ps.map V.ref, rs.map V.ref, rfl, rfl, hp3.top, hr.top, sz_of (by rw [List.length_map, List.length_map, hp.len, hr.len]; exact hz), fun s hs => q s (ps ++ rs) _ ((e2.trans e3).trans (Ex.new hs)) (hp3.cat hr hs)⟩
variable {D : Ends} {tz tu : TS}
theorem q_asgRL {k : Nat} (h : EvRL te σ H rows) (c : ∀ p ps H1, Ex H H1 → AtL H1 p ps rows → tz D (σ.set k (some (.ref p))) H1) : tSeq (tAsg te (gName k)) tz D σ H := h H (Ex.refl _) _ fun p ps H1 e hp => c p ps H1 e hp
theorem s_asgRL {k : Nat} (h : EvRL te σ H rows) (c : ∀ p ps H1, Ex H H1 → AtL H1 p ps rows → D.nx (σ.set k (some (.ref p))) H1) : tAsg te (gName k) D σ H := h H (Ex.refl _) _ fun p ps H1 e hp => c p ps H1 e hp
theorem s_retRL (h : EvRL te σ H rows) (c : ∀ p ps H1, Ex H H1 → AtL H1 p ps rows → D.rt (.ref p) H1) : tRet te D σ H := h H (Ex.refl _) _ c
def RetRL (rows : List (List Int)) (H : Hp) (Q : VK) : Prop := ∀ p ps H2, Ex H H2 → AtL H2 p ps rows → Q (.ref p) H2
def SpRL (sp : Sp) (vs : List V) (H : Hp) (rows : List (List Int)) : Prop := ∀ H1, Ex H H1 → ∀ Q : VK, RetRL rows H1 Q → ∀ E : XK, sp vs H1 Q E
theorem erl_call {sp : Sp} {dvs vs : List V} {E : XK} {ta : TA} (h : EvA ta σ H vs) (hs : SpRL sp (vs ++ dvs) H rows) : EvRL (tCall sp dvs E ta) σ H rows := fun H1 e Q q =>
  h H1 e _ fun H2 e2 => hs H2 (e.trans e2) Q (fun p ps H3 e3 h3 => q p ps H3 (e2.trans e3) h3) E
/-- for row in rows: the word speaks of the turn -/
theorem q_forLL {j : Nat} (h : Ev te σ H (.ref a)) (hx : AtL H a ps rows) (Pv : Nat → L2.St → Hp → Prop) (h0 : ∀ H1, Ex H H1 → Pv 0 σ H1) (hl : ∀ i σ' H', Pv i σ' H' → Ex H H')
    (hs : ∀ (i : Nat) (p : Addr) (ns : List Int) σ' H', ps[i]? = some p → rows[i]? = some ns → At H' p ns → Pv i σ' H' → tu { D with nx := Pv (i + 1), ct := Pv (i + 1), bk := tz D } (σ'.set j (some (.ref p))) H') (hd : ∀ σ' H', Pv rows.length σ' H' → tz D σ' H') : tSeq (tFor (iList K te) (gName j) tu) tz D σ H := by
  refine q_forLn h (sq_of hx.top) Pv h0 (fun i σ' H' _ p => sq_of (hl i σ' H' p _ _ hx.top)) (fun i y σ' H' hy p => ?_) (fun σ' H' p => ?_)
  · rw [List.getElem?_map] at hy
    cases e : ps[i]? with
    | none => rw [e] at hy; cases hy
    | some x =>
      rw [e] at hy
      cases Option.some.inj hy
      have hlt : i < rows.length := by rw [← hx.len]; exact (List.getElem?_eq_some_iff.mp e).1
      have er : rows[i]? = some rows[i] := List.getElem?_eq_getElem hlt
      exact hs i x rows[i] σ' H' e er (hl i σ' H' p _ _ (hx.row i x _ e er)) p
  · rw [List.length_map, hx.len] at p
    exact hd σ' H' p
/-- a comprehension over rows that gives rows: which, and which addresses -/
theorem erl_lcF {tl : TE} {j : Nat} {vs : List Nat} {pr : List Int → Bool} (h : Ev tl σ H (.ref a)) (hx : AtL H a ps rows) (hz : rows.length ≤ 40000) (hw : ∀ x, wipe ((wipe σ vs).set j (some x)) vs = wipe σ vs) (hj : ((wipe σ vs).set j (some (V.ref 0)))[j]?.isSome)
    (ht : ∀ (p : Addr) (ns : List Int) H1, ns ∈ rows → Ex H H1 → At H1 p ns → EvT t ((wipe σ vs).set j (some (.ref p))) H1 (pr ns)) :
    EvRL (tLc (iList K tl) (gName j) t (tVar j) vs) σ H (rows.filter pr) := fun H0 e Q q => by
  have hlen : (ps.map V.ref).length = rows.length := by rw [List.length_map, hx.len]
  have hx0 := hx.ex e
  have key := el_lcL (K := K) (σ := σ) (H := H) (te := tVar j) (t := t) (tl := tl) (vs := vs) (j := j) (xs := ps.map V.ref) (fun i => pr (rows.getD i [])) (fun i => V.ref (ps.getD i 0)) h (sq_of hx.top) (by rw [hlen]; exact hz) hw
    (fun i x H1 e1 hi => by
      rw [List.getElem?_map] at hi
      cases ep : ps[i]? with
      | none => rw [ep] at hi; cases hi
      | some p =>
        rw [ep] at hi
        cases Option.some.inj hi
        have hlt : i < rows.length := by rw [← hx.len]; exact (List.getElem?_eq_some_iff.mp ep).1
        have er : rows[i]? = some rows[i] := List.getElem?_eq_getElem hlt
        have eg : rows.getD i [] = rows[i] := by rw [List.getD_eq_getElem?_getD, er]; rfl
        show EvT t _ H1 (pr (rows.getD i []))
        rw [eg]
        exact ht p rows[i] H1 (List.mem_of_getElem? er) e1 (e1 _ _ (hx.row i p _ ep er)))
    (fun i x H1 e1 hi _ => by
      rw [List.getElem?_map] at hi
      cases ep : ps[i]? with
      | none => rw [ep] at hi; cases hi
      | some p =>
        rw [ep] at hi
        cases Option.some.inj hi
        have eg : ps.getD i 0 = p := by rw [List.getD_eq_getElem?_getD, ep]; rfl
        show Ev (tVar j) _ H1 (V.ref (ps.getD i 0))
        rw [eg]
        refine ev_var ?_
        have hlt : j < (wipe σ vs).length := by
          rcases Nat.lt_or_ge j (wipe σ vs).length with h | h
          · exact h
          · rw [List.getElem?_eq_none (by rw [List.length_set]; exact h)] at hj
            cases hj
        rw [List.getElem?_set_self hlt])
  refine key H0 e Q fun p H2 np e2 hp => ?_
  rw [hlen] at hp
  refine q p (((List.range rows.length).filter fun i => pr (rows.getD i [])).map fun i => ps.getD i 0) H2 e2 ?_
  have er : rows.filter pr = ((List.range rows.length).filter fun i => pr (rows.getD i [])).map fun i => rows.getD i [] := by
    conv => lhs; rw [← range_getD rows []]
    rw [List.filter_map]
    rfl
  rw [er]
  refine ⟨?_, by rw [List.length_map, List.length_map], fun i x ns h1 h2 => ?_⟩
  · rw [hp]
    unfold given
    rw [List.map_map]
    rfl
  · rw [List.getElem?_map] at h1 h2
    cases ei : ((List.range rows.length).filter fun i => pr (rows.getD i []))[i]? with
    | none => rw [ei] at h1; cases h1
    | some k =>
      rw [ei] at h1 h2
      cases Option.some.inj h1
      cases Option.some.inj h2
      have hk : k < rows.length := List.mem_range.mp (List.mem_filter.mp (List.mem_of_getElem? ei)).1
      have hk2 : k < ps.length := by rw [hx.len]; exact hk
      have e1 : ps[k]? = some (ps.getD k 0) := by rw [List.getD_eq_getElem?_getD, List.getElem?_eq_getElem hk2]; rfl
      have e2' : rows[k]? = some (rows.getD k []) := by rw [List.getD_eq_getElem?_getD, List.getElem?_eq_getElem hk]; rfl
      exact e2 _ _ (hx0.row k _ _ e1 e2')
theorem erl_lcFN {tl : TE} {j : Nat} {vs : List Nat} {pr : List Int → Bool} (h : EvRL tl σ H rows) (hz : rows.length ≤ 40000) (hw : ∀ x, wipe ((wipe σ vs).set j (some x)) vs = wipe σ vs) (hj : ((wipe σ vs).set j (some (V.ref 0)))[j]?.isSome)
    (ht : ∀ (p : Addr) (ns : List Int) H1, ns ∈ rows → Ex H H1 → At H1 p ns → EvT t ((wipe σ vs).set j (some (.ref p))) H1 (pr ns)) :
    EvRL (tLc (iList K tl) (gName j) t (tVar j) vs) σ H (rows.filter pr) := fun H0 e Q q => h H0 e _ fun p ps H1 e1 hp =>
  (erl_lcF (K := K) (t := t) (tl := tC (.ref p)) (σ := σ) (H := H1) (j := j) (vs := vs) (pr := pr) ev_c hp hz hw hj fun p ns H2 hm e2 h => ht p ns H2 hm ((e.trans e1).trans e2) h) H1 (Ex.refl _) Q fun r rs H2 e2 hr => q r rs H2 (e1.trans e2) hr
/-- an int of each row -/
theorem el_lcRI {tl : TE} {j : Nat} {vs : List Nat} (g : List Int → Int) (h : Ev tl σ H (.ref a)) (hx : AtL H a ps rows) (hz : rows.length ≤ 40000) (hw : ∀ x, wipe ((wipe σ vs).set j (some x)) vs = wipe σ vs)
    (he : ∀ (p : Addr) (ns : List Int) H1, ns ∈ rows → Ex H H1 → At H1 p ns → Ev te ((wipe σ vs).set j (some (.ref p))) H1 (.int (g ns))) :
    EvL (tLc (iList K tl) (gName j) tYes te vs) σ H ((rows.map g).map V.int) := by
  have hlen : (ps.map V.ref).length = rows.length := by rw [List.length_map, hx.len]
  have key := el_lcL (K := K) (σ := σ) (H := H) (te := te) (t := tYes) (tl := tl) (vs := vs) (j := j) (xs := ps.map V.ref) (fun _ => true) (fun i => V.int (g (rows.getD i []))) h (sq_of hx.top) (by rw [hlen]; exact hz) hw
    (fun i x H1 e1 hi => et_yes)
    (fun i x H1 e1 hi _ => by
      rw [List.getElem?_map] at hi
      cases ep : ps[i]? with
      | none => rw [ep] at hi; cases hi
      | some p =>
        rw [ep] at hi
        cases Option.some.inj hi
        have hlt : i < rows.length := by rw [← hx.len]; exact (List.getElem?_eq_some_iff.mp ep).1
        have er : rows[i]? = some rows[i] := List.getElem?_eq_getElem hlt
        have eg : rows.getD i [] = rows[i] := by rw [List.getD_eq_getElem?_getD, er]; rfl
        show Ev te _ H1 (V.int (g (rows.getD i [])))
        rw [eg]
        exact he p rows[i] H1 (List.mem_of_getElem? er) e1 (e1 _ _ (hx.row i p _ ep er)))
  rw [hlen, given_int] at key
  have e : (List.range rows.length).map (fun i => g (rows.getD i [])) = rows.map g := by
    conv => rhs; rw [← range_getD rows []]
    rw [List.map_map]
    rfl
  rwa [e] at key
theorem el_lcRIN {tl : TE} {j : Nat} {vs : List Nat} (g : List Int → Int) (h : EvRL tl σ H rows) (hz : rows.length ≤ 40000) (hw : ∀ x, wipe ((wipe σ vs).set j (some x)) vs = wipe σ vs)
    (he : ∀ (p : Addr) (ns : List Int) H1, ns ∈ rows → Ex H H1 → At H1 p ns → Ev te ((wipe σ vs).set j (some (.ref p))) H1 (.int (g ns))) :
    EvL (tLc (iList K tl) (gName j) tYes te vs) σ H ((rows.map g).map V.int) := fun H0 e Q q => h H0 e _ fun p ps H1 e1 hp =>
  (el_lcRI (K := K) (te := te) (tl := tC (.ref p)) (σ := σ) (H := H1) (j := j) (vs := vs) g ev_c hp hz hw fun p ns H2 hm e2 h => he p ns H2 hm ((e.trans e1).trans e2) h) H1 (Ex.refl _) Q fun r H2 nr e2 hr => q r H2 (fresh_back e1 nr) (e1.trans e2) hr
theorem erl_nil (h : EvL te σ H []) : EvRL te σ H [] := fun H1 e Q q => h H1 e Q fun p H2 _ e2 hp => q p [] H2 e2 ⟨hp, rfl, fun i p ns h => by simp at h⟩
theorem AtL.one {ns : List Int} (h : H l = some (.lst [.ref a])) (h1 : At H a ns) : AtL H l [a] [ns] := by
  refine ⟨h, rfl, fun i p xs e1 e2 => ?_⟩
  match i, e1, e2 with
  | 0, e1, e2 =>
    cases Option.some.inj e1
    cases Option.some.inj e2
    exact h1
  | i + 1, e1, _ => simp at e1
theorem erl_one {ns : List Int} (ha : EvR ta σ H (ns.map V.int)) : EvRL (tLst (tCons ta tNil)) σ H [ns] := fun H1 e Q q =>
  ha H1 e _ fun p H2 e2 hp => ⟨by show 1 ≤ sizeLine; decide, fun s hs => q s [p] _ (e2.trans (Ex.new hs)) (AtL.one upd_same (Ex.new hs _ _ hp))⟩
theorem flatV_ints (ns : List Int) : (ns.map V.int).all flatV = true := by
  rw [List.all_eq_true]
  intro x hx
  obtain ⟨i, _, rfl⟩ := List.mem_map.mp hx
  rfl
theorem inV_ints (x : Int) (ns : List Int) : inV (.int x) (ns.map V.int) = decide (x ∈ ns) := by
  unfold inV
  induction ns with
  | nil => rfl
  | cons n ns ih =>
    rw [List.map_cons, List.any_cons, ih]
    have e : eqV (.int n) (.int x) = decide (n = x) := by
      simp [eqV, BEq.beq]
    rw [e]
    by_cases h : n = x
    · simp [h]
    · have h' : ¬ x = n := fun z => h z.symm
      simp [h, h']
/-- rows that H0 does not know, no two of them one -/
def EvNL (te : TE) (σ : L2.St) (H H0 : Hp) (rows : List (List Int)) : Prop := ∀ H1, Ex H H1 → ∀ Q : VK, (∀ p ps H2, Ex H1 H2 → AtL H2 p ps rows → (∀ x ∈ ps, H0 x = none) → ps.Nodup → Q (.ref p) H2) → te σ H1 Q
variable {H0 : Hp}
theorem enl_old (h : Ev te σ H (.ref a)) (ha : AtL H a ps rows) (hn : ∀ x ∈ ps, H0 x = none) (nd : ps.Nodup) : EvNL te σ H H0 rows := fun H1 e Q q => h H1 e Q fun H2 e2 => q a ps H2 e2 (ha.ex (e.trans e2)) hn nd
theorem enl_nil (h : EvL te σ H []) : EvNL te σ H H0 [] := fun H1 e Q q => h H1 e Q fun p H2 _ e2 hp => q p [] H2 e2 ⟨hp, rfl, fun i p ns h => by simp at h⟩ (fun _ z => by cases z) List.nodup_nil
theorem enl_one {ns : List Int} (ha : EvL ta σ H (ns.map V.int)) (h0 : Ex H0 H) : EvNL (tLst (tCons ta tNil)) σ H H0 [ns] := fun H1 e Q q =>
  ha H1 e _ fun p H2 np e2 hp => ⟨by show 1 ≤ sizeLine; decide, fun s hs => q s [p] _ (e2.trans (Ex.new hs)) (AtL.one upd_same (Ex.new hs _ _ hp)) (fun x hx => by rw [List.mem_singleton.mp hx]; exact fresh_back (h0.trans e) np) (by simp)⟩
theorem enl_cat (ha : EvNL ta σ H H0 rows) (hb : EvLL tb σ H rws) (h0 : Ex H0 H) (hz : rows.length + rws.length ≤ 100000) : EvNL (tOp rCat ta tb) σ H H0 (rows ++ rws) := fun H1 e Q q =>
  ha H1 e _ fun p ps H2 e2 hp hn nd => hb H2 (e.trans e2) _ fun r rs H3 nr e3 hr hnr ndr => by
    have hp3 := hp.ex e3
    refine ⟨p, r, ps.map V.ref, rs.map V.ref, rfl, rfl, hp3.top, hr.top, sz_of (by rw [List.length_map, List.length_map, hp.len, hr.len]; exact hz), fun s hs => q s (ps ++ rs) _ ((e2.trans e3).trans (Ex.new hs)) (hp3.cat hr hs) (fun x hx => ?_) ?_⟩
    · rcases List.mem_append.mp hx with hx | hx
      · exact hn x hx
      · exact fresh_back (h0.trans (e.trans e2)) (hnr x hx)
    · rw [List.nodup_append]
      refine ⟨nd, ndr, fun x hx y hy z => ?_⟩
      subst z
      obtain ⟨_, _, _, _, hat⟩ := hp.mem hx
      have hat : H2 x = _ := hat
      rw [hnr x hy] at hat
      cases hat
theorem s_asgNL {k : Nat} (h : EvNL te σ H H0 rows) (c : ∀ p ps H1, Ex H H1 → AtL H1 p ps rows → (∀ x ∈ ps, H0 x = none) → ps.Nodup → D.nx (σ.set k (some (.ref p))) H1) : tAsg te (gName k) D σ H := h H (Ex.refl _) _ fun p ps H1 e hp hn nd => c p ps H1 e hp hn nd
theorem q_asgNL {k : Nat} (h : EvNL te σ H H0 rows) (c : ∀ p ps H1, Ex H H1 → AtL H1 p ps rows → (∀ x ∈ ps, H0 x = none) → ps.Nodup → tz D (σ.set k (some (.ref p))) H1) : tSeq (tAsg te (gName k)) tz D σ H := h H (Ex.refl _) _ fun p ps H1 e hp hn nd => c p ps H1 e hp hn nd
theorem enl_sorted (h : EvNL te σ H H0 rows) (k : ∀ p ps H1, H p = none → Ex H H1 → AtL H1 p ps (srtL rows) → (∀ x ∈ ps, H0 x = none) → ps.Nodup → D.rt (.ref p) H1) : tRet (tCB (rSortedLL K) (tCons te tNil)) D σ H :=
  h H (Ex.refl _) _ fun p ps H2 e2 hp hn nd => ⟨p, ps.zip rows, rfl, sq_pairs hp, hp.pair, fun r hr => by
    obtain ⟨ps', h1, h2⟩ := hp.sorted hr
    exact k r ps' _ (fresh_back e2 hr) (e2.trans (Ex.new hr)) h1 (fun x hx => hn x (h2.mem_iff.mp hx)) (h2.symm.nodup nd)⟩
theorem ev_eqN {ms : List Int} (ha : Ev ta σ H .non) (hb : EvR tb σ H (ms.map V.int)) : Ev (tOp (rEqD K) ta tb) σ H (.bl false) := fun H1 e Q q =>
  ha H1 e _ fun H2 e2 => hb H2 (e.trans e2) _ fun r H3 e3 hr => ⟨.none, dI ms, .non, Dp.ints (sq_of hr), rfl, Dat.int.list.shaped (by decide) ms, q H3 (e2.trans e3)⟩
/-- a call whose list is new or not -/
def RetR (xs : List V) (H : Hp) (Q : VK) : Prop := ∀ p H2, Ex H H2 → H2 p = some (.lst xs) → Q (.ref p) H2
def SpR (sp : Sp) (vs : List V) (H : Hp) (xs : List V) : Prop := ∀ H1, Ex H H1 → ∀ Q : VK, RetR xs H1 Q → ∀ E : XK, sp vs H1 Q E
theorem er_call {sp : Sp} {dvs vs xs : List V} {E : XK} {ta : TA} (h : EvA ta σ H vs) (hs : SpR sp (vs ++ dvs) H xs) : EvR (tCall sp dvs E ta) σ H xs := fun H1 e Q q =>
  h H1 e _ fun H2 e2 => hs H2 (e.trans e2) Q (fun p H3 e3 h3 => q p H3 (e2.trans e3) h3) E
/-- rows by their places, those that pass -/
theorem erl_lcIx {ta : TA} {j : Nat} {vs : List Nat} {pr : List Int → Bool} (hx : AtL H a ps rows) (h : EvA ta σ H [.int (rows.length : Int)]) (hz : rows.length ≤ 40000) (hw : ∀ x, wipe ((wipe σ vs).set j (some x)) vs = wipe σ vs)
    (ht : ∀ (i : Nat) (ns : List Int) G, rows[i]? = some ns → Ex H G → EvT t ((wipe σ vs).set j (some (.int (i : Int)))) G (pr ns)) (he : ∀ (i : Nat) (p : Addr) G, ps[i]? = some p → Ex H G → Ev te ((wipe σ vs).set j (some (.int (i : Int)))) G (.ref p)) :
    EvRL (tLc (iRng1 ta) (gName j) t te vs) σ H (rows.filter pr) := fun H0 e Q q => by
  have hx0 := hx.ex e
  have key := el_lcR1 (σ := σ) (H := H) (ta := ta) (te := te) (t := t) (vs := vs) (j := j) (n := (rows.length : Int)) (fun i => pr (rows.getD i [])) (fun i => V.ref (ps.getD i 0)) h (by omega) hw
    (fun i G eG hi => by
      have hlt : i < rows.length := by omega
      have er : rows[i]? = some rows[i] := List.getElem?_eq_getElem hlt
      have eg : rows.getD i [] = rows[i] := by rw [List.getD_eq_getElem?_getD, er]; rfl
      show EvT t _ G (pr (rows.getD i []))
      rw [eg]
      exact ht i rows[i] G er eG)
    (fun i G eG hi _ => by
      have hlt : i < ps.length := by rw [hx.len]; omega
      have ep : ps[i]? = some ps[i] := List.getElem?_eq_getElem hlt
      have eg : ps.getD i 0 = ps[i] := by rw [List.getD_eq_getElem?_getD, ep]; rfl
      show Ev te _ G (V.ref (ps.getD i 0))
      rw [eg]
      exact he i ps[i] G ep eG)
  refine key H0 e Q fun p H2 np e2 hp => ?_
  have el : (rows.length : Int).toNat = rows.length := by omega
  rw [el] at hp
  refine q p (((List.range rows.length).filter fun i => pr (rows.getD i [])).map fun i => ps.getD i 0) H2 e2 ?_
  have er : rows.filter pr = ((List.range rows.length).filter fun i => pr (rows.getD i [])).map fun i => rows.getD i [] := by
    conv => lhs; rw [← range_getD rows []]
    rw [List.filter_map]
    rfl
  rw [er]
  refine ⟨?_, by rw [List.length_map, List.length_map], fun i x ns h1 h2 => ?_⟩
  · rw [hp]
    unfold given
    rw [List.map_map]
    rfl
  · rw [List.getElem?_map] at h1 h2
    cases ei : ((List.range rows.length).filter fun i => pr (rows.getD i []))[i]? with
    | none => rw [ei] at h1; cases h1
    | some k =>
      rw [ei] at h1 h2
      cases Option.some.inj h1
      cases Option.some.inj h2
      have hk : k < rows.length := List.mem_range.mp (List.mem_filter.mp (List.mem_of_getElem? ei)).1
      have hk2 : k < ps.length := by rw [hx.len]; exact hk
      have e1 : ps[k]? = some (ps.getD k 0) := by rw [List.getD_eq_getElem?_getD, List.getElem?_eq_getElem hk2]; rfl
      have e2' : rows[k]? = some (rows.getD k []) := by rw [List.getD_eq_getElem?_getD, List.getElem?_eq_getElem hk]; rfl
      exact e2 _ _ (hx0.row k _ _ e1 e2')
end
end Tt

/-! All decks; back by turns; layers. -/
namespace Tt
section
variable {α : Type} [DecidableEq α]
theorem nd_sub : ∀ {l m : List α}, l.Nodup → (∀ x ∈ l, x ∈ m) → m.length ≤ l.length → l.Perm m
  | [], m, _, _, h => by
    have : m = [] := List.eq_nil_of_length_eq_zero (by simpa using h)
    rw [this]
  | a :: l, m, hn, hs, h => by
    have ha := hs a List.mem_cons_self
    have p := List.perm_cons_erase ha
    obtain ⟨n1, n2⟩ := List.nodup_cons.mp hn
    have hl := p.length_eq
    rw [List.length_cons] at hl h
    refine (List.Perm.cons a (nd_sub n2 (fun x hx => ?_) (by omega))).trans p.symm
    have hxa : x ≠ a := fun z => n1 (by rw [← z]; exact hx)
    exact (List.mem_erase_of_ne hxa).mpr (hs x (List.mem_cons_of_mem _ hx))
theorem nd_len : ∀ {l m : List α}, l.Nodup → (∀ x ∈ l, x ∈ m) → l.length ≤ m.length
  | [], m, _, _ => Nat.zero_le _
  | a :: l, m, hn, hs => by
    have ha := hs a List.mem_cons_self
    have p := List.perm_cons_erase ha
    obtain ⟨n1, n2⟩ := List.nodup_cons.mp hn
    have hl := p.length_eq
    rw [List.length_cons] at hl
    have := nd_len (l := l) (m := m.erase a) n2 (fun x hx => by
      have hxa : x ≠ a := fun z => n1 (by rw [← z]; exact hx)
      exact (List.mem_erase_of_ne hxa).mpr (hs x (List.mem_cons_of_mem _ hx)))
    rw [List.length_cons]
    omega
theorem nd_perm {l m : List α} (h1 : l.Nodup) (h2 : m.Nodup) (h : ∀ x, x ∈ l ↔ x ∈ m) : l.Perm m :=
  nd_sub h1 (fun x hx => (h x).mp hx) (nd_len h2 fun x hx => (h x).mpr hx)
end
theorem isDk_of {r : List Int} (hn : r.Nodup) (h : ∀ x ∈ r, 1 ≤ x ∧ x ≤ r.length) : IsDk r :=
  nd_sub hn (fun x hx => mem_rng.mpr (h x hx)) (by rw [rng_len]; exact Nat.le_refl _)
/-! ### rows that grow by a card -/
def extG (lo : Int) (m : Nat) (row : List Int) : List (List Int) := givenL m (fun i => !decide (lo + (i : Int) ∈ row)) (fun i => row ++ [lo + (i : Int)])
def grow (lo : Int) (m : Nat) (r0 : List Int) : Nat → List (List Int)
  | 0 => [r0]
  | k + 1 => (grow lo m r0 k).flatMap (extG lo m)
theorem mem_extG {lo : Int} {m : Nat} {row r : List Int} : r ∈ extG lo m row ↔ ∃ x, lo ≤ x ∧ x < lo + (m : Int) ∧ x ∉ row ∧ r = row ++ [x] := by
  unfold extG givenL
  rw [List.mem_map]
  constructor
  · rintro ⟨i, hi, rfl⟩
    obtain ⟨h1, h2⟩ := List.mem_filter.mp hi
    have h1 := List.mem_range.mp h1
    exact ⟨lo + (i : Int), by omega, by omega, by simpa using h2, rfl⟩
  · rintro ⟨x, h1, h2, h3, rfl⟩
    have e : lo + ((x - lo).toNat : Int) = x := by omega
    refine ⟨(x - lo).toNat, List.mem_filter.mpr ⟨List.mem_range.mpr (by omega), ?_⟩, by rw [e]⟩
    rw [e]
    simpa using h3
theorem mem_grow {lo : Int} {m : Nat} {r0 : List Int} (h0 : ∀ x ∈ r0, x < lo) : ∀ {k : Nat} {r : List Int}, r ∈ grow lo m r0 k ↔ ∃ s, r = r0 ++ s ∧ s.length = k ∧ s.Nodup ∧ ∀ x ∈ s, lo ≤ x ∧ x < lo + (m : Int)
  | 0, r => by
    unfold grow
    rw [List.mem_singleton]
    constructor
    · rintro rfl
      exact ⟨[], by simp, rfl, List.nodup_nil, fun x hx => by cases hx⟩
    · rintro ⟨s, rfl, hs, _⟩
      rw [List.eq_nil_of_length_eq_zero hs, List.append_nil]
  | k + 1, r => by
    unfold grow
    rw [List.mem_flatMap]
    constructor
    · rintro ⟨row, hrow, hr⟩
      obtain ⟨s, rfl, h1, h2, h3⟩ := (mem_grow h0).mp hrow
      obtain ⟨x, x1, x2, x3, rfl⟩ := mem_extG.mp hr
      refine ⟨s ++ [x], by rw [List.append_assoc], by simp [h1], ?_, fun y hy => ?_⟩
      · rw [List.nodup_append]
        exact ⟨h2, by simp, fun y hy z hz => by rw [List.mem_singleton.mp hz]; exact fun e => x3 (List.mem_append_right _ (by rw [← e]; exact hy))⟩
      · rcases List.mem_append.mp hy with hy | hy
        · exact h3 y hy
        · rw [List.mem_singleton.mp hy]
          exact ⟨x1, x2⟩
    · rintro ⟨s, rfl, h1, h2, h3⟩
      have hne : s ≠ [] := fun z => by rw [z] at h1; cases h1
      have e : s.dropLast ++ [s.getLast hne] = s := List.dropLast_concat_getLast hne
      have hnd : (s.dropLast ++ [s.getLast hne]).Nodup := by rw [e]; exact h2
      rw [List.nodup_append] at hnd
      refine ⟨r0 ++ s.dropLast, (mem_grow h0).mpr ⟨s.dropLast, rfl, by rw [List.length_dropLast, h1]; rfl, hnd.1, fun x hx => h3 x (List.dropLast_subset s hx)⟩, ?_⟩
      have hl := h3 _ (List.getLast_mem hne)
      refine mem_extG.mpr ⟨s.getLast hne, hl.1, hl.2, fun hm => ?_, by rw [List.append_assoc, e]⟩
      rcases List.mem_append.mp hm with hm | hm
      · have := h0 _ hm
        omega
      · exact hnd.2.2 _ hm _ (List.mem_singleton.mpr rfl) rfl
theorem lt_same : ∀ {a b : List Int} (s t : List Int), a.length = b.length → a < b → a ++ s < b ++ t
  | [], [], _, _, _, h => absurd h (by simp)
  | [], _ :: _, _, _, h, _ => by simp at h
  | _ :: _, [], _, _, h, _ => by simp at h
  | x :: a, y :: b, s, t, hl, h => by
    rw [List.cons_append, List.cons_append, List.cons_lt_cons_iff]
    rcases List.cons_lt_cons_iff.mp h with h | ⟨h1, h2⟩
    · exact Or.inl h
    · exact Or.inr ⟨h1, lt_same s t (by simpa using hl) h2⟩
theorem lt_last : ∀ (a : List Int) {x y : Int}, x < y → a ++ [x] < a ++ [y]
  | [], x, y, h => List.cons_lt_cons_iff.mpr (Or.inl h)
  | z :: a, x, y, h => by
    rw [List.cons_append, List.cons_append, List.cons_lt_cons_iff]
    exact Or.inr ⟨rfl, lt_last a h⟩
theorem extG_lt (lo : Int) (m : Nat) (row : List Int) : (extG lo m row).Pairwise (· < ·) := by
  unfold extG givenL
  rw [List.pairwise_map]
  refine (List.Pairwise.filter _ List.pairwise_lt_range).imp ?_
  intro a b h
  exact lt_last row (by omega)
theorem grow_lt {lo : Int} {m : Nat} {r0 : List Int} (h0 : ∀ x ∈ r0, x < lo) : ∀ k, (grow lo m r0 k).Pairwise (· < ·)
  | 0 => by simp [grow]
  | k + 1 => by
    unfold grow
    rw [List.pairwise_flatMap]
    refine ⟨fun row _ => extG_lt lo m row, (grow_lt h0 k).imp_of_mem ?_⟩
    intro a b ha hb hab x hx y hy
    obtain ⟨i, _, _, _, rfl⟩ := mem_extG.mp hx
    obtain ⟨j, _, _, _, rfl⟩ := mem_extG.mp hy
    obtain ⟨s, rfl, h1, _⟩ := (mem_grow h0).mp ha
    obtain ⟨t, rfl, h2, _⟩ := (mem_grow h0).mp hb
    exact lt_same _ _ (by simp [h1, h2]) hab
theorem lt_nodup {l : List (List Int)} (h : l.Pairwise (· < ·)) : l.Nodup := h.imp fun {a b} h e => by
  rw [e] at h
  exact absurd h (List.lt_irrefl b)
theorem extG_len {lo : Int} {m : Nat} {r0 s : List Int} (h0 : ∀ x ∈ r0, x < lo) (hn : s.Nodup) (hs : ∀ x ∈ s, lo ≤ x ∧ x < lo + (m : Int)) : (extG lo m (r0 ++ s)).length = m - s.length := by
  unfold extG givenL
  rw [List.length_map]
  have h1 : ((List.range m).filter (fun i : Nat => decide (lo + (i : Int) ∈ r0 ++ s))).length = s.length := by
    have p : (((List.range m).filter (fun i : Nat => decide (lo + (i : Int) ∈ r0 ++ s))).map (fun i : Nat => lo + (i : Int))).Perm s := by
      refine nd_perm ?_ hn fun x => ?_
      · have hp : ((List.range m).filter (fun i : Nat => decide (lo + (i : Int) ∈ r0 ++ s))).Pairwise (· < ·) := List.Pairwise.filter _ List.pairwise_lt_range
        show List.Pairwise _ _
        rw [List.pairwise_map]
        exact hp.imp fun {a b} h => by omega
      · rw [List.mem_map]
        constructor
        · rintro ⟨i, hi, rfl⟩
          obtain ⟨_, h2⟩ := List.mem_filter.mp hi
          rcases List.mem_append.mp (of_decide_eq_true h2) with h | h
          · have := h0 _ h
            omega
          · exact h
        · intro hx
          obtain ⟨x1, x2⟩ := hs x hx
          have e : lo + ((x - lo).toNat : Int) = x := by omega
          refine ⟨(x - lo).toNat, List.mem_filter.mpr ⟨List.mem_range.mpr (by omega), ?_⟩, e⟩
          rw [e]
          exact decide_eq_true (List.mem_append_right _ hx)
    have := p.length_eq
    rwa [List.length_map] at this
  have h2 : ∀ (p : Nat → Bool) (l : List Nat), (l.filter p).length + (l.filter (fun i => !p i)).length = l.length := fun p l => by
    induction l with
    | nil => rfl
    | cons a l ih =>
      rw [List.filter_cons, List.filter_cons, List.length_cons]
      cases p a <;> simp <;> omega
  have h3 := h2 (fun i : Nat => decide (lo + (i : Int) ∈ r0 ++ s)) (List.range m)
  rw [List.length_range, h1] at h3
  omega
/-- how many rows -/
def fall (m : Nat) : Nat → Nat
  | 0 => 1
  | k + 1 => fall m k * (m - k)
theorem len_flatMap {β : Type} {f : β → List (List Int)} {c : Nat} : ∀ {l : List β}, (∀ x ∈ l, (f x).length = c) → (l.flatMap f).length = l.length * c
  | [], _ => by simp
  | a :: l, h => by
    rw [List.flatMap_cons, List.length_append, len_flatMap fun x hx => h x (List.mem_cons_of_mem _ hx), h a List.mem_cons_self, List.length_cons, Nat.succ_mul]
    omega
theorem grow_len {lo : Int} {m : Nat} {r0 : List Int} (h0 : ∀ x ∈ r0, x < lo) : ∀ k, (grow lo m r0 k).length = fall m k
  | 0 => rfl
  | k + 1 => by
    unfold grow fall
    rw [len_flatMap (c := m - k) fun x hx => ?_, grow_len h0 k]
    obtain ⟨s, rfl, h1, h2, h3⟩ := (mem_grow h0).mp hx
    rw [extG_len h0 h2 h3, h1]
/-! ### all decks of a size, the ends -/
def allD (n : Nat) : List (List Int) := grow 1 n [] n
theorem mem_allD {n : Nat} {r : List Int} : r ∈ allD n ↔ IsDk r ∧ r.length = n := by
  unfold allD
  rw [mem_grow (by simp)]
  constructor
  · rintro ⟨s, rfl, h1, h2, h3⟩
    exact ⟨isDk_of h2 fun x hx => by have := h3 x hx; omega, h1⟩
  · rintro ⟨h, rfl⟩
    exact ⟨r, rfl, rfl, h.nodup, fun x hx => by have := h.mem.mp hx; omega⟩
theorem allD_lt (n : Nat) : (allD n).Pairwise (· < ·) := grow_lt (by simp) n
theorem allD_le (n : Nat) : (allD n).Pairwise (· ≤ ·) := (allD_lt n).imp fun h => List.le_of_lt h
theorem allD_nodup (n : Nat) : (allD n).Nodup := lt_nodup (allD_lt n)
theorem allD_len (n : Nat) : (allD n).length = fall n n := grow_len (by simp) n
def endD (n : Nat) : List (List Int) := grow 2 (n - 1) [1] (n - 1)
theorem mem_endD {n : Nat} (hn : 1 ≤ n) {r : List Int} : r ∈ endD n ↔ IsDk r ∧ r.length = n ∧ r[0]? = some 1 := by
  unfold endD
  rw [mem_grow (by simp)]
  constructor
  · rintro ⟨s, rfl, h1, h2, h3⟩
    have hl : ([1] ++ s : List Int).length = n := by simp; omega
    refine ⟨isDk_of ?_ fun x hx => ?_, hl, rfl⟩
    · rw [List.singleton_append, List.nodup_cons]
      exact ⟨fun hm => by have := h3 1 hm; omega, h2⟩
    · rw [hl]
      rcases List.mem_append.mp hx with hx | hx
      · rw [List.mem_singleton.mp hx]
        omega
      · have := h3 x hx
        omega
  · rintro ⟨h, rfl, h1⟩
    cases r with
    | nil => simp at hn
    | cons a s =>
      have e : a = 1 := Option.some.inj h1
      subst e
      have hnd := List.nodup_cons.mp h.nodup
      refine ⟨s, rfl, by simp, hnd.2, fun x hx => ?_⟩
      have := h.mem.mp (List.mem_cons_of_mem 1 hx)
      have hx1 : x ≠ 1 := fun z => hnd.1 (by rw [← z]; exact hx)
      simp only [List.length_cons] at *
      omega
theorem endD_nodup (n : Nat) : (endD n).Nodup := lt_nodup (grow_lt (by simp) _)
/-! ### the decks that lead to one -/
theorem mem_aheads {d one : List Int} : one ∈ aheadsM d ↔ ∃ k : Int, 2 ≤ k ∧ k ≤ d.length ∧ d[k.toNat - 1]? = some k ∧ one = ov d k := by
  unfold aheadsM givenL
  rw [List.mem_map]
  constructor
  · rintro ⟨i, hi, rfl⟩
    obtain ⟨h1, h2⟩ := List.mem_filter.mp hi
    have h1 := List.mem_range.mp h1
    unfold inPl at h2
    have h2 := of_decide_eq_true h2
    refine ⟨2 + (i : Int), by omega, by omega, ?_, rfl⟩
    have e : (2 + (i : Int)).toNat - 1 = i + 1 := by omega
    rw [e, h2]
    congr 1
    omega
  · rintro ⟨k, h1, h2, h3, rfl⟩
    have e : 2 + ((k.toNat - 2 : Nat) : Int) = k := by omega
    refine ⟨k.toNat - 2, List.mem_filter.mpr ⟨List.mem_range.mpr (by omega), ?_⟩, by rw [e]⟩
    unfold inPl
    refine decide_eq_true ?_
    have e2 : k.toNat - 2 + 1 = k.toNat - 1 := by omega
    rw [e2, h3]
    congr 1
    omega
theorem mem_aheads' {d one : List Int} (hd : IsDk d) : one ∈ aheadsM d ↔ IsDk one ∧ one.length = d.length ∧ ∃ k, one[0]? = some k ∧ k ≠ 1 ∧ ov one k = d := by
  rw [mem_aheads]
  constructor
  · rintro ⟨k, h1, h2, h3, rfl⟩
    refine ⟨hd.ov k, ov_len d k, k, ?_, by omega, ov_ov d h2⟩
    rw [ov_top (by omega) h2, h3]
  · rintro ⟨h1, h2, k, h3, h4, rfl⟩
    obtain ⟨k1, k2⟩ := h1.at h3
    refine ⟨k, by omega, by rw [ov_len]; exact k2, ?_, (ov_ov one k2).symm⟩
    rw [ov_end (by omega) k2, h3]
def heads (rows : List (List Int)) : List Int := rows.map fun r => r.getD 0 0
theorem heads_aheads {d : List Int} : heads (aheadsM d) = ((List.range (d.length - 1)).filter (inPl d)).map fun i : Nat => 2 + (i : Int) := by
  unfold heads aheadsM givenL
  rw [List.map_map]
  refine List.map_congr_left fun i hi => ?_
  obtain ⟨h1, h2⟩ := List.mem_filter.mp hi
  have h1 := List.mem_range.mp h1
  unfold inPl at h2
  have h2 := of_decide_eq_true h2
  show (ov d (2 + (i : Int))).getD 0 0 = _
  have e : (2 + (i : Int)).toNat - 1 = i + 1 := by omega
  rw [List.getD_eq_getElem?_getD, ov_top (by omega) (by omega), e, h2]
  show (i : Int) + 2 = _
  omega
theorem heads_lt {d : List Int} : (heads (aheadsM d)).Pairwise (· < ·) := by
  rw [heads_aheads, List.pairwise_map]
  exact (List.Pairwise.filter _ List.pairwise_lt_range).imp fun {a b} h => by omega
theorem heads_srt {d : List Int} : srt (heads (aheadsM d)) = heads (aheadsM d) :=
  (srt_one (.refl _) (heads_lt.imp fun h => Int.le_of_lt h)).symm
theorem aheads_nodup {d : List Int} : (aheadsM d).Nodup := by
  have h : (aheadsM d).Pairwise (fun a b => a.getD 0 0 < b.getD 0 0) := by
    have := heads_lt (d := d)
    unfold heads at this
    rwa [List.pairwise_map] at this
  exact h.imp fun {a b} h e => by
    rw [e] at h
    omega
theorem flat_nodup {l : List (List Int)} (h : l.Nodup) (hd : ∀ d ∈ l, IsDk d) : (l.flatMap aheadsM).Nodup := by
  show List.Pairwise _ _
  rw [List.pairwise_flatMap]
  refine ⟨fun d _ => aheads_nodup, List.Pairwise.imp_of_mem ?_ h⟩
  intro a b ha hb hab x hx y hy e
  subst e
  obtain ⟨_, _, k, h1, h2, h3⟩ := (mem_aheads' (hd a ha)).mp hx
  obtain ⟨_, _, k', h1', h2', h3'⟩ := (mem_aheads' (hd b hb)).mp hy
  rw [h1] at h1'
  cases Option.some.inj h1'
  exact hab (h3.symm.trans h3')
/-- what comes to a deck by a turn, among all -/
def leadsP (d one : List Int) : Bool := decide (1 < one.getD 0 0) && decide (ov one (one.getD 0 0) = d)
theorem aheads_all {d : List Int} (hd : IsDk d) (h1 : 1 ≤ d.length) : srtL (aheadsM d) = (allD d.length).filter (leadsP d) := by
  refine (srtL_one (nd_perm ((allD_nodup _).sublist List.filter_sublist) aheads_nodup fun x => ?_) ((allD_le _).sublist List.filter_sublist)).symm
  rw [List.mem_filter, mem_allD, mem_aheads' hd]
  unfold leadsP
  rw [Bool.and_eq_true, decide_eq_true_eq, decide_eq_true_eq]
  constructor
  · rintro ⟨⟨a, b⟩, c, e⟩
    have hlt : 0 < x.length := by omega
    have ex : x[0]? = some (x.getD 0 0) := by rw [List.getD_eq_getElem?_getD, List.getElem?_eq_getElem hlt]; rfl
    exact ⟨a, b, _, ex, by omega, e⟩
  · rintro ⟨a, b, k, c, e, f⟩
    have eg : x.getD 0 0 = k := by rw [List.getD_eq_getElem?_getD, c]; rfl
    have := a.at c
    rw [eg]
    exact ⟨⟨a, b⟩, by omega, f⟩
/-! ### back by so many turns -/
def srcM (d : List Int) : Nat → List (List Int)
  | 0 => [d]
  | t + 1 => (srcM d t).flatMap aheadsM
def bh : Nat → List Int → Option (List Int)
  | 0, d => some d
  | t + 1, d => if d.getD 0 0 = 1 then none else bh t (ov d (d.getD 0 0))
theorem src_dk {d : List Int} (hd : IsDk d) : ∀ (t : Nat) {x : List Int}, x ∈ srcM d t → IsDk x ∧ x.length = d.length
  | 0, x, h => by
    rw [List.mem_singleton.mp h]
    exact ⟨hd, rfl⟩
  | t + 1, x, h => by
    unfold srcM at h
    obtain ⟨y, hy, hx⟩ := List.mem_flatMap.mp h
    obtain ⟨h1, h2⟩ := src_dk hd t hy
    obtain ⟨a, b, _⟩ := (mem_aheads' h1).mp hx
    exact ⟨a, b.trans h2⟩
theorem mem_src {d : List Int} (hd : IsDk d) (hl : 1 ≤ d.length) : ∀ (t : Nat) {x : List Int}, x ∈ srcM d t ↔ IsDk x ∧ x.length = d.length ∧ bh t x = some d
  | 0, x => by
    show x ∈ [d] ↔ _
    rw [List.mem_singleton]
    constructor
    · rintro rfl
      exact ⟨hd, rfl, rfl⟩
    · rintro ⟨_, _, h⟩
      exact Option.some.inj h
  | t + 1, x => by
    unfold srcM
    rw [List.mem_flatMap]
    constructor
    · rintro ⟨y, hy, hx⟩
      obtain ⟨h1, h2, h3⟩ := (mem_src hd hl t).mp hy
      obtain ⟨a, b, k, c, e, f⟩ := (mem_aheads' h1).mp hx
      have eg : x.getD 0 0 = k := by rw [List.getD_eq_getElem?_getD, c]; rfl
      refine ⟨a, b.trans h2, ?_⟩
      show (if x.getD 0 0 = 1 then none else bh t (ov x (x.getD 0 0))) = _
      rw [eg, if_neg e, f, h3]
    · rintro ⟨a, b, h⟩
      have hlt : 0 < x.length := by omega
      have ex : x[0]? = some (x.getD 0 0) := by rw [List.getD_eq_getElem?_getD, List.getElem?_eq_getElem hlt]; rfl
      have h : (if x.getD 0 0 = 1 then none else bh t (ov x (x.getD 0 0))) = some d := h
      by_cases c : x.getD 0 0 = 1
      · rw [if_pos c] at h
        cases h
      · rw [if_neg c] at h
        refine ⟨ov x (x.getD 0 0), (mem_src hd hl t).mpr ⟨a.ov _, by rw [ov_len]; exact b, h⟩, (mem_aheads' (a.ov _)).mpr ⟨a, by rw [ov_len], _, ex, c, rfl⟩⟩
theorem src_nodup {d : List Int} (hd : IsDk d) : ∀ t, (srcM d t).Nodup
  | 0 => by simp [srcM]
  | t + 1 => flat_nodup (src_nodup hd t) fun x hx => (src_dk hd t hx).1
theorem src_all {d : List Int} (hd : IsDk d) (hl : 1 ≤ d.length) (t : Nat) : srtL (srcM d t) = (allD d.length).filter (fun x => decide (bh t x = some d)) := by
  refine (srtL_one (nd_perm ((allD_nodup _).sublist List.filter_sublist) (src_nodup hd t) fun x => ?_) ((allD_le _).sublist List.filter_sublist)).symm
  rw [List.mem_filter, mem_allD, mem_src hd hl, decide_eq_true_eq]
  exact ⟨fun h => ⟨h.1.1, h.1.2, h.2⟩, fun h => ⟨⟨h.1, h.2.1⟩, h.2.2⟩⟩
theorem src_len {d : List Int} (hd : IsDk d) (t : Nat) : (srcM d t).length ≤ fall d.length d.length := by
  rw [← allD_len]
  exact nd_len (src_nodup hd t) fun x hx => mem_allD.mpr (src_dk hd t hx)
theorem fall_small : ∀ n : Fin 8, fall n.val n.val ≤ 5040 := by decide
theorem fall_le {n : Nat} (h : n ≤ 7) : fall n n ≤ 5040 := fall_small ⟨n, by omega⟩
open PySem PySem.Spec PyProof.Rows L2 Evl
section
variable {K : PySem.W.Frag}
theorem fall_part : ∀ n : Fin 8, ∀ k : Fin 9, fall n.val k.val ≤ 5040 := by decide
theorem flat_take {l : List (List Int)} {f : List Int → List (List Int)} {j : Nat} {x : List Int} (h : l[j]? = some x) : (l.take (j + 1)).flatMap f = (l.take j).flatMap f ++ f x := by
  rw [List.take_add_one, h, List.flatMap_append]
  simp
theorem flat_take_len {l : List (List Int)} {f : List Int → List (List Int)} (j : Nat) : ((l.take j).flatMap f).length ≤ (l.flatMap f).length := by
  conv => rhs; rw [← List.take_append_drop j l, List.flatMap_append, List.length_append]
  omega
/-- the loop that puts a card behind each row -/
theorem ext_row {σ : L2.St} {H : Hp} {r s : Nat} {p : Addr} {row : List Int} {ta : TA} {lo : Int} {m : Nat} {vs : List Nat} (hp : At H p row) (hl : row.length ≤ 1000) (h : EvA ta σ H [.int lo, .int (lo + (m : Int))]) (hb : 0 ≤ lo ∧ lo ≤ 40000 ∧ lo + (m : Int) ≤ 40000)
    (hw : ∀ x, wipe ((wipe σ vs).set s (some x)) vs = wipe σ vs) (hr : ∀ x, ((wipe σ vs).set s (some x))[r]? = some (some (.ref p))) (hs : ∀ x, ((wipe σ vs).set s (some x))[s]? = some (some x)) :
    EvLL (tLc (iRng2 ta) (gName s) (tTest (tOp (rIn K true) (tVar s) (tVar r))) (tOp rCat (tVar r) (tLst (tCons (tVar s) tNil))) vs) σ H (extG lo m row) := by
  have e : (lo + (m : Int) - lo).toNat = m := by omega
  have key := ell_lcR2 (lo := lo) (n := lo + (m : Int)) (σ := σ) (H := H) (ta := ta) (vs := vs) (j := s) (t := tTest (tOp (rIn K true) (tVar s) (tVar r))) (te := tOp rCat (tVar r) (tLst (tCons (tVar s) tNil))) (fun i => !decide (lo + (i : Int) ∈ row)) (fun i => row ++ [lo + (i : Int)]) h (by omega) hw
    (fun i G eG _ => et_test (ev_is (ev_op (ev_var (hs _)) (ev_var (hr _)) (rv_niL (sq_of (eG _ _ hp)) rfl (flatV_ints row))) (by rw [inV_ints])))
    (fun i G eG _ _ => by
      rw [List.map_append]
      exact el_cat (EvR.old (ev_var (hr _)) (eG _ _ hp)) (EvR.new (el_lst (ea_cons (ev_var (hs _)) ea_nil) (by simp))) (by simp; omega))
  rw [e] at key
  exact key
theorem fall_p2 {n k : Nat} (h : n ≤ 7) (hk : k ≤ 8) : fall n k ≤ 5040 := fall_part ⟨n, by omega⟩ ⟨k, by omega⟩
end
end Tt

/-! Decks by their turns. -/
namespace Tt
def layM (n : Nat) : Nat → List (List Int)
  | 0 => endD n
  | t + 1 => (layM n t).flatMap aheadsM
theorem mem_lay {n : Nat} (hn : 1 ≤ n) : ∀ (t : Nat) {x : List Int}, x ∈ layM n t ↔ IsDk x ∧ x.length = n ∧ ∃ ts e, Gm x ts e ∧ ts.length = t
  | 0, x => by
    show x ∈ endD n ↔ _
    rw [mem_endD hn]
    constructor
    · rintro ⟨a, b, c⟩
      exact ⟨a, b, [], x, .stop c, rfl⟩
    · rintro ⟨a, b, ts, e, g, h⟩
      cases g with
      | stop c => exact ⟨a, b, c⟩
      | turn _ _ _ => cases h
  | t + 1, x => by
    unfold layM
    rw [List.mem_flatMap]
    constructor
    · rintro ⟨y, hy, hx⟩
      obtain ⟨h1, h2, ts, e, g, h⟩ := (mem_lay hn t).mp hy
      obtain ⟨a, b, k, c, d, f⟩ := (mem_aheads' h1).mp hx
      exact ⟨a, b.trans h2, k :: ts, e, .turn c d (by rw [f]; exact g), by rw [List.length_cons, h]⟩
    · rintro ⟨a, b, ts, e, g, h⟩
      cases g with
      | stop c => cases h
      | turn c d g2 =>
        rename_i ts k
        refine ⟨ov x k, (mem_lay hn t).mpr ⟨a.ov k, by rw [ov_len]; exact b, ts, e, g2, ?_⟩, (mem_aheads' (a.ov k)).mpr ⟨a, by rw [ov_len], k, c, d, rfl⟩⟩
        rw [List.length_cons] at h
        omega
theorem lay_dk {n : Nat} (hn : 1 ≤ n) {t : Nat} {x : List Int} (h : x ∈ layM n t) : IsDk x ∧ x.length = n := by
  obtain ⟨a, b, _⟩ := (mem_lay hn t).mp h
  exact ⟨a, b⟩
theorem lay_nodup {n : Nat} (hn : 1 ≤ n) : ∀ t, (layM n t).Nodup
  | 0 => endD_nodup n
  | t + 1 => flat_nodup (lay_nodup hn t) fun x hx => (lay_dk hn hx).1
theorem lay_len {n : Nat} (hn : 1 ≤ n) (t : Nat) : (layM n t).length ≤ fall n n := by
  rw [← allD_len]
  exact nd_len (lay_nodup hn t) fun x hx => mem_allD.mpr (lay_dk hn hx)
theorem lay_end {n : Nat} (hn : 1 ≤ n) : layM n (2 ^ (n - 1)) = [] := by
  rw [List.eq_nil_iff_forall_not_mem]
  intro x hx
  obtain ⟨a, rfl, ts, e, g, h⟩ := (mem_lay hn _).mp hx
  have := g.short a
  omega
theorem least {P : Nat → Prop} (B : Nat) : P B → ∃ N, N ≤ B ∧ P N ∧ ∀ t, t < N → ¬ P t := by
  induction B using Nat.strongRecOn with
  | ind B ih =>
    intro h
    by_cases c : ∃ t, t < B ∧ P t
    · obtain ⟨t, h1, h2⟩ := c
      obtain ⟨N, n1, n2, n3⟩ := ih t h1 h2
      exact ⟨N, by omega, n2, n3⟩
    · exact ⟨B, Nat.le_refl _, h, fun t ht hp => c ⟨t, ht, hp⟩⟩
theorem lay_more {n t : Nat} (h : layM n t = []) : ∀ k, layM n (t + k) = []
  | 0 => h
  | k + 1 => by
    show (layM n (t + k)).flatMap aheadsM = []
    rw [lay_more h k]
    rfl
theorem endD_ne {n : Nat} (hn : 1 ≤ n) : endD n ≠ [] := fun z => by
  have h : rng n ∈ endD n := by
    rw [mem_endD hn]
    refine ⟨?_, rng_len n, ?_⟩
    · unfold IsDk
      rw [rng_len]
    · rw [rng_get (by omega)]
      rfl
  rw [z] at h
  cases h
theorem lay_N {n : Nat} (hn : 1 ≤ n) (h7 : n ≤ 7) : ∃ N, 1 ≤ N ∧ N ≤ 64 ∧ layM n N = [] ∧ ∀ t, t < N → layM n t ≠ [] := by
  obtain ⟨N, h1, h2, h3⟩ := least (P := fun t => layM n t = []) _ (lay_end hn)
  have h4 : 2 ^ (n - 1) ≤ 2 ^ 6 := Nat.pow_le_pow_right (by decide) (by omega)
  refine ⟨N, ?_, by omega, h2, h3⟩
  cases N with
  | zero => exact absurd h2 (endD_ne hn)
  | succ N => omega
open Classical in
/-- how many turns a deck has -/
noncomputable def gl (d : List Int) : Nat := if h : ∃ ts, ∃ e, Gm d ts e then (Classical.choose h).length else 0
theorem gl_of {d ts e : List Int} (g : Gm d ts e) : gl d = ts.length := by
  have h : ∃ ts, ∃ e, Gm d ts e := ⟨ts, e, g⟩
  unfold gl
  rw [dif_pos h]
  obtain ⟨e', g'⟩ := Classical.choose_spec h
  rw [(g.det g').1]
theorem mem_lay' {n : Nat} (hn : 1 ≤ n) {t : Nat} {x : List Int} : x ∈ layM n t ↔ x ∈ allD n ∧ gl x = t := by
  rw [mem_lay hn, mem_allD]
  constructor
  · rintro ⟨a, b, ts, e, g, h⟩
    exact ⟨⟨a, b⟩, (gl_of g).trans h⟩
  · rintro ⟨⟨a, b⟩, h⟩
    obtain ⟨ts, e, g⟩ := Gm.all a (by omega)
    exact ⟨a, b, ts, e, g, (gl_of g).symm.trans h⟩
theorem lay_perm {n : Nat} (hn : 1 ≤ n) (t : Nat) : (layM n t).Perm ((allD n).filter fun x => decide (gl x = t)) :=
  nd_perm (lay_nodup hn t) ((allD_nodup n).sublist List.filter_sublist) fun x => by rw [mem_lay' hn, List.mem_filter, decide_eq_true_eq]
theorem lay_srt {n : Nat} (hn : 1 ≤ n) (t : Nat) : srtL (layM n t) = (allD n).filter fun x => decide (gl x = t) :=
  (srtL_one (lay_perm hn t).symm ((allD_le n).sublist List.filter_sublist)).symm
theorem count_map : ∀ (l : List (List Int)) (t : Nat), (l.map fun x => (gl x : Int)).count (t : Int) = (l.filter fun x => decide (gl x = t)).length
  | [], _ => rfl
  | a :: l, t => by
    rw [List.map_cons, List.count_cons, count_map l t, List.filter_cons]
    by_cases h : gl a = t
    · simp [h]
    · have h' : ¬ (gl a : Int) = (t : Int) := by omega
      simp [h, h']
theorem lay_count {n : Nat} (hn : 1 ≤ n) (t : Nat) : ((allD n).map fun x => (gl x : Int)).count (t : Int) = (layM n t).length := by
  rw [count_map, (lay_perm hn t).length_eq]
theorem lay_max {n N : Nat} (hn : 1 ≤ n) (h1 : layM n N = []) (h2 : ∀ t, t < N → layM n t ≠ []) {m : Int} (hm : m ∈ (allD n).map fun x => (gl x : Int)) (hx : ∀ y ∈ (allD n).map (fun x => (gl x : Int)), y ≤ m) : (N : Int) = m + 1 := by
  obtain ⟨x, hxm, rfl⟩ := List.mem_map.mp hm
  have ne : layM n (gl x) ≠ [] := fun z => by
    have : x ∈ layM n (gl x) := (mem_lay' hn).mpr ⟨hxm, rfl⟩
    rw [z] at this
    cases this
  have em : layM n (gl x + 1) = [] := by
    rw [List.eq_nil_iff_forall_not_mem]
    intro y hy
    obtain ⟨a, b⟩ := (mem_lay' hn).mp hy
    have := hx _ (List.mem_map.mpr ⟨y, a, rfl⟩)
    omega
  have c1 : gl x < N := by
    rcases Nat.lt_or_ge (gl x) N with h | h
    · exact h
    · have := lay_more h1 (gl x - N)
      rw [show N + (gl x - N) = gl x by omega] at this
      exact absurd this ne
  have c2 : N ≤ gl x + 1 := by
    rcases Nat.lt_or_ge (gl x + 1) N with h | h
    · exact absurd em (h2 _ h)
    · exact h
  omega
theorem gl_lt {n N : Nat} (hn : 1 ≤ n) (h1 : layM n N = []) {x : List Int} (h : x ∈ allD n) : gl x < N := by
  rcases Nat.lt_or_ge (gl x) N with c | c
  · exact c
  · have := lay_more h1 (gl x - N)
    rw [show N + (gl x - N) = gl x by omega] at this
    have hx := (mem_lay' hn).mpr ⟨h, rfl⟩
    rw [this] at hx
    cases hx
theorem lay_sum {n N : Nat} (hn : 1 ≤ n) (h1 : layM n N = []) : ((List.range N).map fun t => (layM n t).length).sum = fall n n := by
  have p : ((List.range N).flatMap (layM n)).Perm (allD n) := by
    refine nd_perm ?_ (allD_nodup n) fun x => ?_
    · show List.Pairwise _ _
      rw [List.pairwise_flatMap]
      refine ⟨fun t _ => lay_nodup hn t, List.Pairwise.imp_of_mem ?_ (List.nodup_range (n := N))⟩
      intro a b _ _ hab x hx y hy e
      subst e
      have h1 := ((mem_lay' hn).mp hx).2
      have h2 := ((mem_lay' hn).mp hy).2
      exact hab (h1.symm.trans h2)
    · rw [List.mem_flatMap]
      constructor
      · rintro ⟨t, _, h⟩
        exact ((mem_lay' hn).mp h).1
      · intro h
        exact ⟨gl x, List.mem_range.mpr (gl_lt hn h1 h), (mem_lay' hn).mpr ⟨h, rfl⟩⟩
  have e := p.length_eq
  rw [allD_len, List.length_flatMap] at e
  exact e
/-! ### lists of lists of rows -/
open PySem PySem.Spec PyProof.Rows L2 Evl
/-- layers at a: the lists at qs, each new to H0 with its rows, up to N -/
structure AtT (H0 H : Hp) (n N : Nat) (a : Addr) (qs : List Addr) (pss : Nat → List Addr) : Prop where
  top : H a = some (.lst (qs.map V.ref))
  len : qs.length = N
  lay : ∀ (i : Nat) (q : Addr), qs[i]? = some q → AtL H q (pss i) (layM n i) ∧ H0 q = none ∧ (∀ x ∈ pss i, H0 x = none) ∧ (pss i).Nodup
section
variable {K : PySem.W.Frag} {σ : L2.St} {H H' : Hp} {ta tb te tx : TE} {t : TT} {a b p q l : Addr} {ps qs : List Addr} {rows rws : List (List Int)}
/-- as EvNL, the list too unknown to H0 -/
def EvML (te : TE) (σ : L2.St) (H H0 : Hp) (rows : List (List Int)) : Prop := ∀ H1, Ex H H1 → ∀ Q : VK, (∀ p ps H2, H0 p = none → Ex H1 H2 → AtL H2 p ps rows → (∀ x ∈ ps, H0 x = none) → ps.Nodup → Q (.ref p) H2) → te σ H1 Q
variable {H0 : Hp} {D : Ends} {tz : TS}
theorem eml_old (h : Ev te σ H (.ref a)) (h0 : H0 a = none) (ha : AtL H a ps rows) (hn : ∀ x ∈ ps, H0 x = none) (nd : ps.Nodup) : EvML te σ H H0 rows := fun H1 e Q q => h H1 e Q fun H2 e2 => q a ps H2 h0 e2 (ha.ex (e.trans e2)) hn nd
theorem eml_nil (h : EvL te σ H []) (h0 : Ex H0 H) : EvML te σ H H0 [] := fun H1 e Q q => h H1 e Q fun p H2 np e2 hp => q p [] H2 (fresh_back (h0.trans e) np) e2 ⟨hp, rfl, fun i p ns h => by simp at h⟩ (fun _ z => by cases z) List.nodup_nil
theorem eml_one {ns : List Int} (ha : EvL ta σ H (ns.map V.int)) (h0 : Ex H0 H) : EvML (tLst (tCons ta tNil)) σ H H0 [ns] := fun H1 e Q q =>
  ha H1 e _ fun p H2 np e2 hp => ⟨by show 1 ≤ sizeLine; decide, fun s hs => q s [p] _ (fresh_back ((h0.trans e).trans e2) hs) (e2.trans (Ex.new hs)) (AtL.one upd_same (Ex.new hs _ _ hp)) (fun x hx => by rw [List.mem_singleton.mp hx]; exact fresh_back (h0.trans e) np) (by simp)⟩
theorem eml_cat (ha : EvML ta σ H H0 rows) (hb : EvLL tb σ H rws) (h0 : Ex H0 H) (hz : rows.length + rws.length ≤ 100000) : EvML (tOp rCat ta tb) σ H H0 (rows ++ rws) := fun H1 e Q q =>
  ha H1 e _ fun p ps H2 p0 e2 hp hn nd => hb H2 (e.trans e2) _ fun r rs H3 nr e3 hr hnr ndr => by
    have hp3 := hp.ex e3
    refine ⟨p, r, ps.map V.ref, rs.map V.ref, rfl, rfl, hp3.top, hr.top, sz_of (by rw [List.length_map, List.length_map, hp.len, hr.len]; exact hz), fun s hs => q s (ps ++ rs) _ (fresh_back (((h0.trans e).trans e2).trans e3) hs) ((e2.trans e3).trans (Ex.new hs)) (hp3.cat hr hs) (fun x hx => ?_) ?_⟩
    · rcases List.mem_append.mp hx with hx | hx
      · exact hn x hx
      · exact fresh_back (h0.trans (e.trans e2)) (hnr x hx)
    · rw [List.nodup_append]
      refine ⟨nd, ndr, fun x hx y hy z => ?_⟩
      subst z
      obtain ⟨_, _, _, _, hat⟩ := hp.mem hx
      have hat : H2 x = _ := hat
      rw [hnr x hy] at hat
      cases hat
theorem s_asgML {k : Nat} (h : EvML te σ H H0 rows) (c : ∀ p ps H1, H0 p = none → Ex H H1 → AtL H1 p ps rows → (∀ x ∈ ps, H0 x = none) → ps.Nodup → D.nx (σ.set k (some (.ref p))) H1) : tAsg te (gName k) D σ H := h H (Ex.refl _) _ fun p ps H1 n e hp hn nd => c p ps H1 n e hp hn nd
theorem q_asgML {k : Nat} (h : EvML te σ H H0 rows) (c : ∀ p ps H1, H0 p = none → Ex H H1 → AtL H1 p ps rows → (∀ x ∈ ps, H0 x = none) → ps.Nodup → tz D (σ.set k (some (.ref p))) H1) : tSeq (tAsg te (gName k)) tz D σ H := h H (Ex.refl _) _ fun p ps H1 n e hp hn nd => c p ps H1 n e hp hn nd
theorem eml_new (h : EvLL te σ H rows) (h0 : Ex H0 H) : EvML te σ H H0 rows := fun H1 e Q q => h H1 e Q fun p ps H2 np e2 hp hn nd => q p ps H2 (fresh_back (h0.trans e) np) e2 hp (fun x hx => fresh_back (h0.trans e) (hn x hx)) nd
/-- the last of a list -/
theorem at_last {xs : List V} {v : V} (h : xs.getLast? = some v) : atI xs (-1) = some v := by
  have hne : xs ≠ [] := fun z => by rw [z] at h; cases h
  have hl : 1 ≤ xs.length := List.length_pos_iff.mpr hne
  unfold atI ixN
  rw [if_neg (by decide), if_pos (by omega)]
  show xs[(-1 + (xs.length : Int)).toNat]? = _
  have e : (-1 + (xs.length : Int)).toNat = xs.length - 1 := by omega
  rw [e, ← List.getLast?_eq_getElem?, h]
theorem AtL.ext {H : Hp} {a b : Addr} {ps qs : List Addr} {rows rws : List (List Int)} (h1 : AtL H a ps rows) (h2 : AtL H b qs rws) (nq : a ∉ qs) : AtL (upd H a (.lst (ps.map V.ref ++ qs.map V.ref))) a (ps ++ qs) (rows ++ rws) := by
  refine ⟨by rw [upd_same, List.map_append], by simp [h1.len, h2.len], fun i x ns e1 e2 => ?_⟩
  by_cases hi : i < ps.length
  · rw [List.getElem?_append_left hi] at e1
    rw [List.getElem?_append_left (by rw [← h1.len]; exact hi)] at e2
    exact upd_at (h1.row i x ns e1 e2) fun z => h1.top_out (by rw [← z]; exact List.mem_of_getElem? e1)
  · rw [List.getElem?_append_right (by omega)] at e1
    rw [List.getElem?_append_right (by rw [← h1.len]; omega), ← h1.len] at e2
    exact upd_at (h2.row _ x ns e1 e2) fun z => nq (by rw [← z]; exact List.mem_of_getElem? e1)
/-- xs.extend(new rows) -/
theorem s_ext {l : Addr} (hl : AtL H l ps rows) (ha : Ev ta σ H (.ref l)) (h : EvLL te σ H rws) (hz : rows.length + rws.length ≤ 100000)
    (k : ∀ qs H1, Ex H H1 → AtL (upd H1 l (.lst (ps.map V.ref ++ qs.map V.ref))) l (ps ++ qs) (rows ++ rws) → (∀ x ∈ qs, H x = none) → qs.Nodup → D.nx σ (upd H1 l (.lst (ps.map V.ref ++ qs.map V.ref)))) :
    tDrop (tBM K "list" rExtend ta (tCons te tNil)) D σ H := ha H (Ex.refl H) _ fun H1 e1 =>
  ⟨Or.inl ⟨rfl, _, sq_of (e1 _ _ hl.top)⟩, h H1 e1 _ fun b qs H2 nb e2 hb hnq ndq => by
    have hl2 := (hl.ex e1).ex e2
    refine ⟨l, b, ps.map V.ref, qs.map V.ref, rfl, rfl, hl2.top, hb.top, sz_of (by rw [List.length_map, List.length_map, hl.len, hb.len]; exact hz), k qs H2 (e1.trans e2) (hl2.ext hb fun hm => ?_) (fun x hx => fresh_back e1 (hnq x hx)) ndq⟩
    have := hnq l hm
    rw [e1 _ _ hl.top] at this
    cases this⟩
theorem q_forLA {D : Ends} {tu tz : TS} {j : Nat} (h : Ev te σ H (.ref a)) (hx : AtL H a ps rows) (Pv : Nat → L2.St → Hp → Prop) (h0 : ∀ H1, Ex H H1 → Pv 0 σ H1) (hl : ∀ i σ' H', Pv i σ' H' → AtL H' a ps rows)
    (hs : ∀ (i : Nat) (p : Addr) (ns : List Int) σ' H', ps[i]? = some p → rows[i]? = some ns → At H' p ns → Pv i σ' H' → tu { D with nx := Pv (i + 1), ct := Pv (i + 1), bk := tz D } (σ'.set j (some (.ref p))) H') (hd : ∀ σ' H', Pv rows.length σ' H' → tz D σ' H') : tSeq (tFor (iList K te) (gName j) tu) tz D σ H := by
  refine q_forLn h (sq_of hx.top) Pv h0 (fun i σ' H' _ p => sq_of (hl i σ' H' p).top) (fun i y σ' H' hy p => ?_) (fun σ' H' p => ?_)
  · rw [List.getElem?_map] at hy
    cases e : ps[i]? with
    | none => rw [e] at hy; cases hy
    | some x =>
      rw [e] at hy
      cases Option.some.inj hy
      have hlt : i < rows.length := by rw [← hx.len]; exact (List.getElem?_eq_some_iff.mp e).1
      have er : rows[i]? = some rows[i] := List.getElem?_eq_getElem hlt
      exact hs i x rows[i] σ' H' e er ((hl i σ' H' p).row i x _ e er) p
  · rw [List.length_map, hx.len] at p
    exact hd σ' H' p
end
end Tt

namespace Tt
open PySem PySem.Spec PyProof.Rows L2 Evl
/-! ### the text by places -/
def topS (i : Nat) : Stmt := PySem.Challenge.pw_topturn_k10_whole_counts_and_games.main.body.getD i (.Pass ⟨0, 0, 0, 0⟩)
abbrev s_ask : Stmt := topS 6
abbrev N_ask : List Str := ["deck"]
theorem sc_ask : FnScope N_ask ["deck"] (defScope s_ask) := ⟨rfl, rfl, rfl, by decide +kernel, rfl, by decide +kernel, by decide +kernel⟩
abbrev s_over : Stmt := topS 7
abbrev N_over : List Str := ["deck", "many"]
theorem sc_over : FnScope N_over ["deck", "many"] (defScope s_over) := ⟨rfl, rfl, rfl, by decide +kernel, rfl, by decide +kernel, by decide +kernel⟩
abbrev s_game : Stmt := topS 8
abbrev N_game : List Str := ["deck", "tops"]
theorem sc_game : FnScope N_game ["deck"] (defScope s_game) := ⟨rfl, rfl, rfl, by decide +kernel, rfl, by decide +kernel, by decide +kernel⟩
abbrev s_tops : Stmt := topS 9
abbrev N_tops : List Str := ["deck"]
theorem sc_tops : FnScope N_tops ["deck"] (defScope s_tops) := ⟨rfl, rfl, rfl, by decide +kernel, rfl, by decide +kernel, by decide +kernel⟩
abbrev s_aheads : Stmt := topS 11
abbrev N_aheads : List Str := ["deck", "k"]
theorem sc_aheads : FnScope N_aheads ["deck"] (defScope s_aheads) := ⟨rfl, rfl, rfl, by decide +kernel, rfl, by decide +kernel, by decide +kernel⟩
abbrev s_ends : Stmt := topS 14
abbrev N_ends : List Str := ["size", "found", "k", "longer", "row", "card"]
theorem sc_ends : FnScope N_ends ["size"] (defScope s_ends) := ⟨rfl, rfl, rfl, by decide +kernel, rfl, by decide +kernel, by decide +kernel⟩
abbrev s_layers : Stmt := topS 15
abbrev N_layers : List Str := ["size", "found", "here", "ahead", "deck"]
theorem sc_layers : FnScope N_layers ["size"] (defScope s_layers) := ⟨rfl, rfl, rfl, by decide +kernel, rfl, by decide +kernel, by decide +kernel⟩
abbrev s_counts : Stmt := topS 16
abbrev N_counts : List Str := ["size", "row"]
theorem sc_counts : FnScope N_counts ["size"] (defScope s_counts) := ⟨rfl, rfl, rfl, by decide +kernel, rfl, by decide +kernel, by decide +kernel⟩
abbrev s_longest : Stmt := topS 17
abbrev N_longest : List Str := ["size"]
theorem sc_longest : FnScope N_longest ["size"] (defScope s_longest) := ⟨rfl, rfl, rfl, by decide +kernel, rfl, by decide +kernel, by decide +kernel⟩
abbrev s_law_cell_at : Stmt := topS 19
abbrev N_law_cell_at : List Str := ["script", "k"]
theorem sc_law_cell_at : FnScope N_law_cell_at ["script", "k"] (defScope s_law_cell_at) := ⟨rfl, rfl, rfl, by decide +kernel, rfl, by decide +kernel, by decide +kernel⟩
abbrev s_law_deck : Stmt := topS 20
abbrev N_law_deck : List Str := ["script", "at", "most", "size", "left", "deck", "k"]
theorem sc_law_deck : FnScope N_law_deck ["script", "at", "most"] (defScope s_law_deck) := ⟨rfl, rfl, rfl, by decide +kernel, rfl, by decide +kernel, by decide +kernel⟩
abbrev s_law_over : Stmt := topS 21
abbrev N_law_over : List Str := ["deck", "many", "k"]
theorem sc_law_over : FnScope N_law_over ["deck", "many"] (defScope s_law_over) := ⟨rfl, rfl, rfl, by decide +kernel, rfl, by decide +kernel, by decide +kernel⟩
abbrev s_law_game : Stmt := topS 22
abbrev N_law_game : List Str := ["deck", "met"]
theorem sc_law_game : FnScope N_law_game ["deck"] (defScope s_law_game) := ⟨rfl, rfl, rfl, by decide +kernel, rfl, by decide +kernel, by decide +kernel⟩
abbrev s_law_layers : Stmt := topS 23
abbrev N_law_layers : List Str := ["size", "here", "k", "longer", "row", "rings", "ahead", "deck", "card"]
theorem sc_law_layers : FnScope N_law_layers ["size"] (defScope s_law_layers) := ⟨rfl, rfl, rfl, by decide +kernel, rfl, by decide +kernel, by decide +kernel⟩
abbrev s_law : Stmt := topS 24
abbrev N_law : List Str := ["script", "size", "rings", "row", "product", "k", "some", "deck", "here"]
theorem sc_law : FnScope N_law ["script"] (defScope s_law) := ⟨rfl, rfl, rfl, by decide +kernel, rfl, by decide +kernel, by decide +kernel⟩
/-- where things stand -/
structure Ads where
  (f_ask : Addr) (d_ask : FuncData)
  (f_over : Addr) (d_over : FuncData)
  (f_game : Addr) (d_game : FuncData)
  (f_tops : Addr) (d_tops : FuncData)
  (f_aheads : Addr) (d_aheads : FuncData)
  (f_ends : Addr) (d_ends : FuncData)
  (f_layers : Addr) (d_layers : FuncData)
  (f_counts : Addr) (d_counts : FuncData)
  (f_longest : Addr) (d_longest : FuncData)
  (f_law_cell_at : Addr) (d_law_cell_at : FuncData)
  (f_law_deck : Addr) (d_law_deck : FuncData)
  (f_law_over : Addr) (d_law_over : FuncData)
  (f_law_game : Addr) (d_law_game : FuncData)
  (f_law_layers : Addr) (d_law_layers : FuncData)
  (f_law : Addr) (d_law : FuncData)
  t_MOST : Tok
  t_MOST_COUNTED : Tok
/-- what the top has written -/
structure Txt (K : PySem.W.Frag) (mg : Str → Option Value) (A : Ads) : Prop where
  n_len : mg "len" = none
  n_sorted : mg "sorted" = none
  n_list : mg "list" = none
  n_range : mg "range" = none
  n_reversed : mg "reversed" = none
  n_isinstance : mg "isinstance" = none
  n_ValueError : mg "ValueError" = none
  n_sum : mg "sum" = none
  g_MOST : mg "MOST" = some (.int 16 A.t_MOST)
  g_MOST_COUNTED : mg "MOST_COUNTED" = some (.int 7 A.t_MOST_COUNTED)
  F_ask : Fun K "ask" "ask" s_ask A.f_ask A.d_ask
  g_ask : mg "ask" = some (.ref A.f_ask)
  b_ask : Binds K A.d_ask ["deck"] []
  F_over : Fun K "over" "over" s_over A.f_over A.d_over
  g_over : mg "over" = some (.ref A.f_over)
  b_over : Binds K A.d_over ["deck", "many"] []
  F_game : Fun K "game" "game" s_game A.f_game A.d_game
  g_game : mg "game" = some (.ref A.f_game)
  b_game : Binds K A.d_game ["deck"] []
  F_tops : Fun K "tops" "tops" s_tops A.f_tops A.d_tops
  g_tops : mg "tops" = some (.ref A.f_tops)
  b_tops : Binds K A.d_tops ["deck"] []
  F_aheads : Fun K "aheads" "aheads" s_aheads A.f_aheads A.d_aheads
  g_aheads : mg "aheads" = some (.ref A.f_aheads)
  b_aheads : Binds K A.d_aheads ["deck"] []
  F_ends : Fun K "ends" "ends" s_ends A.f_ends A.d_ends
  g_ends : mg "ends" = some (.ref A.f_ends)
  b_ends : Binds K A.d_ends ["size"] []
  F_layers : Fun K "layers" "layers" s_layers A.f_layers A.d_layers
  g_layers : mg "layers" = some (.ref A.f_layers)
  b_layers : Binds K A.d_layers ["size"] []
  F_counts : Fun K "counts" "counts" s_counts A.f_counts A.d_counts
  g_counts : mg "counts" = some (.ref A.f_counts)
  b_counts : Binds K A.d_counts ["size"] []
  F_longest : Fun K "longest" "longest" s_longest A.f_longest A.d_longest
  g_longest : mg "longest" = some (.ref A.f_longest)
  b_longest : Binds K A.d_longest ["size"] []
  F_law_cell_at : Fun K "_law_cell_at" "_law_cell_at" s_law_cell_at A.f_law_cell_at A.d_law_cell_at
  g_law_cell_at : mg "_law_cell_at" = some (.ref A.f_law_cell_at)
  b_law_cell_at : Binds K A.d_law_cell_at ["script", "k"] []
  F_law_deck : Fun K "_law_deck" "_law_deck" s_law_deck A.f_law_deck A.d_law_deck
  g_law_deck : mg "_law_deck" = some (.ref A.f_law_deck)
  b_law_deck : Binds K A.d_law_deck ["script", "at", "most"] []
  F_law_over : Fun K "_law_over" "_law_over" s_law_over A.f_law_over A.d_law_over
  g_law_over : mg "_law_over" = some (.ref A.f_law_over)
  b_law_over : Binds K A.d_law_over ["deck", "many"] []
  F_law_game : Fun K "_law_game" "_law_game" s_law_game A.f_law_game A.d_law_game
  g_law_game : mg "_law_game" = some (.ref A.f_law_game)
  b_law_game : Binds K A.d_law_game ["deck"] []
  F_law_layers : Fun K "_law_layers" "_law_layers" s_law_layers A.f_law_layers A.d_law_layers
  g_law_layers : mg "_law_layers" = some (.ref A.f_law_layers)
  b_law_layers : Binds K A.d_law_layers ["size"] []
  F_law : Fun K "law" "law" s_law A.f_law A.d_law
  g_law : mg "law" = some (.ref A.f_law)
  b_law : Binds K A.d_law ["script"] []
section
variable {P : Program} {w : World} {K : PySem.W.Frag} {mg : Str → Option Value} {base : Heap} {A : Ads}
/-- a deck of 1 to 16 cards -/
structure Dk (ns : List Int) : Prop where
  dk : IsDk ns
  lo : 1 ≤ ns.length
  hi : ns.length ≤ 16
theorem Dk.ov {ns : List Int} (h : Dk ns) (k : Int) : Dk (ov ns k) := ⟨h.dk.ov k, by rw [ov_len]; exact h.lo, by rw [ov_len]; exact h.hi⟩
theorem Dk.top {ns : List Int} (h : Dk ns) : ∃ k : Int, ns[0]? = some k ∧ 1 ≤ k ∧ k ≤ ns.length := by
  have h0 : 0 < ns.length := h.lo
  have e : ns[0]? = some ns[0] := List.getElem?_eq_getElem h0
  exact ⟨_, e, h.dk.at e⟩
theorem Gm.short16 {d ts e : List Int} (g : Gm d ts e) (h : Dk d) : ts.length < 32768 := by
  have h1 := g.short h.dk
  have h2 : 2 ^ (d.length - 1) ≤ 2 ^ 15 := Nat.pow_le_pow_right (by decide) (by have := h.hi; omega)
  omega
def spAsk : Sp := fun vs H Q _ => ∃ (a : Addr) (ns : List Int), vs = [.ref a] ∧ At H a ns ∧ Dk ns ∧ RetV .non H Q
theorem spAsk_V {H : Hp} {a : Addr} {ns : List Int} (h : At H a ns) (d : Dk ns) : SpV spAsk [.ref a] H .non := fun H1 e Q q E => ⟨a, ns, rfl, e _ _ h, d, fun H2 e2 => q H2 e2⟩
theorem ok_ask (T : Txt K mg A) : FnOk P w K mg base CX0 1 A.f_ask A.d_ask ["deck"] spAsk := by
  refine T.F_ask.ok sc_ask (fun vs H Q E h => ?_) (fun cdv AA outer s H vs Q E hr h => ?_)
  · obtain ⟨a, ns, rfl, _⟩ := h
    rfl
  · obtain ⟨a, ns, rfl, ha, hd, q⟩ := h
    refine ⟨_, (pss_one (ps_if (PW.pt (pw_or (pt_cmpR op_lt (pe_callB (r := rLenS K) call_len_seq (by rfl) T.n_len PySem.boot_len (pa_cons (pv 0) pa_nil)) pe_int (nomark _)) (pw_or (pt_cmpR op_gt (pe_callB (r := rLenS K) call_len_seq (by rfl) T.n_len PySem.boot_len (pa_cons (pv 0) pa_nil)) (pe_glob (v := .int 16) rfl T.g_MOST ⟨_, rfl⟩) (nomark _)) (pw_or1 (pt_cmpR (r := rNeD K) (op_neD hr.units) (pe_callB (r := rSortedI K) cr_sortedI (by rfl) T.n_sorted (by decide +kernel) (pa_cons (pv 0) pa_nil)) (pe_listRg rfl (by rfl) T.n_list (prg_2 (by rfl) T.n_range pe_int (pe_op op_add (pe_callB (r := rLenS K) call_len_seq (by rfl) T.n_len PySem.boot_len (pa_cons (pv 0) pa_nil)) pe_int))) (nomark _))))))
      (pss_one ps_never)
      pss_nil)), ?_⟩
    have e1 : (decide ((ns.length : Int) < 1) || (decide ((16 : Int) < (ns.length : Int)) || !decide (srt ns = rng ns.length))) = false := by
      have h1 := hd.lo
      have h2 := hd.hi
      have h3 := (srt_rng ns).mpr hd.dk
      simp [h3]
      omega
    refine s_when (et_is (et_or (et_test (ev_op (ev_lenI (ev_var rfl) (sq_of ha)) ev_c rv_I0)) fun _ => et_or (et_test (ev_op (ev_lenI (ev_var rfl) (sq_of ha)) ev_c rv_I0)) fun _ => et_test (ev_neR (EvR.new (el_sorted (EvR.old (ev_var rfl) ha))) (EvR.new (el_rng ev_c (ev_op (ev_lenI (ev_var rfl) (sq_of ha)) ev_c rv_I0) rfl (by have := hd.hi; omega))))) e1) (fun z => nomatch z) fun _ H1 e => q.go e

def spOverL : Sp := fun vs H Q _ => ∃ (a : Addr) (ns : List Int) (k : Int), vs = [.ref a, .int k] ∧ At H a ns ∧ 0 ≤ k ∧ k ≤ ns.length ∧ ns.length ≤ 1000 ∧ RetL ((ov ns k).map V.int) H Q
theorem spOverL_L {H : Hp} {a : Addr} {ns : List Int} {k : Int} (h : At H a ns) (h0 : 0 ≤ k) (h1 : k ≤ ns.length) (hl : ns.length ≤ 1000) : SpL spOverL [.ref a, .int k] H ((ov ns k).map V.int) := fun H1 e Q q E => ⟨a, ns, k, rfl, e _ _ h, h0, h1, hl, fun p H2 hp e2 h2 => q p H2 hp e2 h2⟩

def spOver : Sp := fun vs H Q _ => ∃ (a : Addr) (ns : List Int) (k : Int), vs = [.ref a, .int k] ∧ At H a ns ∧ 0 ≤ k ∧ ns.length ≤ 1000 ∧ RetL ((ov ns k).map V.int) H Q
theorem spOver_L {H : Hp} {a : Addr} {ns : List Int} {k : Int} (h : At H a ns) (h0 : 0 ≤ k) (hl : ns.length ≤ 1000) : SpL spOver [.ref a, .int k] H ((ov ns k).map V.int) := fun H1 e Q q E => ⟨a, ns, k, rfl, e _ _ h, h0, hl, fun p H2 hp e2 h2 => q p H2 hp e2 h2⟩
theorem ok_over (T : Txt K mg A) : FnOk P w K mg base CX0 1 A.f_over A.d_over ["deck", "many"] spOver := by
  refine T.F_over.ok sc_over (fun vs H Q E h => ?_) (fun cdv AA outer s H vs Q E hr h => ?_)
  · obtain ⟨a, ns, k, rfl, _⟩ := h
    rfl
  · obtain ⟨a, ns, k, rfl, ha, hk, hl, q⟩ := h
    refine ⟨_, (pss_one (ps_ret (pe_op op_cat (pe_listRev rfl (by rfl) T.n_list (by rfl) T.n_reversed (pe_slice (r := rSlL K) sl_list (pv 0) po_none (po_some (pv 1)))) (pe_slice (r := rSlL K) sl_list (pv 0) (po_some (pv 1)) po_none)))), ?_⟩
    have e1 : ((ns.take k.toNat).map V.int).reverse ++ (ns.drop k.toNat).map V.int = (ov ns k).map V.int := by
      unfold ov
      rw [List.map_append, List.map_reverse]
    unfold RetL at q
    rw [← e1] at q
    exact s_retL (el_cat (EvR.new (el_rev (EvR.new (el_take (EvR.old (ev_var rfl) ha) (eo_some (ev_var rfl)) hk)))) (EvR.new (el_drop (EvR.old (ev_var rfl) ha) (eo_some (ev_var rfl)) hk)) (by simp; omega)) q

/-- the promise of a game told: a pair of two new lists -/
def RetG (ts e : List Int) (H : Hp) (Q : VK) : Prop := ∀ p H2 t1 t2, H p = none → Ex H H2 → H2 p = some (.tup [.ref t1, .ref t2]) → H t1 = none → H t2 = none → At H2 t1 ts → At H2 t2 e → Q (.ref p) H2
def spGame : Sp := fun vs H Q _ => ∃ (a : Addr) (ns ts e : List Int), vs = [.ref a] ∧ At H a ns ∧ Dk ns ∧ Gm ns ts e ∧ RetG ts e H Q
theorem ok_game (T : Txt K mg A) : FnOk P w K mg base CX0 2 A.f_game A.d_game ["deck"] spGame := by
  refine T.F_game.ok sc_game (fun vs H Q E h => ?_) (fun cdv AA outer s H vs Q E hr h => ?_)
  · obtain ⟨a, ns, ts, e, rfl, _⟩ := h
    rfl
  · obtain ⟨a, ns, ts, e, rfl, ha, hd, hg, q⟩ := h
    refine ⟨_, (pss_cons (ps_set (i := 1) sc_game.nd rfl (by first | exact Or.inl rfl | exact Or.inr rfl) (pe_lst pa_nil))
      (pss_cons (ps_while PassesOwn.never (pt_cmpR op_ne (pe_ix (r := rIxL K) ix_list (pv 0) pe_int (fun _ _ => rfl)) pe_int (nomark _))
      (pss_cons (ps_expr (pe_bm PySem.F.plainAttrs_list PySem.F.slot_list_append PySem.F.type_list_append mt_append (pv 1) (pa_cons (pe_ix (r := rIxL K) ix_list (pv 0) pe_int (fun _ _ => rfl)) pa_nil)))
        (pss_one (ps_set (i := 0) sc_game.nd rfl (by first | exact Or.inl rfl | exact Or.inr rfl) (pe_call (ok_over T) (hr.mono (by decide)) (by rfl) T.g_over T.F_over.kp T.b_over .nil pass0 (pa_cons (pv 0) (pa_cons (pe_ix (r := rIxL K) ix_list (pv 0) pe_int (fun _ _ => rfl)) pa_nil)))))))
      (pss_one (ps_ret (pe_tup (pa_cons (pv 1) (pa_cons (pe_callTy (r := rListS K) call_list_of (by rfl) T.n_list (by decide +kernel) (pa_cons (pv 0) pa_nil)) pa_nil))))))), ?_⟩
    have hts := hg.short16 hd
    refine q_asgL (el_lst ea_nil (by decide)) fun p H1 np e1 hp => ?_
    refine q_while (fun m σ H2 => ∃ a' d done rest, σ = [some (.ref a'), some (.ref p)] ∧ Ex H H2 ∧ At H2 p done ∧ At H2 a' d ∧ a' ≠ p ∧ Gm d rest e ∧ done ++ rest = ts ∧ m = rest.length ∧ Dk d) ts.length
      ⟨a, ns, [], ts, rfl, e1, hp, e1 _ _ ha, ne_of_none ha np, hg, rfl, rfl, hd⟩ fun m σ H2 hW => ?_
    obtain ⟨a', d, done, rest, rfl, ex, hp2, ha2, ne, g, hdone, rfl, hd2⟩ := hW
    obtain ⟨k, hk, k1, k2⟩ := hd2.top
    have hlen : done.length + rest.length = ts.length := by rw [← hdone, List.length_append]
    refine ⟨!decide (k = 1), et_is (et_test (ev_op (ev_op (ev_var rfl) ev_c (rv_ix 0 (sq_of ha2) rfl hk)) ev_c (rv_ne rfl))) (by by_cases hk1 : k = 1 <;> simp [hk1]), fun hb H3 e3 => ?_, fun hb H3 e3 => ?_⟩
    · have hk1 : k ≠ 1 := by simpa using hb
      cases g with
      | stop h => rw [hk] at h; exact absurd (Option.some.inj h) hk1
      | turn h n g2 =>
        rename_i ts' k'
        rw [hk] at h
        cases Option.some.inj h
        refine ⟨fun σ H2 => ∃ a' d done rest, σ = [some (.ref a'), some (.ref p)] ∧ Ex H H2 ∧ At H2 p done ∧ At H2 a' d ∧ a' ≠ p ∧ Gm d rest e ∧ done ++ rest = ts ∧ ts'.length = rest.length ∧ Dk d, fun σ2 H4 h => ⟨ts'.length, by simp, h⟩, ?_⟩
        have hp3 := e3 _ _ hp2
        have ha3 := e3 _ _ ha2
        simp only [List.length_cons] at hlen
        refine q_app hp3 (ev_var rfl) (ev_op (ev_var rfl) ev_c (rv_ix 0 (sq_of ha3) rfl hk)) (by simp; omega) fun H4 e4 => ?_
        have ha4 : At (upd H4 p (.lst (done.map V.int ++ [.int k]))) a' d := by
          show upd _ _ _ _ = _
          rw [upd_ne ne]
          exact e4 _ _ ha3
        refine s_asgL (el_call (ea_cons (ev_var rfl) (ea_cons (ev_op (ev_var rfl) ev_c (rv_ix 0 (sq_of ha4) rfl hk)) ea_nil)) (spOver_L ha4 (by omega) (by have := hd2.hi; omega))) fun p5 H5 n5 e5 h5 => ?_
        refine ⟨p5, ov d k, done ++ [k], ts', rfl, ?_, ?_, h5, ?_, g2, by rw [List.append_assoc]; exact hdone, rfl, hd2.ov k⟩
        · exact (Ex.mut ((ex.trans e3).trans e4) np).trans e5
        · refine e5 _ _ ?_
          rw [upd_same, List.map_append]
          rfl
        · intro z
          rw [z, upd_same] at n5
          cases n5
    · have hk1 : k = 1 := by simpa using hb
      subst hk1
      cases g with
      | turn h n g2 => rw [hk] at h; exact absurd (Option.some.inj h).symm n
      | stop _ =>
        rw [List.append_nil] at hdone
        subst hdone
        have hp3 := e3 _ _ hp2
        have ha3 := e3 _ _ ha2
        refine ⟨_, rfl, ?_⟩
        refine el_listR (EvR.old (ev_var rfl) ha3) H3 (Ex.refl _) _ fun p2 H4 n4 e4 h4 => ?_
        refine ⟨by show 2 ≤ sizeLine; decide, fun p5 n5 => ?_⟩
        have e34 := (ex.trans e3).trans e4
        exact q p5 _ p p2 (fresh_back e34 n5) (e34.trans (Ex.new n5)) upd_same np (fresh_back (ex.trans e3) n4) (Ex.new n5 _ _ (e4 _ _ hp3)) (Ex.new n5 _ _ h4)

def spTops : Sp := fun vs H Q _ => ∃ (a : Addr) (ns ts e : List Int), vs = [.ref a] ∧ At H a ns ∧ Dk ns ∧ Gm ns ts e ∧ RetL (ts.map V.int) H Q
theorem spTops_L {H : Hp} {a : Addr} {ns ts e : List Int} (h : At H a ns) (d : Dk ns) (g : Gm ns ts e) : SpL spTops [.ref a] H (ts.map V.int) := fun H1 e Q q E => ⟨a, ns, ts, _, rfl, e _ _ h, d, g, fun p H2 hp e2 h2 => q p H2 hp e2 h2⟩
theorem ok_tops (T : Txt K mg A) : FnOk P w K mg base CX0 3 A.f_tops A.d_tops ["deck"] spTops := by
  refine T.F_tops.ok sc_tops (fun vs H Q E h => ?_) (fun cdv AA outer s H vs Q E hr h => ?_)
  · obtain ⟨a, ns, ts, e, rfl, _⟩ := h
    rfl
  · obtain ⟨a, ns, ts, e, rfl, ha, hd, hg, q⟩ := h
    refine ⟨_, (pss_cons (ps_expr (pe_call (ok_ask T) (hr.mono (by decide)) (by rfl) T.g_ask T.F_ask.kp T.b_ask .nil pass0 (pa_cons (pv 0) pa_nil)))
      (pss_one (ps_ret (pe_ix (r := rIxT K) ix_tup (pe_call (ok_game T) (hr.mono (by decide)) (by rfl) T.g_game T.F_game.kp T.b_game .nil pass0 (pa_cons (pv 0) pa_nil)) pe_int (fun _ _ => rfl))))), ?_⟩
    refine q_drop (ev_call (ea_cons (ev_var rfl) ea_nil) (spAsk_V ha hd)) fun H1 e1 => ?_
    refine ⟨_, rfl, a, ns, ts, e, rfl, e1 _ _ ha, hd, hg, fun p H2 t1 t2 np e2 hp n1 n2 h1 h2 => ?_⟩
    exact ⟨p, _, 0, _, rfl, rfl, st_of hp, at_of (j := 0) rfl rfl, q t1 H2 (fresh_back e1 n1) (e1.trans e2) h1⟩

def spAheads : Sp := fun vs H Q _ => ∃ (a : Addr) (ns : List Int), vs = [.ref a] ∧ At H a ns ∧ Dk ns ∧ RetLL (aheadsM ns) H Q
theorem spAheads_LL {H : Hp} {a : Addr} {ns : List Int} (h : At H a ns) (d : Dk ns) : SpLL spAheads [.ref a] H (aheadsM ns) := fun H1 e Q q E => ⟨a, ns, rfl, e _ _ h, d, q⟩
theorem ok_aheads (T : Txt K mg A) : FnOk P w K mg base CX0 2 A.f_aheads A.d_aheads ["deck"] spAheads := by
  refine T.F_aheads.ok sc_aheads (fun vs H Q E h => ?_) (fun cdv AA outer s H vs Q E hr h => ?_)
  · obtain ⟨a, ns, rfl, _⟩ := h
    rfl
  · obtain ⟨a, ns, rfl, ha, hd, q⟩ := h
    refine ⟨_, (pss_cons (ps_expr (pe_call (ok_ask T) (hr.mono (by decide)) (by rfl) T.g_ask T.F_ask.kp T.b_ask .nil pass0 (pa_cons (pv 0) pa_nil)))
      (pss_one (ps_ret (pe_lc (own := [("k", 1)]) (g := gName 1) rfl sc_aheads.nd (pi_range2 (by rfl) T.n_range (pa_cons pe_int (pa_cons (pe_op op_add (pe_callB (r := rLenS K) call_len_seq (by rfl) T.n_len PySem.boot_len (pa_cons (pv 0) pa_nil)) pe_int) pa_nil))) (blkOk_by (N := N_aheads) (sc := defScope s_aheads) (by decide +kernel)) (fun _ _ _ _ _ => pg_name (i := 1) sc_aheads.nd rfl (Or.inl rfl)) (fun _ _ _ _ _ => (pts_one (pt_cmpR op_eq (pe_ix (r := rIxL K) ix_list (pv 0) (pe_op op_sub (pv 1) pe_int) (fun _ _ => rfl)) (pv 1) (nomark _)))) (fun _ _ _ _ _ => (pe_call (ok_over T) (hr.mono (by decide)) (by rfl) T.g_over T.F_over.kp T.b_over .nil pass0 (pa_cons (pv 0) (pa_cons (pv 1) pa_nil)))))))), ?_⟩
    have h1 := hd.lo
    have h2 := hd.hi
    refine q_drop (ev_call (ea_cons (ev_var rfl) ea_nil) (spAsk_V ha hd)) fun H1 e1 => ?_
    have ha1 := e1 _ _ ha
    have en : ((ns.length : Int) + 1 - 2).toNat = ns.length - 1 := by omega
    have hc := ell_lcR2 (ta := tCons (tC (.int 2)) (tCons (tOp (rI0 fun i j => V.int (i + j)) (tCB (rLenS K) (tCons (tVar 0) tNil)) (tC (.int 1))) tNil)) (lo := 2) (n := (ns.length : Int) + 1) (H := H1) (σ := [some (.ref a), none]) (j := 1) (vs := [1]) (t := tTest (tOp rEq (tOp (rIxL K) (tVar 0) (tOp (rI0 fun i j => V.int (i - j)) (tVar 1) (tC (V.int 1)))) (tVar 1)))
      (te := tCall spOver [] E0 (tCons (tVar 0) (tCons (tVar 1) tNil))) (inPl ns) (fun i => ov ns (2 + (i : Int))) (ea_cons ev_c (ea_cons (ev_op (ev_lenI (K := K) (ev_var rfl) (sq_of ha1)) ev_c rv_I0) ea_nil)) (by omega) (fun x => rfl)
      (fun i G eG hi => by
        obtain ⟨c, hc, e⟩ := inPl_at (ns := ns) (i := i) (by omega)
        rw [← e]
        refine et_is (et_test (ev_op (ev_op (ev_var rfl) (ev_op (ev_var rfl) ev_c rv_I0) (rv_ix (i + 1) (sq_of (eG _ _ ha1)) (by omega) hc)) (ev_var rfl) rv_eqI)) ?_
        by_cases z : c = (i : Int) + 2
        · rw [decide_eq_true z, decide_eq_true (by omega)]
        · rw [decide_eq_false z, decide_eq_false (by omega)])
      (fun i G eG hi _ => el_call (ea_cons (ev_var rfl) (ea_cons (ev_var rfl) ea_nil)) (spOver_L (eG _ _ ha1) (by omega) (by omega)))
    rw [en] at hc
    exact s_retLL hc fun p ps H2 np e2 hp hn nd => q p ps H2 (fresh_back e1 np) (e1.trans e2) hp (fun x hx => fresh_back e1 (hn x hx)) nd

def spEnds : Sp := fun vs H Q _ => ∃ (n : Nat), vs = [.int (n : Int)] ∧ 1 ≤ n ∧ n ≤ 7 ∧ RetLL (endD n) H Q
theorem ok_ends (T : Txt K mg A) : FnOk P w K mg base CX0 1 A.f_ends A.d_ends ["size"] spEnds := by
  refine T.F_ends.ok sc_ends (fun vs H Q E h => ?_) (fun cdv AA outer s H vs Q E hr h => ?_)
  · obtain ⟨a, rfl, _⟩ := h
    rfl
  · obtain ⟨n, rfl, hn1, hn, q⟩ := h
    refine ⟨_, (pss_cons (ps_set (i := 1) sc_ends.nd rfl (by first | exact Or.inl rfl | exact Or.inr rfl) (pe_lst (pa_cons (pe_lst (pa_cons pe_int pa_nil)) pa_nil)))
      (pss_cons (ps_for PassesOwn.never rfl (pi_range1 (by rfl) T.n_range (pa_cons (pe_op op_sub (pv 0) pe_int) pa_nil)) (pg_name (i := 2) sc_ends.nd rfl (by first | exact Or.inl rfl | exact Or.inr rfl))
      (pss_cons (ps_set (i := 3) sc_ends.nd rfl (by first | exact Or.inl rfl | exact Or.inr rfl) (pe_lst pa_nil))
        (pss_cons (ps_for PassesOwn.never rfl (pi_list (pv 1)) (pg_name (i := 4) sc_ends.nd rfl (by first | exact Or.inl rfl | exact Or.inr rfl))
        (pss_one (ps_set (i := 3) sc_ends.nd rfl (by first | exact Or.inl rfl | exact Or.inr rfl) (pe_op op_cat (pv 3) (pe_lc (own := [("card", 5)]) (g := gName 5) rfl sc_ends.nd (pi_range2 (by rfl) T.n_range (pa_cons pe_int (pa_cons (pe_op op_add (pv 0) pe_int) pa_nil))) (blkOk_by (N := N_ends) (sc := defScope s_ends) (by decide +kernel)) (fun _ _ _ _ _ => pg_name (i := 5) sc_ends.nd rfl (Or.inl rfl)) (fun _ _ _ _ _ => (pts_one (pt_cmpR (r := rIn K true) op_notIn_seq (pv 5) (pv 4) rfl))) (fun _ _ _ _ _ => (pe_op op_cat (pv 4) (pe_lst (pa_cons (pv 5) pa_nil)))))))))
        (pss_one (ps_set (i := 1) sc_ends.nd rfl (by first | exact Or.inl rfl | exact Or.inr rfl) (pv 3))))))
      (pss_one (ps_ret (pv 1))))), ?_⟩
    refine q_asgML (H0 := H) (rows := [[1]]) (eml_one (ns := [1]) (el_lst (ea_cons ev_c ea_nil) (by decide)) (Ex.refl _)) fun p ps H1 p0 e1 hp hn1' nd1 => ?_
    refine q_forR1 (n := (n : Int) - 1) (ea_cons (ev_op (ev_var rfl) ev_c rv_I0) ea_nil) (by omega) (fun i σ' H' => ∃ p ps x2 x3 x4, σ' = [some (.int (n : Int)), some (.ref p), x2, x3, x4, none] ∧ H p = none ∧ Ex H H' ∧ AtL H' p ps (grow 2 (n - 1) [1] i) ∧ (∀ x ∈ ps, H x = none) ∧ ps.Nodup) (fun H2 e2 => ⟨p, ps, none, none, none, rfl, p0, e1.trans e2, hp.ex e2, hn1', nd1⟩) ?_ ?_
    · rintro i σ' H' hi ⟨p, ps, x2, x3, x4, rfl, p0, ex, hp, hnp, ndp⟩
      refine q_asgML (H0 := H) (rows := []) (eml_nil (el_lst ea_nil (by decide)) ex) fun q0 qs0 H2 q00 e2 hq0 hnq ndq => ?_
      have hp2 := hp.ex e2
      have ex2 := ex.trans e2
      have htot : ((grow 2 (n - 1) [1] i).flatMap (extG 2 (n - 1))).length ≤ 5040 := by
        have e := grow_len (lo := 2) (m := n - 1) (r0 := [1]) (by simp) (i + 1)
        have f := fall_p2 (n := n - 1) (k := i + 1) (by omega) (by omega)
        rw [← e] at f
        exact f
      refine q_forLL (ev_var rfl) hp2 (fun j σ'' H'' => ∃ r rs x4, σ'' = [some (.int (n : Int)), some (.ref p), some (.int (i : Int)), some (.ref r), x4, none] ∧ H r = none ∧ Ex H2 H'' ∧ AtL H'' r rs (((grow 2 (n - 1) [1] i).take j).flatMap (extG 2 (n - 1))) ∧ (∀ x ∈ rs, H x = none) ∧ rs.Nodup) (fun H3 e3 => ⟨q0, qs0, x4, rfl, q00, e3, hq0.ex e3, hnq, ndq⟩) (fun j σ'' H'' ⟨_, _, _, _, _, ex, _⟩ => ex) ?_ ?_
      · rintro j b row σ'' H'' hb hrow hat ⟨r, rs, x4, rfl, r0, ex', hr', hnr, ndr⟩
        have hlr : row.length ≤ 1000 := by
          obtain ⟨s, e, h1, _⟩ := (mem_grow (by simp)).mp (List.mem_of_getElem? hrow)
          rw [e]
          show s.length + 1 ≤ 1000
          omega
        have ht := flat_take (f := extG 2 (n - 1)) hrow
        have htl := flat_take_len (l := grow 2 (n - 1) [1] i) (f := extG 2 (n - 1)) (j + 1)
        refine s_asgML (H0 := H) (rows := ((grow 2 (n - 1) [1] i).take (j + 1)).flatMap (extG 2 (n - 1))) (by
          rw [ht] at htl ⊢
          rw [List.length_append] at htl
          exact eml_cat (eml_old (ev_var rfl) r0 hr' hnr ndr) (ext_row (p := b) (lo := 2) (m := n - 1) hat hlr (ea_cons ev_c (ea_cons (ev_is (ev_op (ev_var rfl) ev_c rv_I0) (by
            have e : (n : Int) + 1 = 2 + ((n - 1 : Nat) : Int) := by omega
            rw [e])) ea_nil)) (by omega) (fun x => rfl) (fun x => rfl) (fun x => rfl)) (ex2.trans ex') (by omega)) fun r2 rs2 H3 r20 e3 hr2 hn2 nd2 => ?_
        exact ⟨r2, rs2, _, rfl, r20, ex'.trans e3, hr2, hn2, nd2⟩
      · rintro σ'' H'' ⟨r, rs, x4, rfl, r0, ex', hr', hnr, ndr⟩
        rw [List.take_length] at hr'
        refine s_asgML (H0 := H) (eml_old (ev_var rfl) r0 hr' hnr ndr) fun r2 rs2 H3 r20 e3 hr2 hn2 nd2 => ?_
        exact ⟨r2, rs2, _, _, _, rfl, r20, (ex2.trans ex').trans e3, hr2, hn2, nd2⟩
    · rintro σ' H' ⟨p, ps, x2, x3, x4, rfl, p0, ex, hp, hnp, ndp⟩
      have e : ((n : Int) - 1).toNat = n - 1 := by omega
      rw [e] at hp
      exact ⟨_, rfl, q p ps H' p0 ex hp hnp ndp⟩
/-- layers told: so many, the last ahead of none -/
def RetT (n N : Nat) (H : Hp) (Q : VK) : Prop := ∀ a qs pss H2, Ex H H2 → AtT H H2 n N a qs pss → Q (.ref a) H2
def spLayers : Sp := fun vs H Q _ => ∃ (n N : Nat), vs = [.int (n : Int)] ∧ 1 ≤ n ∧ n ≤ 7 ∧ 1 ≤ N ∧ N ≤ 64 ∧ layM n N = [] ∧ (∀ t, t < N → layM n t ≠ []) ∧ RetT n N H Q
theorem AtL.no_own {H : Hp} {a : Addr} {ps : List Addr} {rows : List (List Int)} (h : AtL H a ps rows) {b : Addr} {H0 : Hp} {o : HO} (hb : H0 b = some o) (hn : ∀ x ∈ ps, H0 x = Option.none) : b ∉ ps := fun hm => by
  rw [hn b hm] at hb
  cases hb
theorem ok_layers (T : Txt K mg A) : FnOk P w K mg base CX0 3 A.f_layers A.d_layers ["size"] spLayers := by
  refine T.F_layers.ok sc_layers (fun vs H Q E h => ?_) (fun cdv AA outer s H vs Q E hr h => ?_)
  · obtain ⟨a, b, rfl, _⟩ := h
    rfl
  · obtain ⟨n, N, rfl, hn1, hn, hN1, hN, hE, hne, q⟩ := h
    refine ⟨_, (pss_cons (ps_if (PW.pt (pw_or (pt_cmpR op_lt (pv 0) pe_int (nomark _)) (pw_or1 (pt_cmpR op_gt (pv 0) (pe_glob (v := .int 7) rfl T.g_MOST_COUNTED ⟨_, rfl⟩) (nomark _)))))
      (pss_one ps_never)
      pss_nil)
      (pss_cons (ps_set (i := 1) sc_layers.nd rfl (by first | exact Or.inl rfl | exact Or.inr rfl) (pe_lst pa_nil))
      (pss_cons (ps_set (i := 2) sc_layers.nd rfl (by first | exact Or.inl rfl | exact Or.inr rfl) (pe_call (ok_ends T) (hr.mono (by decide)) (by rfl) T.g_ends T.F_ends.kp T.b_ends .nil pass0 (pa_cons (pv 0) pa_nil)))
      (pss_cons (ps_while PassesOwn.never (pt_cmpR op_gt (pe_callB (r := rLenS K) call_len_seq (by rfl) T.n_len PySem.boot_len (pa_cons (pv 2) pa_nil)) pe_int (nomark _))
      (pss_cons (ps_expr (pe_bm PySem.F.plainAttrs_list PySem.F.slot_list_append PySem.F.type_list_append mt_append (pv 1) (pa_cons (pv 2) pa_nil)))
        (pss_cons (ps_set (i := 3) sc_layers.nd rfl (by first | exact Or.inl rfl | exact Or.inr rfl) (pe_lst pa_nil))
        (pss_cons (ps_for PassesOwn.never rfl (pi_list (pv 2)) (pg_name (i := 4) sc_layers.nd rfl (by first | exact Or.inl rfl | exact Or.inr rfl))
        (pss_one (ps_set (i := 3) sc_layers.nd rfl (by first | exact Or.inl rfl | exact Or.inr rfl) (pe_op op_cat (pv 3) (pe_call (ok_aheads T) (hr.mono (by decide)) (by rfl) T.g_aheads T.F_aheads.kp T.b_aheads .nil pass0 (pa_cons (pv 4) pa_nil))))))
        (pss_one (ps_set (i := 2) sc_layers.nd rfl (by first | exact Or.inl rfl | exact Or.inr rfl) (pv 3)))))))
      (pss_one (ps_ret (pv 1))))))), ?_⟩
    refine q_when (b := false) (et_is (et_or (et_test (ev_op (ev_var rfl) ev_c rv_I0)) fun _ => et_test (ev_op (ev_var rfl) ev_c rv_I0)) (by simp; omega)) (fun z => nomatch z) fun _ H1 e1 => ?_
    refine q_asgL (el_lst ea_nil (by decide)) fun f H2 nf e2 hf => ?_
    have ex2 := e1.trans e2
    have nf0 := fresh_back e1 nf
    have hfl : ∀ t, (layM n t).length ≤ 5040 := fun t => Nat.le_trans (lay_len hn1 t) (fall_le hn)
    refine q_asgML (H0 := H2) (rows := endD n) (eml_new (fun G eG Q' q' => ⟨_, rfl, n, rfl, hn1, hn, fun p ps G2 np e hp hnp nd => q' p ps G2 np e hp hnp nd⟩) (Ex.refl _)) fun h0 hs0 H3 h00 e3 hh hnh ndh => ?_
    refine q_while (fun m σ' H' => ∃ (t : Nat) (h : Addr) (hs : List Addr) (x3 x4 : Option V) (qs : List Addr) (pss : Nat → List Addr), σ' = [some (.int (n : Int)), some (.ref f), some (.ref h), x3, x4] ∧ Ex H H' ∧ H' f = some (.lst (qs.map V.ref)) ∧ qs.length = t ∧ (∀ (i : Nat) (q : Addr), qs[i]? = some q → AtL H' q (pss i) (layM n i) ∧ H2 q = none ∧ (∀ x ∈ pss i, H2 x = none) ∧ (pss i).Nodup) ∧ H2 h = none ∧ AtL H' h hs (layM n t) ∧ (∀ x ∈ hs, H2 x = none) ∧ hs.Nodup ∧ (∀ x, H' x = none → H2 x = none) ∧ m = N - t ∧ t ≤ N) N
      ⟨0, h0, hs0, none, none, [], fun _ => [], rfl, ex2.trans e3, e3 _ _ hf, rfl, (fun i q hq => by simp at hq), h00, hh, hnh, ndh, (fun x hx => fresh_back e3 hx), rfl, Nat.zero_le _⟩ fun m σ' H' hW => ?_
    obtain ⟨t, h, hs, x3, x4, qs, pss, rfl, ex, hf', hql, hlay, h0', hh', hnh', ndh', hdom, rfl, htN⟩ := hW
    have hlen := hfl t
    refine ⟨decide (0 < ((layM n t).length : Int)), et_test (ev_op (ev_lenRL (EvRL.old (ev_var rfl) hh')) ev_c rv_I0), fun hb H4 e4 => ?_, fun hb H4 e4 => ?_⟩
    · have hne' : layM n t ≠ [] := fun z => by rw [z] at hb; simp at hb
      have htlt : t < N := by
        rcases Nat.lt_or_ge t N with c | c
        · exact c
        · have : t = N := by omega
          rw [this] at hne'
          exact absurd hE hne'
      refine ⟨fun σ' H' => ∃ (h : Addr) (hs : List Addr) (x3 x4 : Option V) (qs : List Addr) (pss : Nat → List Addr), σ' = [some (.int (n : Int)), some (.ref f), some (.ref h), x3, x4] ∧ Ex H H' ∧ H' f = some (.lst (qs.map V.ref)) ∧ qs.length = t + 1 ∧ (∀ (i : Nat) (q : Addr), qs[i]? = some q → AtL H' q (pss i) (layM n i) ∧ H2 q = none ∧ (∀ x ∈ pss i, H2 x = none) ∧ (pss i).Nodup) ∧ H2 h = none ∧ AtL H' h hs (layM n (t + 1)) ∧ (∀ x ∈ hs, H2 x = none) ∧ hs.Nodup ∧ (∀ x, H' x = none → H2 x = none), ?_, ?_⟩
      · rintro σ2 H5 ⟨h, hs, x3, x4, qs, pss, a1, a2, a3, a4, a5, a6, a7, a8, a9, a10⟩
        exact ⟨N - (t + 1), by omega, t + 1, h, hs, x3, x4, qs, pss, a1, a2, a3, a4, a5, a6, a7, a8, a9, a10, rfl, htlt⟩
      have hf4 := e4 _ _ hf'
      have hh4 := hh'.ex e4
      have nhf : h ≠ f := fun z => by rw [z, hf] at h0'; cases h0'
      refine q_app hf4 (ev_var rfl) (ev_var rfl) (by rw [List.length_map]; omega) fun H5 e5 => ?_
      have ex5 : Ex H (upd H5 f (.lst (qs.map V.ref ++ [.ref h]))) := Ex.mut ((ex.trans e4).trans e5) nf0
      have hf5 : (upd H5 f (.lst (qs.map V.ref ++ [.ref h]))) f = some (.lst ((qs ++ [h]).map V.ref)) := by
        rw [upd_same, List.map_append]
        rfl
      have keep : ∀ {q : Addr} {ps : List Addr} {rows : List (List Int)}, AtL H' q ps rows → H2 q = none → (∀ x ∈ ps, H2 x = none) → AtL (upd H5 f (.lst (qs.map V.ref ++ [.ref h]))) q ps rows := fun {q ps rows} hq h1 h2 =>
        ((hq.ex e4).ex e5).upd_other (fun z => by rw [z, hf] at h1; cases h1) (hq.no_own hf h2)
      have hh5 := keep hh' h0' hnh'
      have hlay5 : ∀ (i : Nat) (q : Addr), (qs ++ [h])[i]? = some q → AtL (upd H5 f (.lst (qs.map V.ref ++ [.ref h]))) q (if i = t then hs else pss i) (layM n i) ∧ H2 q = none ∧ (∀ x ∈ (if i = t then hs else pss i), H2 x = none) ∧ (if i = t then hs else pss i).Nodup := by
        intro i q hq
        by_cases c : i < qs.length
        · rw [List.getElem?_append_left c] at hq
          have hit : ¬ i = t := by omega
          rw [if_neg hit]
          obtain ⟨b1, b2, b3, b4⟩ := hlay i q hq
          exact ⟨keep b1 b2 b3, b2, b3, b4⟩
        · rw [List.getElem?_append_right (by omega)] at hq
          have hlt := (List.getElem?_eq_some_iff.mp hq).1
          simp at hlt
          have hit : i = t := by omega
          have e0 : i - qs.length = 0 := by omega
          rw [e0] at hq
          cases Option.some.inj hq
          rw [if_pos hit, hit]
          exact ⟨hh5, h0', hnh', ndh'⟩
      have hdom6 : ∀ x, (upd H5 f (.lst (qs.map V.ref ++ [.ref h]))) x = none → H2 x = none := fun x hx => by
        by_cases c : x = f
        · subst c
          rw [upd_same] at hx
          cases hx
        · rw [upd_ne c] at hx
          exact hdom x (fresh_back (e4.trans e5) hx)
      generalize upd H5 f (.lst (qs.map V.ref ++ [.ref h])) = H6 at *
      have htot : ((layM n t).flatMap aheadsM).length ≤ 5040 := hfl (t + 1)
      refine q_asgML (H0 := H6) (rows := []) (eml_nil (el_lst ea_nil (by decide)) (Ex.refl _)) fun q0 qs0 H7 q00 e7 hq0 hnq ndq => ?_
      refine q_forLL (ev_var rfl) (hh5.ex e7) (fun j σ'' H'' => ∃ r rs x4, σ'' = [some (.int (n : Int)), some (.ref f), some (.ref h), some (.ref r), x4] ∧ H6 r = none ∧ Ex H7 H'' ∧ AtL H'' r rs (((layM n t).take j).flatMap aheadsM) ∧ (∀ x ∈ rs, H6 x = none) ∧ rs.Nodup) (fun H8 e8 => ⟨q0, qs0, x4, rfl, q00, e8, hq0.ex e8, hnq, ndq⟩) (fun j σ'' H'' ⟨_, _, _, _, _, ex, _⟩ => ex) ?_ ?_
      · rintro j b row σ'' H'' hb hrow hat ⟨r, rs, x4, rfl, r0, ex', hr', hnr, ndr⟩
        obtain ⟨dr, lr⟩ := lay_dk hn1 (List.mem_of_getElem? hrow)
        have hdr : Dk row := ⟨dr, by omega, by omega⟩
        have ht := flat_take (f := aheadsM) hrow
        have htl := flat_take_len (l := layM n t) (f := aheadsM) (j + 1)
        refine s_asgML (H0 := H6) (rows := ((layM n t).take (j + 1)).flatMap aheadsM) (by
          rw [ht] at htl ⊢
          rw [List.length_append] at htl
          exact eml_cat (eml_old (ev_var rfl) r0 hr' hnr ndr) (ell_call (ea_cons (ev_var rfl) ea_nil) (spAheads_LL hat hdr)) (e7.trans ex') (by omega)) fun r2 rs2 H8 r20 e8 hr2 hn2 nd2 => ?_
        exact ⟨r2, rs2, _, rfl, r20, ex'.trans e8, hr2, hn2, nd2⟩
      · rintro σ'' H'' ⟨r, rs, x4, rfl, r0, ex', hr', hnr, ndr⟩
        rw [List.take_length] at hr'
        refine s_asgML (H0 := H6) (eml_old (ev_var rfl) r0 hr' hnr ndr) fun r2 rs2 H8 r20 e8 hr2 hn2 nd2 => ?_
        have e68 : Ex H6 H8 := (e7.trans ex').trans e8
        refine ⟨r2, rs2, _, _, qs ++ [h], fun i => if i = t then hs else pss i, rfl, ex5.trans e68, e68 _ _ hf5, by simp [hql], fun i q hq => ?_, hdom6 _ r20, hr2, fun x hx => hdom6 x (hn2 x hx), nd2, fun x hx => hdom6 x (fresh_back e68 hx)⟩
        obtain ⟨b1, b2, b3, b4⟩ := hlay5 i q hq
        exact ⟨b1.ex e68, b2, b3, b4⟩
    · have hE' : layM n t = [] := by
        have := of_decide_eq_false hb
        exact List.eq_nil_of_length_eq_zero (by omega)
      have htN' : t = N := by
        rcases Nat.lt_or_ge t N with c | c
        · exact absurd hE' (hne t c)
        · omega
      subst htN'
      refine ⟨_, rfl, q f qs pss H4 (ex.trans e4) ⟨e4 _ _ hf', hql, fun i q hq => ?_⟩⟩
      obtain ⟨b1, b2, b3, b4⟩ := hlay i q hq
      exact ⟨b1.ex e4, fresh_back ex2 b2, fun x hx => fresh_back ex2 (b3 x hx), b4⟩

def cntsM (n N : Nat) : List Int := (List.range N).map fun t => ((layM n t).length : Int)
def spCounts : Sp := fun vs H Q _ => ∃ (n N : Nat), vs = [.int (n : Int)] ∧ 1 ≤ n ∧ n ≤ 7 ∧ 1 ≤ N ∧ N ≤ 64 ∧ layM n N = [] ∧ (∀ t, t < N → layM n t ≠ []) ∧ RetL ((cntsM n N).map V.int) H Q
theorem spCounts_L {H : Hp} {n N : Nat} (h1 : 1 ≤ n) (h2 : n ≤ 7) (h3 : 1 ≤ N) (h4 : N ≤ 64) (h5 : layM n N = []) (h6 : ∀ t, t < N → layM n t ≠ []) : SpL spCounts [.int (n : Int)] H ((cntsM n N).map V.int) := fun H1 e Q q E => ⟨n, N, rfl, h1, h2, h3, h4, h5, h6, fun p H2 np e2 hp => q p H2 np e2 hp⟩
theorem ok_counts (T : Txt K mg A) : FnOk P w K mg base CX0 4 A.f_counts A.d_counts ["size"] spCounts := by
  refine T.F_counts.ok sc_counts (fun vs H Q E h => ?_) (fun cdv AA outer s H vs Q E hr h => ?_)
  · obtain ⟨a, b, rfl, _⟩ := h
    rfl
  · obtain ⟨n, N, rfl, h1, h2, h3, h4, h5, h6, q⟩ := h
    refine ⟨_, (pss_one (ps_ret (pe_lc (own := [("row", 1)]) (g := gName 1) (tt := tYes) rfl sc_counts.nd (pi_list (pe_call (ok_layers T) (hr.mono (by decide)) (by rfl) T.g_layers T.F_layers.kp T.b_layers .nil pass0 (pa_cons (pv 0) pa_nil))) (blkOk_by (N := N_counts) (sc := defScope s_counts) (by decide +kernel)) (fun _ _ _ _ _ => pg_name (i := 1) sc_counts.nd rfl (Or.inl rfl)) (fun _ _ _ _ _ => pts_nil) (fun _ _ _ _ _ => (pe_callB (r := rLenS K) call_len_seq (by rfl) T.n_len PySem.boot_len (pa_cons (pv 1) pa_nil)))))), ?_⟩
    refine s_retL (xs := (cntsM n N).map V.int) (fun H0 e Q' q' => ⟨_, rfl, n, N, rfl, h1, h2, h3, h4, h5, h6, fun a qs pss H1 e1 hT => ?_⟩) fun p H2 np e2 hp => q p H2 np e2 hp
    have key := el_lcL (K := K) (σ := [some (.int (n : Int)), none]) (H := H1) (tl := tC (.ref a)) (t := tYes) (te := tCB (rLenS K) (tCons (tVar 1) tNil)) (j := 1) (vs := [1]) (xs := qs.map V.ref) (fun _ => true) (fun i => V.int ((layM n i).length : Int)) ev_c (sq_of hT.top) (by rw [List.length_map, hT.len]; omega) (fun x => rfl) (fun i x G eG hi => et_yes)
      (fun i x G eG hi _ => by
        rw [List.getElem?_map] at hi
        cases eq : qs[i]? with
        | none => rw [eq] at hi; cases hi
        | some q0 =>
          rw [eq] at hi
          cases Option.some.inj hi
          exact ev_lenRL (EvRL.old (ev_var rfl) ((hT.lay i q0 eq).1.ex eG)))
    rw [List.length_map, hT.len, given_int] at key
    exact key H1 (Ex.refl _) Q' fun r H2 nr e2 hr => q' r H2 (fresh_back e1 nr) (e1.trans e2) hr
def spLongest : Sp := fun vs H Q _ => ∃ (n N : Nat), vs = [.int (n : Int)] ∧ 1 ≤ n ∧ n ≤ 7 ∧ 1 ≤ N ∧ N ≤ 64 ∧ layM n N = [] ∧ (∀ t, t < N → layM n t ≠ []) ∧ RetLL (srtL (layM n (N - 1))) H Q
theorem spLongest_LL {H : Hp} {n N : Nat} (h1 : 1 ≤ n) (h2 : n ≤ 7) (h3 : 1 ≤ N) (h4 : N ≤ 64) (h5 : layM n N = []) (h6 : ∀ t, t < N → layM n t ≠ []) : SpLL spLongest [.int (n : Int)] H (srtL (layM n (N - 1))) := fun H1 e Q q E => ⟨n, N, rfl, h1, h2, h3, h4, h5, h6, q⟩
theorem ok_longest (T : Txt K mg A) : FnOk P w K mg base CX0 4 A.f_longest A.d_longest ["size"] spLongest := by
  refine T.F_longest.ok sc_longest (fun vs H Q E h => ?_) (fun cdv AA outer s H vs Q E hr h => ?_)
  · obtain ⟨a, b, rfl, _⟩ := h
    rfl
  · obtain ⟨n, N, rfl, h1, h2, h3, h4, h5, h6, q⟩ := h
    refine ⟨_, (pss_one (ps_ret (pe_callB (r := rSortedLL K) (cr_sortedLL hr.units) (by rfl) T.n_sorted (by decide +kernel) (pa_cons (pe_ix (r := rIxL K) ix_list (pe_call (ok_layers T) (hr.mono (by decide)) (by rfl) T.g_layers T.F_layers.kp T.b_layers .nil pass0 (pa_cons (pv 0) pa_nil)) (pe_un un_neg pe_int) (fun _ _ => rfl)) pa_nil)))), ?_⟩
    refine enl_sorted (H0 := H) (rows := layM n (N - 1)) (fun H0 e Q' q' => ⟨_, rfl, n, N, rfl, h1, h2, h3, h4, h5, h6, fun a qs pss H1 e1 hT => ?_⟩) q
    have hlt : N - 1 < qs.length := by rw [hT.len]; omega
    have eq : qs[N - 1]? = some qs[N - 1] := List.getElem?_eq_getElem hlt
    obtain ⟨b1, b2, b3, b4⟩ := hT.lay (N - 1) _ eq
    have hlast : (qs.map V.ref).getLast? = some (.ref qs[N - 1]) := by
      rw [List.getLast?_map, List.getLast?_eq_getElem?, hT.len, eq]
      rfl
    exact ⟨1, rfl, a, _, -1, _, rfl, rfl, sq_of hT.top, at_last hlast, q' _ _ H1 e1 b1 (fun x hx => fresh_back e (b3 x hx)) b4⟩

/-- a cell of the script, whatever number it holds -/
def spCellA (K : PySem.W.Frag) : Sp := fun vs H Q _ => ∃ (l : Addr) (ns : List Int) (k : Int), vs = [.ref l, .int k] ∧ SqL K H l (ns.map V.int) ∧ 0 ≤ k ∧ ∀ z : Int, RetV (.int z) H Q
theorem ok_law_cell_at (T : Txt K mg A) : FnOk P w K mg base CX0 1 A.f_law_cell_at A.d_law_cell_at ["script", "k"] (spCellA K) := by
  refine T.F_law_cell_at.ok sc_law_cell_at (fun vs H Q E h => ?_) (fun cdv AA outer s H vs Q E hr h => ?_)
  · obtain ⟨a, ns, k, rfl, _⟩ := h
    rfl
  · obtain ⟨a, ns, k, rfl, ha, hk, q⟩ := h
    refine ⟨_, (pss_cons (ps_if (pt_cmpR op_lt (pv 1) (pe_callB (r := rLenS K) call_len_seq (by rfl) T.n_len PySem.boot_len (pa_cons (pv 0) pa_nil)) (nomark _))
      (pss_one (ps_ret (pe_ix (r := rIxL K) ix_list (pv 0) (pv 1) (fun _ _ => rfl))))
      pss_nil)
      (pss_one (ps_ret pe_int))), ?_⟩
    refine q_when (et_test (ev_op (ev_var rfl) (ev_lenI (ev_var rfl) ha) rv_I0)) (fun hb H1 e1 => ?_) fun hb H1 e1 => ?_
    · have hlt : k < (ns.length : Int) := of_decide_eq_true hb
      have hi : ns[k.toNat]? = some ns[k.toNat] := List.getElem?_eq_getElem (by omega)
      exact s_ret (ev_op (ev_var rfl) (ev_var rfl) (rv_ix k.toNat (ex_l e1 ha) (by omega) hi)) fun H2 e2 => (q _).go (e1.trans e2)
    · exact s_ret ev_c fun H2 e2 => (q _).go (e1.trans e2)
theorem ei_cell {K : PySem.W.Frag} {σ : L2.St} {H : Hp} {l : Addr} {ns : List Int} {k : Int} {ta : TA} {E : XK} (h : EvA ta σ H [.ref l, .int k]) (hs : SqL K H l (ns.map V.int)) (hk : 0 ≤ k) : EvI (tCall (spCellA K) [] E ta) σ H (fun _ => True) := fun H1 e Q q =>
  h H1 e _ fun H2 e2 => ⟨l, ns, k, rfl, ex_l (e.trans e2) hs, hk, fun z H3 e3 => q z H3 (e2.trans e3) True.intro⟩

theorem erase_perm {l : List Int} {j : Nat} {y : Int} (h : l[j]? = some y) (r : List Int) : (l.eraseIdx j ++ (r ++ [y])).Perm (l ++ r) := by
  obtain ⟨hj, e⟩ := List.getElem?_eq_some_iff.mp h
  have e1 : l.take j ++ y :: l.drop (j + 1) = l := by
    rw [← e]
    simp
  have e2 : l.eraseIdx j = l.take j ++ l.drop (j + 1) := List.eraseIdx_eq_take_drop_succ ..
  have p1 : (y :: (l.take j ++ l.drop (j + 1))).Perm l := by
    refine List.perm_middle.symm.trans ?_
    rw [e1]
  rw [e2, ← List.append_assoc]
  refine (List.perm_append_comm).trans ?_
  show (y :: (l.take j ++ l.drop (j + 1) ++ r)).Perm (l ++ r)
  rw [← List.cons_append]
  exact p1.append_right r
/-- any deck of at most so many cards -/
def spDeck (K : PySem.W.Frag) : Sp := fun vs H Q _ => ∃ (l : Addr) (cs : List Int) (at' most : Int), vs = [.ref l, .int at', .int most] ∧ SqL K H l (cs.map V.int) ∧ 0 ≤ at' ∧ 1 ≤ most ∧ most ≤ 16 ∧ ∀ ds : List Int, Dk ds → (ds.length : Int) ≤ most → RetL (ds.map V.int) H Q
theorem ok_law_deck (T : Txt K mg A) : FnOk P w K mg base CX0 2 A.f_law_deck A.d_law_deck ["script", "at", "most"] (spDeck K) := by
  refine T.F_law_deck.ok sc_law_deck (fun vs H Q E h => ?_) (fun cdv AA outer s H vs Q E hr h => ?_)
  · obtain ⟨a, ns, i, j, rfl, _⟩ := h
    rfl
  · obtain ⟨l, cs, i, j, rfl, hs, hi, hj, hj2, q⟩ := h
    refine ⟨_, (pss_cons (ps_set (i := 3) sc_law_deck.nd rfl (by first | exact Or.inl rfl | exact Or.inr rfl) (pe_op op_add pe_int (pe_op op_mod (pe_call (ok_law_cell_at T) (hr.mono (by decide)) (by rfl) T.g_law_cell_at T.F_law_cell_at.kp T.b_law_cell_at .nil pass0 (pa_cons (pv 0) (pa_cons (pv 1) pa_nil))) (pv 2))))
      (pss_cons (ps_set (i := 4) sc_law_deck.nd rfl (by first | exact Or.inl rfl | exact Or.inr rfl) (pe_listRg rfl (by rfl) T.n_list (prg_2 (by rfl) T.n_range pe_int (pe_op op_add (pv 3) pe_int))))
      (pss_cons (ps_set (i := 5) sc_law_deck.nd rfl (by first | exact Or.inl rfl | exact Or.inr rfl) (pe_lst pa_nil))
      (pss_cons (ps_for PassesOwn.never rfl (pi_range1 (by rfl) T.n_range (pa_cons (pv 3) pa_nil)) (pg_name (i := 6) sc_law_deck.nd rfl (by first | exact Or.inl rfl | exact Or.inr rfl))
      (pss_one (ps_expr (pe_bm PySem.F.plainAttrs_list PySem.F.slot_list_append PySem.F.type_list_append mt_append (pv 5) (pa_cons (pe_bm PySem.F.plainAttrs_list PySem.F.slot_list_pop PySem.F.type_list_pop mt_popAt (pv 4) (pa_cons (pe_op op_mod (pe_call (ok_law_cell_at T) (hr.mono (by decide)) (by rfl) T.g_law_cell_at T.F_law_cell_at.kp T.b_law_cell_at .nil pass0 (pa_cons (pv 0) (pa_cons (pe_op op_add (pe_op op_add (pv 1) pe_int) (pv 6)) pa_nil))) (pe_callB (r := rLenS K) call_len_seq (by rfl) T.n_len PySem.boot_len (pa_cons (pv 4) pa_nil))) pa_nil)) pa_nil)))))
      (pss_one (ps_ret (pv 5))))))), ?_⟩
    -- the size
    refine q_asgI (ei_op (ei_ev (P := fun z => z = 1) ev_c rfl) (ei_mod (ei_cell (ea_cons (ev_var rfl) (ea_cons (ev_var rfl) ea_nil)) hs hi) (ev_var rfl) (by omega))) fun z H1 hz e1 => ?_
    obtain ⟨_, y, rfl, ⟨z0, z1⟩, ez⟩ := hz
    have ez : z = 1 + y := ez
    obtain ⟨n, rfl⟩ : ∃ n : Nat, z = (n : Int) := ⟨z.toNat, by omega⟩
    -- the cards
    refine q_asgL (el_rng (n := n) ev_c (ev_op (ev_var rfl) ev_c rv_I0) rfl (by omega)) fun p H2 np e2 hp => ?_
    refine q_asgL (el_lst ea_nil (by decide)) fun r H3 nr e3 hr3 => ?_
    have npr : r ≠ p := fun e => by
      rw [e, hp] at nr
      cases nr
    have e12 := e1.trans e2
    refine q_forR1 (ea_cons (ev_var rfl) ea_nil) (by omega) (fun i' σ' H' => ∃ lf dk x, σ' = [some (.ref l), some (.int i), some (.int j), some (.int (n : Int)), some (.ref p), some (.ref r), x] ∧ Ex H H' ∧ At H' p lf ∧ At H' r dk ∧ (lf ++ dk).Perm (rng n) ∧ dk.length = i')
      (fun H4 e4 => ⟨rng n, [], none, rfl, (e12.trans e3).trans e4, e4 _ _ (e3 _ _ hp), e4 _ _ hr3, by rw [List.append_nil], rfl⟩) ?_ ?_
    · rintro i' σ' H' hi' ⟨lf, dk, x, rfl, ex, hlf, hdk, pm, hlen⟩
      have hl2 := pm.length_eq
      rw [List.length_append, rng_len] at hl2
      refine ⟨_, rfl, Or.inl ⟨rfl, _, sq_of hdk⟩, ?_⟩
      refine ⟨_, rfl, Or.inl ⟨rfl, _, sq_of hlf⟩, ?_⟩
      refine ei_mod (ei_cell (ea_cons (ev_var rfl) (ea_cons (ev_op (ev_op (ev_var rfl) ev_c rv_I0) (ev_var rfl) rv_I0) ea_nil)) (ex_l ex hs) (by omega)) (ev_lenI (ev_var rfl) (sq_of hlf)) (by omega) H' (Ex.refl _) _ fun c H5 e5 hc => ?_
      obtain ⟨c0, c1⟩ := hc
      have hj3 : c.toNat < lf.length := by omega
      have ey : lf[c.toNat]? = some lf[c.toNat] := List.getElem?_eq_getElem hj3
      refine ⟨p, _, _, c.toNat, .int lf[c.toNat], rfl, rfl, e5 _ _ hlf, by omega, by omega, by rw [List.length_map]; exact seqIndex_of c0 (by omega), by rw [List.getElem?_map, ey]; rfl, ?_⟩
      refine ⟨r, _, _, rfl, rfl, by rw [upd_ne npr]; exact e5 _ _ hdk, by rw [List.length_map]; exact sz_lt (by omega), ?_⟩
      refine ⟨lf.eraseIdx c.toNat, dk ++ [lf[c.toNat]], some (.int (i' : Int)), rfl, ?_, ?_, ?_, (erase_perm ey dk).trans pm, by rw [List.length_append, hlen]; rfl⟩
      · exact Ex.mut (Ex.mut (ex.trans e5) (fresh_back e1 np)) (fresh_back e12 nr)
      · show upd _ _ _ _ = _
        rw [upd_ne npr.symm, upd_same, erase_mapI]
      · show upd _ _ _ _ = _
        rw [upd_same, List.map_append]
        rfl
    · rintro σ' H' ⟨lf, dk, x, rfl, ex, hlf, hdk, pm, hlen⟩
      have hl2 := pm.length_eq
      rw [List.length_append, rng_len] at hl2
      have hlf0 : lf = [] := List.eq_nil_of_length_eq_zero (by omega)
      subst hlf0
      have hk : Dk dk := ⟨by unfold IsDk; rw [show dk.length = n by omega]; exact pm, by omega, by omega⟩
      exact ⟨_, rfl, q dk hk (by omega) r H' (fresh_back e12 nr) ex hdk⟩
theorem ep_deck {K : PySem.W.Frag} {σ : L2.St} {H : Hp} {l : Addr} {cs : List Int} {i j : Int} {ta : TA} {E : XK} (h : EvA ta σ H [.ref l, .int i, .int j]) (hs : SqL K H l (cs.map V.int)) (hi : 0 ≤ i) (h1 : 1 ≤ j) (h2 : j ≤ 16) :
    EvLP (tCall (spDeck K) [] E ta) σ H (fun ds => Dk ds ∧ (ds.length : Int) ≤ j) := fun H1 e Q q =>
  h H1 e _ fun H2 e2 => ⟨l, cs, i, j, rfl, ex_l (e.trans e2) hs, hi, h1, h2, fun ds d hl p H3 np e3 hp => q p ds H3 (fresh_back e2 np) (e2.trans e3) hp ⟨d, hl⟩⟩
theorem one_at {ds : List Int} (h : Dk ds) : ∃ j, ds[j]? = some 1 ∧ ∀ m : Nat, m < j → ds[m]? ≠ some 1 := by
  have hm : (1 : Int) ∈ ds := h.dk.mem.mpr ⟨by omega, by have := h.lo; omega⟩
  obtain ⟨j, hj⟩ := List.mem_iff_getElem?.mp hm
  exact ⟨j, hj, fun m hlt e => by have := two_at h.dk.nodup e hj; omega⟩
theorem one_first {ds : List Int} {j : Nat} (hj : ds[j]? = some 1) : (1 :: ds.eraseIdx j).Perm ds := by
  have h := erase_perm hj []
  rw [List.append_nil, List.nil_append] at h
  exact (List.perm_append_comm (l₁ := [1]) (l₂ := ds.eraseIdx j)).trans h

theorem ok_law_over (T : Txt K mg A) : FnOk P w K mg base CX0 1 A.f_law_over A.d_law_over ["deck", "many"] spOverL := by
  refine T.F_law_over.ok sc_law_over (fun vs H Q E h => ?_) (fun cdv AA outer s H vs Q E hr h => ?_)
  · obtain ⟨a, ns, k, rfl, _⟩ := h
    rfl
  · obtain ⟨a, ns, k, rfl, ha, hk, hkl, hl, q⟩ := h
    refine ⟨_, (pss_one (ps_ret (pe_op op_cat (pe_lc (own := [("k", 2)]) (g := gName 2) (tt := tYes) rfl sc_law_over.nd (pi_range1 (by rfl) T.n_range (pa_cons (pv 1) pa_nil)) (blkOk_by (N := N_law_over) (sc := defScope s_law_over) (by decide +kernel)) (fun _ _ _ _ _ => pg_name (i := 2) sc_law_over.nd rfl (Or.inl rfl)) (fun _ _ _ _ _ => pts_nil) (fun _ _ _ _ _ => (pe_ix (r := rIxL K) ix_list (pv 0) (pe_op op_sub (pe_op op_sub (pv 1) pe_int) (pv 2)) (fun _ _ => rfl)))) (pe_slice (r := rSlL K) sl_list (pv 0) (po_some (pv 1)) po_none)))), ?_⟩
    have e1 : given k.toNat (fun _ => true) (fun i => V.int (ns.getD (k - 1 - (i : Int)).toNat 0)) ++ (ns.drop k.toNat).map V.int = (ov ns k).map V.int := by
      rw [given_int, ← lov_eq hkl]
      unfold lov
      rw [List.map_append]
    unfold RetL at q
    rw [← e1] at q
    refine s_retL (el_cat (EvR.new (el_lcR1 (fun _ => true) (fun i => V.int (ns.getD (k - 1 - (i : Int)).toNat 0)) (ea_cons (ev_var rfl) ea_nil) (by omega) (fun x => rfl) (fun i H1 _ _ => et_yes) fun i H1 e1 hi _ => ?_))
      (EvR.new (el_drop (EvR.old (ev_var rfl) ha) (eo_some (ev_var rfl)) hk)) ?_) q
    · refine ev_op (ev_var rfl) (ev_op (ev_op (ev_var rfl) ev_c rv_I0) (ev_var rfl) rv_I0) (rv_ix (k - 1 - (i : Int)).toNat (sq_of (e1 _ _ ha)) (by omega) ?_)
      rw [List.getD_eq_getElem?_getD, List.getElem?_eq_getElem (by omega)]
      rfl
    · have := given_len k.toNat (fun _ => true) (fun i => V.int (ns.getD (k - 1 - (i : Int)).toNat 0))
      rw [List.length_map, List.length_drop]
      omega

/-- the law's game: the tops a new list, the end a list that may be the deck itself -/
def RetGL (ts e : List Int) (H : Hp) (Q : VK) : Prop := ∀ p H2 t1 t2, H p = none → Ex H H2 → H2 p = some (.tup [.ref t1, .ref t2]) → H t1 = none → At H2 t1 ts → At H2 t2 e → t2 ≠ t1 → Q (.ref p) H2
def spGameL : Sp := fun vs H Q _ => ∃ (a : Addr) (ns ts e : List Int), vs = [.ref a] ∧ At H a ns ∧ Dk ns ∧ Gm ns ts e ∧ RetGL ts e H Q
theorem ok_law_game (T : Txt K mg A) : FnOk P w K mg base CX0 2 A.f_law_game A.d_law_game ["deck"] spGameL := by
  refine T.F_law_game.ok sc_law_game (fun vs H Q E h => ?_) (fun cdv AA outer s H vs Q E hr h => ?_)
  · obtain ⟨a, ns, ts, e, rfl, _⟩ := h
    rfl
  · obtain ⟨a, ns, ts, e, rfl, ha, hd, hg, q⟩ := h
    refine ⟨_, (pss_cons (ps_set (i := 1) sc_law_game.nd rfl (by first | exact Or.inl rfl | exact Or.inr rfl) (pe_lst pa_nil))
      (pss_cons (ps_while PassesOwn.never (pt_cmpR op_ne (pe_ix (r := rIxL K) ix_list (pv 0) pe_int (fun _ _ => rfl)) pe_int (nomark _))
      (pss_cons (ps_expr (pe_bm PySem.F.plainAttrs_list PySem.F.slot_list_append PySem.F.type_list_append mt_append (pv 1) (pa_cons (pe_ix (r := rIxL K) ix_list (pv 0) pe_int (fun _ _ => rfl)) pa_nil)))
        (pss_one (ps_set (i := 0) sc_law_game.nd rfl (by first | exact Or.inl rfl | exact Or.inr rfl) (pe_call (ok_law_over T) (hr.mono (by decide)) (by rfl) T.g_law_over T.F_law_over.kp T.b_law_over .nil pass0 (pa_cons (pv 0) (pa_cons (pe_ix (r := rIxL K) ix_list (pv 0) pe_int (fun _ _ => rfl)) pa_nil)))))))
      (pss_one (ps_ret (pe_tup (pa_cons (pv 1) (pa_cons (pv 0) pa_nil))))))), ?_⟩
    have hts := hg.short16 hd
    refine q_asgL (el_lst ea_nil (by decide)) fun p H1 np e1 hp => ?_
    refine q_while (fun m σ H2 => ∃ a' d done rest, σ = [some (.ref a'), some (.ref p)] ∧ Ex H H2 ∧ At H2 p done ∧ At H2 a' d ∧ a' ≠ p ∧ Gm d rest e ∧ done ++ rest = ts ∧ m = rest.length ∧ Dk d) ts.length
      ⟨a, ns, [], ts, rfl, e1, hp, e1 _ _ ha, ne_of_none ha np, hg, rfl, rfl, hd⟩ fun m σ H2 hW => ?_
    obtain ⟨a', d, done, rest, rfl, ex, hp2, ha2, ne, g, hdone, rfl, hd2⟩ := hW
    obtain ⟨k, hk, k1, k2⟩ := hd2.top
    have hlen : done.length + rest.length = ts.length := by rw [← hdone, List.length_append]
    refine ⟨!decide (k = 1), et_is (et_test (ev_op (ev_op (ev_var rfl) ev_c (rv_ix 0 (sq_of ha2) rfl hk)) ev_c (rv_ne rfl))) (by by_cases hk1 : k = 1 <;> simp [hk1]), fun hb H3 e3 => ?_, fun hb H3 e3 => ?_⟩
    · have hk1 : k ≠ 1 := by simpa using hb
      cases g with
      | stop h => rw [hk] at h; exact absurd (Option.some.inj h) hk1
      | turn h n g2 =>
        rename_i ts' k'
        rw [hk] at h
        cases Option.some.inj h
        refine ⟨fun σ H2 => ∃ a' d done rest, σ = [some (.ref a'), some (.ref p)] ∧ Ex H H2 ∧ At H2 p done ∧ At H2 a' d ∧ a' ≠ p ∧ Gm d rest e ∧ done ++ rest = ts ∧ ts'.length = rest.length ∧ Dk d, fun σ2 H4 h => ⟨ts'.length, by simp, h⟩, ?_⟩
        have hp3 := e3 _ _ hp2
        have ha3 := e3 _ _ ha2
        simp only [List.length_cons] at hlen
        refine q_app hp3 (ev_var rfl) (ev_op (ev_var rfl) ev_c (rv_ix 0 (sq_of ha3) rfl hk)) (by simp; omega) fun H4 e4 => ?_
        have ha4 : At (upd H4 p (.lst (done.map V.int ++ [.int k]))) a' d := by
          show upd _ _ _ _ = _
          rw [upd_ne ne]
          exact e4 _ _ ha3
        refine s_asgL (el_call (ea_cons (ev_var rfl) (ea_cons (ev_op (ev_var rfl) ev_c (rv_ix 0 (sq_of ha4) rfl hk)) ea_nil)) (spOverL_L ha4 (by omega) k2 (by have := hd2.hi; omega))) fun p5 H5 n5 e5 h5 => ?_
        refine ⟨p5, ov d k, done ++ [k], ts', rfl, ?_, ?_, h5, ?_, g2, by rw [List.append_assoc]; exact hdone, rfl, hd2.ov k⟩
        · exact (Ex.mut ((ex.trans e3).trans e4) np).trans e5
        · refine e5 _ _ ?_
          rw [upd_same, List.map_append]
          rfl
        · intro z
          rw [z, upd_same] at n5
          cases n5
    · have hk1 : k = 1 := by simpa using hb
      subst hk1
      cases g with
      | turn h n g2 => rw [hk] at h; exact absurd (Option.some.inj h).symm n
      | stop _ =>
        rw [List.append_nil] at hdone
        subst hdone
        have hp3 := e3 _ _ hp2
        have ha3 := e3 _ _ ha2
        refine ⟨_, rfl, _, rfl, by show 2 ≤ sizeLine; decide, fun p5 n5 => ?_⟩
        have e23 := ex.trans e3
        exact q p5 _ p a' (fresh_back e23 n5) (e23.trans (Ex.new n5)) upd_same np (Ex.new n5 _ _ hp3) (Ex.new n5 _ _ ha3) ne

/-- how many tops a game told has -/
theorem ev_glen {K : PySem.W.Frag} {σ : L2.St} {H : Hp} {j : Nat} {p : Addr} {d : List Int} (hσ : σ[j]? = some (some (.ref p))) (hp : At H p d) (hd : Dk d) : Ev (tCB (rLenS K) (tCons (tOp (rIxT K) (tCall spGameL [] E0 (tCons (tVar j) tNil)) (tC (.int 0))) tNil)) σ H (.int (gl d : Int)) := fun H1 e1 Q q => by
  obtain ⟨ts, e, g⟩ := Gm.all hd.dk hd.lo
  refine ⟨_, hσ, p, d, ts, e, rfl, e1 _ _ hp, hd, g, fun pd H2 t1 t2 npd e2 hpd nt1 ht1 ht2 ne => ?_⟩
  refine ⟨pd, _, 0, .ref t1, rfl, rfl, st_of hpd, at_of (j := 0) rfl rfl, t1, ts.map V.int, rfl, Or.inl (sq_of ht1), ?_⟩
  rw [List.length_map, ← gl_of g]
  exact q H2 e2

theorem ok_law_layers (T : Txt K mg A) : FnOk P w K mg base CX0 2 A.f_law_layers A.d_law_layers ["size"] spLayers := by
  refine T.F_law_layers.ok sc_law_layers (fun vs H Q E h => ?_) (fun cdv AA outer s H vs Q E hr h => ?_)
  · obtain ⟨a, b, rfl, _⟩ := h
    rfl
  · obtain ⟨n, N, rfl, hn1, hn, hN1, hN, hE, hne, q⟩ := h
    refine ⟨_, (pss_cons (ps_set (i := 1) sc_law_layers.nd rfl (by first | exact Or.inl rfl | exact Or.inr rfl) (pe_lst (pa_cons (pe_lst (pa_cons pe_int pa_nil)) pa_nil)))
      (pss_cons (ps_for PassesOwn.never rfl (pi_range1 (by rfl) T.n_range (pa_cons (pe_op op_sub (pv 0) pe_int) pa_nil)) (pg_name (i := 2) sc_law_layers.nd rfl (by first | exact Or.inl rfl | exact Or.inr rfl))
      (pss_cons (ps_set (i := 3) sc_law_layers.nd rfl (by first | exact Or.inl rfl | exact Or.inr rfl) (pe_lst pa_nil))
        (pss_cons (ps_for PassesOwn.never rfl (pi_list (pv 1)) (pg_name (i := 4) sc_law_layers.nd rfl (by first | exact Or.inl rfl | exact Or.inr rfl))
        (pss_one (ps_set (i := 3) sc_law_layers.nd rfl (by first | exact Or.inl rfl | exact Or.inr rfl) (pe_op op_cat (pv 3) (pe_lc (own := [("card", 8)]) (g := gName 8) rfl sc_law_layers.nd (pi_range2 (by rfl) T.n_range (pa_cons pe_int (pa_cons (pe_op op_add (pv 0) pe_int) pa_nil))) (blkOk_by (N := N_law_layers) (sc := defScope s_law_layers) (by decide +kernel)) (fun _ _ _ _ _ => pg_name (i := 8) sc_law_layers.nd rfl (Or.inl rfl)) (fun _ _ _ _ _ => (pts_one (pt_cmpR (r := rIn K true) op_notIn_seq (pv 8) (pv 4) rfl))) (fun _ _ _ _ _ => (pe_op op_cat (pv 4) (pe_lst (pa_cons (pv 8) pa_nil)))))))))
        (pss_one (ps_set (i := 1) sc_law_layers.nd rfl (by first | exact Or.inl rfl | exact Or.inr rfl) (pv 3))))))
      (pss_cons (ps_set (i := 5) sc_law_layers.nd rfl (by first | exact Or.inl rfl | exact Or.inr rfl) (pe_lst pa_nil))
      (pss_cons (ps_while PassesOwn.never (pt_cmpR op_gt (pe_callB (r := rLenS K) call_len_seq (by rfl) T.n_len PySem.boot_len (pa_cons (pv 1) pa_nil)) pe_int (nomark _))
      (pss_cons (ps_expr (pe_bm PySem.F.plainAttrs_list PySem.F.slot_list_append PySem.F.type_list_append mt_append (pv 5) (pa_cons (pv 1) pa_nil)))
        (pss_cons (ps_set (i := 6) sc_law_layers.nd rfl (by first | exact Or.inl rfl | exact Or.inr rfl) (pe_lst pa_nil))
        (pss_cons (ps_for PassesOwn.never rfl (pi_list (pv 1)) (pg_name (i := 7) sc_law_layers.nd rfl (by first | exact Or.inl rfl | exact Or.inr rfl))
        (pss_one (ps_expr (pe_bm PySem.F.plainAttrs_list PySem.F.slot_list_extend PySem.F.type_list_extend mt_extend (pv 6) (pa_cons (pe_lc (own := [("k", 2)]) (g := gName 2) rfl sc_law_layers.nd (pi_range2 (by rfl) T.n_range (pa_cons pe_int (pa_cons (pe_op op_add (pv 0) pe_int) pa_nil))) (blkOk_by (N := N_law_layers) (sc := defScope s_law_layers) (by decide +kernel)) (fun _ _ _ _ _ => pg_name (i := 2) sc_law_layers.nd rfl (Or.inl rfl)) (fun _ _ _ _ _ => (pts_one (pt_cmpR op_eq (pe_ix (r := rIxL K) ix_list (pv 7) (pe_op op_sub (pv 2) pe_int) (fun _ _ => rfl)) (pv 2) (nomark _)))) (fun _ _ _ _ _ => (pe_call (ok_law_over T) (hr.mono (by decide)) (by rfl) T.g_law_over T.F_law_over.kp T.b_law_over .nil pass0 (pa_cons (pv 7) (pa_cons (pv 2) pa_nil))))) pa_nil)))))
        (pss_one (ps_set (i := 1) sc_law_layers.nd rfl (by first | exact Or.inl rfl | exact Or.inr rfl) (pv 6)))))))
      (pss_one (ps_ret (pv 5))))))), ?_⟩
    refine q_asgML (H0 := H) (rows := [[1]]) (eml_one (ns := [1]) (el_lst (ea_cons ev_c ea_nil) (by decide)) (Ex.refl _)) fun p ps H1 p0 e1 hp hn1' nd1 => ?_
    refine q_forR1 (n := (n : Int) - 1) (ea_cons (ev_op (ev_var rfl) ev_c rv_I0) ea_nil) (by omega) (fun i σ' H' => ∃ p ps x2 x3 x4, σ' = [some (.int (n : Int)), some (.ref p), x2, x3, x4, none, none, none, none] ∧ H p = none ∧ Ex H H' ∧ AtL H' p ps (grow 2 (n - 1) [1] i) ∧ (∀ x ∈ ps, H x = none) ∧ ps.Nodup) (fun H2 e2 => ⟨p, ps, none, none, none, rfl, p0, e1.trans e2, hp.ex e2, hn1', nd1⟩) ?_ ?_
    · rintro i σ' H' hi ⟨p, ps, x2, x3, x4, rfl, p0, ex, hp, hnp, ndp⟩
      refine q_asgML (H0 := H) (rows := []) (eml_nil (el_lst ea_nil (by decide)) ex) fun q0 qs0 H2 q00 e2 hq0 hnq ndq => ?_
      have hp2 := hp.ex e2
      have ex2 := ex.trans e2
      have htot : ((grow 2 (n - 1) [1] i).flatMap (extG 2 (n - 1))).length ≤ 5040 := by
        have e := grow_len (lo := 2) (m := n - 1) (r0 := [1]) (by simp) (i + 1)
        have f := fall_p2 (n := n - 1) (k := i + 1) (by omega) (by omega)
        rw [← e] at f
        exact f
      refine q_forLL (ev_var rfl) hp2 (fun j σ'' H'' => ∃ r rs x4, σ'' = [some (.int (n : Int)), some (.ref p), some (.int (i : Int)), some (.ref r), x4, none, none, none, none] ∧ H r = none ∧ Ex H2 H'' ∧ AtL H'' r rs (((grow 2 (n - 1) [1] i).take j).flatMap (extG 2 (n - 1))) ∧ (∀ x ∈ rs, H x = none) ∧ rs.Nodup) (fun H3 e3 => ⟨q0, qs0, x4, rfl, q00, e3, hq0.ex e3, hnq, ndq⟩) (fun j σ'' H'' ⟨_, _, _, _, _, ex, _⟩ => ex) ?_ ?_
      · rintro j b row σ'' H'' hb hrow hat ⟨r, rs, x4, rfl, r0, ex', hr', hnr, ndr⟩
        have hlr : row.length ≤ 1000 := by
          obtain ⟨s, e, h1, _⟩ := (mem_grow (by simp)).mp (List.mem_of_getElem? hrow)
          rw [e]
          show s.length + 1 ≤ 1000
          omega
        have ht := flat_take (f := extG 2 (n - 1)) hrow
        have htl := flat_take_len (l := grow 2 (n - 1) [1] i) (f := extG 2 (n - 1)) (j + 1)
        refine s_asgML (H0 := H) (rows := ((grow 2 (n - 1) [1] i).take (j + 1)).flatMap (extG 2 (n - 1))) (by
          rw [ht] at htl ⊢
          rw [List.length_append] at htl
          exact eml_cat (eml_old (ev_var rfl) r0 hr' hnr ndr) (ext_row (p := b) (lo := 2) (m := n - 1) hat hlr (ea_cons ev_c (ea_cons (ev_is (ev_op (ev_var rfl) ev_c rv_I0) (by
            have e : (n : Int) + 1 = 2 + ((n - 1 : Nat) : Int) := by omega
            rw [e])) ea_nil)) (by omega) (fun x => rfl) (fun x => rfl) (fun x => rfl)) (ex2.trans ex') (by omega)) fun r2 rs2 H3 r20 e3 hr2 hn2 nd2 => ?_
        exact ⟨r2, rs2, _, rfl, r20, ex'.trans e3, hr2, hn2, nd2⟩
      · rintro σ'' H'' ⟨r, rs, x4, rfl, r0, ex', hr', hnr, ndr⟩
        rw [List.take_length] at hr'
        refine s_asgML (H0 := H) (eml_old (ev_var rfl) r0 hr' hnr ndr) fun r2 rs2 H3 r20 e3 hr2 hn2 nd2 => ?_
        exact ⟨r2, rs2, _, _, _, rfl, r20, (ex2.trans ex').trans e3, hr2, hn2, nd2⟩
    · rintro σ' H0 ⟨p, ps, x2, x3, x4, rfl, p0, ex0, hp, hnp, ndp⟩
      have e : ((n : Int) - 1).toNat = n - 1 := by omega
      rw [e] at hp
      have hp : AtL H0 p ps (layM n 0) := hp
      have hfl : ∀ t, (layM n t).length ≤ 5040 := fun t => Nat.le_trans (lay_len hn1 t) (fall_le hn)
      refine q_asgL (el_lst ea_nil (by decide)) fun f H2 nf e2 hf => ?_
      have nf0 := fresh_back ex0 nf
      have hp2 := hp.ex e2
      have npf : p ≠ f := ne_of_none hp.top nf
      have nsf : ∀ x ∈ ps, x ≠ f := fun x hx z => by
        obtain ⟨_, _, _, _, hat⟩ := hp.mem hx
        have hat : H0 x = _ := hat
        rw [z, nf] at hat
        cases hat
      refine q_while (fun m σ' H' => ∃ (t : Nat) (h : Addr) (hs : List Addr) (x6 x7 : Option V) (qs : List Addr) (pss : Nat → List Addr), σ' = [some (.int (n : Int)), some (.ref h), x2, x3, x4, some (.ref f), x6, x7, none] ∧ Ex H H' ∧ H' f = some (.lst (qs.map V.ref)) ∧ qs.length = t ∧ (∀ (i : Nat) (q : Addr), qs[i]? = some q → AtL H' q (pss i) (layM n i) ∧ (H q = none ∧ q ≠ f) ∧ (∀ x ∈ pss i, H x = none ∧ x ≠ f) ∧ (pss i).Nodup) ∧ (H h = none ∧ h ≠ f) ∧ AtL H' h hs (layM n t) ∧ (∀ x ∈ hs, H x = none ∧ x ≠ f) ∧ hs.Nodup ∧ m = N - t ∧ t ≤ N) N
        ⟨0, p, ps, none, none, [], fun _ => [], rfl, ex0.trans e2, hf, rfl, (fun i q hq => by simp at hq), ⟨p0, npf⟩, hp2, (fun x hx => ⟨hnp x hx, nsf x hx⟩), ndp, rfl, Nat.zero_le _⟩ fun m σ' H' hW => ?_
      obtain ⟨t, h, hs, x6, x7, qs, pss, rfl, ex, hf', hql, hlay, h0', hh', hnh', ndh', rfl, htN⟩ := hW
      have hlen := hfl t
      refine ⟨decide (0 < ((layM n t).length : Int)), et_test (ev_op (ev_lenRL (EvRL.old (ev_var rfl) hh')) ev_c rv_I0), fun hb H4 e4 => ?_, fun hb H4 e4 => ?_⟩
      · have hne' : layM n t ≠ [] := fun z => by rw [z] at hb; simp at hb
        have htlt : t < N := by
          rcases Nat.lt_or_ge t N with c | c
          · exact c
          · have : t = N := by omega
            rw [this] at hne'
            exact absurd hE hne'
        refine ⟨fun σ' H' => ∃ (h : Addr) (hs : List Addr) (x6 x7 : Option V) (qs : List Addr) (pss : Nat → List Addr), σ' = [some (.int (n : Int)), some (.ref h), x2, x3, x4, some (.ref f), x6, x7, none] ∧ Ex H H' ∧ H' f = some (.lst (qs.map V.ref)) ∧ qs.length = t + 1 ∧ (∀ (i : Nat) (q : Addr), qs[i]? = some q → AtL H' q (pss i) (layM n i) ∧ (H q = none ∧ q ≠ f) ∧ (∀ x ∈ pss i, H x = none ∧ x ≠ f) ∧ (pss i).Nodup) ∧ (H h = none ∧ h ≠ f) ∧ AtL H' h hs (layM n (t + 1)) ∧ (∀ x ∈ hs, H x = none ∧ x ≠ f) ∧ hs.Nodup, ?_, ?_⟩
        · rintro σ2 H5 ⟨h, hs, x6, x7, qs, pss, a1, a2, a3, a4, a5, a6, a7, a8, a9⟩
          exact ⟨N - (t + 1), by omega, t + 1, h, hs, x6, x7, qs, pss, a1, a2, a3, a4, a5, a6, a7, a8, a9, rfl, htlt⟩
        have hf4 := e4 _ _ hf'
        refine q_app hf4 (ev_var rfl) (ev_var rfl) (by rw [List.length_map]; omega) fun H5 e5 => ?_
        have ex5 : Ex H (upd H5 f (.lst (qs.map V.ref ++ [.ref h]))) := Ex.mut ((ex.trans e4).trans e5) nf0
        have hf5 : (upd H5 f (.lst (qs.map V.ref ++ [.ref h]))) f = some (.lst ((qs ++ [h]).map V.ref)) := by
          rw [upd_same, List.map_append]
          rfl
        have keep : ∀ {q : Addr} {ps : List Addr} {rows : List (List Int)}, AtL H' q ps rows → q ≠ f → (∀ x ∈ ps, x ≠ f) → AtL (upd H5 f (.lst (qs.map V.ref ++ [.ref h]))) q ps rows := fun {q ps rows} hq h1 h2 =>
          ((hq.ex e4).ex e5).upd_other h1 (fun hm => h2 f hm rfl)
        have hh5 := keep hh' h0'.2 (fun x hx => (hnh' x hx).2)
        have hlay5 : ∀ (i : Nat) (q : Addr), (qs ++ [h])[i]? = some q → AtL (upd H5 f (.lst (qs.map V.ref ++ [.ref h]))) q (if i = t then hs else pss i) (layM n i) ∧ (H q = none ∧ q ≠ f) ∧ (∀ x ∈ (if i = t then hs else pss i), H x = none ∧ x ≠ f) ∧ (if i = t then hs else pss i).Nodup := by
          intro i q hq
          by_cases c : i < qs.length
          · rw [List.getElem?_append_left c] at hq
            have hit : ¬ i = t := by omega
            rw [if_neg hit]
            obtain ⟨b1, b2, b3, b4⟩ := hlay i q hq
            exact ⟨keep b1 b2.2 (fun x hx => (b3 x hx).2), b2, b3, b4⟩
          · rw [List.getElem?_append_right (by omega)] at hq
            have hlt := (List.getElem?_eq_some_iff.mp hq).1
            simp at hlt
            have hit : i = t := by omega
            have e0 : i - qs.length = 0 := by omega
            rw [e0] at hq
            cases Option.some.inj hq
            rw [if_pos hit, hit]
            exact ⟨hh5, h0', hnh', ndh'⟩
        generalize upd H5 f (.lst (qs.map V.ref ++ [.ref h])) = H6 at *
        have nf6 : ∀ x, H6 x = none → H x = none ∧ x ≠ f := fun x hx => ⟨fresh_back ex5 hx, fun z => by rw [z, hf5] at hx; cases hx⟩
        have htot : ((layM n t).flatMap aheadsM).length ≤ 5040 := hfl (t + 1)
        refine q_asgML (H0 := H6) (rows := []) (eml_nil (el_lst ea_nil (by decide)) (Ex.refl _)) fun q0 qs0 H7 q00 e7 hq0 hnq ndq => ?_
        refine q_forLA (ev_var rfl) (hh5.ex e7) (fun j σ'' H'' => ∃ rs x7, σ'' = [some (.int (n : Int)), some (.ref h), x2, x3, x4, some (.ref f), some (.ref q0), x7, none] ∧ Ex H6 H'' ∧ AtL H'' q0 rs (((layM n t).take j).flatMap aheadsM) ∧ (∀ x ∈ rs, H6 x = none) ∧ rs.Nodup) (fun H8 e8 => ⟨qs0, x7, rfl, e7.trans e8, hq0.ex e8, hnq, ndq⟩) (fun j σ'' H'' ⟨_, _, _, ex, _⟩ => hh5.ex ex) ?_ ?_
        · rintro j b row σ'' H'' hb hrow hat ⟨rs, x7, rfl, ex', hr', hnr, ndr⟩
          obtain ⟨dr, lr⟩ := lay_dk hn1 (List.mem_of_getElem? hrow)
          have ht := flat_take (f := aheadsM) hrow
          have htl := flat_take_len (l := layM n t) (f := aheadsM) (j + 1)
          rw [ht, List.length_append] at htl
          have en : ((n : Int) + 1 - 2).toNat = row.length - 1 := by omega
          have hcomp := ell_lcR2 (ta := tCons (tC (.int 2)) (tCons (tOp (rI0 fun i j => V.int (i + j)) (tVar 0) (tC (.int 1))) tNil)) (lo := 2) (n := (n : Int) + 1) (H := H'') (σ := [some (.int (n : Int)), some (.ref h), x2, x3, x4, some (.ref f), some (.ref q0), some (.ref b), none]) (j := 2) (vs := [2]) (t := tTest (tOp rEq (tOp (rIxL K) (tVar 7) (tOp (rI0 fun i j => V.int (i - j)) (tVar 2) (tC (V.int 1)))) (tVar 2)))
            (te := tCall spOverL [] E0 (tCons (tVar 7) (tCons (tVar 2) tNil))) (inPl row) (fun i => ov row (2 + (i : Int))) (ea_cons ev_c (ea_cons (ev_op (ev_var rfl) ev_c rv_I0) ea_nil)) (by omega) (fun x => rfl)
            (fun i G eG hi => by
              obtain ⟨c, hc, e⟩ := inPl_at (ns := row) (i := i) (by omega)
              rw [← e]
              refine et_is (et_test (ev_op (ev_op (ev_var rfl) (ev_op (ev_var rfl) ev_c rv_I0) (rv_ix (i + 1) (sq_of (eG _ _ hat)) (by omega) hc)) (ev_var rfl) rv_eqI)) ?_
              by_cases z : c = (i : Int) + 2
              · rw [decide_eq_true z, decide_eq_true (by omega)]
              · rw [decide_eq_false z, decide_eq_false (by omega)])
            (fun i G eG hi _ => el_call (ea_cons (ev_var rfl) (ea_cons (ev_var rfl) ea_nil)) (spOverL_L (eG _ _ hat) (by omega) (by omega) (by omega)))
          rw [en] at hcomp
          have hcomp : EvLL _ _ _ (aheadsM row) := hcomp
          refine s_ext hr' (ev_var rfl) hcomp (by omega) fun cs H8 e8 hr8 hnc ndc => ?_
          refine ⟨rs ++ cs, _, rfl, Ex.mut (ex'.trans e8) q00, by rw [ht]; exact hr8, fun x hx => ?_, ?_⟩
          · rcases List.mem_append.mp hx with hx | hx
            · exact hnr x hx
            · exact fresh_back ex' (hnc x hx)
          · rw [List.nodup_append]
            refine ⟨ndr, ndc, fun x hx y hy z => ?_⟩
            subst z
            obtain ⟨_, _, _, _, hat'⟩ := hr'.mem hx
            have hat' : H'' x = _ := hat'
            rw [hnc x hy] at hat'
            cases hat'
        · rintro σ'' H'' ⟨rs, x7, rfl, ex', hr', hnr, ndr⟩
          rw [List.take_length] at hr'
          refine s_asgML (H0 := H6) (eml_old (ev_var rfl) q00 hr' hnr ndr) fun r2 rs2 H8 r20 e8 hr2 hn2 nd2 => ?_
          have e68 : Ex H6 H8 := ex'.trans e8
          refine ⟨r2, rs2, _, _, qs ++ [h], fun i => if i = t then hs else pss i, rfl, ex5.trans e68, e68 _ _ hf5, by simp [hql], fun i q hq => ?_, nf6 _ r20, hr2, fun x hx => nf6 x (hn2 x hx), nd2⟩
          obtain ⟨b1, b2, b3, b4⟩ := hlay5 i q hq
          exact ⟨b1.ex e68, b2, b3, b4⟩
      · have hE' : layM n t = [] := by
          have := of_decide_eq_false hb
          exact List.eq_nil_of_length_eq_zero (by omega)
        have htN' : t = N := by
          rcases Nat.lt_or_ge t N with c | c
          · exact absurd hE' (hne t c)
          · omega
        subst htN'
        refine ⟨_, rfl, q f qs pss H4 (ex.trans e4) ⟨e4 _ _ hf', hql, fun i q hq => ?_⟩⟩
        obtain ⟨b1, b2, b3, b4⟩ := hlay i q hq
        exact ⟨b1.ex e4, b2.1, fun x hx => (b3 x hx).1, b4⟩

def fac : Nat → Nat
  | 0 => 1
  | k + 1 => fac k * (k + 1)
theorem fall_fac : ∀ n : Fin 8, fall n.val n.val = fac n.val := by decide
theorem sum_int : ∀ (l : List Nat) (f : Nat → Nat), (l.map fun t => (f t : Int)).sum = ((l.map f).sum : Nat)
  | [], _ => rfl
  | a :: l, f => by
    rw [List.map_cons, List.sum_cons, sum_int l f, List.map_cons, List.sum_cons]
    simp
def spLaw (K : PySem.W.Frag) : Sp := fun vs H Q _ => ∃ (a : Addr) (ns : List Int), vs = [.ref a] ∧ SqL K H a (ns.map V.int) ∧ ns.length ≤ 63 ∧ ∀ H', Q (.bl true) H'
theorem ok_law (T : Txt K mg A) : FnOk P w K mg base CX0 5 A.f_law A.d_law ["script"] (spLaw K) := by
  refine T.F_law.ok sc_law (fun vs H Q E h => ?_) (fun cdv AA outer s H vs Q E hr h => ?_)
  · obtain ⟨a, ns, rfl, _⟩ := h
    rfl
  · obtain ⟨l, cs, rfl, hs, hlen, q⟩ := h
    refine ⟨_, (pss_cons (ps_set (i := 1) sc_law.nd rfl (by first | exact Or.inl rfl | exact Or.inr rfl) (pe_op op_add pe_int (pe_op op_mod (pe_call (ok_law_cell_at T) (hr.mono (by decide)) (by rfl) T.g_law_cell_at T.F_law_cell_at.kp T.b_law_cell_at .nil pass0 (pa_cons (pv 0) (pa_cons pe_int pa_nil))) pe_int)))
      (pss_cons (ps_set (i := 2) sc_law.nd rfl (by first | exact Or.inl rfl | exact Or.inr rfl) (pe_call (ok_law_layers T) (hr.mono (by decide)) (by rfl) T.g_law_layers T.F_law_layers.kp T.b_law_layers .nil pass0 (pa_cons (pv 1) pa_nil)))
      (pss_cons (ps_set (i := 3) sc_law.nd rfl (by first | exact Or.inl rfl | exact Or.inr rfl) (pe_call (ok_counts T) (hr.mono (by decide)) (by rfl) T.g_counts T.F_counts.kp T.b_counts .nil pass0 (pa_cons (pv 1) pa_nil)))
      (pss_cons (ps_set (i := 4) sc_law.nd rfl (by first | exact Or.inl rfl | exact Or.inr rfl) pe_int)
      (pss_cons (ps_for PassesOwn.never rfl (pi_range2 (by rfl) T.n_range (pa_cons pe_int (pa_cons (pe_op op_add (pv 1) pe_int) pa_nil))) (pg_name (i := 5) sc_law.nd rfl (by first | exact Or.inl rfl | exact Or.inr rfl))
      (pss_one (ps_set (i := 4) sc_law.nd rfl (by first | exact Or.inl rfl | exact Or.inr rfl) (pe_op op_mul (pv 4) (pv 5)))))
      (pss_cons (ps_if (PW.pt (pw_or (pt_cmpR (r := rNeD K) (op_neD hr.units) (pv 3) (pe_lc (own := [("here", 8)]) (g := gName 8) (tt := tYes) rfl sc_law.nd (pi_list (pv 2)) (blkOk_by (N := N_law) (sc := defScope s_law) (by decide +kernel)) (fun _ _ _ _ _ => pg_name (i := 8) sc_law.nd rfl (Or.inl rfl)) (fun _ _ _ _ _ => pts_nil) (fun _ _ _ _ _ => (pe_callB (r := rLenS K) call_len_seq (by rfl) T.n_len PySem.boot_len (pa_cons (pv 8) pa_nil)))) (nomark _)) (pw_or1 (pt_cmpR op_ne (pe_callB (r := rSum K) (cr_sum rfl) (by rfl) T.n_sum (by decide +kernel) (pa_cons (pv 3) pa_nil)) (pv 4) (nomark _)))))
      (pss_one (ps_ret pe_bl))
      pss_nil)
      (pss_cons (ps_set (i := 6) sc_law.nd rfl (by first | exact Or.inl rfl | exact Or.inr rfl) (pe_call (ok_longest T) (hr.mono (by decide)) (by rfl) T.g_longest T.F_longest.kp T.b_longest .nil pass0 (pa_cons (pv 1) pa_nil)))
      (pss_cons (ps_if (PW.pt (pw_or (pt_not (pt_val (pe_callB call_isi (by rfl) T.n_isinstance (by decide +kernel) (pa_cons (pv 6) (pa_cons (pe_bltn (v := .ty "list") (u := .type "list") (by rfl) T.n_list (by decide +kernel) rfl) pa_nil))))) (pw_or1 (pt_cmpR (r := rNeD K) (op_neD hr.units) (pv 6) (pe_callB (r := rSortedLL K) (cr_sortedLL hr.units) (by rfl) T.n_sorted (by decide +kernel) (pa_cons (pe_ix (r := rIxL K) ix_list (pv 2) (pe_un un_neg pe_int) (fun _ _ => rfl)) pa_nil)) (nomark _)))))
      (pss_one (ps_ret pe_bl))
      pss_nil)
      (pss_cons (ps_for PassesOwn.never rfl (pi_list (pv 6)) (pg_name (i := 7) sc_law.nd rfl (by first | exact Or.inl rfl | exact Or.inr rfl))
      (pss_one (ps_if (PW.pt (pw_or (pt_cmpR op_ne (pe_callB (r := rLenS K) call_len_seq (by rfl) T.n_len PySem.boot_len (pa_cons (pe_ix (r := rIxT K) ix_tup (pe_call (ok_law_game T) (hr.mono (by decide)) (by rfl) T.g_law_game T.F_law_game.kp T.b_law_game .nil pass0 (pa_cons (pv 7) pa_nil)) pe_int (fun _ _ => rfl)) pa_nil)) (pe_op op_sub (pe_callB (r := rLenS K) call_len_seq (by rfl) T.n_len PySem.boot_len (pa_cons (pv 3) pa_nil)) pe_int) (nomark _)) (pw_or1 (pt_cmpR (r := rNeD K) (op_neD hr.units) (pe_call (ok_aheads T) (hr.mono (by decide)) (by rfl) T.g_aheads T.F_aheads.kp T.b_aheads .nil pass0 (pa_cons (pv 7) pa_nil)) (pe_lst pa_nil) (nomark _)))))
        (pss_one (ps_ret pe_bl))
        pss_nil)))
      (pss_one (ps_ret (pe_cmpR op_lt (pe_callB (r := rLenS K) call_len_seq (by rfl) T.n_len PySem.boot_len (pa_cons (pe_call (ok_tops T) (hr.mono (by decide)) (by rfl) T.g_tops T.F_tops.kp T.b_tops .nil pass0 (pa_cons (pe_call (ok_law_deck T) (hr.mono (by decide)) (by rfl) T.g_law_deck T.F_law_deck.kp T.b_law_deck .nil pass0 (pa_cons (pv 0) (pa_cons pe_int (pa_cons (pv 1) pa_nil)))) pa_nil)) pa_nil)) (pe_callB (r := rLenS K) call_len_seq (by rfl) T.n_len PySem.boot_len (pa_cons (pv 3) pa_nil)) (nomark _))))))))))))), ?_⟩
    refine q_asgI (ei_op (ei_ev (P := fun z => z = 1) ev_c rfl) (ei_mod (ei_cell (ea_cons (ev_var rfl) (ea_cons ev_c ea_nil)) hs (by decide)) ev_c (by decide))) fun z H1 hz e1 => ?_
    obtain ⟨_, y, rfl, ⟨z0, z1⟩, ez⟩ := hz
    have ez : z = 1 + y := ez
    obtain ⟨n, rfl⟩ : ∃ n : Nat, z = (n : Int) := ⟨z.toNat, by omega⟩
    have hn1 : 1 ≤ n := by omega
    have hn7 : n ≤ 7 := by omega
    obtain ⟨N, hN1, hN, hE, hne⟩ := lay_N hn1 hn7
    have hfl := fall_le hn7
    refine ⟨_, rfl, n, N, rfl, hn1, hn7, hN1, hN, hE, hne, fun a qs pss H2 e2 hT => ?_⟩
    have ex2 := e1.trans e2
    refine q_asgL (el_call (ea_cons (ev_var rfl) ea_nil) (spCounts_L hn1 hn7 hN1 hN hE hne)) fun pr H3 npr e3 hpr => ?_
    have ex3 := ex2.trans e3
    refine q_asg ev_c fun H4 e4 => ?_
    refine q_forR2 (ea_cons ev_c (ea_cons (ev_op (ev_var rfl) ev_c rv_I0) ea_nil)) (by omega) (fun i σ' H' => ∃ x5, σ' = [some (.ref l), some (.int (n : Int)), some (.ref a), some (.ref pr), some (.int (fac (i + 1) : Int)), x5, none, none, none] ∧ Ex H3 H') (fun H5 e5 => ⟨none, rfl, e4.trans e5⟩) ?_ ?_
    · rintro i σ' H' hi ⟨x5, rfl, ex'⟩
      refine s_asg (v := .int ((fac (i + 2) : Nat) : Int)) ?_ fun H5 e5 => ⟨_, rfl, ex'.trans e5⟩
      have ef : ((fac (i + 2) : Nat) : Int) = (fac (i + 1) : Int) * (2 + (i : Int)) := by
        show ((fac (i + 1) * (i + 1 + 1) : Nat) : Int) = _
        rw [Int.natCast_mul]
        congr 1
        omega
      rw [ef]
      exact ev_op (ev_var rfl) (ev_var rfl) fun H1 _ _ q => ⟨_, _, rfl, rfl, Or.inr (by omega), q H1 (Ex.refl H1)⟩
    rintro σ' H5 ⟨x5, rfl, e35⟩
    have en1 : ((n : Int) + 1 - 2).toNat + 1 = n := by omega
    rw [en1]
    have hpr5 := e35 _ _ hpr
    have e25 := e3.trans e35
    have hT5 := e25 _ _ hT.top
    have key := el_lcL (K := K) (σ := [some (.ref l), some (.int (n : Int)), some (.ref a), some (.ref pr), some (.int (fac n : Int)), x5, none, none, none]) (H := H5) (tl := tVar 2) (t := tYes) (te := tCB (rLenS K) (tCons (tVar 8) tNil)) (j := 8) (vs := [8]) (xs := qs.map V.ref) (fun _ => true) (fun i => V.int ((layM n i).length : Int)) (ev_var rfl) (sq_of hT5) (by rw [List.length_map, hT.len]; omega) (fun x => rfl) (fun i x G eG hi => et_yes)
      (fun i x G eG hi _ => by
        rw [List.getElem?_map] at hi
        cases eq : qs[i]? with
        | none => rw [eq] at hi; cases hi
        | some q0 =>
          rw [eq] at hi
          cases Option.some.inj hi
          exact ev_lenRL (EvRL.old (ev_var rfl) ((hT.lay i q0 eq).1.ex (e25.trans eG))))
    rw [List.length_map, hT.len, given_int] at key
    have hsum : (cntsM n N).sum = (fac n : Int) := by
      unfold cntsM
      rw [sum_int, lay_sum hn1 hE]
      have := fall_fac ⟨n, by omega⟩
      have this : fall n n = fac n := this
      rw [this]
    refine q_when (b := false) (et_is (et_or (et_test (ev_neR (ns := cntsM n N) (ms := cntsM n N) (EvR.old (ev_var rfl) hpr5) (EvR.new key))) fun _ => et_test (ev_op (x := .int (cntsM n N).sum) (fun G1 eG Q1 q1 => ⟨_, rfl, pr, cntsM n N, rfl, sq_of (eG _ _ hpr5), q1 G1 (Ex.refl _)⟩) (ev_var rfl) rv_neI)) (by rw [hsum]; simp)) (fun z => nomatch z) fun _ H6 e6 => ?_
    have e26 := e25.trans e6
    refine q_asgLL (ell_call (ea_cons (ev_var rfl) ea_nil) (spLongest_LL hn1 hn7 hN1 hN hE hne)) fun r rs H7 nr e7 hr' hnr ndr => ?_
    have e27 := e26.trans e7
    have hlt : N - 1 < qs.length := by rw [hT.len]; omega
    have eq : qs[N - 1]? = some qs[N - 1] := List.getElem?_eq_getElem hlt
    obtain ⟨b1, b2, b3, b4⟩ := hT.lay (N - 1) _ eq
    have hlast : (qs.map V.ref).getLast? = some (.ref qs[N - 1]) := by
      rw [List.getLast?_map, List.getLast?_eq_getElem?, hT.len, eq]
      rfl
    refine q_when (b := false) (et_is (et_or (a := false) (et_not (et_B (ev_isi (T := "list") (bb := true) (ev_var rfl) (fun G eG => .base (.lst (eG _ _ hr'.top))) (by decide +kernel)))) fun _ =>
      et_test (ev_neRL (EvRL.old (ev_var rfl) hr') (erl_sorted (EvRL.old (a := qs[N - 1]) (ev_op (ev_var rfl) (ev_un ev_c ru_neg) (rv_ixL (sq_of (e27 _ _ hT.top)) (at_last hlast))) (b1.ex e27))))) (by simp)) (fun z => nomatch z) fun _ H8 e8 => ?_
    have hr8 := hr'.ex e8
    have hpr8 := ((e6.trans e7).trans e8) _ _ hpr5
    have hRd : ∀ x ∈ srtL (layM n (N - 1)), x ∈ layM n (N - 1) := fun x hx => (srtL_perm _).mem_iff.mp hx
    have hcl : (cntsM n N).length = N := by unfold cntsM; rw [List.length_map, List.length_range]
    have hempty : ∀ x ∈ layM n (N - 1), aheadsM x = [] := by
      have e : (layM n (N - 1)).flatMap aheadsM = [] := by
        have : layM n (N - 1 + 1) = [] := by rw [Nat.sub_add_cancel hN1]; exact hE
        exact this
      exact fun x hx => List.flatMap_eq_nil_iff.mp e x hx
    refine q_forLL (ev_var rfl) hr8 (fun i σ' H' => ∃ x7, σ' = [some (.ref l), some (.int (n : Int)), some (.ref a), some (.ref pr), some (.int (fac n : Int)), x5, some (.ref r), x7, none] ∧ Ex H8 H') (fun H9 e9 => ⟨none, rfl, e9⟩) (fun i σ' H' ⟨_, _, ex⟩ => ex) ?_ ?_
    · rintro i b row σ' H' hb hrow hat ⟨x7, rfl, ex'⟩
      have hm := hRd _ (List.mem_of_getElem? hrow)
      obtain ⟨dr, lr⟩ := lay_dk hn1 hm
      have hdr : Dk row := ⟨dr, by omega, by omega⟩
      have hg := ((mem_lay' hn1).mp hm).2
      refine s_when (b := false) (et_is (et_or (et_test (ev_op (ev_glen rfl hat hdr) (ev_op (ev_lenI (ev_var rfl) (sq_of (ex' _ _ hpr8))) ev_c rv_I0) rv_neI)) fun _ => et_test (ev_neRL (EvRL.new (ell_call (ea_cons (ev_var rfl) ea_nil) (spAheads_LL hat hdr))) (erl_nil (el_lst ea_nil (by decide))))) ?_) (fun z => nomatch z) fun _ H9 e9 => ⟨_, rfl, ex'.trans e9⟩
      rw [hg, hcl, hempty _ hm, decide_eq_true (by omega)]
      simp
    · rintro σ' H9 ⟨x7, rfl, e9⟩
      have hpr9 := e9 _ _ hpr8
      have exs : Ex H H9 := (((ex3.trans e35).trans (e6.trans e7)).trans e8).trans e9
      refine (fun G1 eG Q1 q1 => ep_deck (ea_cons (ev_var rfl) (ea_cons ev_c (ea_cons (ev_var rfl) ea_nil))) (ex_l exs hs) (by decide) (by omega) (by omega) G1 eG _ fun pd ds H10 npd e10 hpd hdd => ?_ : EvI (tCB (rLenS K) (tCons (tCall spTops [] E0 (tCons (tCall (spDeck K) [] E0 (tCons (tVar 0) (tCons (tC (.int 1)) (tCons (tVar 1) tNil)))) tNil)) tNil)) [some (.ref l), some (.int (n : Int)), some (.ref a), some (.ref pr), some (.int (fac n : Int)), x5, some (.ref r), x7, none] H9 (fun z => z < (N : Int))) H9 (Ex.refl _) _ fun z H10 e10 hz => ?_
      · obtain ⟨hdd, hdl⟩ := hdd
        obtain ⟨ts, e, hg⟩ := Gm.all hdd.dk hdd.lo
        refine ⟨pd, ds, ts, e, rfl, hpd, hdd, hg, fun pt H11 npt e11 hpt => ⟨pt, _, rfl, Or.inl (sq_of hpt), ?_⟩⟩
        refine q1 _ H11 (e10.trans e11) ?_
        rw [List.length_map]
        have hga := hg.app hdd.dk (nextM ds.length (n - ds.length))
        have hm : ds ++ nextM ds.length (n - ds.length) ∈ allD n := mem_allD.mpr ⟨hdd.dk.app (.refl _), by rw [List.length_append, nextM_len]; omega⟩
        have := gl_lt hn1 hE hm
        rw [gl_of hga] at this
        omega
      · refine ev_lenI (ev_var rfl) (sq_of hpr9) H10 e10 _ fun H11 e11 => ⟨z, _, rfl, rfl, ?_⟩
        have hz : z < (N : Int) := hz
        show Q (.bl (decide (z < ((cntsM n N).length : Int)))) H11
        rw [hcl, decide_eq_true hz]
        exact q _

end
theorem all_mk {l : PySem.W.OpenLaw} {w : World} {K : PySem.W.Frag} {h : Heap} {mg : Str → Option Value} {fa : Addr} (X : K.In h) (G : h.Ns mainGlobals mg) (hfa : mg "law" = some (.ref fa))
    {f0 : Addr} {od0 an0 : Option Addr} {sl0 : Array (Option Value)} {oc0 kV0 dc0 pm0 cd0 ct0 : Value}
    {f1 : Addr} {od1 an1 : Option Addr} {sl1 : Array (Option Value)} {oc1 kV1 dc1 pm1 cd1 ct1 : Value}
    {f2 : Addr} {od2 an2 : Option Addr} {sl2 : Array (Option Value)} {oc2 kV2 dc2 pm2 cd2 ct2 : Value}
    {f3 : Addr} {od3 an3 : Option Addr} {sl3 : Array (Option Value)} {oc3 kV3 dc3 pm3 cd3 ct3 : Value}
    {f4 : Addr} {od4 an4 : Option Addr} {sl4 : Array (Option Value)} {oc4 kV4 dc4 pm4 cd4 ct4 : Value}
    {f5 : Addr} {od5 an5 : Option Addr} {sl5 : Array (Option Value)} {oc5 kV5 dc5 pm5 cd5 ct5 : Value}
    {f6 : Addr} {od6 an6 : Option Addr} {sl6 : Array (Option Value)} {oc6 kV6 dc6 pm6 cd6 ct6 : Value}
    {f7 : Addr} {od7 an7 : Option Addr} {sl7 : Array (Option Value)} {oc7 kV7 dc7 pm7 cd7 ct7 : Value}
    {f8 : Addr} {od8 an8 : Option Addr} {sl8 : Array (Option Value)} {oc8 kV8 dc8 pm8 cd8 ct8 : Value}
    {f9 : Addr} {od9 an9 : Option Addr} {sl9 : Array (Option Value)} {oc9 kV9 dc9 pm9 cd9 ct9 : Value}
    {f10 : Addr} {od10 an10 : Option Addr} {sl10 : Array (Option Value)} {oc10 kV10 dc10 pm10 cd10 ct10 : Value}
    {f11 : Addr} {od11 an11 : Option Addr} {sl11 : Array (Option Value)} {oc11 kV11 dc11 pm11 cd11 ct11 : Value}
    {f12 : Addr} {od12 an12 : Option Addr} {sl12 : Array (Option Value)} {oc12 kV12 dc12 pm12 cd12 ct12 : Value}
    {f13 : Addr} {od13 an13 : Option Addr} {sl13 : Array (Option Value)} {oc13 kV13 dc13 pm13 cd13 ct13 : Value}
    {f14 : Addr} {od14 an14 : Option Addr} {sl14 : Array (Option Value)} {oc14 kV14 dc14 pm14 cd14 ct14 : Value}
    {t_MOST : Tok}
    {t_MOST_COUNTED : Tok}
    (a0 : PySem.W.nsIn K mainGlobals "ask" = some (some (.ref f0)))
    (l0 : K.lookup f0 = some ⟨oc0, od0, .func (PySem.W.fnOf "ask" "ask" (defArgs s_ask) (defBody s_ask) (defScope s_ask) .none kV0 dc0 pm0 an0 cd0 ct0), sl0⟩)
    (c0 : PySem.W.codeIn K cd0 "ask" = true)
    (k0 : PySem.W.keepIn K (.ref f0) = true)
    (a1 : PySem.W.nsIn K mainGlobals "over" = some (some (.ref f1)))
    (l1 : K.lookup f1 = some ⟨oc1, od1, .func (PySem.W.fnOf "over" "over" (defArgs s_over) (defBody s_over) (defScope s_over) .none kV1 dc1 pm1 an1 cd1 ct1), sl1⟩)
    (c1 : PySem.W.codeIn K cd1 "over" = true)
    (k1 : PySem.W.keepIn K (.ref f1) = true)
    (a2 : PySem.W.nsIn K mainGlobals "game" = some (some (.ref f2)))
    (l2 : K.lookup f2 = some ⟨oc2, od2, .func (PySem.W.fnOf "game" "game" (defArgs s_game) (defBody s_game) (defScope s_game) .none kV2 dc2 pm2 an2 cd2 ct2), sl2⟩)
    (c2 : PySem.W.codeIn K cd2 "game" = true)
    (k2 : PySem.W.keepIn K (.ref f2) = true)
    (a3 : PySem.W.nsIn K mainGlobals "tops" = some (some (.ref f3)))
    (l3 : K.lookup f3 = some ⟨oc3, od3, .func (PySem.W.fnOf "tops" "tops" (defArgs s_tops) (defBody s_tops) (defScope s_tops) .none kV3 dc3 pm3 an3 cd3 ct3), sl3⟩)
    (c3 : PySem.W.codeIn K cd3 "tops" = true)
    (k3 : PySem.W.keepIn K (.ref f3) = true)
    (a4 : PySem.W.nsIn K mainGlobals "aheads" = some (some (.ref f4)))
    (l4 : K.lookup f4 = some ⟨oc4, od4, .func (PySem.W.fnOf "aheads" "aheads" (defArgs s_aheads) (defBody s_aheads) (defScope s_aheads) .none kV4 dc4 pm4 an4 cd4 ct4), sl4⟩)
    (c4 : PySem.W.codeIn K cd4 "aheads" = true)
    (k4 : PySem.W.keepIn K (.ref f4) = true)
    (a5 : PySem.W.nsIn K mainGlobals "ends" = some (some (.ref f5)))
    (l5 : K.lookup f5 = some ⟨oc5, od5, .func (PySem.W.fnOf "ends" "ends" (defArgs s_ends) (defBody s_ends) (defScope s_ends) .none kV5 dc5 pm5 an5 cd5 ct5), sl5⟩)
    (c5 : PySem.W.codeIn K cd5 "ends" = true)
    (k5 : PySem.W.keepIn K (.ref f5) = true)
    (a6 : PySem.W.nsIn K mainGlobals "layers" = some (some (.ref f6)))
    (l6 : K.lookup f6 = some ⟨oc6, od6, .func (PySem.W.fnOf "layers" "layers" (defArgs s_layers) (defBody s_layers) (defScope s_layers) .none kV6 dc6 pm6 an6 cd6 ct6), sl6⟩)
    (c6 : PySem.W.codeIn K cd6 "layers" = true)
    (k6 : PySem.W.keepIn K (.ref f6) = true)
    (a7 : PySem.W.nsIn K mainGlobals "counts" = some (some (.ref f7)))
    (l7 : K.lookup f7 = some ⟨oc7, od7, .func (PySem.W.fnOf "counts" "counts" (defArgs s_counts) (defBody s_counts) (defScope s_counts) .none kV7 dc7 pm7 an7 cd7 ct7), sl7⟩)
    (c7 : PySem.W.codeIn K cd7 "counts" = true)
    (k7 : PySem.W.keepIn K (.ref f7) = true)
    (a8 : PySem.W.nsIn K mainGlobals "longest" = some (some (.ref f8)))
    (l8 : K.lookup f8 = some ⟨oc8, od8, .func (PySem.W.fnOf "longest" "longest" (defArgs s_longest) (defBody s_longest) (defScope s_longest) .none kV8 dc8 pm8 an8 cd8 ct8), sl8⟩)
    (c8 : PySem.W.codeIn K cd8 "longest" = true)
    (k8 : PySem.W.keepIn K (.ref f8) = true)
    (a9 : PySem.W.nsIn K mainGlobals "_law_cell_at" = some (some (.ref f9)))
    (l9 : K.lookup f9 = some ⟨oc9, od9, .func (PySem.W.fnOf "_law_cell_at" "_law_cell_at" (defArgs s_law_cell_at) (defBody s_law_cell_at) (defScope s_law_cell_at) .none kV9 dc9 pm9 an9 cd9 ct9), sl9⟩)
    (c9 : PySem.W.codeIn K cd9 "_law_cell_at" = true)
    (k9 : PySem.W.keepIn K (.ref f9) = true)
    (a10 : PySem.W.nsIn K mainGlobals "_law_deck" = some (some (.ref f10)))
    (l10 : K.lookup f10 = some ⟨oc10, od10, .func (PySem.W.fnOf "_law_deck" "_law_deck" (defArgs s_law_deck) (defBody s_law_deck) (defScope s_law_deck) .none kV10 dc10 pm10 an10 cd10 ct10), sl10⟩)
    (c10 : PySem.W.codeIn K cd10 "_law_deck" = true)
    (k10 : PySem.W.keepIn K (.ref f10) = true)
    (a11 : PySem.W.nsIn K mainGlobals "_law_over" = some (some (.ref f11)))
    (l11 : K.lookup f11 = some ⟨oc11, od11, .func (PySem.W.fnOf "_law_over" "_law_over" (defArgs s_law_over) (defBody s_law_over) (defScope s_law_over) .none kV11 dc11 pm11 an11 cd11 ct11), sl11⟩)
    (c11 : PySem.W.codeIn K cd11 "_law_over" = true)
    (k11 : PySem.W.keepIn K (.ref f11) = true)
    (a12 : PySem.W.nsIn K mainGlobals "_law_game" = some (some (.ref f12)))
    (l12 : K.lookup f12 = some ⟨oc12, od12, .func (PySem.W.fnOf "_law_game" "_law_game" (defArgs s_law_game) (defBody s_law_game) (defScope s_law_game) .none kV12 dc12 pm12 an12 cd12 ct12), sl12⟩)
    (c12 : PySem.W.codeIn K cd12 "_law_game" = true)
    (k12 : PySem.W.keepIn K (.ref f12) = true)
    (a13 : PySem.W.nsIn K mainGlobals "_law_layers" = some (some (.ref f13)))
    (l13 : K.lookup f13 = some ⟨oc13, od13, .func (PySem.W.fnOf "_law_layers" "_law_layers" (defArgs s_law_layers) (defBody s_law_layers) (defScope s_law_layers) .none kV13 dc13 pm13 an13 cd13 ct13), sl13⟩)
    (c13 : PySem.W.codeIn K cd13 "_law_layers" = true)
    (k13 : PySem.W.keepIn K (.ref f13) = true)
    (a14 : PySem.W.nsIn K mainGlobals "law" = some (some (.ref f14)))
    (l14 : K.lookup f14 = some ⟨oc14, od14, .func (PySem.W.fnOf "law" "law" (defArgs s_law) (defBody s_law) (defScope s_law) .none kV14 dc14 pm14 an14 cd14 ct14), sl14⟩)
    (c14 : PySem.W.codeIn K cd14 "law" = true)
    (k14 : PySem.W.keepIn K (.ref f14) = true)
    (z_len : PySem.W.nsIn K mainGlobals "len" = some none)
    (z_sorted : PySem.W.nsIn K mainGlobals "sorted" = some none)
    (z_list : PySem.W.nsIn K mainGlobals "list" = some none)
    (z_range : PySem.W.nsIn K mainGlobals "range" = some none)
    (z_reversed : PySem.W.nsIn K mainGlobals "reversed" = some none)
    (z_isinstance : PySem.W.nsIn K mainGlobals "isinstance" = some none)
    (z_ValueError : PySem.W.nsIn K mainGlobals "ValueError" = some none)
    (z_sum : PySem.W.nsIn K mainGlobals "sum" = some none)
    (y_MOST : PySem.W.nsIn K mainGlobals "MOST" = some (some (.int 16 t_MOST)))
    (y_MOST_COUNTED : PySem.W.nsIn K mainGlobals "MOST_COUNTED" = some (some (.int 7 t_MOST_COUNTED))) :
    ∃ fd : FuncData, (∀ (s : Shared) (v : Value), BindsTo s fd ⟨[v], []⟩ [("script", v)]) ∧ ∀ base : Heap, K.In base → base.Ns mainGlobals mg → FnOk l.prog w K mg base CX0 5 fa fd ["script"] (spLaw K) := by
  have e := hfa.symm.trans (PySem.W.mg_of X G a14)
  cases e
  have F0 := fun_mk (st := s_ask) l0 c0 k0
  have b0 := F0.binds (ps := ["deck"]) fun _ _ _ _ _ _ us hl => match us, hl with | [_], _ => rfl
  have F1 := fun_mk (st := s_over) l1 c1 k1
  have b1 := F1.binds (ps := ["deck", "many"]) fun _ _ _ _ _ _ us hl => match us, hl with | [_, _], _ => rfl
  have F2 := fun_mk (st := s_game) l2 c2 k2
  have b2 := F2.binds (ps := ["deck"]) fun _ _ _ _ _ _ us hl => match us, hl with | [_], _ => rfl
  have F3 := fun_mk (st := s_tops) l3 c3 k3
  have b3 := F3.binds (ps := ["deck"]) fun _ _ _ _ _ _ us hl => match us, hl with | [_], _ => rfl
  have F4 := fun_mk (st := s_aheads) l4 c4 k4
  have b4 := F4.binds (ps := ["deck"]) fun _ _ _ _ _ _ us hl => match us, hl with | [_], _ => rfl
  have F5 := fun_mk (st := s_ends) l5 c5 k5
  have b5 := F5.binds (ps := ["size"]) fun _ _ _ _ _ _ us hl => match us, hl with | [_], _ => rfl
  have F6 := fun_mk (st := s_layers) l6 c6 k6
  have b6 := F6.binds (ps := ["size"]) fun _ _ _ _ _ _ us hl => match us, hl with | [_], _ => rfl
  have F7 := fun_mk (st := s_counts) l7 c7 k7
  have b7 := F7.binds (ps := ["size"]) fun _ _ _ _ _ _ us hl => match us, hl with | [_], _ => rfl
  have F8 := fun_mk (st := s_longest) l8 c8 k8
  have b8 := F8.binds (ps := ["size"]) fun _ _ _ _ _ _ us hl => match us, hl with | [_], _ => rfl
  have F9 := fun_mk (st := s_law_cell_at) l9 c9 k9
  have b9 := F9.binds (ps := ["script", "k"]) fun _ _ _ _ _ _ us hl => match us, hl with | [_, _], _ => rfl
  have F10 := fun_mk (st := s_law_deck) l10 c10 k10
  have b10 := F10.binds (ps := ["script", "at", "most"]) fun _ _ _ _ _ _ us hl => match us, hl with | [_, _, _], _ => rfl
  have F11 := fun_mk (st := s_law_over) l11 c11 k11
  have b11 := F11.binds (ps := ["deck", "many"]) fun _ _ _ _ _ _ us hl => match us, hl with | [_, _], _ => rfl
  have F12 := fun_mk (st := s_law_game) l12 c12 k12
  have b12 := F12.binds (ps := ["deck"]) fun _ _ _ _ _ _ us hl => match us, hl with | [_], _ => rfl
  have F13 := fun_mk (st := s_law_layers) l13 c13 k13
  have b13 := F13.binds (ps := ["size"]) fun _ _ _ _ _ _ us hl => match us, hl with | [_], _ => rfl
  have F14 := fun_mk (st := s_law) l14 c14 k14
  have b14 := F14.binds (ps := ["script"]) fun _ _ _ _ _ _ us hl => match us, hl with | [_], _ => rfl
  have T : Txt K mg { f_ask := f0, d_ask := PySem.W.fnOf "ask" "ask" (defArgs s_ask) (defBody s_ask) (defScope s_ask) .none kV0 dc0 pm0 an0 cd0 ct0, f_over := f1, d_over := PySem.W.fnOf "over" "over" (defArgs s_over) (defBody s_over) (defScope s_over) .none kV1 dc1 pm1 an1 cd1 ct1, f_game := f2, d_game := PySem.W.fnOf "game" "game" (defArgs s_game) (defBody s_game) (defScope s_game) .none kV2 dc2 pm2 an2 cd2 ct2, f_tops := f3, d_tops := PySem.W.fnOf "tops" "tops" (defArgs s_tops) (defBody s_tops) (defScope s_tops) .none kV3 dc3 pm3 an3 cd3 ct3, f_aheads := f4, d_aheads := PySem.W.fnOf "aheads" "aheads" (defArgs s_aheads) (defBody s_aheads) (defScope s_aheads) .none kV4 dc4 pm4 an4 cd4 ct4, f_ends := f5, d_ends := PySem.W.fnOf "ends" "ends" (defArgs s_ends) (defBody s_ends) (defScope s_ends) .none kV5 dc5 pm5 an5 cd5 ct5, f_layers := f6, d_layers := PySem.W.fnOf "layers" "layers" (defArgs s_layers) (defBody s_layers) (defScope s_layers) .none kV6 dc6 pm6 an6 cd6 ct6, f_counts := f7, d_counts := PySem.W.fnOf "counts" "counts" (defArgs s_counts) (defBody s_counts) (defScope s_counts) .none kV7 dc7 pm7 an7 cd7 ct7, f_longest := f8, d_longest := PySem.W.fnOf "longest" "longest" (defArgs s_longest) (defBody s_longest) (defScope s_longest) .none kV8 dc8 pm8 an8 cd8 ct8, f_law_cell_at := f9, d_law_cell_at := PySem.W.fnOf "_law_cell_at" "_law_cell_at" (defArgs s_law_cell_at) (defBody s_law_cell_at) (defScope s_law_cell_at) .none kV9 dc9 pm9 an9 cd9 ct9, f_law_deck := f10, d_law_deck := PySem.W.fnOf "_law_deck" "_law_deck" (defArgs s_law_deck) (defBody s_law_deck) (defScope s_law_deck) .none kV10 dc10 pm10 an10 cd10 ct10, f_law_over := f11, d_law_over := PySem.W.fnOf "_law_over" "_law_over" (defArgs s_law_over) (defBody s_law_over) (defScope s_law_over) .none kV11 dc11 pm11 an11 cd11 ct11, f_law_game := f12, d_law_game := PySem.W.fnOf "_law_game" "_law_game" (defArgs s_law_game) (defBody s_law_game) (defScope s_law_game) .none kV12 dc12 pm12 an12 cd12 ct12, f_law_layers := f13, d_law_layers := PySem.W.fnOf "_law_layers" "_law_layers" (defArgs s_law_layers) (defBody s_law_layers) (defScope s_law_layers) .none kV13 dc13 pm13 an13 cd13 ct13, f_law := fa, d_law := PySem.W.fnOf "law" "law" (defArgs s_law) (defBody s_law) (defScope s_law) .none kV14 dc14 pm14 an14 cd14 ct14, t_MOST := t_MOST, t_MOST_COUNTED := t_MOST_COUNTED } :=
    { n_len := PySem.W.mg_none_of X G z_len, n_sorted := PySem.W.mg_none_of X G z_sorted, n_list := PySem.W.mg_none_of X G z_list, n_range := PySem.W.mg_none_of X G z_range, n_reversed := PySem.W.mg_none_of X G z_reversed, n_isinstance := PySem.W.mg_none_of X G z_isinstance, n_ValueError := PySem.W.mg_none_of X G z_ValueError, n_sum := PySem.W.mg_none_of X G z_sum, g_MOST := PySem.W.mg_of X G y_MOST, g_MOST_COUNTED := PySem.W.mg_of X G y_MOST_COUNTED, F_ask := F0, g_ask := PySem.W.mg_of X G a0, b_ask := b0, F_over := F1, g_over := PySem.W.mg_of X G a1, b_over := b1, F_game := F2, g_game := PySem.W.mg_of X G a2, b_game := b2, F_tops := F3, g_tops := PySem.W.mg_of X G a3, b_tops := b3, F_aheads := F4, g_aheads := PySem.W.mg_of X G a4, b_aheads := b4, F_ends := F5, g_ends := PySem.W.mg_of X G a5, b_ends := b5, F_layers := F6, g_layers := PySem.W.mg_of X G a6, b_layers := b6, F_counts := F7, g_counts := PySem.W.mg_of X G a7, b_counts := b7, F_longest := F8, g_longest := PySem.W.mg_of X G a8, b_longest := b8, F_law_cell_at := F9, g_law_cell_at := PySem.W.mg_of X G a9, b_law_cell_at := b9, F_law_deck := F10, g_law_deck := PySem.W.mg_of X G a10, b_law_deck := b10, F_law_over := F11, g_law_over := PySem.W.mg_of X G a11, b_law_over := b11, F_law_game := F12, g_law_game := PySem.W.mg_of X G a12, b_law_game := b12, F_law_layers := F13, g_law_layers := PySem.W.mg_of X G a13, b_law_layers := b13, F_law := F14, g_law := PySem.W.mg_of X G a14, b_law := b14 }
  exact ⟨_, fun s v => .of_eq rfl, fun base _ _ => ok_law T⟩
end Tt
open PySem PySem.W PyProof.Rows
set_option maxHeartbeats 0 in
theorem PySem.Challenge.cw_topturn_k10_whole_counts_and_games_holds : PySem.Challenge.rw_topturn_k10_whole_counts_and_games.Holds := by
  w_on; o_law; k_head; (case hw => w_witness2)
  k_fill
  refine L2.walk_of (l := PySem.Challenge.rw_topturn_k10_whole_counts_and_games) (n := 63) (k := 5) (x := "script") (CX := fun _ => L2.CX0) (sp := fun w => Tt.spLaw _) rfl (by decide) rfl ⟨rfl, by decide, by decide⟩ (fun w h Y => PySem.W.kIn_of Y) ?F (fun _ _ a ns hl _ hS => ⟨a, ns, rfl, hS, hl, fun _ => rfl⟩) (fun _ _ _ _ _ h => h)
  case F =>
    intro w mg fa h KX G hmg
    refine' Tt.all_mk KX G hmg ?a0 ?l0 ?c0 ?k0 ?a1 ?l1 ?c1 ?k1 ?a2 ?l2 ?c2 ?k2 ?a3 ?l3 ?c3 ?k3 ?a4 ?l4 ?c4 ?k4 ?a5 ?l5 ?c5 ?k5 ?a6 ?l6 ?c6 ?k6 ?a7 ?l7 ?c7 ?k7 ?a8 ?l8 ?c8 ?k8 ?a9 ?l9 ?c9 ?k9 ?a10 ?l10 ?c10 ?k10 ?a11 ?l11 ?c11 ?k11 ?a12 ?l12 ?c12 ?k12 ?a13 ?l13 ?c13 ?k13 ?a14 ?l14 ?c14 ?k14 ?z_len ?z_sorted ?z_list ?z_range ?z_reversed ?z_isinstance ?z_ValueError ?z_sum ?y_MOST ?y_MOST_COUNTED
    (case a0 => k_is)
    (case l0 => k_is)
    (case c0 => k_is)
    (case k0 => k_is)
    (case a1 => k_is)
    (case l1 => k_is)
    (case c1 => k_is)
    (case k1 => k_is)
    (case a2 => k_is)
    (case l2 => k_is)
    (case c2 => k_is)
    (case k2 => k_is)
    (case a3 => k_is)
    (case l3 => k_is)
    (case c3 => k_is)
    (case k3 => k_is)
    (case a4 => k_is)
    (case l4 => k_is)
    (case c4 => k_is)
    (case k4 => k_is)
    (case a5 => k_is)
    (case l5 => k_is)
    (case c5 => k_is)
    (case k5 => k_is)
    (case a6 => k_is)
    (case l6 => k_is)
    (case c6 => k_is)
    (case k6 => k_is)
    (case a7 => k_is)
    (case l7 => k_is)
    (case c7 => k_is)
    (case k7 => k_is)
    (case a8 => k_is)
    (case l8 => k_is)
    (case c8 => k_is)
    (case k8 => k_is)
    (case a9 => k_is)
    (case l9 => k_is)
    (case c9 => k_is)
    (case k9 => k_is)
    (case a10 => k_is)
    (case l10 => k_is)
    (case c10 => k_is)
    (case k10 => k_is)
    (case a11 => k_is)
    (case l11 => k_is)
    (case c11 => k_is)
    (case k11 => k_is)
    (case a12 => k_is)
    (case l12 => k_is)
    (case c12 => k_is)
    (case k12 => k_is)
    (case a13 => k_is)
    (case l13 => k_is)
    (case c13 => k_is)
    (case k13 => k_is)
    (case a14 => k_is)
    (case l14 => k_is)
    (case c14 => k_is)
    (case k14 => k_is)
    (case z_len => k_is)
    (case z_sorted => k_is)
    (case z_list => k_is)
    (case z_range => k_is)
    (case z_reversed => k_is)
    (case z_isinstance => k_is)
    (case z_ValueError => k_is)
    (case z_sum => k_is)
    (case y_MOST => k_is)
    (case y_MOST_COUNTED => k_is)
