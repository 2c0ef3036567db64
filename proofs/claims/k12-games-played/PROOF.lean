import PyProof.Rows.All
import Wide.All
import OpenK.AllK
import Wide.FinOn
import PyProof.EqAt
import PyProof.EqKinds
import PyProof.TupleCall
import PyProof.Rows.FactsT2
import KE.KRevIter
import HandS.ForMost
import HandS.ForExc
import HandS.Evl
import HandS.Conv
import HandS.SortInts
import HandS.IsInst
import HandS.SetFor
import HandS.Rev
import HandS.ExcCtx
import HandS.HotCalls
import HandS.ExcIs
import PySem.Challenge.RW_topturn_k12_whole_games_played
set_option Elab.async false
set_option linter.all false
set_option maxRecDepth 100000
set_option maxHeartbeats 4000000

/-! The mathematics of the turned cards, in plain Lean. -/
namespace Tt
/-- the cards 1 .. n -/
def rng (n : Nat) : List Int := (List.range n).map fun i => (1 : Int) + (i : Nat)
theorem rng_len (n : Nat) : (rng n).length = n := by simp [rng]
theorem rng_get {n i : Nat} (h : i < n) : (rng n)[i]? = some ((1 : Int) + (i : Nat)) := by
  unfold rng
  rw [List.getElem?_map, List.getElem?_range h]
  rfl
theorem mem_rng {n : Nat} {x : Int} : x ∈ rng n ↔ 1 ≤ x ∧ x ≤ n := by
  unfold rng
  rw [List.mem_map]
  constructor
  · rintro ⟨i, hi, rfl⟩
    have := List.mem_range.mp hi
    omega
  · intro h
    exact ⟨(x - 1).toNat, List.mem_range.mpr (by omega), by omega⟩
theorem rng_lt (n : Nat) : (rng n).Pairwise (· < ·) := by
  unfold rng
  rw [List.pairwise_map]
  refine List.Pairwise.imp ?_ List.pairwise_lt_range
  intro a b h
  omega
theorem rng_le (n : Nat) : (rng n).Pairwise (· ≤ ·) := (rng_lt n).imp fun h => Int.le_of_lt h
theorem rng_nodup (n : Nat) : (rng n).Nodup := (rng_lt n).imp fun h => Int.ne_of_lt h
theorem rng_succ (n : Nat) : rng (n + 1) = rng n ++ [(1 : Int) + (n : Nat)] := by
  unfold rng
  rw [List.range_succ, List.map_append]
  rfl

/-- a deck, of whatever size -/
def IsDk (d : List Int) : Prop := d.Perm (rng d.length)
theorem IsDk.nodup {d : List Int} (h : IsDk d) : d.Nodup := h.symm.nodup (rng_nodup _)
theorem IsDk.mem {d : List Int} (h : IsDk d) {x : Int} : x ∈ d ↔ 1 ≤ x ∧ x ≤ d.length := by
  rw [h.mem_iff, mem_rng]
theorem IsDk.at {d : List Int} (h : IsDk d) {i : Nat} {x : Int} (e : d[i]? = some x) : 1 ≤ x ∧ x ≤ d.length := h.mem.mp (List.mem_of_getElem? e)
theorem IsDk.perm {d e : List Int} (h : IsDk d) (p : e.Perm d) : IsDk e := by
  unfold IsDk
  rw [p.length_eq]
  exact p.trans h
/-- sorted and alike -/
theorem sorted_rng {l : List Int} {n : Nat} (p : l.Perm (rng n)) (s : l.Pairwise (· ≤ ·)) : l = rng n :=
  p.eq_of_pairwise (fun a b _ _ h1 h2 => Int.le_antisymm h1 h2) s (rng_le n)
theorem isDk_iff {d l : List Int} (p : l.Perm d) (s : l.Pairwise (· ≤ ·)) : l = rng d.length ↔ IsDk d :=
  ⟨fun e => by unfold IsDk; rw [← e]; exact p.symm, fun h => sorted_rng (p.trans h) s⟩
theorem two_at {d : List Int} (h : d.Nodup) {i j : Nat} {x : Int} (a : d[i]? = some x) (b : d[j]? = some x) : i = j := by
  obtain ⟨h1, e1⟩ := List.getElem?_eq_some_iff.mp a
  obtain ⟨h2, e2⟩ := List.getElem?_eq_some_iff.mp b
  exact (List.getElem_inj h).mp (e1.trans e2.symm)

/-- the first k turned over -/
def ov (d : List Int) (k : Int) : List Int := (d.take k.toNat).reverse ++ d.drop k.toNat
theorem ov_perm (d : List Int) (k : Int) : (ov d k).Perm d := by
  unfold ov
  exact ((List.reverse_perm _).append_right _).trans (List.Perm.of_eq (List.take_append_drop _ _))
theorem ov_len (d : List Int) (k : Int) : (ov d k).length = d.length := (ov_perm d k).length_eq
theorem IsDk.ov {d : List Int} (h : IsDk d) (k : Int) : IsDk (ov d k) := h.perm (ov_perm d k)
theorem ov_ov (d : List Int) {k : Int} (h : k ≤ d.length) : ov (ov d k) k = d := by
  have e : ((d.take k.toNat).reverse).length = k.toNat := by rw [List.length_reverse, List.length_take]; omega
  unfold ov
  rw [List.take_append_of_le_length (by omega), List.take_of_length_le (by omega), List.reverse_reverse, List.drop_append_of_le_length (by omega), List.drop_of_length_le (by omega), List.nil_append, List.take_append_drop]
theorem ov_lo {d : List Int} {k : Int} {i : Nat} (h : k ≤ d.length) (hi : (i : Int) < k) : (ov d k)[i]? = d[k.toNat - 1 - i]? := by
  have e : ((d.take k.toNat).reverse).length = k.toNat := by rw [List.length_reverse, List.length_take]; omega
  have e2 : (d.take k.toNat).length = k.toNat := by rw [List.length_take]; omega
  unfold ov
  rw [List.getElem?_append_left (by omega), List.getElem?_reverse (by omega), List.getElem?_take_of_lt (by omega), e2]
theorem ov_hi {d : List Int} {k : Int} {i : Nat} (h0 : 0 ≤ k) (h : k ≤ d.length) (hi : k ≤ i) : (ov d k)[i]? = d[i]? := by
  have e : ((d.take k.toNat).reverse).length = k.toNat := by rw [List.length_reverse, List.length_take]; omega
  unfold ov
  rw [List.getElem?_append_right (by omega), List.getElem?_drop, e]
  congr 1
  omega
theorem ov_top {d : List Int} {k : Int} (h1 : 1 ≤ k) (h : k ≤ d.length) : (ov d k)[0]? = d[k.toNat - 1]? := ov_lo h (by omega)
theorem ov_end {d : List Int} {k : Int} (h1 : 1 ≤ k) (h : k ≤ d.length) : (ov d k)[k.toNat - 1]? = d[0]? := by
  rw [ov_lo h (by omega)]
  congr 1
  omega
/-- the law's own way to turn over -/
def lov (d : List Int) (k : Int) : List Int := (List.range k.toNat).map (fun i : Nat => d.getD (k - 1 - (i : Int)).toNat 0) ++ d.drop k.toNat
theorem lov_eq {d : List Int} {k : Int} (h : k ≤ d.length) : lov d k = ov d k := by
  unfold lov ov
  congr 1
  refine List.ext_getElem? fun i => ?_
  by_cases hi : i < k.toNat
  · have e2 : (d.take k.toNat).length = k.toNat := by rw [List.length_take]; omega
    rw [List.getElem?_map, List.getElem?_range hi, List.getElem?_reverse (by omega), e2, List.getElem?_take_of_lt (by omega)]
    have e3 : (k - 1 - (i : Int)).toNat = k.toNat - 1 - i := by omega
    simp only [Option.map_some, e3]
    rw [List.getD_eq_getElem?_getD, List.getElem?_eq_getElem (by omega)]
    rfl
  · rw [List.getElem?_eq_none (by simp; omega), List.getElem?_eq_none (by simp; omega)]

/-! ### games -/
inductive Gm : List Int → List Int → List Int → Prop where
  | stop {d : List Int} : d[0]? = some 1 → Gm d [] d
  | turn {d ts e : List Int} {k : Int} : d[0]? = some k → k ≠ 1 → Gm (ov d k) ts e → Gm d (k :: ts) e
theorem Gm.det {d ts e : List Int} (g : Gm d ts e) : ∀ {ts' e' : List Int}, Gm d ts' e' → ts' = ts ∧ e' = e := by
  induction g with
  | stop h =>
    intro ts' e' g'
    cases g' with
    | stop _ => exact ⟨rfl, rfl⟩
    | turn h' n _ => rw [h] at h'; exact absurd (Option.some.inj h').symm n
  | turn h n _ ih =>
    intro ts' e' g'
    cases g' with
    | stop h' => rw [h] at h'; exact absurd (Option.some.inj h') n
    | turn h' n' g2 =>
      rw [h] at h'
      cases Option.some.inj h'
      obtain ⟨e1, e2⟩ := ih g2
      exact ⟨by rw [e1], e2⟩
/-- a deck that is won by k's place -/
def inPl (d : List Int) (k : Nat) : Bool := decide (d[k + 1]? = some ((k : Int) + 2))
/-- worths below m -/
def W (f : Nat → Bool) : Nat → Nat
  | 0 => 0
  | m + 1 => W f m + if f m = true then 2 ^ m else 0
theorem W_lt (f : Nat → Bool) : ∀ m, W f m < 2 ^ m
  | 0 => Nat.one_pos
  | m + 1 => by
    have h := W_lt f m
    unfold W
    have e : 2 ^ (m + 1) = 2 ^ m + 2 ^ m := by rw [Nat.pow_succ]; omega
    split <;> omega
theorem W_congr {f g : Nat → Bool} : ∀ {m : Nat}, (∀ i, i < m → f i = g i) → W f m = W g m
  | 0, _ => rfl
  | m + 1, h => by
    unfold W
    rw [W_congr fun i hi => h i (by omega), h m (by omega)]
theorem W_rise {f g : Nat → Bool} {j : Nat} (hj : f j = false) (hg : g j = true) : ∀ {m : Nat}, j < m → (∀ i, j < i → i < m → f i = g i) → W f m < W g m
  | 0, h, _ => by omega
  | m + 1, h, a => by
    unfold W
    by_cases e : j = m
    · subst e
      have := W_lt f j
      rw [hj, hg]
      simp
      omega
    · have ih := W_rise hj hg (m := m) (by omega) fun i h1 h2 => a i h1 (by omega)
      rw [a m (by omega) (by omega)]
      split <;> omega
def wt (d : List Int) : Nat := W (inPl d) (d.length - 1)
theorem wt_lt (d : List Int) : wt d < 2 ^ (d.length - 1) := W_lt _ _
theorem wt_rise {d : List Int} {k : Int} (h : IsDk d) (h0 : d[0]? = some k) (hk : k ≠ 1) : wt d < wt (ov d k) := by
  obtain ⟨k1, k2⟩ := h.at h0
  have ek : k.toNat - 2 + 1 = k.toNat - 1 := by omega
  unfold wt
  rw [ov_len]
  refine W_rise (j := k.toNat - 2) ?_ ?_ (by omega) fun i h1 h2 => ?_
  · unfold inPl
    refine decide_eq_false fun e => ?_
    have e3 : ((k.toNat - 2 : Nat) : Int) + 2 = k := by omega
    rw [e3] at e
    have := two_at h.nodup h0 e
    omega
  · unfold inPl
    refine decide_eq_true ?_
    rw [ek, ov_end k1 k2, h0]
    congr 1
    omega
  · unfold inPl
    rw [ov_hi (by omega) k2 (by omega)]
/-- each game ends; as many turns at most as the weight grows -/
theorem Gm.ends : ∀ (m : Nat) (d : List Int), IsDk d → 0 < d.length → 2 ^ (d.length - 1) - wt d ≤ m → ∃ ts e, Gm d ts e
  | m, d, h, h0, hm => by
    obtain ⟨k, hk⟩ : ∃ k, d[0]? = some k := ⟨d[0], List.getElem?_eq_getElem h0⟩
    by_cases h1 : k = 1
    · subst h1
      exact ⟨[], d, .stop hk⟩
    · have r := wt_rise h hk h1
      have l := wt_lt (ov d k)
      rw [ov_len] at l
      cases m with
      | zero => omega
      | succ m =>
        obtain ⟨ts, e, g⟩ := Gm.ends m (ov d k) (h.ov k) (by rw [ov_len]; exact h0) (by rw [ov_len]; omega)
        exact ⟨k :: ts, e, .turn hk h1 g⟩
theorem Gm.all {d : List Int} (h : IsDk d) (h0 : 0 < d.length) : ∃ ts e, Gm d ts e := Gm.ends _ d h h0 (Nat.le_refl _)
theorem Gm.perm {d ts e : List Int} (g : Gm d ts e) : e.Perm d := by
  induction g with
  | stop _ => exact .refl _
  | turn _ _ _ ih => exact ih.trans (ov_perm _ _)
theorem Gm.one {d ts e : List Int} (g : Gm d ts e) : e[0]? = some 1 := by
  induction g with
  | stop h => exact h
  | turn _ _ _ ih => exact ih
theorem Gm.wt {d ts e : List Int} (g : Gm d ts e) : IsDk d → ts.length + wt d ≤ wt e := by
  induction g with
  | stop _ => intro _; simp
  | turn h n _ ih =>
    intro hd
    have := ih (hd.ov _)
    have := wt_rise hd h n
    simp only [List.length_cons]
    omega
theorem Gm.short {d ts e : List Int} (g : Gm d ts e) (h : IsDk d) : ts.length < 2 ^ (d.length - 1) := by
  have h1 := g.wt h
  have h2 := wt_lt e
  rw [g.perm.length_eq] at h2
  omega

/-! ### backwards -/
def bk (d : List Int) (t : Int) : Option (List Int) := if 2 ≤ t ∧ t ≤ d.length ∧ d[t.toNat - 1]? = some t then some (ov d t) else none
def bks : List Int → List Int → Option (List Int)
  | d, [] => some d
  | d, t :: r => (bk d t).bind fun x => bks x r
theorem bks_append : ∀ (d l r : List Int), bks d (l ++ r) = (bks d l).bind fun x => bks x r
  | d, [], r => rfl
  | d, t :: l, r => by
    show (bk d t).bind (fun x => bks x (l ++ r)) = ((bk d t).bind fun x => bks x l).bind fun x => bks x r
    cases e : bk d t with
    | none => rfl
    | some x => exact bks_append x l r
theorem bk_len {d x : List Int} {t : Int} (h : bk d t = some x) : x.length = d.length := by
  unfold bk at h
  split at h
  · rw [← Option.some.inj h, ov_len]
  · cases h
theorem bk_perm {d x : List Int} {t : Int} (h : bk d t = some x) : x.Perm d := by
  unfold bk at h
  split at h
  · rw [← Option.some.inj h]
    exact ov_perm _ _
  · cases h
theorem bk_some {d x : List Int} {t : Int} (h : bk d t = some x) : 2 ≤ t ∧ t ≤ d.length ∧ d[t.toNat - 1]? = some t ∧ x = ov d t := by
  unfold bk at h
  split at h
  · rename_i c
    exact ⟨c.1, c.2.1, c.2.2, (Option.some.inj h).symm⟩
  · cases h
theorem bk_turn {d : List Int} {k : Int} (h : IsDk d) (h0 : d[0]? = some k) (hk : k ≠ 1) : bk (ov d k) k = some d := by
  obtain ⟨k1, k2⟩ := h.at h0
  unfold bk
  rw [if_pos ⟨by omega, by rw [ov_len]; exact k2, by rw [ov_end (by omega) k2, h0]⟩, ov_ov d k2]
theorem Gm.back {d ts e : List Int} (g : Gm d ts e) : IsDk d → bks e ts.reverse = some d := by
  induction g with
  | stop _ => intro _; rfl
  | turn h n _ ih =>
    intro hd
    rw [List.reverse_cons, bks_append, ih (hd.ov _)]
    show (bk _ _).bind (fun x => bks x []) = _
    rw [bk_turn hd h n]
    rfl
/-- the test that a top fails -/
def bkT (d : List Int) (t : Int) : Bool := decide (t < 2) || (decide ((d.length : Int) < t) || !decide (d.getD (t.toNat - 1) 0 = t))
theorem bkT_yes {d : List Int} {t : Int} (h : bkT d t = true) : bk d t = none := by
  unfold bk
  rw [if_neg]
  rintro ⟨h1, h2, h3⟩
  unfold bkT at h
  rw [List.getD_eq_getElem?_getD, h3] at h
  simp at h
  omega
theorem bkT_no {d : List Int} {t : Int} (h : bkT d t = false) : 2 ≤ t ∧ t ≤ d.length ∧ bk d t = some (ov d t) := by
  unfold bkT at h
  simp only [Bool.or_eq_false_iff, decide_eq_false_iff_not, Bool.not_eq_false', decide_eq_true_eq] at h
  obtain ⟨h1, h2, h3⟩ := h
  have hlt : t.toNat - 1 < d.length := by omega
  rw [List.getD_eq_getElem?_getD, List.getElem?_eq_getElem hlt] at h3
  have e3 : d[t.toNat - 1]? = some t := (List.getElem?_eq_getElem hlt).trans (congrArg some h3)
  exact ⟨by omega, by omega, if_pos ⟨by omega, by omega, e3⟩⟩
/-- the deck whose game has this end and these tops, if any -/
def bksO (e ts : List Int) : Option (List Int) := if e[0]? = some 1 then bks e ts.reverse else none
end Tt

/-! Own rules: a list made of the reversed items of a list. -/
namespace RvL
open PySem PySem.Spec PyProof.Rows RT
section
variable {prog : Program} {w : World} {A : Around} {E : Value → Shared → Prop} {s : Shared}
theorem ext_rev {R : Result → Shared → Prop} {it l S : Addr} {items : Array Value} (hh : A.handled = none) (hit : s.heap.IsRevIter it l ((items.size : Int) - 1)) (hl : s.heap.IsList l items) (hne : l ≠ it) (hn : items.size ≤ sizeLine)
    (hSi : S ≠ it) (hSl : S ≠ l) (res : Value) (c₀ : Nat) (hS : s.heap.get? S = some { cls := .type "list", data := .seq #[] c₀ })
    (hR : ∀ h' tk acc' c', (∀ b o, b ≠ S → b ≠ it → s.heap.get? b = some o → h'.get? b = some o) → h'.get? S = some { cls := .type "list", dict := none, data := .seq acc' c', slots := #[] } →
      ItemsOf (fun i v => items[items.size - 1 - i]? = some v) acc' items.size → R (.ok (.ret res)) { s with heap := h', toks := tk }) :
    wpAny (model prog w) A.in1 (Builtin.List.listExtendWith (.ref S) (.ref it) res)
      (fun fin s' => match fin with | .done f => R (.ok f) s' | .again c' => c'.quiet = true ∧ codeAny (model prog w) A c' R s') (fun e s' => R (.error e) s') s := by
  have W := (Walks.listRev (prog := prog) (w := w) (A := A.in1) hh it l hne items).toS
  have hSf : S ∉ [it, l] := by simp only [List.mem_cons, List.not_mem_nil, or_false, not_or]; exact ⟨hSi, hSl⟩
  have hT : s.TypeIs (.ref it) "list_reverseiterator" := hit.typeIs
  have h1 : Builtin.List.listSameRef (.ref S) (.ref it) = false := by simp [Builtin.List.listSameRef, hSi]
  unfold Builtin.List.listExtendWith
  refine wpAny_bind (wpAny_typeOf hT ?_)
  rw [if_neg (by rw [h1]; decide)]
  refine wpAny_bind (wpAny_pyIter_revIter hit ?_)
  refine wpAny_bind (wpAny_holding ?_)
  unfold Builtin.List.listLengthHint
  refine wpAny_bind (wpAny_specialOf hT nolen_lri ?_)
  show wpAny _ A.in1 (specialOf (Value.ref it) (Str.ofString "__length_hint__") >>= _) _ _ _
  refine wpAny_bind (wpAny_specialOf hT hint_lri ?_)
  generalize hid : ("list_reverseiterator.__length_hint__" : String) = id0
  wp_delta
  rw [show splitId id0 = some ("list_reverseiterator", "__length_hint__") from by subst hid; decide +kernel]
  subst hid
  refine wpAny_bind (wpAny_isInstance (b := true) hT (by rw [isSubtype_type]; kernel_rfl) ?_)
  refine wpAny_pure ?_
  rw [if_neg (by decide)]
  have e0 : ((items.size : Nat) : Int) - 1 - ((0 : Nat) : Int) = (items.size : Int) - 1 := by omega
  refine wpAny_pure ⟨plainId_quiet F.plain_extend_loop _, codeAny_extend_loopS W hn _ hSf _ items.size 0 _ _ _ rfl (Nat.zero_le _) ⟨Nat.zero_le _, by rw [e0]; exact hit, hl⟩ hS (ItemsOf.nil _) fun s' acc' c' hm hS' hacc => ?_⟩
  rw [Moved.eq_with hm]
  refine hR s'.heap s'.toks acc' c' (fun b o hb hbi e => hm.heap b o (fun hmem => ?_) e) hS' hacc
  rcases List.mem_cons.mp hmem with e' | hmem
  · exact hb e'
  · exact hbi (List.mem_singleton.mp hmem)
theorem init_rev {R : Result → Shared → Prop} {it l S : Addr} {items : Array Value} (hh : A.handled = none) (hit : s.heap.IsRevIter it l ((items.size : Int) - 1)) (hl : s.heap.IsList l items) (hne : l ≠ it) (hn : items.size ≤ sizeLine)
    (hSi : S ≠ it) (hSl : S ≠ l) (hS : s.heap.get? S = some { cls := .type "list", data := .seq #[] })
    (hR : ∀ h' tk acc' c', (∀ b o, b ≠ S → b ≠ it → s.heap.get? b = some o → h'.get? b = some o) → h'.get? S = some { cls := .type "list", dict := none, data := .seq acc' c', slots := #[] } →
      ItemsOf (fun i v => items[items.size - 1 - i]? = some v) acc' items.size → R (.ok (.ret .none)) { s with heap := h', toks := tk }) :
    wpAny (model prog w) A.in1 (Builtin.«list.__init__» ⟨[.ref S, .ref it], []⟩)
      (fun fin s' => match fin with | .done f => R (.ok f) s' | .again c' => c'.quiet = true ∧ codeAny (model prog w) A c' R s') (fun e s' => R (.error e) s') s := by
  show wpAny _ _ (do let old ← Builtin.List.listItems (.ref S); Builtin.List.listUpdate (.ref S) (fun _ => #[]); letGo old.toList.reverse; Builtin.List.listExtendWith (.ref S) (.ref it) .none) _ _ s
  refine wpAny_bind ?_
  unfold Builtin.List.listItems
  refine wpAny_bind (wpAny_seqItems hS rfl (wpAny_pure ?_))
  show wpAny _ _ (updateSeq S (fun _ => #[]) >>= fun _ => letGo (#[] : Array Value).toList.reverse >>= fun _ => Builtin.List.listExtendWith (.ref S) (.ref it) .none) _ _ s
  refine wpAny_bind (wpAny_updateSeq hS rfl ?_)
  have hS₂ := Heap.get?_update_self (Obj.mapSeq (fun _ => (#[] : Array Value))) hS rfl
  have oth : ∀ b o, b ≠ S → s.heap.get? b = some o → (s.heap.update S (Obj.mapSeq (fun _ => (#[] : Array Value)))).get? b = some o :=
    fun b o hb e => (Heap.get?_update_other _ _ (Ne.symm hb)).trans e
  refine wpAny_bind (wpAny_letGo ?_)
  refine ext_rev (s := { s with heap := s.heap.update S (Obj.mapSeq (fun _ => (#[] : Array Value))) }) hh (hit.at fun o e => oth _ _ (Ne.symm hSi) e) (hl.at fun o e => oth _ _ (Ne.symm hSl) e) hne hn hSi hSl .none _ hS₂ fun h' tk acc' c' hk hS' hacc => ?_
  exact hR h' tk acc' c' (fun b o hb hbi e => hk b o hb hbi (oth b o hb e)) hS' hacc
theorem call_list_rev {Q : Value → Shared → Prop} {it l : Addr} {items : Array Value} (hh : A.handled = none) (hit : s.heap.IsRevIter it l ((items.size : Int) - 1)) (hl : s.heap.IsList l items) (hne : l ≠ it) (hn : items.size ≤ sizeLine)
    (hQ : ∀ h' tk acc' c', (∀ b o, b ≠ it → s.heap.get? b = some o → h'.get? b = some o) →
      h'.get? s.heap.objs.size = some { cls := .type "list", dict := none, data := .seq acc' c', slots := #[] } → ItemsOf (fun i v => items[items.size - 1 - i]? = some v) acc' items.size → Q (.ref s.heap.objs.size) { s with heap := h', toks := tk }) :
    wpAny (model prog w) A (call (.type "list") [.ref it]) Q E s := by
  obtain ⟨oi, hoi, _⟩ := id hit
  obtain ⟨ol, hol, _⟩ := id hl
  refine callType_codes (Q₁ := fun obj s₁ => obj = .ref s.heap.objs.size ∧ s₁ = { s with heap := s.heap.push { cls := .type "list", data := .seq #[] } }) F.called_list (F.typeCall_list_1 _) F.entry_list_init
    (code_list_new _ ⟨rfl, rfl⟩) fun obj s₁ h₁ => ?_
  obtain ⟨rfl, rfl⟩ := h₁
  have hS : (s.heap.push { cls := .type "list", data := .seq #[] }).get? s.heap.objs.size = some { cls := .type "list", data := .seq #[] } := Heap.get?_push_size _ rfl
  refine ⟨⟨_, hS, rfl⟩, F.args_list_init_2 _ _, init_rev (A := A.in1) (s := { s with heap := s.heap.push { cls := .type "list", data := .seq #[] } }) hh (hit.at fun o e => Heap.get?_push_of_some _ e) (hl.push _) hne hn (Nat.ne_of_gt (Heap.lt_size hoi)) (Nat.ne_of_gt (Heap.lt_size hol)) hS fun h' tk acc' c' hk hS' hacc => ?_⟩
  exact ⟨rfl, hQ h' tk acc' c' (fun b o hb e => hk b o (Nat.ne_of_lt (Heap.lt_size e)) hb (Heap.get?_push_of_some _ e)) hS' hacc⟩
end
end RvL
namespace L2
open PySem PySem.Spec PyProof.Rows RT RvL
/-- an untracked new object is tracked from here on -/
theorem Inv.track {X : Cx} {pins : List (Addr × Obj)} {σ : St} {H : Hp} {s : Shared} {S : Addr} {o : HO} (I : Inv X pins σ H s) (fp : FpOk X pins H S) (new : ObjOk X.prog X.w (upd H S o) s.heap S o) : Inv X pins σ (upd H S o) s := by
  obtain ⟨f0, f1, f2, f3, f4, f5⟩ := fp
  refine I.step (h' := s.heap) (t' := s.toks) (g' := s.gens) (d' := s.drawn) (ch := [S]) (fun b hb => ?_) (fun b o _ _ _ e _ => e) (fun b o _ _ _ e _ => ⟨o.slots, e⟩) (fun b o hc _ n => ?_) (fun b o _ e => ⟨o, e⟩)
    (fun b xs e => by rw [upd_ne (ne_of_none e f0)]; exact e) (fun b ob u e => by rw [upd_ne (ne_of_none e f0)]; exact e) (fun b ps e => ⟨#[], by rw [upd_ne (ne_of_none e f0), e]; simp⟩) (fun m hm => hm) (fun b u e => ?_) I.bare
  · have e : b = S := by simpa using hb
    subst e
    exact ⟨f3, f1, f4, f5⟩
  · rw [upd_ne (fun z => hc (by simp [z]))]
    exact n
  · by_cases hb : b = S
    · subst hb
      rw [upd_same] at e
      cases e
      exact new
    · rw [upd_ne hb] at e
      exact (I.hok b u e).stay (fun c v _ q => q) (fun c q => by rw [upd_ne (ne_of_none q f0)]; exact q) fun c xs q => by rw [upd_ne (ne_of_none q f0)]; exact q
def tLstRev (K : PySem.W.Frag) (te : TE) : TE := fun σ H Q => te σ H fun v H1 => ∃ (a : Addr) (xs : List V), v = .ref a ∧ SqL K H1 a xs ∧ ∀ q, H1 q = none → Q (.ref q) (upd H1 q (.lst xs.reverse))
section
variable {X : Cx}
theorem pe_listRev {e : Expr} {te : TE} {p p2 pos pos2 : Pos} (hc : X.calm = true) (hg : Gl X "list") (hm : X.mg "list" = none) (hg2 : Gl X "reversed") (hm2 : X.mg "reversed" = none) (he : PE X e te)
    (hs : starEach [e] X.env = (false, eval e X.env) :: starEach [] X.env := by rfl)
    (hs2 : starEach [.Call (.Name "reversed" p2) [e] [] pos2] X.env = (false, eval (.Call (.Name "reversed" p2) [e] [] pos2) X.env) :: starEach [] X.env := by rfl) :
    PE X (.Call (.Name "list" p) [.Call (.Name "reversed" p2) [e] [] pos2] [] pos) (tLstRev X.K te) := by
  refine ⟨fun pins s σ H Q I h => ?_⟩
  refine Call_ (ld_blt I hg hm boot_list (PyProof.Rows.callWith_type1 (args_cons (Call_ (ld_blt I hg2 hm2 PyProof.Rows.boot_reversed (PyProof.Rows.callWith_type1 (args_cons (thn (he.run pins s σ H _ I h) fun u s1 ⟨v, H1, I1, r1, q1⟩ => args_nil ?_) hs) hs rfl))) hs2) hs2 rfl))
  obtain ⟨a, xs, ev, hq, q⟩ := q1
  subst ev
  obtain rfl : u = Value.ref a := r1
  obtain ⟨its, rv, p', hz⟩ := I1.list hq
  refine call_reversed_list p'.isList (args_nil ?_)
  have k0 : ∀ b o, s1.heap.get? b = some o → (s1.heap.push (revObj a ((its.toArray.size : Int) - 1))).get? b = some o := fun b o e => Heap.get?_push_of_some _ e
  have I2 : Inv X pins σ H1 { s1 with heap := s1.heap.push (revObj a ((its.toArray.size : Int) - 1)) } := I1.kept (t' := s1.toks) k0
  obtain ⟨f0, f1, f2, f3, f4, f5⟩ := I1.fpOk (H' := H1) (b := s1.heap.objs.size) (Nat.le_refl _) (I1.hok.fresh (Nat.le_refl _))
  have hl := p'.isList
  obtain ⟨ol, hol, _⟩ := id hl
  have hne : a ≠ s1.heap.objs.size := Nat.ne_of_lt (Heap.lt_size hol)
  have hn : its.toArray.size ≤ sizeLine := by rw [List.size_toArray, ← rv.length]; exact hz
  refine call_list_rev (s := { s1 with heap := s1.heap.push (revObj a ((its.toArray.size : Int) - 1)) }) (I1.ok.hd hc) ⟨_, Heap.get?_push_size _ rfl, rfl, rfl⟩ (hl.push _) hne hn fun h' tk acc c' hk e' hi => ?_
  have hsz : (s1.heap.push (revObj a ((its.toArray.size : Int) - 1))).objs.size = s1.heap.objs.size + 1 := Heap.size_push ..
  have hfr : H1 (s1.heap.objs.size + 1) = none := I1.hok.fresh (Nat.le_succ _)
  rw [hsz] at e'
  have I3 : Inv X pins σ H1 { s1 with heap := h', toks := tk } := I2.turned (t' := tk) (fun b o hb e => hk b o hb e) f0 f1 f3 f4 f5
  have hz2 : (s1.heap.push (revObj a ((its.toArray.size : Int) - 1))).objs.size ≤ s1.heap.objs.size + 1 := Nat.le_of_eq hsz
  refine ⟨.ref (s1.heap.objs.size + 1), upd H1 (s1.heap.objs.size + 1) (.lst xs.reverse), ?_, by rw [hsz]; rfl, q _ hfr⟩
  exact I3.track (I2.fpOk (H' := H1) (b := s1.heap.objs.size + 1) hz2 hfr) (show ObjOk X.prog X.w _ _ _ (.lst xs.reverse) from ⟨by rw [List.length_reverse]; exact hz, acc.toList, c', vals_rev rv hi, by rw [Array.toArray_toList]; exact e'⟩)
end
end L2

/-! What the readings come to: lists of ints. -/
namespace Tt
open PySem PySem.Spec PyProof.Rows L2 Evl

/-! ### data that is compared -/
structure Dat {α : Type} [DecidableEq α] (f : α → PyData) (n : Nat) : Prop where
  eq : ∀ a b, PyData.eqv (f a) (f b) = decide (a = b)
  can : ∀ a, (f a).canLay0 = true
  dep : ∀ a, (f a).depth ≤ n
theorem Dat.int : Dat PyData.int 0 := ⟨fun a b => by simp [PyData.eqv, BEq.beq], fun _ => rfl, fun _ => by simp [PyData.depth]⟩
theorem Dat.bool : Dat PyData.bool 0 := ⟨fun a b => by cases a <;> cases b <;> rfl, fun _ => rfl, fun _ => by simp [PyData.depth]⟩
theorem Dat.list {α : Type} [DecidableEq α] {f : α → PyData} {n : Nat} (d : Dat f n) : Dat (fun l : List α => PyData.list (l.map f)) (n + 1) where
  eq := fun a b => by
    show PyData.eqvAll (a.map f) (b.map f) = _
    induction a generalizing b with
    | nil => cases b <;> simp [PyData.eqvAll]
    | cons x a ih =>
      cases b with
      | nil => simp [PyData.eqvAll]
      | cons y b =>
        rw [List.map_cons, List.map_cons, PyData.eqvAll, d.eq, ih]
        by_cases h : x = y <;> by_cases h2 : a = b <;> simp [h, h2]
  can := fun a => by
    show PyData.canLayAll0 (a.map f) = true
    induction a with
    | nil => rfl
    | cons x a ih => rw [List.map_cons, PyData.canLayAll0, d.can, ih]; rfl
  dep := fun a => by
    have h : PyData.depthAll (a.map f) ≤ n := by
      induction a with
      | nil => simp [PyData.depthAll]
      | cons x a ih =>
        have := d.dep x
        simp only [List.map_cons, PyData.depthAll]
        omega
    simp only [PyData.depth]
    omega
theorem Dat.shaped {α : Type} [DecidableEq α] {f : α → PyData} {n : Nat} (d : Dat f n) (hn : n ≤ 64) (a : α) : SeqAt.shaped (f a) = true := by
  unfold SeqAt.shaped
  rw [d.can a]
  have := d.dep a
  simp only [Bool.true_and, decide_eq_true_eq]
  omega
abbrev dI (ns : List Int) : PyData := .list (ns.map PyData.int)
abbrev dB (ns : List Bool) : PyData := .list (ns.map PyData.bool)
abbrev dII (ns : List (List Int)) : PyData := .list (ns.map dI)
theorem dpAll {K : PySem.W.Frag} {H : Hp} {α : Type} {g : α → V} {f : α → PyData} (h : ∀ a, Dp K H (g a) (f a)) : ∀ l : List α, DpAll K H (l.map g) (l.map f)
  | [] => .nil
  | a :: l => .cons (h a) (dpAll h l)

/-! ### lists of ints in the heap -/
abbrev At (H : Hp) (a : Addr) (ns : List Int) : Prop := H a = some (.lst (ns.map V.int))
section
variable {K : PySem.W.Frag} {σ : L2.St} {H H' : Hp} {ta tb te tx : TE} {t u : TT} {x y z v : V} {r : R2} {a b p q l : Addr} {ns ms : List Int} {xs ys : List V}
theorem Dp.ints (h : SqL K H a (ns.map V.int)) : Dp K H (.ref a) (dI ns) := .lst h (dpAll (fun i => .int i) ns)
theorem Dp.bools {bs : List Bool} (h : SqL K H a (bs.map V.bl)) : Dp K H (.ref a) (dB bs) := .lst h (dpAll (fun i => .bl i) bs)
/-- a list, new or not -/
def EvR (te : TE) (σ : L2.St) (H : Hp) (xs : List V) : Prop := ∀ H1, Ex H H1 → ∀ Q : VK, (∀ p H2, Ex H1 H2 → H2 p = some (.lst xs) → Q (.ref p) H2) → te σ H1 Q
theorem EvR.new (h : EvL te σ H xs) : EvR te σ H xs := fun H1 e Q q => h H1 e Q fun p H2 _ e2 h2 => q p H2 e2 h2
theorem EvR.old (h : Ev te σ H (.ref a)) (ha : H a = some (.lst xs)) : EvR te σ H xs := fun H1 e Q q => h H1 e Q fun H2 e2 => q a H2 e2 (e2 _ _ (e _ _ ha))
theorem EvR.mono (e : Ex H H') (h : EvR te σ H xs) : EvR te σ H' xs := fun H1 a Q q => h H1 (e.trans a) Q q
theorem ev_eqR (ha : EvR ta σ H (ns.map V.int)) (hb : EvR tb σ H (ms.map V.int)) : Ev (tOp (rEqD K) ta tb) σ H (.bl (decide (ns = ms))) := fun H1 e Q q =>
  ha H1 e _ fun p H2 e2 hp => hb H2 (e.trans e2) _ fun r H3 e3 hr =>
    ⟨dI ns, dI ms, Dp.ints (sq_of (e3 _ _ hp)), Dp.ints (sq_of hr), Dat.int.list.shaped (by decide) ns, Dat.int.list.shaped (by decide) ms, by rw [Dat.int.list.eq]; exact q H3 (e2.trans e3)⟩
theorem ev_neR (ha : EvR ta σ H (ns.map V.int)) (hb : EvR tb σ H (ms.map V.int)) : Ev (tOp (rNeD K) ta tb) σ H (.bl (!decide (ns = ms))) := fun H1 e Q q =>
  ha H1 e _ fun p H2 e2 hp => hb H2 (e.trans e2) _ fun r H3 e3 hr =>
    ⟨dI ns, dI ms, Dp.ints (sq_of (e3 _ _ hp)), Dp.ints (sq_of hr), Dat.int.list.shaped (by decide) ns, Dat.int.list.shaped (by decide) ms, by rw [Dat.int.list.eq]; exact q H3 (e2.trans e3)⟩
theorem el_cat (ha : EvR ta σ H xs) (hb : EvR tb σ H ys) (hz : xs.length + ys.length ≤ 100000) : EvL (tOp rCat ta tb) σ H (xs ++ ys) := fun H1 e Q q =>
  ha H1 e _ fun p H2 e2 hp => hb H2 (e.trans e2) _ fun r H3 e3 hr =>
    ⟨p, r, xs, ys, rfl, rfl, e3 _ _ hp, hr, sz_of hz, fun s hs => q s _ (fresh_back (e2.trans e3) hs) ((e2.trans e3).trans (Ex.new hs)) upd_same⟩
theorem rv_ix {i : Int} {x : Int} (j : Nat) (h : SqL K H a (ns.map V.int)) (ej : i = (j : Int)) (e : ns[j]? = some x) : RV (rIxL K) (.ref a) (.int i) H (.int x) :=
  rv_ixL h (at_of ej (by rw [List.getElem?_map, e]; rfl))
/-- an item of a list that is read -/
theorem ev_ixR {i : Int} {x : Int} (j : Nat) (ha : EvR ta σ H (ns.map V.int)) (hb : Ev tb σ H (.int i)) (ej : i = (j : Int)) (e : ns[j]? = some x) : Ev (tOp (rIxL K) ta tb) σ H (.int x) := fun H1 e1 Q q =>
  ha H1 e1 _ fun p H2 e2 hp => hb H2 (e1.trans e2) _ fun H3 e3 => rv_ix j (sq_of (e3 _ _ hp)) ej e H3 (Ex.refl H3) Q fun H4 e4 => q H4 ((e2.trans e3).trans e4)
theorem ev_lenI (ha : Ev ta σ H (.ref a)) (h : SqL K H a (ns.map V.int)) : Ev (tCB (rLenS K) (tCons ta tNil)) σ H (.int (ns.length : Int)) := by
  have := ev_len (K := K) ha h
  rwa [List.length_map] at this
theorem ev_lenR (ha : EvR ta σ H (ns.map V.int)) : Ev (tCB (rLenS K) (tCons ta tNil)) σ H (.int (ns.length : Int)) := fun H1 e Q q =>
  ha H1 e _ fun p H2 e2 h2 => ⟨p, ns.map V.int, rfl, Or.inl (sq_of h2), by rw [List.length_map]; exact q H2 e2⟩
theorem el_listR (ha : EvR ta σ H xs) : EvL (tCB (rListS K) (tCons ta tNil)) σ H xs := fun H1 e Q q =>
  ha H1 e _ fun p H2 e2 h2 => ⟨p, xs, rfl, Or.inl (sq_of h2), fun l hl => q l _ (fresh_back e2 hl) (e2.trans (Ex.new hl)) upd_same⟩
theorem rgV_rng (n : Nat) : rgV 1 ((n : Int) + 1) = (rng n).map V.int := by
  unfold rgV rng
  rw [List.map_map]
  have e : ((n : Int) + 1 - 1).toNat = n := by omega
  rw [e]
  rfl
theorem el_rng {n : Nat} {m : Int} (ha : Ev ta σ H (.int 1)) (hb : Ev tb σ H (.int m)) (em : m = (n : Int) + 1) (hn : n ≤ 100000) : EvL (tLstRg (tRg2 ta tb)) σ H ((rng n).map V.int) := fun H1 e Q q =>
  ha H1 e _ fun H2 e2 => hb H2 (e.trans e2) _ fun H3 e3 => ⟨1, m, rfl, rfl, RgOk.of_le (by omega) (by omega) (by omega) (by omega), fun p hp => q p _ (fresh_back (e2.trans e3) hp) ((e2.trans e3).trans (Ex.new hp)) (by rw [upd_same, em, rgV_rng])⟩
theorem el_rev (ha : EvR te σ H xs) : EvL (tLstRev K te) σ H xs.reverse := fun H1 e Q q =>
  ha H1 e _ fun p H2 e2 hp => ⟨p, xs, rfl, sq_of hp, fun s hs => q s _ (fresh_back e2 hs) (e2.trans (Ex.new hs)) upd_same⟩
theorem cut_to (xs : List V) {k : Int} (h : 0 ≤ k) : cutV xs none (some k) = xs.take k.toNat := by
  obtain ⟨j, rfl⟩ : ∃ j : Nat, k = (j : Int) := ⟨k.toNat, by omega⟩
  unfold cutV
  rw [HT.sIx_nat, HT.sIx_none]
  rw [List.drop_zero, Nat.sub_zero]
  show xs.take (min j xs.length) = xs.take j
  by_cases hj : j ≤ xs.length
  · rw [Nat.min_eq_left hj]
  · rw [List.take_of_length_le (by omega), List.take_of_length_le (by omega)]
theorem cut_from (xs : List V) {k : Int} (h : 0 ≤ k) : cutV xs (some k) none = xs.drop k.toNat := by
  obtain ⟨j, rfl⟩ : ∃ j : Nat, k = (j : Int) := ⟨k.toNat, by omega⟩
  unfold cutV
  rw [HT.sIx_nat, HT.sIx_none]
  show List.take (xs.length - min j xs.length) (List.drop (min j xs.length) xs) = xs.drop j
  by_cases hj : j ≤ xs.length
  · rw [Nat.min_eq_left hj, List.take_of_length_le (by rw [List.length_drop]; omega)]
  · rw [List.drop_of_length_le (by omega), List.drop_of_length_le (by omega), List.take_nil]
theorem el_sl2 {tl th : TO} {lo hi : Option Int} (h : EvR te σ H xs) (h1 : EvO tl σ H lo) (h2 : EvO th σ H hi) : EvL (tSl (rSlL K) te tl th) σ H (cutV xs lo hi) := fun H1 e _ q =>
  h H1 e _ fun a H2 e2 ha => h1 H2 (e.trans e2) _ fun H3 e3 => h2 H3 ((e.trans e2).trans e3) _ fun H4 e4 =>
    ⟨a, xs, rfl, sq_of (e4 _ _ (e3 _ _ ha)), fun p hp => q p _ (fresh_back ((e2.trans e3).trans e4) hp) (((e2.trans e3).trans e4).trans (Ex.new hp)) upd_same⟩
theorem el_take {th : TO} {k : Int} (h : EvR te σ H (ns.map V.int)) (h2 : EvO th σ H (some k)) (hk : 0 ≤ k) : EvL (tSl (rSlL K) te tNoPart th) σ H ((ns.take k.toNat).map V.int) := by
  rw [List.map_take, ← cut_to _ hk]
  exact el_sl2 h eo_none h2
theorem el_drop {tl : TO} {k : Int} (h : EvR te σ H (ns.map V.int)) (h2 : EvO tl σ H (some k)) (hk : 0 ≤ k) : EvL (tSl (rSlL K) te tl tNoPart) σ H ((ns.drop k.toNat).map V.int) := by
  rw [List.map_drop, ← cut_from _ hk]
  exact el_sl2 h h2 eo_none
/-- the one rising list of these ints -/
def srt (ns : List Int) : List Int := ns.mergeSort (fun a b => decide (a ≤ b))
theorem srt_perm (ns : List Int) : (srt ns).Perm ns := List.mergeSort_perm ns _
theorem srt_le (ns : List Int) : (srt ns).Pairwise (· ≤ ·) := by
  have h := List.pairwise_mergeSort (le := fun a b : Int => decide (a ≤ b)) (fun a b c h1 h2 => by simp at *; omega) (fun a b => by simp; omega) ns
  exact h.imp fun h => by simpa using h
theorem srt_one {ns l : List Int} (hp : l.Perm ns) (hs : l.Pairwise (· ≤ ·)) : l = srt ns :=
  (hp.trans (srt_perm ns).symm).eq_of_pairwise (fun a b _ _ h1 h2 => Int.le_antisymm h1 h2) hs (srt_le ns)
theorem srt_rng (ns : List Int) : srt ns = rng ns.length ↔ IsDk ns := isDk_iff (srt_perm ns) (srt_le ns)
theorem el_sorted (ha : EvR ta σ H (ns.map V.int)) : EvL (tCB (rSortedI K) (tCons ta tNil)) σ H ((srt ns).map V.int) := fun H1 e Q q =>
  ha H1 e _ fun a H2 e2 h2 => ⟨a, ns, rfl, sq_of h2, fun ns' p hp hs hn => q p _ (fresh_back e2 hn) (e2.trans (Ex.new hn)) (by rw [upd_same, srt_one hp hs])⟩
/-- isinstance(x, c), c built in -/
theorem ev_isi {T : String} {c : String} {bb : Bool} (ha : Ev ta σ H x) (ty : ∀ H1, Ex H H1 → TyX K H1 x (.type T)) (hk : kitB T c = some bb) : Ev (tCB (rIsi K) (tCons ta (tCons (tC (.ty c)) tNil))) σ H (.bl bb) := fun H1 e Q q =>
  ha H1 e _ fun H2 e2 => ⟨x, .ty c, .type T, .type c, bb, rfl, .ty c, ty H2 (e.trans e2), kit_ty hk, q H2 e2⟩
variable {D : Ends} {tz : TS}
/-- l.append(p.pop(i)) -/
theorem s_appPop {j : Nat} {i : Int} (hl : H l = some (.lst xs)) (hp : H p = some (.lst ys)) (ne : l ≠ p) (ha : Ev ta σ H (.ref l)) (hb : Ev tb σ H (.ref p)) (hi : Ev te σ H (.int i)) (ei : i = (j : Int)) (hj : ys[j]? = some y) (hy : ys.length ≤ 1000) (hz : xs.length < 100000)
    (k : ∀ H1, Ex H H1 → D.nx σ (upd (upd H1 p (.lst (ys.eraseIdx j))) l (.lst (xs ++ [y])))) :
    tDrop (tBM K "list" rAppend ta (tCons (tBM K "list" rPopAt tb (tCons te tNil)) tNil)) D σ H := ha H (Ex.refl H) _ fun H1 e1 =>
  ⟨Or.inl ⟨rfl, xs, sq_of (e1 l _ hl)⟩, hb H1 e1 _ fun H2 e2 => ⟨Or.inl ⟨rfl, ys, sq_of (e2 _ _ (e1 _ _ hp))⟩, hi H2 (e1.trans e2) _ fun H3 e3 => by
    have hlt : j < ys.length := (List.getElem?_eq_some_iff.mp hj).1
    refine ⟨p, ys, i, j, y, rfl, rfl, e3 _ _ (e2 _ _ (e1 _ _ hp)), by omega, by omega, by rw [ei]; exact seqIndex_of (by omega) (by omega), hj, ?_⟩
    exact ⟨l, xs, y, rfl, rfl, by rw [upd_ne ne]; exact e3 _ _ (e2 _ _ (e1 _ _ hl)), sz_lt hz, k H3 ((e1.trans e2).trans e3)⟩⟩⟩
/-- l.remove(k) -/
theorem q_remove {k : Int} {j : Nat} (hl : At H l ns) (ha : Ev ta σ H (.ref l)) (hi : Ev te σ H (.int k)) (hj : ns[j]? = some k) (hno : ∀ m : Nat, m < j → ns[m]? ≠ some k) (c : ∀ H1, Ex H H1 → tz D σ (upd H1 l (.lst ((ns.eraseIdx j).map V.int)))) :
    tSeq (tDrop (tBM K "list" rRemI ta (tCons te tNil))) tz D σ H := ha H (Ex.refl H) _ fun H1 e1 =>
  ⟨Or.inl ⟨rfl, _, sq_of (e1 l _ hl)⟩, hi H1 e1 _ fun H2 e2 => ⟨l, ns, k, j, rfl, rfl, e2 _ _ (e1 _ _ hl), hj, hno, c H2 (e1.trans e2)⟩⟩
end
end Tt
namespace Tt
open PySem PySem.Spec PyProof.Rows L2 Evl
/-! ### an int of which something is known -/
def EvI (te : TE) (σ : L2.St) (H : Hp) (P : Int → Prop) : Prop := ∀ H1, Ex H H1 → ∀ Q : VK, (∀ z H2, Ex H1 H2 → P z → Q (.int z) H2) → te σ H1 Q
section
variable {K : PySem.W.Frag} {σ : L2.St} {H H' : Hp} {ta tb te : TE} {P R : Int → Prop} {i j : Int}
theorem ei_ev (h : Ev te σ H (.int i)) (p : P i) : EvI te σ H P := fun H1 e Q q => h H1 e Q fun H2 e2 => q i H2 e2 p
theorem ei_imp (h : EvI te σ H P) (c : ∀ z, P z → R z) : EvI te σ H R := fun H1 e Q q => h H1 e Q fun z H2 e2 p => q z H2 e2 (c z p)
theorem EvI.mono (e : Ex H H') (h : EvI te σ H P) : EvI te σ H' P := fun H1 a Q q => h H1 (e.trans a) Q q
theorem ei_mod (ha : EvI ta σ H P) (hb : Ev tb σ H (.int j)) (hj : 0 < j) : EvI (tOp (rI (fun _ j => 0 < j) fun i j => .int (i % j)) ta tb) σ H (fun z => 0 ≤ z ∧ z < j) := fun H1 e Q q =>
  ha H1 e _ fun i H2 e2 _ => hb H2 (e.trans e2) _ fun H3 e3 => ⟨i, j, rfl, rfl, hj, q _ H3 (e2.trans e3) ⟨Int.emod_nonneg _ (by omega), Int.emod_lt_of_pos _ hj⟩⟩
theorem ei_fdiv (ha : EvI ta σ H P) (hb : Ev tb σ H (.int j)) (hj : 0 < j) (h2 : j < 1073741824) : EvI (tOp (rI CDivN fun i j => .int (i.fdiv j)) ta tb) σ H (fun _ => True) := fun H1 e Q q =>
  ha H1 e _ fun i H2 e2 _ => hb H2 (e.trans e2) _ fun H3 e3 => ⟨i, j, rfl, rfl, ⟨by omega, by omega⟩, q _ H3 (e2.trans e3) True.intro⟩
theorem ei_op {f : Int → Int → Int} (ha : EvI ta σ H P) (hb : EvI tb σ H R) : EvI (tOp (rI0 fun i j => .int (f i j)) ta tb) σ H (fun z => ∃ x y, P x ∧ R y ∧ z = f x y) := fun H1 e Q q =>
  ha H1 e _ fun i H2 e2 pi => hb H2 (e.trans e2) _ fun j H3 e3 rj => ⟨i, j, rfl, rfl, q _ H3 (e2.trans e3) ⟨i, j, pi, rj, rfl⟩⟩
variable {D : Ends} {tu tw tz : TS}
theorem q_asgI {k : Nat} (h : EvI te σ H P) (c : ∀ z H1, P z → Ex H H1 → tz D (σ.set k (some (.int z))) H1) : tSeq (tAsg te (gName k)) tz D σ H := h H (Ex.refl _) _ fun z H1 e p => c z H1 p e
theorem s_asgI {k : Nat} (h : EvI te σ H P) (c : ∀ z H1, P z → Ex H H1 → D.nx (σ.set k (some (.int z))) H1) : tAsg te (gName k) D σ H := h H (Ex.refl _) _ fun z H1 e p => c z H1 p e
/-- a test of which the answer is either -/
def EvTP (t : TT) (σ : L2.St) (H : Hp) : Prop := ∀ H1, Ex H H1 → ∀ Q : Bool → Hp → Prop, (∀ b H2, Ex H1 H2 → Q b H2) → t σ H1 Q
theorem ep_eq (ha : EvI ta σ H P) (hb : EvI tb σ H R) : EvTP (tTest (tOp rEq ta tb)) σ H := fun H1 e Q q =>
  ha H1 e _ fun i H2 e2 _ => hb H2 (e.trans e2) _ fun j H3 e3 _ => ⟨rfl, _, rfl, q _ H3 (e2.trans e3)⟩
theorem ep_gt (ha : EvI ta σ H P) (hb : EvI tb σ H R) : EvTP (tTest (tOp (rI0 fun i j => .bl (decide (j < i))) ta tb)) σ H := fun H1 e Q q =>
  ha H1 e _ fun i H2 e2 _ => hb H2 (e.trans e2) _ fun j H3 e3 _ => ⟨i, j, rfl, rfl, _, rfl, q _ H3 (e2.trans e3)⟩
theorem q_any {t : TT} (h : EvTP t σ H) (h1 : ∀ H1, Ex H H1 → tu { D with nx := tz D } σ H1) (h2 : ∀ H1, Ex H H1 → tz D σ H1) : tSeq (tIfS t tu tNext) tz D σ H := h H (Ex.refl _) _ fun b H1 e => by
  cases b with
  | true => exact h1 H1 e
  | false => exact h2 H1 e
theorem given_filter (p : Int → Bool) (ms : List Int) : given ms.length (fun i => p (ms.getD i 0)) (fun i => V.int (ms.getD i 0)) = (ms.filter p).map V.int := by
  have e : (List.range ms.length).map (fun i => ms.getD i 0) = ms := by
    refine List.ext_getElem? fun i => ?_
    by_cases hi : i < ms.length
    · rw [List.getElem?_map, List.getElem?_range hi, List.getElem?_eq_getElem hi]
      simp [List.getD_eq_getElem?_getD, List.getElem?_eq_getElem hi]
    · rw [List.getElem?_eq_none (by simp; omega), List.getElem?_eq_none (by omega)]
  unfold given
  have h2 : (ms.filter p) = ((List.range ms.length).filter (p ∘ fun i => ms.getD i 0)).map (fun i => ms.getD i 0) := by
    rw [← List.filter_map, e]
  rw [h2, List.map_map]
  rfl
theorem rv_eqI {i j : Int} : RV rEq (.int i) (.int j) H (.bl (decide (i = j))) := fun H1 _ _ q => ⟨rfl, by
  have e : decide (V.int i = V.int j) = decide (i = j) := by simp
  rw [e]
  exact q H1 (Ex.refl H1)⟩
theorem rv_neI {i j : Int} : RV rNe (.int i) (.int j) H (.bl (!decide (i = j))) := fun H1 _ _ q => ⟨rfl, by
  have e : decide (V.int i = V.int j) = decide (i = j) := by simp
  rw [e]
  exact q H1 (Ex.refl H1)⟩
theorem ei_ix {ns : List Int} (ha : EvR ta σ H (ns.map V.int)) (hb : EvI tb σ H (fun z => 0 ≤ z ∧ z < (ns.length : Int))) : EvI (tOp (rIxL K) ta tb) σ H (fun x => x ∈ ns) := fun H1 e Q q =>
  ha H1 e _ fun p H2 e2 hp => hb H2 (e.trans e2) _ fun i H3 e3 hi => by
    have hlt : i.toNat < ns.length := by omega
    have ei : ns[i.toNat]? = some ns[i.toNat] := List.getElem?_eq_getElem hlt
    exact rv_ix i.toNat (sq_of (e3 _ _ hp)) (by omega) ei H3 (Ex.refl H3) Q fun H4 e4 => q _ H4 ((e2.trans e3).trans e4) (List.mem_of_getElem? ei)
/-- a new list of ints of which something is known -/
def EvLP (te : TE) (σ : L2.St) (H : Hp) (P : List Int → Prop) : Prop := ∀ H1, Ex H H1 → ∀ Q : VK, (∀ p ns H2, H1 p = none → Ex H1 H2 → At H2 p ns → P ns → Q (.ref p) H2) → te σ H1 Q
theorem q_asgLP {k : Nat} {P : List Int → Prop} (h : EvLP te σ H P) (c : ∀ p ns H1, H p = none → Ex H H1 → At H1 p ns → P ns → tz D (σ.set k (some (.ref p))) H1) : tSeq (tAsg te (gName k)) tz D σ H := h H (Ex.refl _) _ fun p ns H1 n e hp pn => c p ns H1 n e hp pn
theorem s_asgLP {k : Nat} {P : List Int → Prop} (h : EvLP te σ H P) (c : ∀ p ns H1, H p = none → Ex H H1 → At H1 p ns → P ns → D.nx (σ.set k (some (.ref p))) H1) : tAsg te (gName k) D σ H := h H (Ex.refl _) _ fun p ns H1 n e hp pn => c p ns H1 n e hp pn
/-- for i in range(n), n not known; the word does not speak of the turn -/
theorem q_forRI {j : Nat} {m : Int} (h : EvI te σ H (fun z => 0 ≤ z ∧ z < m)) (hm : m ≤ 100000) (Pv : L2.St → Hp → Prop) (h0 : ∀ H1, Ex H H1 → Pv σ H1)
    (hs : ∀ (i : Nat) σ' H', (i : Int) < m → Pv σ' H' → tu { D with nx := Pv, ct := Pv, bk := tz D } (σ'.set j (some (.int (i : Int)))) H') (hd : ∀ σ' H', Pv σ' H' → tz D σ' H') : tSeq (tFor (iRng1 (tCons te tNil)) (gName j) tu) tz D σ H :=
  h H (Ex.refl H) _ fun z H1 e hz => ⟨z, rfl, by omega, by omega, for_range (lo := 0) (n := z.toNat) (fun _ => Pv) (h0 H1 e) (fun i σ' H' hi p => by
    have e0 : (0 : Int) + (i : Int) = (i : Int) := Int.zero_add _
    show tu { D with nx := Pv, ct := Pv, bk := tz D } (σ'.set j (some (.int ((0 : Int) + (i : Int))))) H'
    rw [e0]
    exact hs i σ' H' (by omega) p) fun σ' H' p => hd σ' H' p⟩
/-- a list is stored anew, perhaps -/
theorem q_maybe {k : Nat} {P : List Int → Prop} {t : TT} {p0 : Addr} {ns0 : List Int} (h : EvTP t σ H) (h1 : EvLP te σ H P) (hσ : σ.set k (some (.ref p0)) = σ) (h0 : At H p0 ns0) (hP : P ns0) (c : ∀ p ns H1, Ex H H1 → At H1 p ns → P ns → tz D (σ.set k (some (.ref p))) H1) :
    tSeq (tIfS t (tAsg te (gName k)) tNext) tz D σ H :=
  q_any h (fun H1 e1 => s_asgLP (D := { D with nx := tz D }) (fun H2 e2 Q q => h1 H2 (e1.trans e2) Q q) fun p ns H2 _ e2 hp pn => c p ns H2 (e1.trans e2) hp pn) (fun H1 e1 => by
    have g := c p0 ns0 H1 e1 (e1 _ _ h0) hP
    rw [hσ] at g
    exact g)
theorem ei_c {i : Int} : EvI (tC (.int i)) σ H (fun z => z = i) := ei_ev ev_c rfl
theorem EvLP.imp {P R : List Int → Prop} (h : EvLP te σ H P) (c : ∀ z, P z → R z) : EvLP te σ H R := fun H1 e Q q => h H1 e Q fun p ns H2 n e2 hp pn => q p ns H2 n e2 hp (c ns pn)
/-- an item of a list is an int -/
theorem int_item {ns : List Int} {i : Nat} {y : V} (h : (ns.map V.int)[i]? = some y) : ∃ c, ns[i]? = some c ∧ y = V.int c := by
  rw [List.getElem?_map] at h
  cases e : ns[i]? with
  | none => rw [e] at h; cases h
  | some c => rw [e] at h; exact ⟨c, rfl, (Option.some.inj h).symm⟩
theorem upd_at {p b : Addr} {o u : HO} (h : H b = some u) (ne : b ≠ p) : (upd H p o) b = some u := by
  rw [upd_ne ne]
  exact h
/-- a call of one argument that is a list, new or not -/
theorem el_call1R {sp : Sp} {E : XK} {xs ys : List V} (h : EvR te σ H xs) (hs : ∀ p H1, Ex H H1 → H1 p = some (.lst xs) → SpL sp [.ref p] H1 ys) : EvL (tCall sp [] E (tCons te tNil)) σ H ys := fun H1 e Q q =>
  h H1 e _ fun p H2 e2 hp => hs p H2 (e.trans e2) hp H2 (Ex.refl _) Q (fun r H3 nr e3 hr => q r H3 (fresh_back e2 nr) (e2.trans e3) hr) E
theorem ev_call1R {sp : Sp} {E : XK} {xs : List V} {z : V} (h : EvR te σ H xs) (hs : ∀ p H1, Ex H H1 → H1 p = some (.lst xs) → SpV sp [.ref p] H1 z) : Ev (tCall sp [] E (tCons te tNil)) σ H z := fun H1 e Q q =>
  h H1 e _ fun p H2 e2 hp => hs p H2 (e.trans e2) hp H2 (Ex.refl _) Q (fun H3 e3 => q H3 (e2.trans e3)) E
theorem el_call2R {sp : Sp} {E : XK} {xs ys zs : List V} (h : EvR ta σ H xs) (h2 : EvR tb σ H ys) (hs : ∀ p q H1, Ex H H1 → H1 p = some (.lst xs) → H1 q = some (.lst ys) → SpL sp [.ref p, .ref q] H1 zs) : EvL (tCall sp [] E (tCons ta (tCons tb tNil))) σ H zs := fun H1 e Q q =>
  h H1 e _ fun p H2 e2 hp => h2 H2 (e.trans e2) _ fun r H3 e3 hr => hs p r H3 ((e.trans e2).trans e3) (e3 _ _ hp) hr H3 (Ex.refl _) Q (fun x H4 nx e4 hx => q x H4 (fresh_back (e2.trans e3) nx) ((e2.trans e3).trans e4) hx) E
/-- for x in reversed(xs) -/
theorem q_forRev {a : Addr} {xs : List V} {j : Nat} (h : Ev ta σ H (.ref a)) (hx : SqL K H a xs) (Pv : Nat → L2.St → Hp → Prop) (h0 : ∀ H1, Ex H H1 → Pv 0 σ H1) (hl : ∀ i σ' H', Pv i σ' H' → SqL K H' a xs)
    (hs : ∀ i x σ' H', i < xs.length → xs[xs.length - 1 - i]? = some x → Pv i σ' H' → tu { D with nx := Pv (i + 1), ct := Pv (i + 1), bk := tz D } (σ'.set j (some x)) H') (hd : ∀ σ' H', Pv xs.length σ' H' → tz D σ' H') : tSeq (tFor (iRev K (tCons ta tNil)) (gName j) tu) tz D σ H :=
  h H (Ex.refl H) _ fun H1 e => ⟨a, xs, rfl, ex_l e hx, RT.for_Itv (D := { D with nx := tz D }) Pv (h0 H1 e) hl hs hd⟩
theorem et_yes {σ : L2.St} {H : Hp} : EvT tYes σ H true := fun H1 _ Q q => q H1 (Ex.refl H1)
theorem given_int (n : Nat) (g : Nat → Int) : given n (fun _ => true) (fun i => V.int (g i)) = ((List.range n).map g).map V.int := by
  unfold given
  rw [List.filter_eq_self.mpr (fun _ _ => rfl), List.map_map]
  rfl
theorem range_getD {α : Type} (l : List α) (d : α) : (List.range l.length).map (fun i => l.getD i d) = l := by
  refine List.ext_getElem? fun i => ?_
  by_cases hi : i < l.length
  · rw [List.getElem?_map, List.getElem?_range hi, List.getElem?_eq_getElem hi]
    simp [List.getD_eq_getElem?_getD, List.getElem?_eq_getElem hi]
  · rw [List.getElem?_eq_none (by simp; omega), List.getElem?_eq_none (by omega)]
theorem at_nat {α : Type} {xs : List α} {j : Nat} {x : α} (h : xs[j]? = some x) : atI xs (j : Int) = some x := by
  have hj := (List.getElem?_eq_some_iff.mp h).1
  unfold atI
  rw [ixN_nat hj]
  exact h
/-- a list of ints of which something is known, new or not -/
def EvRP (te : TE) (σ : L2.St) (H : Hp) (P : List Int → Prop) : Prop := ∀ H1, Ex H H1 → ∀ Q : VK, (∀ p ns H2, Ex H1 H2 → At H2 p ns → P ns → Q (.ref p) H2) → te σ H1 Q
theorem EvRP.ofR {ns : List Int} (h : EvR te σ H (ns.map V.int)) : EvRP te σ H (fun l => l = ns) := fun H1 e Q q => h H1 e Q fun p H2 e2 hp => q p ns H2 e2 hp rfl
theorem EvRP.ofL {P : List Int → Prop} (h : EvLP te σ H P) : EvRP te σ H P := fun H1 e Q q => h H1 e Q fun p ns H2 _ e2 hp pn => q p ns H2 e2 hp pn
theorem EvLP.ofL {P : List Int → Prop} {ns : List Int} (h : EvL te σ H (ns.map V.int)) (hP : P ns) : EvLP te σ H P := fun H1 e Q q => h H1 e Q fun p H2 np e2 hp => q p ns H2 np e2 hp hP
theorem elp_cat {P R : List Int → Prop} (ha : EvRP ta σ H P) (hb : EvRP tb σ H R) (hz : ∀ ns ms, P ns → R ms → ns.length + ms.length ≤ 100000) : EvLP (tOp rCat ta tb) σ H (fun l => ∃ ns ms, P ns ∧ R ms ∧ l = ns ++ ms) := fun H1 e Q q =>
  ha H1 e _ fun p ns H2 e2 hp pn => hb H2 (e.trans e2) _ fun r ms H3 e3 hr pm => by
    refine ⟨p, r, ns.map V.int, ms.map V.int, rfl, rfl, e3 _ _ hp, hr, sz_of (by rw [List.length_map, List.length_map]; exact hz ns ms pn pm), fun s hs => ?_⟩
    rw [← List.map_append]
    exact q s (ns ++ ms) _ (fresh_back (e2.trans e3) hs) ((e2.trans e3).trans (Ex.new hs)) upd_same ⟨ns, ms, pn, pm, rfl⟩
theorem elp3 {tc : TE} {P R S : Int → Prop} (ha : EvI ta σ H P) (hb : EvI tb σ H R) (hc : EvI tc σ H S) : EvLP (tLst (tCons ta (tCons tb (tCons tc tNil)))) σ H (fun l => l.length = 3) := fun H1 e Q q =>
  ha H1 e _ fun i H2 e2 _ => hb H2 (e.trans e2) _ fun j H3 e3 _ => hc H3 ((e.trans e2).trans e3) _ fun k H4 e4 _ => ⟨by show 3 ≤ sizeLine; decide, fun p hp => q p [i, j, k] _ (fresh_back ((e2.trans e3).trans e4) hp) (((e2.trans e3).trans e4).trans (Ex.new hp)) upd_same rfl⟩
theorem ei_ixP {P : List Int → Prop} {R : Int → Prop} (ha : EvRP ta σ H P) (hb : EvI tb σ H R) (hi : ∀ ns z, P ns → R z → 0 ≤ z ∧ z < (ns.length : Int)) : EvI (tOp (rIxL K) ta tb) σ H (fun _ => True) := fun H1 e Q q =>
  ha H1 e _ fun p ns H2 e2 hp pn => hb H2 (e.trans e2) _ fun i H3 e3 ri => by
    obtain ⟨i0, i1⟩ := hi ns i pn ri
    have hlt : i.toNat < ns.length := by omega
    have ei : ns[i.toNat]? = some ns[i.toNat] := List.getElem?_eq_getElem hlt
    exact rv_ix i.toNat (sq_of (e3 _ _ hp)) (by omega) ei H3 (Ex.refl H3) Q fun H4 e4 => q _ H4 ((e2.trans e3).trans e4) True.intro
theorem ei_fdivP {P : Int → Prop} {j : Int} (ha : EvI ta σ H P) (hb : Ev tb σ H (.int j)) (hj : 0 < j) (h2 : j < 1073741824) : EvI (tOp (rI CDivN fun i j => .int (i.fdiv j)) ta tb) σ H (fun z => ∃ x, P x ∧ z = x.fdiv j) := fun H1 e Q q =>
  ha H1 e _ fun i H2 e2 pi => hb H2 (e.trans e2) _ fun H3 e3 => ⟨i, j, rfl, rfl, ⟨by omega, by omega⟩, q _ H3 (e2.trans e3) ⟨i, pi, rfl⟩⟩
/-- a list times a number of which something is known -/
theorem elp_rep {x : Int} {R : Int → Prop} (ha : Ev ta σ H (.int x)) (hb : EvI tb σ H R) (hR : ∀ z, R z → 0 ≤ z ∧ z ≤ 100) : EvLP (tOp rRep (tLst (tCons ta tNil)) tb) σ H (fun l => l.length ≤ 100) := fun H1 e Q q =>
  ha H1 e _ fun H2 e2 => ⟨by show 1 ≤ sizeLine; decide, fun p hp => hb _ ((e.trans e2).trans (Ex.new hp)) _ fun k H3 e3 rk => by
    obtain ⟨k0, k1⟩ := hR k rk
    have ex : Ex H1 H3 := (e2.trans (Ex.new hp)).trans e3
    refine ⟨p, k, [.int x], rfl, rfl, e3 _ _ upd_same, by omega, by omega, sz_of (by rw [List.length_singleton]; omega), fun r hr => ?_⟩
    have e0 : (List.replicate k.toNat [V.int x]).flatten = (List.replicate k.toNat x).map V.int := by
      generalize k.toNat = n
      induction n with
      | zero => rfl
      | succ n ih => rw [List.replicate_succ, List.replicate_succ, List.flatten_cons, ih]; rfl
    refine q r (List.replicate k.toNat x) _ (fresh_back ex hr) (ex.trans (Ex.new hr)) ?_ (by show (List.replicate k.toNat x).length ≤ 100; rw [List.length_replicate]; omega)
    show upd _ _ _ _ = _
    rw [upd_same, e0]⟩
/-- an if without else, both ways coming to Inv -/
theorem q_two {D : Ends} {tu tz : TS} {t : TT} (M : L2.St → Hp → Prop) (h : EvTP t σ H) (h1 : ∀ N : L2.St → Hp → Prop, (∀ σ' H', M σ' H' → N σ' H') → ∀ H1, Ex H H1 → tu { D with nx := N } σ H1) (h2 : ∀ H1, Ex H H1 → M σ H1) (k : ∀ σ' H', M σ' H' → tz D σ' H') :
    tSeq (tIfS t tu tNext) tz D σ H := q_any h (fun H1 e1 => h1 (tz D) k H1 e1) (fun H1 e1 => k _ _ (h2 H1 e1))
theorem rv_isN {x : V} : RV (fun x y H Q => y = .non ∧ Q (.bl (decide (x = .non))) H) x .non H (.bl (decide (x = .non))) := fun H1 _ _ q => ⟨rfl, q H1 (Ex.refl H1)⟩
theorem q_maybeF {D : Ends} {tz : TS} {k : Nat} {P : List Int → Prop} {t : TT} {p0 : Addr} {ns0 : List Int} (h : EvTP t σ H) (h1 : EvLP te σ H P) (hσ : σ.set k (some (.ref p0)) = σ) (h0 : At H p0 ns0) (hP : P ns0) (c : ∀ p ns H1, Ex H H1 → At H1 p ns → P ns → (p = p0 ∨ H p = none) → tz D (σ.set k (some (.ref p))) H1) :
    tSeq (tIfS t (tAsg te (gName k)) tNext) tz D σ H :=
  q_any h (fun H1 e1 => s_asgLP (D := { D with nx := tz D }) (fun H2 e2 Q q => h1 H2 (e1.trans e2) Q q) fun p ns H2 np e2 hp pn => c p ns H2 (e1.trans e2) hp pn (Or.inr (fresh_back e1 np))) (fun H1 e1 => by
    have g := c p0 ns0 H1 e1 (e1 _ _ h0) hP (Or.inl rfl)
    rw [hσ] at g
    exact g)
end
end Tt

/-! Lists of lists of ints. -/
namespace Tt
open PySem PySem.Spec PyProof.Rows L2 Evl
/-- at a: a list of the lists at ps, which hold the rows -/
structure AtL (H : Hp) (a : Addr) (ps : List Addr) (rows : List (List Int)) : Prop where
  top : H a = some (.lst (ps.map V.ref))
  len : ps.length = rows.length
  row : ∀ (i : Nat) (p : Addr) (ns : List Int), ps[i]? = some p → rows[i]? = some ns → At H p ns
section
variable {K : PySem.W.Frag} {σ : L2.St} {H H' : Hp} {ta tb te tx : TE} {t : TT} {a b p q l : Addr} {ps qs : List Addr} {rows rws : List (List Int)}
theorem AtL.ex (h : AtL H a ps rows) (e : Ex H H') : AtL H' a ps rows := ⟨e _ _ h.top, h.len, fun i p ns h1 h2 => e _ _ (h.row i p ns h1 h2)⟩
theorem AtL.mem (h : AtL H a ps rows) {p : Addr} (hp : p ∈ ps) : ∃ (i : Nat) (ns : List Int), ps[i]? = some p ∧ rows[i]? = some ns ∧ At H p ns := by
  obtain ⟨i, hi⟩ := List.mem_iff_getElem?.mp hp
  have hlt : i < rows.length := by rw [← h.len]; exact (List.getElem?_eq_some_iff.mp hi).1
  exact ⟨i, rows[i], hi, List.getElem?_eq_getElem hlt, h.row i p _ hi (List.getElem?_eq_getElem hlt)⟩
theorem AtL.top_out (h : AtL H a ps rows) : a ∉ ps := fun hm => by
  obtain ⟨i, ns, _, _, hat⟩ := h.mem hm
  have e : ps.map V.ref = ns.map V.int := HO.lst.inj (Option.some.inj (h.top.symm.trans hat))
  cases ps with
  | nil => cases hm
  | cons x r =>
    cases ns with
    | nil => cases e
    | cons y s => exact absurd (List.cons.inj e).1 (by intro w; cases w)
theorem AtL.at_ (h : AtL H a ps rows) {i : Nat} {ns : List Int} (hi : rows[i]? = some ns) : ∃ p, ps[i]? = some p ∧ At H p ns := by
  have hlt : i < ps.length := by rw [h.len]; exact (List.getElem?_eq_some_iff.mp hi).1
  exact ⟨ps[i], List.getElem?_eq_getElem hlt, h.row i _ _ (List.getElem?_eq_getElem hlt) hi⟩
theorem AtL.upd_other {o : HO} (h : AtL H a ps rows) (na : a ≠ b) (nb : b ∉ ps) : AtL (upd H b o) a ps rows := ⟨upd_at h.top na, h.len, fun i p ns h1 h2 => upd_at (h.row i p ns h1 h2) fun z => nb (by rw [← z]; exact List.mem_of_getElem? h1)⟩
theorem dp_rows : ∀ (ps : List Addr) (rows : List (List Int)), ps.length = rows.length → (∀ (i : Nat) (p : Addr) (ns : List Int), ps[i]? = some p → rows[i]? = some ns → At H p ns) → DpAll K H (ps.map V.ref) (rows.map dI)
  | [], [], _, _ => .nil
  | [], _ :: _, h, _ => by simp at h
  | _ :: _, [], h, _ => by simp at h
  | p :: ps, r :: rows, h, f => .cons (Dp.ints (sq_of (f 0 p r rfl rfl))) (dp_rows ps rows (by simpa using h) fun i q ns h1 h2 => f (i + 1) q ns h1 h2)
theorem AtL.dp (h : AtL H a ps rows) : Dp K H (.ref a) (dII rows) := .lst (sq_of h.top) (dp_rows ps rows h.len h.row)
/-- a new list of new lists -/
def EvLL (te : TE) (σ : L2.St) (H : Hp) (rows : List (List Int)) : Prop := ∀ H1, Ex H H1 → ∀ Q : VK, (∀ p ps H2, H1 p = none → Ex H1 H2 → AtL H2 p ps rows → (∀ x ∈ ps, H1 x = none) → ps.Nodup → Q (.ref p) H2) → te σ H1 Q
def EvRL (te : TE) (σ : L2.St) (H : Hp) (rows : List (List Int)) : Prop := ∀ H1, Ex H H1 → ∀ Q : VK, (∀ p ps H2, Ex H1 H2 → AtL H2 p ps rows → Q (.ref p) H2) → te σ H1 Q
theorem EvRL.new (h : EvLL te σ H rows) : EvRL te σ H rows := fun H1 e Q q => h H1 e Q fun p ps H2 _ e2 h2 _ _ => q p ps H2 e2 h2
theorem EvRL.old (h : Ev te σ H (.ref a)) (ha : AtL H a ps rows) : EvRL te σ H rows := fun H1 e Q q => h H1 e Q fun H2 e2 => q a ps H2 e2 (ha.ex (e.trans e2))
theorem ev_eqRL (ha : EvRL ta σ H rows) (hb : EvRL tb σ H rws) : Ev (tOp (rEqD K) ta tb) σ H (.bl (decide (rows = rws))) := fun H1 e Q q =>
  ha H1 e _ fun p ps H2 e2 hp => hb H2 (e.trans e2) _ fun r rs H3 e3 hr =>
    ⟨dII rows, dII rws, (hp.ex e3).dp, hr.dp, Dat.int.list.list.shaped (by decide) rows, Dat.int.list.list.shaped (by decide) rws, by rw [Dat.int.list.list.eq]; exact q H3 (e2.trans e3)⟩
theorem ev_neRL (ha : EvRL ta σ H rows) (hb : EvRL tb σ H rws) : Ev (tOp (rNeD K) ta tb) σ H (.bl (!decide (rows = rws))) := fun H1 e Q q =>
  ha H1 e _ fun p ps H2 e2 hp => hb H2 (e.trans e2) _ fun r rs H3 e3 hr =>
    ⟨dII rows, dII rws, (hp.ex e3).dp, hr.dp, Dat.int.list.list.shaped (by decide) rows, Dat.int.list.list.shaped (by decide) rws, by rw [Dat.int.list.list.eq]; exact q H3 (e2.trans e3)⟩
theorem ev_lenRL (ha : EvRL ta σ H rows) : Ev (tCB (rLenS K) (tCons ta tNil)) σ H (.int (rows.length : Int)) := fun H1 e Q q =>
  ha H1 e _ fun p ps H2 e2 h2 => ⟨p, ps.map V.ref, rfl, Or.inl (sq_of h2.top), by rw [List.length_map, h2.len]; exact q H2 e2⟩
theorem rv_ixP {i : Int} (j : Nat) (h : H a = some (.lst (ps.map V.ref))) (ej : i = (j : Int)) (e : ps[j]? = some p) : RV (rIxL K) (.ref a) (.int i) H (.ref p) :=
  rv_ixL (sq_of h) (at_of ej (by rw [List.getElem?_map, e]; rfl))
/-- which turns give a row, and which -/
def givenL (n : Nat) (f : Nat → Bool) (v : Nat → List Int) : List (List Int) := ((List.range n).filter f).map v
theorem givenL_yes {n : Nat} {f : Nat → Bool} {v : Nat → List Int} (h : f n = true) : givenL (n + 1) f v = givenL n f v ++ [v n] := by
  unfold givenL
  rw [List.range_succ, List.filter_append, List.map_append, List.filter_cons, if_pos h] <;> rfl
theorem givenL_no {n : Nat} {f : Nat → Bool} {v : Nat → List Int} (h : f n = false) : givenL (n + 1) f v = givenL n f v := by
  unfold givenL
  rw [List.range_succ, List.filter_append, List.map_append, List.filter_cons, if_neg (by rw [h]; decide)]
  show _ ++ [] = _
  rw [List.append_nil]
theorem givenL_len (n : Nat) (f : Nat → Bool) (v : Nat → List Int) : (givenL n f v).length ≤ n := by
  unfold givenL
  rw [List.length_map]
  have h := List.length_filter_le f (List.range n)
  rwa [List.length_range] at h
/-- one row more -/
theorem AtL.snoc {o : List V} (h : AtL H a ps rows) (np : p ≠ a) {ns : List Int} (hp : At H p ns) : AtL (upd H a (.lst (ps.map V.ref ++ [.ref p]))) a (ps ++ [p]) (rows ++ [ns]) := by
  refine ⟨by rw [upd_same, List.map_append]; rfl, by simp [h.len], fun i x ms h1 h2 => ?_⟩
  by_cases hi : i < ps.length
  · rw [List.getElem?_append_left hi] at h1
    rw [List.getElem?_append_left (by rw [← h.len]; exact hi)] at h2
    exact upd_at (h.row i x ms h1 h2) fun z => h.top_out (by rw [← z]; exact List.mem_of_getElem? h1)
  · rw [List.getElem?_append_right (by omega)] at h1
    rw [List.getElem?_append_right (by rw [← h.len]; omega)] at h2
    have e0 : i - ps.length = 0 := by
      have := (List.getElem?_eq_some_iff.mp h1).1
      simp at this
      omega
    rw [e0] at h1
    rw [← h.len, e0] at h2
    cases Option.some.inj h1
    cases Option.some.inj h2
    exact upd_at hp np
def CwL (H : Hp) (f : Nat → Bool) (v : Nat → List Int) (Dl : Addr) (i : Nat) (H' : Hp) : Prop := H Dl = none ∧ Ex H H' ∧ ∃ ps, AtL H' Dl ps (givenL i f v) ∧ (∀ x ∈ ps, H x = none) ∧ ps.Nodup
theorem cwL_turn {f : Nat → Bool} {v : Nat → List Int} {Dl : Addr} {i : Nat} {σ2 : L2.St} (c : CwL H f v Dl i H') (hi : i < 50000) (ht : EvT t σ2 H (f i)) (he : f i = true → EvL te σ2 H ((v i).map V.int)) :
    t σ2 H' fun b H3 => if b = true then te σ2 H3 fun y H4 => ∃ acc, H4 Dl = some (.lst acc) ∧ acc.length < sizeLine ∧ CwL H f v Dl (i + 1) (upd H4 Dl (.lst (acc ++ [y]))) else CwL H f v Dl (i + 1) H3 := by
  obtain ⟨c1, c2, ps, c3, c4, c5⟩ := c
  refine ht H' c2 _ fun H3 e3 => ?_
  cases hf : f i with
  | true =>
    show te σ2 H3 fun y H4 => ∃ acc, H4 Dl = some (.lst acc) ∧ acc.length < sizeLine ∧ CwL H f v Dl (i + 1) (upd H4 Dl (.lst (acc ++ [y])))
    refine he hf H3 (c2.trans e3) _ fun p H4 np e4 hp => ?_
    have c34 := (c3.ex e3).ex e4
    have npD : p ≠ Dl := fun z => by
      rw [z, (c3.ex e3).top] at np
      cases np
    have npp : p ∉ ps := fun hm => by
      obtain ⟨_, _, _, _, hat⟩ := (c3.ex e3).mem hm
      rw [hat] at np
      cases np
    refine ⟨ps.map V.ref, c34.top, ?_, c1, Ex.mut ((c2.trans e3).trans e4) c1, ps ++ [p], ?_, ?_, ?_⟩
    · rw [List.length_map, c34.len]
      have := givenL_len i f v
      exact sz_lt (by omega)
    · rw [givenL_yes hf]
      exact c34.snoc (o := []) npD hp
    · intro x hx
      rcases List.mem_append.mp hx with hx | hx
      · exact c4 x hx
      · rw [List.mem_singleton.mp hx]
        exact fresh_back (c2.trans e3) np
    · rw [List.nodup_append]
      exact ⟨c5, by simp, fun x hx y hy => by rw [List.mem_singleton.mp hy]; exact fun z => npp (by rw [← z]; exact hx)⟩
  | false =>
    show CwL H f v Dl (i + 1) H3
    refine ⟨c1, c2.trans e3, ps, ?_, c4, c5⟩
    rw [givenL_no hf]
    exact c3.ex e3
theorem AtL.none (hD : H a = none) : AtL (upd H a (.lst [])) a [] [] := ⟨upd_same, rfl, fun i p ns h => by simp at h⟩
/-- [row for k in range(lo, n) if test] -/
theorem ell_lcR2 {ta : TA} {j : Nat} {vs : List Nat} {lo n : Int} (f : Nat → Bool) (v : Nat → List Int) (h : EvA ta σ H [.int lo, .int n]) (hn : 0 ≤ lo ∧ lo ≤ 40000 ∧ 0 ≤ n ∧ n ≤ 40000) (hw : ∀ x, wipe ((wipe σ vs).set j (some x)) vs = wipe σ vs)
    (ht : ∀ (i : Nat) H1, Ex H H1 → lo + (i : Int) < n → EvT t ((wipe σ vs).set j (some (.int (lo + (i : Int))))) H1 (f i)) (he : ∀ (i : Nat) H1, Ex H H1 → lo + (i : Int) < n → f i = true → EvL te ((wipe σ vs).set j (some (.int (lo + (i : Int))))) H1 ((v i).map V.int)) :
    EvLL (tLc (iRng2 ta) (gName j) t te vs) σ H (givenL (n - lo).toNat f v) := fun H0 e Q q => h H0 e _ fun H1 e1 => ⟨lo, n, rfl, ⟨by omega, by omega, by omega, by omega⟩, fun Dl hD =>
  lc_range (lo := lo) (n := (n - lo).toNat) (CwL H1 f v Dl) ⟨hD, Ex.new hD, [], AtL.none hD, (fun _ z => by cases z), List.nodup_nil⟩ (fun i H' hi c =>
    ⟨hw _, cwL_turn c (by omega) (ht i H1 (e.trans e1) (by omega)) (fun hf => he i H1 (e.trans e1) (by omega) hf)⟩) (fun H' c => by
      obtain ⟨c1, c2, ps, c3, c4, c5⟩ := c
      exact q Dl ps H' (fresh_back e1 c1) (e1.trans c2) c3 (fun x hx => fresh_back e1 (c4 x hx)) c5)⟩
theorem ell_lcR1 {ta : TA} {j : Nat} {vs : List Nat} {n : Int} (f : Nat → Bool) (v : Nat → List Int) (h : EvA ta σ H [.int n]) (hn : 0 ≤ n ∧ n ≤ 40000) (hw : ∀ x, wipe ((wipe σ vs).set j (some x)) vs = wipe σ vs)
    (ht : ∀ (i : Nat) H1, Ex H H1 → (i : Int) < n → EvT t ((wipe σ vs).set j (some (.int (i : Int)))) H1 (f i)) (he : ∀ (i : Nat) H1, Ex H H1 → (i : Int) < n → f i = true → EvL te ((wipe σ vs).set j (some (.int (i : Int)))) H1 ((v i).map V.int)) :
    EvLL (tLc (iRng1 ta) (gName j) t te vs) σ H (givenL n.toNat f v) := fun H0 e Q q => h H0 e _ fun H1 e1 => ⟨n, rfl, by omega, by omega, fun Dl hD =>
  lc_range (lo := 0) (n := n.toNat) (CwL H1 f v Dl) ⟨hD, Ex.new hD, [], AtL.none hD, (fun _ z => by cases z), List.nodup_nil⟩ (fun i H' hi c => by
    have e0 : (0 : Int) + (i : Int) = (i : Int) := Int.zero_add _
    show wipe ((wipe σ vs).set j (some (.int ((0 : Int) + (i : Int))))) vs = wipe σ vs ∧ t ((wipe σ vs).set j (some (.int ((0 : Int) + (i : Int))))) H' fun b H3 => if b = true then te ((wipe σ vs).set j (some (.int ((0 : Int) + (i : Int))))) H3 fun y H4 => ∃ acc, H4 Dl = some (.lst acc) ∧ acc.length < sizeLine ∧ CwL H1 f v Dl (i + 1) (upd H4 Dl (.lst (acc ++ [y]))) else CwL H1 f v Dl (i + 1) H3
    rw [e0]
    exact ⟨hw _, cwL_turn c (by omega) (ht i H1 (e.trans e1) (by omega)) (fun hf => he i H1 (e.trans e1) (by omega) hf)⟩) (fun H' c => by
      obtain ⟨c1, c2, ps, c3, c4, c5⟩ := c
      exact q Dl ps H' (fresh_back e1 c1) (e1.trans c2) c3 (fun x hx => fresh_back e1 (c4 x hx)) c5)⟩
variable {D : Ends} {tz tu : TS}
theorem q_asgLL {k : Nat} (h : EvLL te σ H rows) (c : ∀ p ps H1, H p = none → Ex H H1 → AtL H1 p ps rows → (∀ x ∈ ps, H x = none) → ps.Nodup → tz D (σ.set k (some (.ref p))) H1) : tSeq (tAsg te (gName k)) tz D σ H := h H (Ex.refl _) _ fun p ps H1 n e hp hn nd => c p ps H1 n e hp hn nd
theorem s_retLL (h : EvLL te σ H rows) (c : ∀ p ps H1, H p = none → Ex H H1 → AtL H1 p ps rows → (∀ x ∈ ps, H x = none) → ps.Nodup → D.rt (.ref p) H1) : tRet te D σ H := h H (Ex.refl _) _ c
def RetLL (rows : List (List Int)) (H : Hp) (Q : VK) : Prop := ∀ p ps H2, H p = none → Ex H H2 → AtL H2 p ps rows → (∀ x ∈ ps, H x = none) → ps.Nodup → Q (.ref p) H2
def SpLL (sp : Sp) (vs : List V) (H : Hp) (rows : List (List Int)) : Prop := ∀ H1, Ex H H1 → ∀ Q : VK, RetLL rows H1 Q → ∀ E : XK, sp vs H1 Q E
theorem ell_call {sp : Sp} {dvs vs : List V} {E : XK} {ta : TA} (h : EvA ta σ H vs) (hs : SpLL sp (vs ++ dvs) H rows) : EvLL (tCall sp dvs E ta) σ H rows := fun H1 e Q q =>
  h H1 e _ fun H2 e2 => hs H2 (e.trans e2) Q (fun p ps H3 hp e3 h3 hn nd => q p ps H3 (fresh_back e2 hp) (e2.trans e3) h3 (fun x hx => fresh_back e2 (hn x hx)) nd) E
/-- a call of one argument that is a list, new or not -/
theorem ell_call1R {sp : Sp} {E : XK} {xs : List V} (h : EvR te σ H xs) (hs : ∀ p H1, Ex H H1 → H1 p = some (.lst xs) → SpLL sp [.ref p] H1 rows) : EvLL (tCall sp [] E (tCons te tNil)) σ H rows := fun H1 e Q q =>
  h H1 e _ fun p H2 e2 hp => hs p H2 (e.trans e2) hp H2 (Ex.refl _) Q (fun r rs H3 nr e3 hr hn nd => q r rs H3 (fresh_back e2 nr) (e2.trans e3) hr (fun x hx => fresh_back e2 (hn x hx)) nd) E
theorem s_clear {xs : List V} (hl : H l = some (.lst xs)) (ha : Ev ta σ H (.ref l)) (k : ∀ H1, Ex H H1 → D.nx σ (upd H1 l (.lst []))) : tDrop (tBM0 K "list" (fun x vs H Q => ∃ l xs, x = .ref l ∧ vs = [] ∧ H l = some (.lst xs) ∧ Q .non (upd H l (.lst []))) ta) D σ H := ha H (Ex.refl H) _ fun H1 e1 =>
  ⟨Or.inl ⟨rfl, xs, sq_of (e1 l _ hl)⟩, ⟨l, xs, rfl, rfl, e1 _ _ hl, k H1 e1⟩⟩
theorem givenL_all (n : Nat) (v : Nat → List Int) : givenL n (fun _ => true) v = (List.range n).map v := by
  unfold givenL
  rw [List.filter_eq_self.mpr (fun _ _ => rfl)]
theorem givenL_at {n j : Nat} {v : Nat → List Int} {r : List Int} (h : (givenL n (fun _ => true) v)[j]? = some r) : j < n ∧ r = v j := by
  rw [givenL_all, List.getElem?_map] at h
  by_cases hj : j < n
  · rw [List.getElem?_range hj] at h
    exact ⟨hj, (Option.some.inj h).symm⟩
  · rw [List.getElem?_eq_none (by simp; omega)] at h
    cases h
theorem AtL.two {ns ms : List Int} (h : H l = some (.lst [.ref a, .ref b])) (h1 : At H a ns) (h2 : At H b ms) : AtL H l [a, b] [ns, ms] := by
  refine ⟨h, rfl, fun i p xs e1 e2 => ?_⟩
  match i, e1, e2 with
  | 0, e1, e2 =>
    cases Option.some.inj e1
    cases Option.some.inj e2
    exact h1
  | 1, e1, e2 =>
    cases Option.some.inj e1
    cases Option.some.inj e2
    exact h2
  | i + 2, e1, _ => simp at e1
theorem erl_two {ns ms : List Int} (ha : EvR ta σ H (ns.map V.int)) (hb : EvR tb σ H (ms.map V.int)) : EvRL (tLst (tCons ta (tCons tb tNil))) σ H [ns, ms] := fun H1 e Q q =>
  ha H1 e _ fun p H2 e2 hp => hb H2 (e.trans e2) _ fun r H3 e3 hr => ⟨by show 2 ≤ sizeLine; decide, fun s hs => q s [p, r] _ ((e2.trans e3).trans (Ex.new hs)) (AtL.two upd_same (Ex.new hs _ _ (e3 _ _ hp)) (Ex.new hs _ _ hr))⟩
end
/-- the decks that lead to one by a turn -/
def aheadsM (ns : List Int) : List (List Int) := givenL (ns.length - 1) (inPl ns) (fun i => ov ns (2 + (i : Int)))
theorem inPl_at {ns : List Int} {i : Nat} (h : i + 1 < ns.length) : ∃ c, ns[i + 1]? = some c ∧ decide (c = (i : Int) + 2) = inPl ns i := by
  have e : ns[i + 1]? = some ns[i + 1] := List.getElem?_eq_getElem h
  refine ⟨_, e, ?_⟩
  unfold inPl
  rw [e]
  by_cases z : ns[i + 1] = (i : Int) + 2 <;> simp [z]
end Tt

/-! Errors: a def that may raise; a def that is asked of the caught error. -/
namespace Tt
open PySem PySem.Spec PyProof.Rows L2 L2H Evl
/-- nothing is let out -/
theorem passN {X : Cx} : Passes (L2N.CX X.prog X.w) X E0 := fun _ _ _ _ _ _ _ c => by
  obtain ⟨_, _, _, _, _, _, _, _, _, _, _, _, f⟩ := c
  cases f
theorem takes0 {X : Cx} : L2.Takes X (fun _ _ _ _ => False) := fun _ _ x => by
  obtain ⟨_, _, _, _, _, _, _, _, _, _, _, _, _, _, _, _, f⟩ := x
  cases f
theorem takesN0 {X : Cx} : L2N.Takes X (fun _ _ _ _ => False) := fun _ _ x => by
  obtain ⟨_, _, _, _, _, _, _, _, _, _, _, _, _, _, _, _, f⟩ := x
  cases f
section
variable {P : Program} {w : World} {K : PySem.W.Frag} {mg : Str → Option Value} {base : Heap}
/-- a def of the text that may raise -/
theorem okN {x qual : Str} {st : Stmt} {f : Addr} {fd : FuncData} {N ps : List Str} {k : Nat} {sp : Sp} (F : Fun K x qual st f fd) (S : FnScope N ps (defScope st)) (len : ∀ vs H Q E, sp vs H Q E → vs.length = ps.length)
    (body : ∀ (cdv : Value) (AA : Around) (outer : List Env) (s : Shared) (H : Hp) (vs : List V) (Q : VK) (E : XK), Room k (AA.deeper (envOfC qual (defScope st) s.heap.objs.size f cdv)) → sp vs H Q E →
      ∃ t, PSs (cxOf (L2N.CX P w) P w K mg base N qual (defScope st) f cdv AA outer s H E) (defBody st) t ∧ t { nx := fun _ H' => Q .non H', rt := Q } (start N vs) H) : FnOk P w K mg base (L2N.CX P w) (k + 1) f fd ps sp := by
  obtain ⟨oc, od, kV, doc, pm, an, cdv, ct, osl, rfl, lk, hcd⟩ := F.ex
  exact fn_of lk hcd S len fun AA outer s H vs Q E hr hsp => body cdv AA outer s H vs Q E hr hsp

/-! ### a def that is handed the caught error: its promise may speak of it -/
abbrev SpE := Addr → Value → Option Addr → Sp
structure FnE (P : Program) (w : World) (K : PySem.W.Frag) (mg : Str → Option Value) (base : Heap) (k : Nat) (f : Addr) (fd : FuncData) (ps : List Str) (sp : SpE) : Prop where
  len : ∀ a c d vs H Q E, sp a c d vs H Q E → vs.length = ps.length
  run : ∀ (AA : Around) (outer : List Env) (s : Shared) (H : Hp) (args : Args) (us : List Value) (vs : List V) (Q : VK) (E : XK) (p : Addr × Obj) (c : Value) (d : Option Addr), RoomH k AA → Hot1 AA p → L2N.Zn c d p.2 → PinOk outer H s p → Env0 P w K mg base AA outer s H →
    BindsTo s fd args (ps.zip us) → Vals vs us → sp p.1 c d vs H Q E → codeAny (model P w) AA (.call (.ref f) args) (CR CX0 outer P w H s Q E) s
/-- such a def, by its body -/
theorem okE {x qual : Str} {st : Stmt} {f : Addr} {fd : FuncData} {N ps : List Str} {k : Nat} {sp : SpE} (F : Fun K x qual st f fd) (S : FnScope N ps (defScope st)) (len : ∀ a c d vs H Q E, sp a c d vs H Q E → vs.length = ps.length)
    (body : ∀ (cdv : Value) (AA : Around) (outer : List Env) (s : Shared) (H : Hp) (vs : List V) (Q : VK) (E : XK) (p : Addr × Obj) (c : Value) (d : Option Addr), Hot1 AA p → L2N.Zn c d p.2 → RoomH k (AA.deeper (envOfC qual (defScope st) s.heap.objs.size f cdv)) → sp p.1 c d vs H Q E →
      ∃ t, PSs (cxH CX0 P w K mg base N qual (defScope st) f cdv AA outer s H E p) (defBody st) t ∧ t { nx := fun _ H' => Q .non H', rt := Q } (start N vs) H) : FnE P w K mg base (k + 1) f fd ps sp := by
  obtain ⟨oc, od, kV, doc, pm, an, cdv, ct, osl, rfl, lk, hcd⟩ := F.ex
  refine ⟨len, fun AA outer s H args us vs Q E p c d hr hot hz hpin e0 hb r hsp => ?_⟩
  -- the promise at this very error, as a promise of the layer's own kind
  let sp1 : Sp := fun vs H Q E => sp p.1 c d vs H Q E
  refine (fn_ofP lk hcd S (sp := sp1) (p := p) (fun vs H Q E h => len _ _ _ vs H Q E h) fun AA outer s H vs Q E hot hr h => body cdv AA outer s H vs Q E p c d hot hz hr h) AA outer s H args us vs Q E hr hot hpin e0 hb r hsp
where
  fn_ofP {name qual : Str} {params : Arguments} {body : List Stmt} {scope : Scope} {dV kV doc pm cdv ct oc : Value} {an od : Option Addr} {f : Addr} {k : Nat} {osl : Array (Option Value)} {N ps : List Str} {sp : Sp} {p : Addr × Obj} (lk : K.lookup f = some ⟨oc, od, .func (PySem.W.fnOf name qual params body scope dV kV doc pm an cdv ct), osl⟩) (hcd : PySem.W.codeIn K cdv qual = true) (S : FnScope N ps scope)
    (len : ∀ vs H Q E, sp vs H Q E → vs.length = ps.length)
    (hbody : ∀ (AA : Around) (outer : List Env) (s : Shared) (H : Hp) (vs : List V) (Q : VK) (E : XK), Hot1 AA p → RoomH k (AA.deeper (envOfC qual scope s.heap.objs.size f cdv)) → sp vs H Q E →
      ∃ t, PSs (cxH CX0 P w K mg base N qual scope f cdv AA outer s H E p) body t ∧ t { nx := fun _ H' => Q .non H', rt := Q } (start N vs) H) :
    ∀ (AA : Around) (outer : List Env) (s : Shared) (H : Hp) (args : Args) (us : List Value) (vs : List V) (Q : VK) (E : XK), RoomH (k + 1) AA → Hot1 AA p → PinOk outer H s p → Env0 P w K mg base AA outer s H → BindsTo s (PySem.W.fnOf name qual params body scope dV kV doc pm an cdv ct) args (ps.zip us) → Vals vs us → sp vs H Q E →
      codeAny (model P w) AA (.call (.ref f) args) (CR CX0 outer P w H s Q E) s := by
    intro AA outer s H args us vs Q E hr hot hpin e0 hb r hsp
    have hl := len _ _ _ _ hsp
    have KX : K.In s.heap := e0.mod.kin.keeps fun b o e => (e0.bs b o e).1
    have lim : s.heap.NoLimit := e0.mod.nolimit.keeps fun b o e => (e0.bs b o e).1
    have kinds : ∀ y ∈ ps.zip us, scope.names.lookup y.1 = some .local ∨ (scope.names.lookup y.1 = some .cell ∧ ((cellsFrom (s.heap.objs.size + 1) scope.names []).lookup y.1).isSome = true) := by
      intro y hy
      obtain ⟨n, v⟩ := y
      rcases S.par n (List.of_mem_zip hy).1 with h | h
      · exact Or.inl h
      · exact Or.inr ⟨h, PySem.W.cellsFrom_some _ _ _ (Or.inl h)⟩
    refine codeAny_call_function hr.depth (KX _ _ lk) rfl S.co S.gen rfl (PySem.W.codeRec_of KX hcd) (hb _ _ _ _ ?_)
    refine wpAny_newFunctionEnv_cells S.kind kinds fun env he s1 x => ?_
    subst he
    refine ⟨lim.keeps x.toInCall.keep, codeAny_func ?_⟩
    obtain ⟨t, ht, hq⟩ := hbody AA outer s H vs Q E hot (hr.deeper _) hsp
    have I := inv_startH (CX := CX0) (E := E) (qual := qual) (f := f) (cd := cdv) S hpin e0 hl r x
    refine wpAny_mono (ht.run [] s1 _ H _ I hq) (fun fl s' hs => ?_) fun e s' hs => hs
    match fl, hs with
    | .ret u, ⟨v, σ', H', J, rv, q⟩ => exact ⟨v, H', J.os, J.bare, J.base, J.hok, rv, q⟩
    | .next, ⟨σ', H', J, q⟩ => exact ⟨V.non, H', J.os, J.bare, J.base, J.hok, rfl, q⟩
    | .brk, ⟨_, _, _, q⟩ => exact q.elim
    | .cont, ⟨_, _, _, q⟩ => exact q.elim
end
/-- its call in the suite that holds the error -/
def tCallE (sp : SpE) (a : Addr) (c : Value) (d : Option Addr) (t : TA) : TE := fun σ H Q => t σ H fun vs H1 => sp a c d vs H1 Q E0
theorem pe_callE {X : Cx} {k : Nat} {f : Addr} {fd : FuncData} {ps : List Str} {sp : SpE} {x : Str} {q pos : Pos} {e : Expr} {es : List Expr} {t : TA} {a : Addr} {oe : Obj} {c : Value} {d : Option Addr} (F : FnE X.prog X.w X.K X.mg X.base k f fd ps sp) (hr : RoomH k X.A) (hot : Hot1 X.A (a, oe)) (hp : (a, oe) ∈ X.pn) (hz : L2N.Zn c d oe)
    (hg : Gl X x) (hm : X.mg x = some (.ref f)) (hk : PySem.W.keepIn X.K (.ref f) = true) (hb : Binds X.K fd ps []) (ha : PA X (e :: es) t)
    (hdb : (x == ("__debug__" : Str)) = false := by decide) (he : starEach (e :: es) X.env = (false, eval e X.env) :: starEach es X.env := by rfl) (hpl : (backTo pos (starEach es X.env)).any (·.1) = false := by rfl) :
    PE X (.Call (.Name x q) (e :: es) [] pos) (tCallE sp a c d t) := by
  refine ⟨fun pins s σ H Q I h => ?_⟩
  refine wpAny_Call_Name_kw (ld_glob I hg hm ?_ hdb)
  refine PySem.W.callWith_K (h₀ := X.base) I.ok.mod.kin hk (thn (ha.run pos pins s σ H _ I h) fun us s1 ⟨vs, H1, I1, r, hsp⟩ => ⟨I1.kIn, ?_⟩) he hpl
  have hl : us.length = ps.length := by rw [← r.length]; exact F.len _ _ _ _ _ _ _ hsp
  have b := hb s1 us I1.kIn (by rw [List.append_nil]; exact hl)
  rw [List.append_nil] at b
  have P1 := I1.pin (a, oe) (List.mem_append_left _ hp)
  have hpin : PinOk X.stack H1 s1 (a, oe) := ⟨P1.1, P1.2.1, fun hm => (List.mem_cons.mp (I1.stkSub a hm)).elim P1.2.2.1 P1.2.2.2.1, P1.2.2.2.2⟩
  refine wpAny_call (codeAny_mono (F.run X.A X.stack s1 H1 ⟨us, []⟩ us vs Q E0 (a, oe) c d hr hot hz hpin I1.env0 b r hsp) fun r s' hq => ?_)
  match r, hq with
  | .error e, hq => exact hq.elim
  | .ok (.ret u), hq => exact I1.after hq
  | .ok .next, hq => exact hq.elim
  | .ok .brk, hq => exact hq.elim
  | .ok .cont, hq => exact hq.elim
/-- isinstance of the error that the context holds -/
theorem call_isP {X : Cx} {D : Addr} {p : Addr × Obj} (hp : p ∈ X.pn) (C : ExcC X.K D) (hz : L2N.Zn (.ref D) none p.2) (hf : ∃ vs, p.2.data = .fields vs) : CallR X (.builtin "isinstance") (rIsE X.K D p.1) := by
  intro pins s σ H xs us Q I r h
  obtain ⟨c, cv, b, rfl, hcv, e, q⟩ := h
  match us, r with
  | [u1, u2], .cons rx (.cons rt .nil) =>
    cases rx
    cases hcv _ rt
    have hget := (I.pin p (List.mem_append_left _ hp)).1
    obtain ⟨vs, hv⟩ := hf
    have J : PySem.W.InstAt s.heap p.1 p.2 D none := by
      obtain ⟨a, oc, od, oda, osl⟩ := p
      obtain ⟨h1, h2, _⟩ := hz
      dsimp only at h1 h2 hv hget
      subst h1 h2 hv
      exact ⟨hget, rfl, rfl, trivial⟩
    exact PySem.W.kia_one (PySem.W.handS_kitx_exc C.hg C.hk C.hs C.hd C.ha C.hn C.ht C.hm) I.kIn J e (fun z => nomatch z) fun tk => ⟨.bl b, H, I.kept (t' := tk) fun _ _ z => z, rfl, q⟩
/-! ### which errors an error is -/
theorem kit_own {K : PySem.W.Frag} {D C : Addr} {b : Bool} (i : PySem.W.isClsIn K C = true) (t : PySem.W.typeIn K (.ref C) = some (.type "type")) (s : PySem.W.subIn K (.ref D) (.ref C) = some b) (ne : D ≠ C) : PySem.W.kitOne K (.ref D) (.ref C) = some b := by
  have e0 : ¬ (Value.ref D == Value.ref C) = true := fun z => ne (Value.ref.inj (beq_iff_eq.mp z))
  have e2 : ((PySem.W.clsIn K C).isSome && PySem.W.typeIn K (.ref C) == some (.type "type")) = true := by
    have i' : (PySem.W.clsIn K C).isSome = true := i
    rw [i', t]
    rfl
  unfold PySem.W.kitOne
  rw [if_neg e0]
  show (if ((PySem.W.clsIn K C).isSome && PySem.W.typeIn K (.ref C) == some (.type "type")) = true then PySem.W.subIn K (.ref D) (.ref C) else none) = some b
  rw [if_pos e2]
  exact s
theorem kit_self {K : PySem.W.Frag} {D : Addr} : PySem.W.kitOne K (.ref D) (.ref D) = some true := by
  unfold PySem.W.kitOne
  rw [if_pos (beq_self_eq_true _)]
theorem kit_blt {K : PySem.W.Frag} {D : Addr} {T : String} {b : Bool} (m : PySem.W.kitMeta T = true) (s : PySem.W.subIn K (.ref D) (.type T) = some b) : PySem.W.kitOne K (.ref D) (.type T) = some b := by
  unfold PySem.W.kitOne
  rw [if_neg (fun z => by have := beq_iff_eq.mp z; cases this)]
  show (if PySem.W.kitMeta T = true then PySem.W.subIn K (.ref D) (.type T) else none) = some b
  rw [if_pos m]
  exact s
theorem ne_by_sub {K : PySem.W.Frag} {D C : Addr} (s : PySem.W.subIn K (.ref D) (.ref C) = some false) (t : PySem.W.subIn K (.ref D) (.ref D) = some true) : D ≠ C := fun z => by
  rw [← z, t] at s
  cases s
theorem kit_not {K : PySem.W.Frag} {D C : Addr} (i : PySem.W.isClsIn K C = true) (t : PySem.W.typeIn K (.ref C) = some (.type "type")) (s : PySem.W.subIn K (.ref D) (.ref C) = some false) (r : PySem.W.subIn K (.ref D) (.ref D) = some true) : PySem.W.kitOne K (.ref D) (.ref C) = some false := kit_own i t s (ne_by_sub s r)
/-- what the top says of a class of errors -/
structure ErrF (K : PySem.W.Frag) (mg : Str → Option Value) (x : Str) (C : Addr) : Prop where
  g : mg x = some (.ref C)
  k : PySem.W.keepIn K (.ref C) = true
  x : PySem.W.excIn K C [.type "ValueError", .type "Exception", .type "BaseException", .type "object"] "ValueError.__new__" = true
  b : PySem.W.subIn K (.ref C) (.type "BaseException") = some true
  v : PySem.W.subIn K (.ref C) (.type "ValueError") = some true
  t : PySem.W.typeIn K (.ref C) = some (.type "type")
  i : PySem.W.isClsIn K C = true
  s : PySem.W.subIn K (.ref C) (.ref C) = some true
  e : ExcC K C
theorem ErrF.raises {K : PySem.W.Frag} {mg : Str → Option Value} {x : Str} {C : Addr} {X : Cx} (F : ErrF K mg x C) (h : X.K = K) : Raises X (.ref C) := raises_own (by rw [h]; exact F.b) (by rw [h]; exact F.t)
structure ClsF (K : PySem.W.Frag) (mg : Str → Option Value) (x : Str) (C : Addr) : Prop where
  g : mg x = some (.ref C)
  i : PySem.W.isClsIn K C = true
  t : PySem.W.typeIn K (.ref C) = some (.type "type")
theorem roomH_at {k : Nat} {A B : Around} (r : Room k A) (e1 : B.depth = A.depth) (e2 : B.units = A.units) : RoomH k B := ⟨by rw [e1]; exact r.dp, by rw [e2]; exact r.un⟩
theorem hot_at {A : Around} {a : Addr} {oe : Obj} {c : Value} {d : Option Addr} (h : A.handled = some (.ref a)) (hz : L2N.Zn c d oe) (hf : ∃ vs, oe.data = .fields vs) : Hot1 A (a, oe) :=
  ⟨h, let ⟨vs, e⟩ := hf; ⟨vs, e, hz.2.2 vs e⟩⟩
/-- a list of bools, new -/
theorem ev_neB {K : PySem.W.Frag} {σ : L2.St} {H : Hp} {ta tb : TE} {bs cs : List Bool} (ha : EvR ta σ H (bs.map V.bl)) (hb : EvR tb σ H (cs.map V.bl)) : Ev (tOp (rNeD K) ta tb) σ H (.bl (!decide (bs = cs))) := fun H1 e Q q =>
  ha H1 e _ fun p H2 e2 hp => hb H2 (e.trans e2) _ fun r H3 e3 hr =>
    ⟨dB bs, dB cs, Dp.bools (sq_of (e3 _ _ hp)), Dp.bools (sq_of hr), Dat.bool.list.shaped (by decide) bs, Dat.bool.list.shaped (by decide) cs, by rw [Dat.bool.list.eq]; exact q H3 (e2.trans e3)⟩
theorem ev_eqB {K : PySem.W.Frag} {σ : L2.St} {H : Hp} {ta tb : TE} {bs cs : List Bool} (ha : EvR ta σ H (bs.map V.bl)) (hb : EvR tb σ H (cs.map V.bl)) : Ev (tOp (rEqD K) ta tb) σ H (.bl (decide (bs = cs))) := fun H1 e Q q =>
  ha H1 e _ fun p H2 e2 hp => hb H2 (e.trans e2) _ fun r H3 e3 hr =>
    ⟨dB bs, dB cs, Dp.bools (sq_of (e3 _ _ hp)), Dp.bools (sq_of hr), Dat.bool.list.shaped (by decide) bs, Dat.bool.list.shaped (by decide) cs, by rw [Dat.bool.list.eq]; exact q H3 (e2.trans e3)⟩
/-- isinstance(e, C), as a value -/
theorem ev_isE {K : PySem.W.Frag} {σ : L2.St} {H : Hp} {ta : TE} {D a : Addr} {c : V} {cv : Value} {b : Bool} (ha : Ev ta σ H (.ref a)) (hc : ∀ u, RelV c u → u = cv) (k : PySem.W.kitOne K (.ref D) cv = some b) : Ev (tCB (rIsE K D a) (tCons ta (tCons (tC c) tNil))) σ H (.bl b) := fun H1 e Q q =>
  ha H1 e _ fun H2 e2 => ⟨c, cv, b, rfl, hc, k, q H2 e2⟩
end Tt

/-! A game as an object. -/
namespace Tt
open PySem PySem.Spec PyProof.Rows L2 L2H Evl
/-- a method that may raise, called inside a try -/
def tMethT (C : Addr) (m : Str) (sp : Sp) (E : L2.St → XK) (ta : TE) : TE := fun σ H Q => ta σ H fun x H1 => ∃ a dx fs, x = .ref a ∧ H1 a = some (.ins C dx fs) ∧ fs.lookup m = none ∧ sp [x] H1 Q (E σ)
theorem pe_methT0 {X : Cx} {CXa : CXT} {k : Nat} {f C : Addr} {fd : FuncData} {ps : List Str} {sp : Sp} {E : L2.St → XK} {m : Str} {pos apos : Pos} {o : Expr} {ta : TE} {pl : Sem Bool} (ho : PE X o ta) (cl : Cls X.K C) (hm : Meth X.K C m f) (F : FnOk X.prog X.w X.K X.mg X.base CXa k f fd ps sp) (hr : Room k X.A) (hb : Binds X.K fd ps []) (hx : ∀ σ, PassesAt CXa X σ (E σ))
    (ht : eval (.Call (.Attribute o m apos) [] [] pos) X.env = (do
      let ov ← eval o X.env
      standAt apos.atName
      let (f, first) ← holding [ov] (getMethod ov m pl)
      callWith pos f first (backTo pos (starEach [] X.env)) (backToKw pos (keywordEach [] X.env))) := by rfl) :
    PE X (.Call (.Attribute o m apos) [] [] pos) (tMethT C m sp E ta) := by
  refine ⟨fun pins s σ H Q I hq => ?_⟩
  refine PySem.W.methodCall_KW (pl := pl) (thn (ho.run pins s σ H _ I hq) fun u s1 ⟨x, H1, I1, rx, a, dx, fs, ex, ea, l, q⟩ => ?_) ht
  subst ex
  obtain rfl : u = Value.ref a := rx
  exact getmeth_ok I1 ea cl hm l (PySem.W.callWith_K0 (first := [.ref a]) I1.kIn hm.kp (run_fnS (us := [.ref a]) (vs := [.ref a]) F hr hb (hx σ) I1 (.cons rfl .nil) q))
/-! ### the fields -/
def fsG (c d : Addr) : List (Str × V) := putF "done" (.ref d) (putF "cards" (.ref c) [])
theorem cd_ : ¬ (("cards" : Str) = "done") := by decide +kernel
theorem fsG_eq (c d : Addr) : fsG c d = ([("cards", V.ref c), ("done", V.ref d)] : List (Str × V)) := by
  show (if ("cards" : Str) = "done" then [(("cards" : Str), V.ref d)] else (("cards" : Str), V.ref c) :: putF "done" (V.ref d) []) = ([("cards", V.ref c), ("done", V.ref d)] : List (Str × V))
  rw [if_neg cd_]
  rfl
theorem fsG_cards (c d : Addr) : (fsG c d).lookup ("cards" : Str) = some (.ref c) := by
  unfold fsG
  rw [lookup_putF, if_neg cd_, lookup_putF, if_pos rfl]
theorem fsG_done (c d : Addr) : (fsG c d).lookup ("done" : Str) = some (.ref d) := by
  unfold fsG
  rw [lookup_putF, if_pos rfl]
theorem fsG_no (c d : Addr) {m : Str} (h1 : ¬ m = "done") (h2 : ¬ m = "cards") : (fsG c d).lookup m = none := by
  unfold fsG
  rw [lookup_putF, if_neg h1, lookup_putF, if_neg h2]
  rfl
theorem fsG_put (c c' d : Addr) : putF "cards" (.ref c') (fsG c d) = fsG c' d := by
  rw [fsG_eq, fsG_eq]
  show (if ("cards" : Str) = "cards" then (("cards" : Str), V.ref c') :: [(("done" : Str), V.ref d)] else _) = ([("cards", V.ref c'), ("done", V.ref d)] : List (Str × V))
  rw [if_pos rfl]
theorem fsG_len (c d : Addr) : (fsG c d).length < 1000 := by
  rw [fsG_eq]
  show 2 < 1000
  decide
/-! ### what stays but for some -/
def Frm (M : List Addr) (H H' : Hp) : Prop := ∀ b o, b ∉ M → H b = some o → H' b = some o
theorem Frm.trans {M : List Addr} {H H1 H2 : Hp} (a : Frm M H H1) (b : Frm M H1 H2) : Frm M H H2 := fun x o hx h => b x o hx (a x o hx h)
theorem Frm.ex {M : List Addr} {H H1 : Hp} (a : Ex H H1) : Frm M H H1 := fun x o _ h => a x o h
theorem Frm.upd {M : List Addr} {H H1 : Hp} {p : Addr} {o : HO} (a : Frm M H H1) (hp : p ∈ M) : Frm M H (upd H1 p o) := fun x u hx h => by
  rw [upd_ne fun z => hx (by rw [z]; exact hp)]
  exact a x u hx h
theorem Frm.mono {M N : List Addr} {H H1 : Hp} (a : Frm M H H1) (h : ∀ x ∈ M, x ∈ N) : Frm N H H1 := fun x o hx e => a x o (fun z => hx (h x z)) e
theorem Frm.toEx {M : List Addr} {B H H1 : Hp} (e : Ex B H) (a : Frm M H H1) (hM : ∀ x ∈ M, B x = none) : Ex B H1 := fun x o h => a x o (fun z => by rw [hM x z] at h; cases h) (e x o h)
/-- a game at g -/
structure Pl (C : Addr) (H : Hp) (g dx c d : Addr) (cs ts : List Int) : Prop where
  o : H g = some (.ins C dx (fsG c d))
  at1 : At H c cs
  at2 : At H d ts
  ne : c ≠ d
  dk : IsDk cs
  lo : 1 ≤ cs.length
  hi : cs.length ≤ 16
theorem Pl.frm {C g dx c d : Addr} {H H' : Hp} {cs ts : List Int} {M : List Addr} (h : Pl C H g dx c d cs ts) (f : Frm M H H') (h1 : g ∉ M) (h2 : c ∉ M) (h3 : d ∉ M) : Pl C H' g dx c d cs ts := ⟨f _ _ h1 h.o, f _ _ h2 h.at1, f _ _ h3 h.at2, h.ne, h.dk, h.lo, h.hi⟩
theorem Pl.ex {C g dx c d : Addr} {H H' : Hp} {cs ts : List Int} (h : Pl C H g dx c d cs ts) (f : Ex H H') : Pl C H' g dx c d cs ts := ⟨f _ _ h.o, f _ _ h.at1, f _ _ h.at2, h.ne, h.dk, h.lo, h.hi⟩
theorem lst_ins {H : Hp} {a b C dx : Addr} {xs : List V} {fs : List (Str × V)} (h1 : H a = some (.lst xs)) (h2 : H b = some (.ins C dx fs)) : a ≠ b := fun z => by
  rw [z, h2] at h1
  cases h1
theorem ref_ints {H : Hp} {a b x : Addr} {ns : List Int} (h1 : H a = some (.lst [.ref x])) (h2 : At H b ns) : a ≠ b := fun z => by
  rw [z] at h1
  have e : ns.map V.int = [V.ref x] := HO.lst.inj (Option.some.inj (h2.symm.trans h1))
  cases ns with
  | nil => cases e
  | cons n r => exact absurd (List.cons.inj e).1 (by intro w; cases w)
section
variable {K : PySem.W.Frag} {σ : L2.St} {H H' : Hp} {ta tb te tx : TE} {a b g C dx : Addr} {fs : List (Str × V)} {f m : Str} {v : V}
theorem ev_fld (h : Ev te σ H (.ref g)) (hg : H g = some (.ins C dx fs)) (c : Cls K C) (n : NoAttr K C f) (hl : fs.lookup f = some v) : Ev (tFld K te f) σ H v := fun H1 e Q q =>
  h H1 e _ fun H2 e2 => ⟨g, C, dx, fs, v, rfl, (e.trans e2) _ _ hg, c, n, hl, q H2 e2⟩
theorem q_asgPop {D : Ends} {tz : TS} {k : Nat} {l : Addr} {ns : List Int} {i : Int} (h : Ev ta σ H (.ref l)) (hl : At H l (ns ++ [i])) (c : ∀ H1, Ex H H1 → tz D (σ.set k (some (.int i))) (upd H1 l (.lst (ns.map V.int)))) : tSeq (tAsg (tBM0 K "list" rPop ta) (gName k)) tz D σ H :=
  h H (Ex.refl _) _ fun H1 e1 => ⟨Or.inl ⟨rfl, _, sq_of (e1 _ _ hl)⟩, l, _, .int i, rfl, rfl, e1 _ _ hl, by simp, by
    have e : ((ns ++ [i]).map V.int).dropLast = ns.map V.int := by simp
    rw [e]
    exact c H1 e1⟩
theorem q_fldL {D : Ends} {tz : TS} {tv : TE} {xs : List V} (hv : EvL tv σ H xs) (ha : Ev ta σ H (.ref g)) (hg : H g = some (.ins C dx fs)) (cl : Cls K C) (na : NoAttr K C f) (hl : fs.length < 1000) (c : ∀ p H1, H p = none → Ex H H1 → H1 p = some (.lst xs) → tz D σ (upd H1 g (.ins C dx (putF f (.ref p) fs)))) :
    tSeq (sFld K ta tv f) tz D σ H := hv H (Ex.refl _) _ fun p H1 np e1 hp => ha H1 e1 _ fun H2 e2 => ⟨g, C, dx, fs, rfl, (e1.trans e2) _ _ hg, cl, na, hl, c p H2 np (e1.trans e2) (e2 _ _ hp)⟩
theorem el_meth {sp : Sp} {E : XK} {xs : List V} (h : Ev ta σ H (.ref g)) (hg : H g = some (.ins C dx fs)) (hl : fs.lookup m = none) (hs : SpL sp [.ref g] H xs) : EvL (tMeth C m sp [] E ta tNil) σ H xs := fun H1 e Q q =>
  h H1 e _ fun H2 e2 => ⟨g, dx, fs, rfl, (e.trans e2) _ _ hg, hl, hs H2 (e.trans e2) Q (fun p H3 np e3 hp => q p H3 (fresh_back e2 np) (e2.trans e3) hp) E⟩
theorem ev_meth {sp : Sp} {E : XK} (h : Ev ta σ H (.ref g)) (hg : H g = some (.ins C dx fs)) (hl : fs.lookup m = none) (hs : SpV sp [.ref g] H v) : Ev (tMeth C m sp [] E ta tNil) σ H v := fun H1 e Q q =>
  h H1 e _ fun H2 e2 => ⟨g, dx, fs, rfl, (e.trans e2) _ _ hg, hl, hs H2 (e.trans e2) Q (fun H3 e3 => q H3 (e2.trans e3)) E⟩
end
/-! ### a game and its copy kept here -/
structure Js (C : Addr) (H : Hp) (g dx d kp dn : Addr) (cs ts : List Int) : Prop where
  pl : ∃ c, Pl C H g dx c d cs ts ∧ c ≠ dn
  kd : ∃ kc, H kp = some (.lst [.ref kc]) ∧ At H kc cs ∧ kc ≠ d ∧ kc ≠ dn
  nt : At H dn ts
  ne : d ≠ dn
  tp : ∀ t ∈ ts, 1 ≤ t ∧ t ≤ (cs.length : Int)
theorem Js.ex {C g dx d kp dn : Addr} {H H' : Hp} {cs ts : List Int} (h : Js C H g dx d kp dn cs ts) (e : Ex H H') : Js C H' g dx d kp dn cs ts := by
  obtain ⟨⟨c, h1, h2⟩, ⟨kc, h3, h4, h5, h6⟩, h7, h8, h9⟩ := h
  exact ⟨⟨c, h1.ex e, h2⟩, ⟨kc, e _ _ h3, e _ _ h4, h5, h6⟩, e _ _ h7, h8, h9⟩
/-- one deed -/
def stepM (z : Int) (cs ts : List Int) : List Int × List Int :=
  if z % 3 < 2 then (if cs.getD 0 0 = 1 then (cs, ts) else (ov cs (cs.getD 0 0), ts ++ [cs.getD 0 0]))
  else (match ts.getLast? with | none => (cs, ts) | some t => (ov cs t, ts.dropLast))
end Tt

namespace Tt
open PySem PySem.Spec PyProof.Rows L2 Evl L2H
/-! ### the text by places -/
def topS (i : Nat) : Stmt := PySem.Challenge.pw_topturn_k12_whole_games_played.main.body.getD i (.Pass ⟨0, 0, 0, 0⟩)
abbrev s_ask : Stmt := topS 10
abbrev N_ask : List Str := ["deck"]
theorem sc_ask : FnScope N_ask ["deck"] (defScope s_ask) := ⟨rfl, rfl, rfl, by decide +kernel, rfl, by decide +kernel, by decide +kernel⟩
abbrev s_over : Stmt := topS 11
abbrev N_over : List Str := ["deck", "many"]
theorem sc_over : FnScope N_over ["deck", "many"] (defScope s_over) := ⟨rfl, rfl, rfl, by decide +kernel, rfl, by decide +kernel, by decide +kernel⟩
abbrev s_turned : Stmt := topS 12
abbrev N_turned : List Str := ["deck"]
theorem sc_turned : FnScope N_turned ["deck"] (defScope s_turned) := ⟨rfl, rfl, rfl, by decide +kernel, rfl, by decide +kernel, by decide +kernel⟩
abbrev s_game : Stmt := topS 13
abbrev N_game : List Str := ["deck", "tops"]
theorem sc_game : FnScope N_game ["deck"] (defScope s_game) := ⟨rfl, rfl, rfl, by decide +kernel, rfl, by decide +kernel, by decide +kernel⟩
abbrev s_Game___init__ : Stmt := inClass (topS 15) 0
abbrev N_Game___init__ : List Str := ["self", "deck"]
theorem sc_Game___init__ : FnScope N_Game___init__ ["self", "deck"] (defScope s_Game___init__) := ⟨rfl, rfl, rfl, by decide +kernel, rfl, by decide +kernel, by decide +kernel⟩
abbrev s_Game_turn : Stmt := inClass (topS 15) 1
abbrev N_Game_turn : List Str := ["self", "top"]
theorem sc_Game_turn : FnScope N_Game_turn ["self"] (defScope s_Game_turn) := ⟨rfl, rfl, rfl, by decide +kernel, rfl, by decide +kernel, by decide +kernel⟩
abbrev s_Game_back : Stmt := inClass (topS 15) 2
abbrev N_Game_back : List Str := ["self", "top"]
theorem sc_Game_back : FnScope N_Game_back ["self"] (defScope s_Game_back) := ⟨rfl, rfl, rfl, by decide +kernel, rfl, by decide +kernel, by decide +kernel⟩
abbrev s_Game_deck : Stmt := inClass (topS 15) 3
abbrev N_Game_deck : List Str := ["self"]
theorem sc_Game_deck : FnScope N_Game_deck ["self"] (defScope s_Game_deck) := ⟨rfl, rfl, rfl, by decide +kernel, rfl, by decide +kernel, by decide +kernel⟩
abbrev s_Game_done_tops : Stmt := inClass (topS 15) 4
abbrev N_Game_done_tops : List Str := ["self"]
theorem sc_Game_done_tops : FnScope N_Game_done_tops ["self"] (defScope s_Game_done_tops) := ⟨rfl, rfl, rfl, by decide +kernel, rfl, by decide +kernel, by decide +kernel⟩
abbrev s_Game_left : Stmt := inClass (topS 15) 5
abbrev N_Game_left : List Str := ["self"]
theorem sc_Game_left : FnScope N_Game_left ["self"] (defScope s_Game_left) := ⟨rfl, rfl, rfl, by decide +kernel, rfl, by decide +kernel, by decide +kernel⟩
abbrev s_law_cell_at : Stmt := topS 17
abbrev N_law_cell_at : List Str := ["script", "k"]
theorem sc_law_cell_at : FnScope N_law_cell_at ["script", "k"] (defScope s_law_cell_at) := ⟨rfl, rfl, rfl, by decide +kernel, rfl, by decide +kernel, by decide +kernel⟩
abbrev s_law_whole : Stmt := topS 18
abbrev N_law_whole : List Str := ["found"]
theorem sc_law_whole : FnScope N_law_whole ["found"] (defScope s_law_whole) := ⟨rfl, rfl, rfl, by decide +kernel, rfl, by decide +kernel, by decide +kernel⟩
abbrev s_law_deck : Stmt := topS 19
abbrev N_law_deck : List Str := ["script", "at", "most", "size", "left", "deck", "k"]
theorem sc_law_deck : FnScope N_law_deck ["script", "at", "most"] (defScope s_law_deck) := ⟨rfl, rfl, rfl, by decide +kernel, rfl, by decide +kernel, by decide +kernel⟩
abbrev s_law_over : Stmt := topS 20
abbrev N_law_over : List Str := ["deck", "many", "k"]
theorem sc_law_over : FnScope N_law_over ["deck", "many"] (defScope s_law_over) := ⟨rfl, rfl, rfl, by decide +kernel, rfl, by decide +kernel, by decide +kernel⟩
abbrev s_law_long : Stmt := topS 21
abbrev N_law_long : List Str := ["script", "at", "most", "deck", "k", "own", "top", "card"]
theorem sc_law_long : FnScope N_law_long ["script", "at", "most"] (defScope s_law_long) := ⟨rfl, rfl, rfl, by decide +kernel, rfl, by decide +kernel, by decide +kernel⟩
abbrev s_law_game : Stmt := topS 22
abbrev N_law_game : List Str := ["deck", "met"]
theorem sc_law_game : FnScope N_law_game ["deck"] (defScope s_law_game) := ⟨rfl, rfl, rfl, by decide +kernel, rfl, by decide +kernel, by decide +kernel⟩
abbrev s_law_which : Stmt := topS 23
abbrev N_law_which : List Str := ["e", "some"]
theorem sc_law_which : FnScope N_law_which ["e"] (defScope s_law_which) := ⟨rfl, rfl, rfl, by decide +kernel, rfl, by decide +kernel, by decide +kernel⟩
abbrev s_law_refused : Stmt := topS 24
abbrev N_law_refused : List Str := ["play", "way", "told", "e"]
theorem sc_law_refused : FnScope N_law_refused ["play", "way"] (defScope s_law_refused) := ⟨rfl, rfl, rfl, by decide +kernel, rfl, by decide +kernel, by decide +kernel⟩
abbrev s_law_deed : Stmt := topS 25
abbrev N_law_deed : List Str := ["play", "kept", "done", "cell", "deck", "found", "top"]
theorem sc_law_deed : FnScope N_law_deed ["play", "kept", "done", "cell"] (defScope s_law_deed) := ⟨rfl, rfl, rfl, by decide +kernel, rfl, by decide +kernel, by decide +kernel⟩
abbrev s_law_to_the_end : Stmt := topS 26
abbrev N_law_to_the_end : List Str := ["play", "kept", "done"]
theorem sc_law_to_the_end : FnScope N_law_to_the_end ["play", "kept", "done"] (defScope s_law_to_the_end) := ⟨rfl, rfl, rfl, by decide +kernel, rfl, by decide +kernel, by decide +kernel⟩
abbrev s_law : Stmt := topS 27
abbrev N_law : List Str := ["script", "most", "deck", "handed", "play", "other", "kept", "done", "k", "found", "left"]
theorem sc_law : FnScope N_law ["script"] (defScope s_law) := ⟨rfl, rfl, rfl, by decide +kernel, rfl, by decide +kernel, by decide +kernel⟩
/-- where things stand -/
structure Ads where
  (f_ask : Addr) (d_ask : FuncData)
  (f_over : Addr) (d_over : FuncData)
  (f_turned : Addr) (d_turned : FuncData)
  (f_game : Addr) (d_game : FuncData)
  (f_Game___init__ : Addr) (d_Game___init__ : FuncData)
  (f_Game_turn : Addr) (d_Game_turn : FuncData)
  (f_Game_back : Addr) (d_Game_back : FuncData)
  (f_Game_deck : Addr) (d_Game_deck : FuncData)
  (f_Game_done_tops : Addr) (d_Game_done_tops : FuncData)
  (f_Game_left : Addr) (d_Game_left : FuncData)
  (f_law_cell_at : Addr) (d_law_cell_at : FuncData)
  (f_law_whole : Addr) (d_law_whole : FuncData)
  (f_law_deck : Addr) (d_law_deck : FuncData)
  (f_law_over : Addr) (d_law_over : FuncData)
  (f_law_long : Addr) (d_law_long : FuncData)
  (f_law_game : Addr) (d_law_game : FuncData)
  (f_law_which : Addr) (d_law_which : FuncData)
  (f_law_refused : Addr) (d_law_refused : FuncData)
  (f_law_deed : Addr) (d_law_deed : FuncData)
  (f_law_to_the_end : Addr) (d_law_to_the_end : FuncData)
  (f_law : Addr) (d_law : FuncData)
  t_MOST : Tok
  c_CardError : Addr
  c_NoDeck : Addr
  c_NoTurn : Addr
  c_NoGame : Addr
  c_TooTall : Addr
  c_NoBack : Addr
  c_BadLine : Addr
  c_Game : Addr
/-- what the top has written -/
structure Txt (K : PySem.W.Frag) (mg : Str → Option Value) (A : Ads) : Prop where
  n_len : mg "len" = none
  n_sorted : mg "sorted" = none
  n_list : mg "list" = none
  n_range : mg "range" = none
  n_reversed : mg "reversed" = none
  n_isinstance : mg "isinstance" = none
  n_int : mg "int" = none
  n_bool : mg "bool" = none
  n_ValueError : mg "ValueError" = none
  g_MOST : mg "MOST" = some (.int 16 A.t_MOST)
  F_ask : Fun K "ask" "ask" s_ask A.f_ask A.d_ask
  g_ask : mg "ask" = some (.ref A.f_ask)
  b_ask : Binds K A.d_ask ["deck"] []
  F_over : Fun K "over" "over" s_over A.f_over A.d_over
  g_over : mg "over" = some (.ref A.f_over)
  b_over : Binds K A.d_over ["deck", "many"] []
  F_turned : Fun K "turned" "turned" s_turned A.f_turned A.d_turned
  g_turned : mg "turned" = some (.ref A.f_turned)
  b_turned : Binds K A.d_turned ["deck"] []
  F_game : Fun K "game" "game" s_game A.f_game A.d_game
  g_game : mg "game" = some (.ref A.f_game)
  b_game : Binds K A.d_game ["deck"] []
  F_Game___init__ : Fun K "__init__" "Game.__init__" s_Game___init__ A.f_Game___init__ A.d_Game___init__
  m_Game___init__ : Meth K A.c_Game "__init__" A.f_Game___init__
  b_Game___init__ : Binds K A.d_Game___init__ ["self", "deck"] []
  F_Game_turn : Fun K "turn" "Game.turn" s_Game_turn A.f_Game_turn A.d_Game_turn
  m_Game_turn : Meth K A.c_Game "turn" A.f_Game_turn
  b_Game_turn : Binds K A.d_Game_turn ["self"] []
  F_Game_back : Fun K "back" "Game.back" s_Game_back A.f_Game_back A.d_Game_back
  m_Game_back : Meth K A.c_Game "back" A.f_Game_back
  b_Game_back : Binds K A.d_Game_back ["self"] []
  F_Game_deck : Fun K "deck" "Game.deck" s_Game_deck A.f_Game_deck A.d_Game_deck
  m_Game_deck : Meth K A.c_Game "deck" A.f_Game_deck
  b_Game_deck : Binds K A.d_Game_deck ["self"] []
  F_Game_done_tops : Fun K "done_tops" "Game.done_tops" s_Game_done_tops A.f_Game_done_tops A.d_Game_done_tops
  m_Game_done_tops : Meth K A.c_Game "done_tops" A.f_Game_done_tops
  b_Game_done_tops : Binds K A.d_Game_done_tops ["self"] []
  F_Game_left : Fun K "left" "Game.left" s_Game_left A.f_Game_left A.d_Game_left
  m_Game_left : Meth K A.c_Game "left" A.f_Game_left
  b_Game_left : Binds K A.d_Game_left ["self"] []
  F_law_cell_at : Fun K "_law_cell_at" "_law_cell_at" s_law_cell_at A.f_law_cell_at A.d_law_cell_at
  g_law_cell_at : mg "_law_cell_at" = some (.ref A.f_law_cell_at)
  b_law_cell_at : Binds K A.d_law_cell_at ["script", "k"] []
  F_law_whole : Fun K "_law_whole" "_law_whole" s_law_whole A.f_law_whole A.d_law_whole
  g_law_whole : mg "_law_whole" = some (.ref A.f_law_whole)
  b_law_whole : Binds K A.d_law_whole ["found"] []
  F_law_deck : Fun K "_law_deck" "_law_deck" s_law_deck A.f_law_deck A.d_law_deck
  g_law_deck : mg "_law_deck" = some (.ref A.f_law_deck)
  b_law_deck : Binds K A.d_law_deck ["script", "at", "most"] []
  F_law_over : Fun K "_law_over" "_law_over" s_law_over A.f_law_over A.d_law_over
  g_law_over : mg "_law_over" = some (.ref A.f_law_over)
  b_law_over : Binds K A.d_law_over ["deck", "many"] []
  F_law_long : Fun K "_law_long" "_law_long" s_law_long A.f_law_long A.d_law_long
  g_law_long : mg "_law_long" = some (.ref A.f_law_long)
  b_law_long : Binds K A.d_law_long ["script", "at", "most"] []
  F_law_game : Fun K "_law_game" "_law_game" s_law_game A.f_law_game A.d_law_game
  g_law_game : mg "_law_game" = some (.ref A.f_law_game)
  b_law_game : Binds K A.d_law_game ["deck"] []
  F_law_which : Fun K "_law_which" "_law_which" s_law_which A.f_law_which A.d_law_which
  g_law_which : mg "_law_which" = some (.ref A.f_law_which)
  b_law_which : Binds K A.d_law_which ["e"] []
  F_law_refused : Fun K "_law_refused" "_law_refused" s_law_refused A.f_law_refused A.d_law_refused
  g_law_refused : mg "_law_refused" = some (.ref A.f_law_refused)
  b_law_refused : Binds K A.d_law_refused ["play", "way"] []
  F_law_deed : Fun K "_law_deed" "_law_deed" s_law_deed A.f_law_deed A.d_law_deed
  g_law_deed : mg "_law_deed" = some (.ref A.f_law_deed)
  b_law_deed : Binds K A.d_law_deed ["play", "kept", "done", "cell"] []
  F_law_to_the_end : Fun K "_law_to_the_end" "_law_to_the_end" s_law_to_the_end A.f_law_to_the_end A.d_law_to_the_end
  g_law_to_the_end : mg "_law_to_the_end" = some (.ref A.f_law_to_the_end)
  b_law_to_the_end : Binds K A.d_law_to_the_end ["play", "kept", "done"] []
  F_law : Fun K "law" "law" s_law A.f_law A.d_law
  g_law : mg "law" = some (.ref A.f_law)
  b_law : Binds K A.d_law ["script"] []
  C_Game : Cls K A.c_Game
  k_Game : Mk K A.c_Game A.f_Game___init__
  G_Game : mg "Game" = some (.ref A.c_Game)
  N_Game_cards : NoAttr K A.c_Game "cards"
  N_Game_done : NoAttr K A.c_Game "done"
  K_CardError : ClsF K mg "CardError" A.c_CardError
  K_NoDeck : ClsF K mg "NoDeck" A.c_NoDeck
  K_NoTurn : ClsF K mg "NoTurn" A.c_NoTurn
  K_NoGame : ClsF K mg "NoGame" A.c_NoGame
  K_TooTall : ClsF K mg "TooTall" A.c_TooTall
  K_NoBack : ClsF K mg "NoBack" A.c_NoBack
  K_BadLine : ClsF K mg "BadLine" A.c_BadLine
  E_NoTurn : ErrF K mg "NoTurn" A.c_NoTurn
  s_NoTurn_CardError : PySem.W.subIn K (.ref A.c_NoTurn) (.ref A.c_CardError) = some true
  s_NoTurn_NoDeck : PySem.W.subIn K (.ref A.c_NoTurn) (.ref A.c_NoDeck) = some false
  s_NoTurn_NoGame : PySem.W.subIn K (.ref A.c_NoTurn) (.ref A.c_NoGame) = some false
  s_NoTurn_TooTall : PySem.W.subIn K (.ref A.c_NoTurn) (.ref A.c_TooTall) = some false
  s_NoTurn_NoBack : PySem.W.subIn K (.ref A.c_NoTurn) (.ref A.c_NoBack) = some false
  s_NoTurn_BadLine : PySem.W.subIn K (.ref A.c_NoTurn) (.ref A.c_BadLine) = some false
  E_NoBack : ErrF K mg "NoBack" A.c_NoBack
  s_NoBack_CardError : PySem.W.subIn K (.ref A.c_NoBack) (.ref A.c_CardError) = some true
  s_NoBack_NoDeck : PySem.W.subIn K (.ref A.c_NoBack) (.ref A.c_NoDeck) = some false
  s_NoBack_NoTurn : PySem.W.subIn K (.ref A.c_NoBack) (.ref A.c_NoTurn) = some false
  s_NoBack_NoGame : PySem.W.subIn K (.ref A.c_NoBack) (.ref A.c_NoGame) = some false
  s_NoBack_TooTall : PySem.W.subIn K (.ref A.c_NoBack) (.ref A.c_TooTall) = some false
  s_NoBack_BadLine : PySem.W.subIn K (.ref A.c_NoBack) (.ref A.c_BadLine) = some false
  cb_CardError : PySem.W.subIn K (.ref A.c_CardError) (.type "BaseException") = some true
  cd_CardError : PySem.W.hasDictIn K A.c_CardError = true
section
variable {P : Program} {w : World} {K : PySem.W.Frag} {mg : Str → Option Value} {base : Heap} {A : Ads}
/-- a deck of 1 to 16 cards -/
structure Dk (ns : List Int) : Prop where
  dk : IsDk ns
  lo : 1 ≤ ns.length
  hi : ns.length ≤ 16
theorem Dk.ov {ns : List Int} (h : Dk ns) (k : Int) : Dk (ov ns k) := ⟨h.dk.ov k, by rw [ov_len]; exact h.lo, by rw [ov_len]; exact h.hi⟩
theorem Dk.top {ns : List Int} (h : Dk ns) : ∃ k : Int, ns[0]? = some k ∧ 1 ≤ k ∧ k ≤ ns.length := by
  have h0 : 0 < ns.length := h.lo
  have e : ns[0]? = some ns[0] := List.getElem?_eq_getElem h0
  exact ⟨_, e, h.dk.at e⟩
theorem Gm.short16 {d ts e : List Int} (g : Gm d ts e) (h : Dk d) : ts.length < 32768 := by
  have h1 := g.short h.dk
  have h2 : 2 ^ (d.length - 1) ≤ 2 ^ 15 := Nat.pow_le_pow_right (by decide) (by have := h.hi; omega)
  omega
def spAsk : Sp := fun vs H Q _ => ∃ (a : Addr) (ns : List Int), vs = [.ref a] ∧ At H a ns ∧ Dk ns ∧ RetV .non H Q
theorem spAsk_V {H : Hp} {a : Addr} {ns : List Int} (h : At H a ns) (d : Dk ns) : SpV spAsk [.ref a] H .non := fun H1 e Q q E => ⟨a, ns, rfl, e _ _ h, d, fun H2 e2 => q H2 e2⟩
theorem ok_ask (T : Txt K mg A) : FnOk P w K mg base CX0 1 A.f_ask A.d_ask ["deck"] spAsk := by
  refine T.F_ask.ok sc_ask (fun vs H Q E h => ?_) (fun cdv AA outer s H vs Q E hr h => ?_)
  · obtain ⟨a, ns, rfl, _⟩ := h
    rfl
  · obtain ⟨a, ns, rfl, ha, hd, q⟩ := h
    refine ⟨_, (pss_one (ps_if (PW.pt (pw_or (pt_cmpR op_lt (pe_callB (r := rLenS K) call_len_seq (by rfl) T.n_len PySem.boot_len (pa_cons (pv 0) pa_nil)) pe_int (nomark _)) (pw_or (pt_cmpR op_gt (pe_callB (r := rLenS K) call_len_seq (by rfl) T.n_len PySem.boot_len (pa_cons (pv 0) pa_nil)) (pe_glob (v := .int 16) rfl T.g_MOST ⟨_, rfl⟩) (nomark _)) (pw_or1 (pt_cmpR (r := rNeD K) (op_neD hr.units) (pe_callB (r := rSortedI K) cr_sortedI (by rfl) T.n_sorted (by decide +kernel) (pa_cons (pv 0) pa_nil)) (pe_listRg rfl (by rfl) T.n_list (prg_2 (by rfl) T.n_range pe_int (pe_op op_add (pe_callB (r := rLenS K) call_len_seq (by rfl) T.n_len PySem.boot_len (pa_cons (pv 0) pa_nil)) pe_int))) (nomark _))))))
      (pss_one ps_never)
      pss_nil)), ?_⟩
    have e1 : (decide ((ns.length : Int) < 1) || (decide ((16 : Int) < (ns.length : Int)) || !decide (srt ns = rng ns.length))) = false := by
      have h1 := hd.lo
      have h2 := hd.hi
      have h3 := (srt_rng ns).mpr hd.dk
      simp [h3]
      omega
    refine s_when (et_is (et_or (et_test (ev_op (ev_lenI (ev_var rfl) (sq_of ha)) ev_c rv_I0)) fun _ => et_or (et_test (ev_op (ev_lenI (ev_var rfl) (sq_of ha)) ev_c rv_I0)) fun _ => et_test (ev_neR (EvR.new (el_sorted (EvR.old (ev_var rfl) ha))) (EvR.new (el_rng ev_c (ev_op (ev_lenI (ev_var rfl) (sq_of ha)) ev_c rv_I0) rfl (by have := hd.hi; omega))))) e1) (fun z => nomatch z) fun _ H1 e => q.go e

def spOverL : Sp := fun vs H Q _ => ∃ (a : Addr) (ns : List Int) (k : Int), vs = [.ref a, .int k] ∧ At H a ns ∧ 0 ≤ k ∧ k ≤ ns.length ∧ ns.length ≤ 1000 ∧ RetL ((ov ns k).map V.int) H Q
theorem spOverL_L {H : Hp} {a : Addr} {ns : List Int} {k : Int} (h : At H a ns) (h0 : 0 ≤ k) (h1 : k ≤ ns.length) (hl : ns.length ≤ 1000) : SpL spOverL [.ref a, .int k] H ((ov ns k).map V.int) := fun H1 e Q q E => ⟨a, ns, k, rfl, e _ _ h, h0, h1, hl, fun p H2 hp e2 h2 => q p H2 hp e2 h2⟩

def spOver : Sp := fun vs H Q _ => ∃ (a : Addr) (ns : List Int) (k : Int), vs = [.ref a, .int k] ∧ At H a ns ∧ 0 ≤ k ∧ ns.length ≤ 1000 ∧ RetL ((ov ns k).map V.int) H Q
theorem spOver_L {H : Hp} {a : Addr} {ns : List Int} {k : Int} (h : At H a ns) (h0 : 0 ≤ k) (hl : ns.length ≤ 1000) : SpL spOver [.ref a, .int k] H ((ov ns k).map V.int) := fun H1 e Q q E => ⟨a, ns, k, rfl, e _ _ h, h0, hl, fun p H2 hp e2 h2 => q p H2 hp e2 h2⟩
theorem ok_over (T : Txt K mg A) : FnOk P w K mg base CX0 1 A.f_over A.d_over ["deck", "many"] spOver := by
  refine T.F_over.ok sc_over (fun vs H Q E h => ?_) (fun cdv AA outer s H vs Q E hr h => ?_)
  · obtain ⟨a, ns, k, rfl, _⟩ := h
    rfl
  · obtain ⟨a, ns, k, rfl, ha, hk, hl, q⟩ := h
    refine ⟨_, (pss_one (ps_ret (pe_op op_cat (pe_listRev rfl (by rfl) T.n_list (by rfl) T.n_reversed (pe_slice (r := rSlL K) sl_list (pv 0) po_none (po_some (pv 1)))) (pe_slice (r := rSlL K) sl_list (pv 0) (po_some (pv 1)) po_none)))), ?_⟩
    have e1 : ((ns.take k.toNat).map V.int).reverse ++ (ns.drop k.toNat).map V.int = (ov ns k).map V.int := by
      unfold ov
      rw [List.map_append, List.map_reverse]
    unfold RetL at q
    rw [← e1] at q
    exact s_retL (el_cat (EvR.new (el_rev (EvR.new (el_take (EvR.old (ev_var rfl) ha) (eo_some (ev_var rfl)) hk)))) (EvR.new (el_drop (EvR.old (ev_var rfl) ha) (eo_some (ev_var rfl)) hk)) (by simp; omega)) q

/-- with its refusal -/
def spTurned (C : Addr) : Sp := fun vs H Q E => ∃ (a : Addr) (ns : List Int) (k : Int), vs = [.ref a] ∧ At H a ns ∧ Dk ns ∧ ns[0]? = some k ∧ (k ≠ 1 → RetL ((ov ns k).map V.int) H Q) ∧ (k = 1 → ∀ H1, Ex H H1 → E (.ref C) none H1)
theorem spTurned_L {C : Addr} {H : Hp} {a : Addr} {ns : List Int} {k : Int} (h : At H a ns) (d : Dk ns) (hk : ns[0]? = some k) (h1 : k ≠ 1) : SpL (spTurned C) [.ref a] H ((ov ns k).map V.int) := fun H1 e Q q E => ⟨a, ns, k, rfl, e _ _ h, d, hk, fun _ p H2 hp e2 h2 => q p H2 hp e2 h2, fun z => absurd z h1⟩
theorem ok_turned (T : Txt K mg A) : FnOk P w K mg base (L2N.CX P w) 2 A.f_turned A.d_turned ["deck"] (spTurned A.c_NoTurn) := by
  refine okN T.F_turned sc_turned (fun vs H Q E h => ?_) (fun cdv AA outer s H vs Q E hr h => ?_)
  · obtain ⟨a, ns, k, rfl, _⟩ := h
    rfl
  · obtain ⟨a, ns, k, rfl, ha, hd, hk, q, qE⟩ := h
    refine ⟨_, (pss_cons (ps_expr (pe_call (ok_ask T) (hr.mono (by decide)) (by rfl) T.g_ask T.F_ask.kp T.b_ask .nil pass0 (pa_cons (pv 0) pa_nil)))
      (pss_cons (ps_if (pt_cmpR op_eq (pe_ix (r := rIxL K) ix_list (pv 0) pe_int (fun _ _ => rfl)) pe_int (nomark _))
      (pss_one (L2N.ps_raise rfl (L2N.takes_of rfl rfl rfl rfl) (L2N.pmk_own PySem.F.excBase_ValueError T.E_NoTurn.x T.E_NoTurn.g T.E_NoTurn.k (T.E_NoTurn.raises rfl) rfl)))
      pss_nil)
      (pss_one (ps_ret (pe_call (ok_over T) (hr.mono (by decide)) (by rfl) T.g_over T.F_over.kp T.b_over .nil pass0 (pa_cons (pv 0) (pa_cons (pe_ix (r := rIxL K) ix_list (pv 0) pe_int (fun _ _ => rfl)) pa_nil))))))), ?_⟩
    obtain ⟨k', hk', k1, k2⟩ := hd.top
    rw [hk] at hk'
    cases Option.some.inj hk'
    refine q_drop (ev_call (ea_cons (ev_var rfl) ea_nil) (spAsk_V ha hd)) fun H1 e1 => ?_
    refine q_when (b := decide (k = 1)) (et_test (ev_op (ev_op (ev_var rfl) ev_c (rv_ix 0 (sq_of (e1 _ _ ha)) rfl hk)) ev_c rv_eqI)) (fun hb H2 e2 => ?_) fun hb H2 e2 => ?_
    · exact qE (of_decide_eq_true hb) H2 (e1.trans e2)
    · have ha2 := e2 _ _ (e1 _ _ ha)
      refine s_retL (el_call (ea_cons (ev_var rfl) (ea_cons (ev_op (ev_var rfl) ev_c (rv_ix 0 (sq_of ha2) rfl hk)) ea_nil)) (spOver_L ha2 (by omega) (by have := hd.hi; omega))) fun p H3 np e3 hp => ?_
      exact q (of_decide_eq_false hb) p H3 (fresh_back (e1.trans e2) np) ((e1.trans e2).trans e3) hp

/-- the promise of a game told: a pair of two new lists -/
def RetG (ts e : List Int) (H : Hp) (Q : VK) : Prop := ∀ p H2 t1 t2, H p = none → Ex H H2 → H2 p = some (.tup [.ref t1, .ref t2]) → H t1 = none → H t2 = none → At H2 t1 ts → At H2 t2 e → Q (.ref p) H2
def spGame : Sp := fun vs H Q _ => ∃ (a : Addr) (ns ts e : List Int), vs = [.ref a] ∧ At H a ns ∧ Dk ns ∧ Gm ns ts e ∧ RetG ts e H Q
theorem ok_game (T : Txt K mg A) : FnOk P w K mg base CX0 2 A.f_game A.d_game ["deck"] spGame := by
  refine T.F_game.ok sc_game (fun vs H Q E h => ?_) (fun cdv AA outer s H vs Q E hr h => ?_)
  · obtain ⟨a, ns, ts, e, rfl, _⟩ := h
    rfl
  · obtain ⟨a, ns, ts, e, rfl, ha, hd, hg, q⟩ := h
    refine ⟨_, (pss_cons (ps_set (i := 1) sc_game.nd rfl (by first | exact Or.inl rfl | exact Or.inr rfl) (pe_lst pa_nil))
      (pss_cons (ps_while PassesOwn.never (pt_cmpR op_ne (pe_ix (r := rIxL K) ix_list (pv 0) pe_int (fun _ _ => rfl)) pe_int (nomark _))
      (pss_cons (ps_expr (pe_bm PySem.F.plainAttrs_list PySem.F.slot_list_append PySem.F.type_list_append mt_append (pv 1) (pa_cons (pe_ix (r := rIxL K) ix_list (pv 0) pe_int (fun _ _ => rfl)) pa_nil)))
        (pss_one (ps_set (i := 0) sc_game.nd rfl (by first | exact Or.inl rfl | exact Or.inr rfl) (pe_call (ok_over T) (hr.mono (by decide)) (by rfl) T.g_over T.F_over.kp T.b_over .nil pass0 (pa_cons (pv 0) (pa_cons (pe_ix (r := rIxL K) ix_list (pv 0) pe_int (fun _ _ => rfl)) pa_nil)))))))
      (pss_one (ps_ret (pe_tup (pa_cons (pv 1) (pa_cons (pe_callTy (r := rListS K) call_list_of (by rfl) T.n_list (by decide +kernel) (pa_cons (pv 0) pa_nil)) pa_nil))))))), ?_⟩
    have hts := hg.short16 hd
    refine q_asgL (el_lst ea_nil (by decide)) fun p H1 np e1 hp => ?_
    refine q_while (fun m σ H2 => ∃ a' d done rest, σ = [some (.ref a'), some (.ref p)] ∧ Ex H H2 ∧ At H2 p done ∧ At H2 a' d ∧ a' ≠ p ∧ Gm d rest e ∧ done ++ rest = ts ∧ m = rest.length ∧ Dk d) ts.length
      ⟨a, ns, [], ts, rfl, e1, hp, e1 _ _ ha, ne_of_none ha np, hg, rfl, rfl, hd⟩ fun m σ H2 hW => ?_
    obtain ⟨a', d, done, rest, rfl, ex, hp2, ha2, ne, g, hdone, rfl, hd2⟩ := hW
    obtain ⟨k, hk, k1, k2⟩ := hd2.top
    have hlen : done.length + rest.length = ts.length := by rw [← hdone, List.length_append]
    refine ⟨!decide (k = 1), et_is (et_test (ev_op (ev_op (ev_var rfl) ev_c (rv_ix 0 (sq_of ha2) rfl hk)) ev_c (rv_ne rfl))) (by by_cases hk1 : k = 1 <;> simp [hk1]), fun hb H3 e3 => ?_, fun hb H3 e3 => ?_⟩
    · have hk1 : k ≠ 1 := by simpa using hb
      cases g with
      | stop h => rw [hk] at h; exact absurd (Option.some.inj h) hk1
      | turn h n g2 =>
        rename_i ts' k'
        rw [hk] at h
        cases Option.some.inj h
        refine ⟨fun σ H2 => ∃ a' d done rest, σ = [some (.ref a'), some (.ref p)] ∧ Ex H H2 ∧ At H2 p done ∧ At H2 a' d ∧ a' ≠ p ∧ Gm d rest e ∧ done ++ rest = ts ∧ ts'.length = rest.length ∧ Dk d, fun σ2 H4 h => ⟨ts'.length, by simp, h⟩, ?_⟩
        have hp3 := e3 _ _ hp2
        have ha3 := e3 _ _ ha2
        simp only [List.length_cons] at hlen
        refine q_app hp3 (ev_var rfl) (ev_op (ev_var rfl) ev_c (rv_ix 0 (sq_of ha3) rfl hk)) (by simp; omega) fun H4 e4 => ?_
        have ha4 : At (upd H4 p (.lst (done.map V.int ++ [.int k]))) a' d := by
          show upd _ _ _ _ = _
          rw [upd_ne ne]
          exact e4 _ _ ha3
        refine s_asgL (el_call (ea_cons (ev_var rfl) (ea_cons (ev_op (ev_var rfl) ev_c (rv_ix 0 (sq_of ha4) rfl hk)) ea_nil)) (spOver_L ha4 (by omega) (by have := hd2.hi; omega))) fun p5 H5 n5 e5 h5 => ?_
        refine ⟨p5, ov d k, done ++ [k], ts', rfl, ?_, ?_, h5, ?_, g2, by rw [List.append_assoc]; exact hdone, rfl, hd2.ov k⟩
        · exact (Ex.mut ((ex.trans e3).trans e4) np).trans e5
        · refine e5 _ _ ?_
          rw [upd_same, List.map_append]
          rfl
        · intro z
          rw [z, upd_same] at n5
          cases n5
    · have hk1 : k = 1 := by simpa using hb
      subst hk1
      cases g with
      | turn h n g2 => rw [hk] at h; exact absurd (Option.some.inj h).symm n
      | stop _ =>
        rw [List.append_nil] at hdone
        subst hdone
        have hp3 := e3 _ _ hp2
        have ha3 := e3 _ _ ha2
        refine ⟨_, rfl, ?_⟩
        refine el_listR (EvR.old (ev_var rfl) ha3) H3 (Ex.refl _) _ fun p2 H4 n4 e4 h4 => ?_
        refine ⟨by show 2 ≤ sizeLine; decide, fun p5 n5 => ?_⟩
        have e34 := (ex.trans e3).trans e4
        exact q p5 _ p p2 (fresh_back e34 n5) (e34.trans (Ex.new n5)) upd_same np (fresh_back (ex.trans e3) n4) (Ex.new n5 _ _ (e4 _ _ hp3)) (Ex.new n5 _ _ h4)

theorem Dk.of {C g dx c d : Addr} {H : Hp} {cs ts : List Int} (h : Pl C H g dx c d cs ts) : Dk cs := ⟨h.dk, h.lo, h.hi⟩
theorem Frm.of_upd {H : Hp} {p : Addr} {o : HO} : Frm [p] H (L2.upd H p o) := fun x u hx h => by
  rw [upd_ne fun z => hx (by rw [z]; exact List.mem_singleton.mpr rfl)]
  exact h
def spInit (A : Ads) : Sp := fun vs H Q _ => ∃ (g dx a : Addr) (ns : List Int), vs = [.ref g, .ref a] ∧ H g = some (.ins A.c_Game dx []) ∧ At H a ns ∧ Dk ns ∧ ∀ H' c d, Frm [g] H H' → H c = none → H d = none → Pl A.c_Game H' g dx c d ns [] → Q .non H'
theorem ok_Game___init__ (T : Txt K mg A) : FnOk P w K mg base CX0 2 A.f_Game___init__ A.d_Game___init__ ["self", "deck"] (spInit A) := by
  refine T.F_Game___init__.ok sc_Game___init__ (fun vs H Q E h => ?_) (fun cdv AA outer s H vs Q E hr h => ?_)
  · obtain ⟨g, dx, a, ns, rfl, _⟩ := h
    rfl
  · obtain ⟨g, dx, a, ns, rfl, hg, ha, hd, q⟩ := h
    refine ⟨_, (pss_cons (ps_expr (pe_call (ok_ask T) (hr.mono (by decide)) (by rfl) T.g_ask T.F_ask.kp T.b_ask .nil pass0 (pa_cons (pv 1) pa_nil)))
      (pss_cons (ps_fld (pv 0) (pe_callTy (r := rListS K) call_list_of (by rfl) T.n_list (by decide +kernel) (pa_cons (pv 1) pa_nil)) rfl)
      (pss_one (ps_fld (pv 0) (pe_lst pa_nil) rfl)))), ?_⟩
    refine q_drop (ev_call (ea_cons (ev_var rfl) ea_nil) (spAsk_V ha hd)) fun H1 e1 => ?_
    refine el_listR (EvR.old (ev_var rfl) (e1 _ _ ha)) H1 (Ex.refl _) _ fun c H2 nc e2 hc => ?_
    have ex2 := e1.trans e2
    have ncg : c ≠ g := lst_ins hc (ex2 _ _ hg)
    refine ⟨_, rfl, g, A.c_Game, dx, [], rfl, ex2 _ _ hg, T.C_Game, T.N_Game_cards, (by show 0 < 1000; decide), ?_⟩
    dsimp only
    refine el_lst (vs := []) ea_nil (by decide) _ (Ex.refl _) _ fun d H3 nd e3 hd3 => ?_
    have hg3 : H3 g = some (.ins A.c_Game dx (putF "cards" (.ref c) [])) := e3 _ _ upd_same
    have hc3 : At H3 c ns := e3 _ _ (upd_at hc ncg)
    have ncd : c ≠ d := ne_of_none (upd_at hc ncg) nd
    have ndg : d ≠ g := fun z => by rw [z, upd_same] at nd; cases nd
    refine ⟨_, rfl, g, A.c_Game, dx, _, rfl, hg3, T.C_Game, T.N_Game_done, (by show 1 < 1000; decide), ?_⟩
    have nd2 : H2 d = none := by rw [upd_ne ndg] at nd; exact nd
    refine q _ c d (((Frm.ex ex2).trans Frm.of_upd).trans (Frm.ex e3) |>.upd (List.mem_singleton.mpr rfl)) (fresh_back e1 nc) (fresh_back ex2 nd2) ⟨upd_same, upd_at hc3 ncg, upd_at hd3 ndg, ncd, hd.dk, hd.lo, hd.hi⟩
def spTurn (A : Ads) : Sp := fun vs H Q E => ∃ (g dx c d : Addr) (cs ts : List Int) (k : Int), vs = [.ref g] ∧ Pl A.c_Game H g dx c d cs ts ∧ ts.length < 100000 ∧ cs[0]? = some k ∧
  (k ≠ 1 → ∀ H' c', Frm [g, d] H H' → H c' = none → Pl A.c_Game H' g dx c' d (ov cs k) (ts ++ [k]) → Q (.int k) H') ∧ (k = 1 → ∀ H1, Ex H H1 → E (.ref A.c_NoTurn) none H1)
theorem ok_Game_turn (T : Txt K mg A) : FnOk P w K mg base (L2N.CX P w) 3 A.f_Game_turn A.d_Game_turn ["self"] (spTurn A) := by
  refine okN T.F_Game_turn sc_Game_turn (fun vs H Q E h => ?_) (fun cdv AA outer s H vs Q E hr h => ?_)
  · obtain ⟨g, dx, c, d, cs, ts, k, rfl, _⟩ := h
    rfl
  · obtain ⟨g, dx, c, d, cs, ts, k, rfl, pl, hl, hk, q, qE⟩ := h
    refine ⟨_, (pss_cons (ps_set (i := 1) sc_Game_turn.nd rfl (by first | exact Or.inl rfl | exact Or.inr rfl) (pe_ix (r := rIxL K) ix_list (pe_fld (pv 0) rfl) pe_int (fun _ _ => rfl)))
      (pss_cons (ps_fld (pv 0) (pe_call (ok_turned T) (hr.mono (by decide)) (by rfl) T.g_turned T.F_turned.kp T.b_turned .nil (L2N.passes_call (E := E) (L2N.takes_of rfl rfl rfl rfl) (fun _ _ _ _ h => h)) (pa_cons (pe_fld (pv 0) rfl) pa_nil)) rfl)
      (pss_cons (ps_expr (pe_bm PySem.F.plainAttrs_list PySem.F.slot_list_append PySem.F.type_list_append mt_append (pe_fld (pv 0) rfl) (pa_cons (pv 1) pa_nil)))
      (pss_one (ps_ret (pv 1)))))), ?_⟩
    have hd := Dk.of pl
    refine q_asg (ev_op (ev_fld (ev_var rfl) pl.o T.C_Game T.N_Game_cards (fsG_cards c d)) ev_c (rv_ix 0 (sq_of pl.at1) rfl hk)) fun H1 e1 => ?_
    have pl1 := pl.ex e1
    refine ev_fld (ev_var rfl) pl1.o T.C_Game T.N_Game_cards (fsG_cards c d) H1 (Ex.refl _) _ fun H2 e2 => ?_
    have ex2 := e1.trans e2
    have pl2 := pl.ex ex2
    refine ⟨c, cs, k, rfl, pl2.at1, hd, hk, fun hk1 p H3 np e3 hp => ?_, fun hk1 H3 e3 => qE hk1 H3 (ex2.trans e3)⟩
    have ex3 := ex2.trans e3
    have pl3 := pl.ex ex3
    have npg : p ≠ g := lst_ins hp pl3.o
    have ndg : d ≠ g := lst_ins pl3.at2 pl3.o
    refine ⟨_, rfl, g, A.c_Game, dx, _, rfl, pl3.o, T.C_Game, T.N_Game_cards, fsG_len c d, ?_⟩
    dsimp only
    rw [fsG_put]
    refine q_app (upd_at pl3.at2 ndg) (ev_fld (ev_var rfl) upd_same T.C_Game T.N_Game_done (fsG_done p d)) (ev_var rfl) (by rw [List.length_map]; exact hl) fun H4 e4 => ?_
    have npd : p ≠ d := fun z => by rw [z, pl2.at2] at np; cases np
    refine s_ret (ev_var rfl) fun H5 e5 => q hk1 H5 p (Frm.trans ((((Frm.ex ex3).upd (by simp)).trans (Frm.ex e4)).upd (by simp)) (Frm.ex e5)) (fresh_back ex2 np) ?_
    refine Pl.ex ⟨upd_at (e4 _ _ upd_same) ndg.symm, upd_at (e4 _ _ (upd_at hp npg)) npd, ?_, npd, hd.dk.ov k, by rw [ov_len]; exact hd.lo, by rw [ov_len]; exact hd.hi⟩ e5
    show upd _ _ _ _ = _
    rw [upd_same, List.map_append]
    rfl
def spBack (A : Ads) : Sp := fun vs H Q E => ∃ (g dx c d : Addr) (cs ts : List Int), vs = [.ref g] ∧ Pl A.c_Game H g dx c d cs ts ∧ (∀ t ∈ ts, 1 ≤ t ∧ t ≤ (cs.length : Int)) ∧
  (∀ ts' t, ts = ts' ++ [t] → ∀ H' c', Frm [g, d] H H' → H c' = none → Pl A.c_Game H' g dx c' d (ov cs t) ts' → Q (.int t) H') ∧ (ts = [] → ∀ H1, Ex H H1 → E (.ref A.c_NoBack) none H1)
theorem ok_Game_back (T : Txt K mg A) : FnOk P w K mg base (L2N.CX P w) 2 A.f_Game_back A.d_Game_back ["self"] (spBack A) := by
  refine okN T.F_Game_back sc_Game_back (fun vs H Q E h => ?_) (fun cdv AA outer s H vs Q E hr h => ?_)
  · obtain ⟨g, dx, c, d, cs, ts, rfl, _⟩ := h
    rfl
  · obtain ⟨g, dx, c, d, cs, ts, rfl, pl, htp, q, qE⟩ := h
    refine ⟨_, (pss_cons (ps_if (pt_cmpR op_eq (pe_callB (r := rLenS K) call_len_seq (by rfl) T.n_len PySem.boot_len (pa_cons (pe_fld (pv 0) rfl) pa_nil)) pe_int (nomark _))
      (pss_one (L2N.ps_raise rfl (L2N.takes_of rfl rfl rfl rfl) (L2N.pmk_own PySem.F.excBase_ValueError T.E_NoBack.x T.E_NoBack.g T.E_NoBack.k (T.E_NoBack.raises rfl) rfl)))
      pss_nil)
      (pss_cons (ps_set (i := 1) sc_Game_back.nd rfl (by first | exact Or.inl rfl | exact Or.inr rfl) (pe_bm0 PySem.F.plainAttrs_list PySem.F.slot_list_pop PySem.F.type_list_pop mt_pop (pe_fld (pv 0) rfl)))
      (pss_cons (ps_fld (pv 0) (pe_call (ok_over T) (hr.mono (by decide)) (by rfl) T.g_over T.F_over.kp T.b_over .nil pass0 (pa_cons (pe_fld (pv 0) rfl) (pa_cons (pv 1) pa_nil))) rfl)
      (pss_one (ps_ret (pv 1)))))), ?_⟩
    have hd := Dk.of pl
    refine q_when (b := decide (ts = [])) (et_is (et_test (ev_op (ev_lenI (ev_fld (ev_var rfl) pl.o T.C_Game T.N_Game_done (fsG_done c d)) (sq_of pl.at2)) ev_c rv_eqI)) (by cases ts <;> simp; omega)) (fun hb H1 e1 => ?_) fun hb H1 e1 => ?_
    · exact qE (of_decide_eq_true hb) H1 e1
    · have hne := of_decide_eq_false hb
      obtain ⟨ts', t, rfl⟩ : ∃ ts' t, ts = ts' ++ [t] := ⟨ts.dropLast, ts.getLast hne, (List.dropLast_concat_getLast hne).symm⟩
      have ht := htp t (by simp)
      have pl1 := pl.ex e1
      have ndg : d ≠ g := lst_ins pl1.at2 pl1.o
      have ncg : c ≠ g := lst_ins pl1.at1 pl1.o
      have ndc := pl1.ne
      refine q_asgPop (ev_fld (ev_var rfl) pl1.o T.C_Game T.N_Game_done (fsG_done c d)) pl1.at2 fun H2 e2 => ?_
      have ex2 := e1.trans e2
      have pl2 := pl.ex ex2
      have hg3 : (upd H2 d (.lst (ts'.map V.int))) g = some (.ins A.c_Game dx (fsG c d)) := upd_at pl2.o ndg.symm
      have hc3 : At (upd H2 d (.lst (ts'.map V.int))) c cs := upd_at pl2.at1 ndc
      have hd3 : At (upd H2 d (.lst (ts'.map V.int))) d ts' := upd_same
      have fr3 : Frm [g, d] H (upd H2 d (.lst (ts'.map V.int))) := (Frm.ex ex2).upd (by simp)
      have nf3 : ∀ x, (upd H2 d (.lst (ts'.map V.int))) x = none → H x = none := fun x hx => by
        by_cases z : x = d
        · rw [z, upd_same] at hx
          cases hx
        · rw [upd_ne z] at hx
          exact fresh_back ex2 hx
      generalize upd H2 d (.lst (ts'.map V.int)) = H3 at *
      refine q_fldL (el_call (ea_cons (ev_fld (ev_var rfl) hg3 T.C_Game T.N_Game_cards (fsG_cards c d)) (ea_cons (ev_var rfl) ea_nil)) (spOver_L hc3 (by omega) (by have := hd.hi; omega))) (ev_var rfl) hg3 T.C_Game T.N_Game_cards (fsG_len c d) fun p H5 np e35 hp => ?_
      have npg : p ≠ g := lst_ins hp (e35 _ _ hg3)
      have npd : p ≠ d := fun z => by
        have hd3 : H3 d = _ := hd3
        rw [z, hd3] at np
        cases np
      rw [fsG_put]
      refine s_ret (ev_var rfl) fun H6 e6 => q ts' t rfl H6 p (((fr3.trans (Frm.ex e35)).upd (by simp)).trans (Frm.ex e6)) (nf3 p np) ?_
      exact Pl.ex ⟨upd_same, upd_at hp npg, upd_at (e35 _ _ hd3) ndg, npd, hd.dk.ov t, by rw [ov_len]; exact hd.lo, by rw [ov_len]; exact hd.hi⟩ e6
def spGDeck (A : Ads) : Sp := fun vs H Q _ => ∃ (g dx c d : Addr) (cs ts : List Int), vs = [.ref g] ∧ Pl A.c_Game H g dx c d cs ts ∧ RetL (cs.map V.int) H Q
theorem spGDeck_L {H : Hp} {g dx c d : Addr} {cs ts : List Int} (h : Pl A.c_Game H g dx c d cs ts) : SpL (spGDeck A) [.ref g] H (cs.map V.int) := fun H1 e Q q E => ⟨g, dx, c, d, cs, ts, rfl, h.ex e, fun p H2 hp e2 h2 => q p H2 hp e2 h2⟩
theorem ok_Game_deck (T : Txt K mg A) : FnOk P w K mg base CX0 1 A.f_Game_deck A.d_Game_deck ["self"] (spGDeck A) := by
  refine T.F_Game_deck.ok sc_Game_deck (fun vs H Q E h => ?_) (fun cdv AA outer s H vs Q E hr h => ?_)
  · obtain ⟨g, dx, c, d, cs, ts, rfl, _⟩ := h
    rfl
  · obtain ⟨g, dx, c, d, cs, ts, rfl, pl, q⟩ := h
    refine ⟨_, (pss_one (ps_ret (pe_callTy (r := rListS K) call_list_of (by rfl) T.n_list (by decide +kernel) (pa_cons (pe_fld (pv 0) rfl) pa_nil)))), ?_⟩
    exact s_retL (el_listR (EvR.old (ev_fld (ev_var rfl) pl.o T.C_Game T.N_Game_cards (fsG_cards c d)) pl.at1)) q
def spGTops (A : Ads) : Sp := fun vs H Q _ => ∃ (g dx c d : Addr) (cs ts : List Int), vs = [.ref g] ∧ Pl A.c_Game H g dx c d cs ts ∧ RetL (ts.map V.int) H Q
theorem spGTops_L {H : Hp} {g dx c d : Addr} {cs ts : List Int} (h : Pl A.c_Game H g dx c d cs ts) : SpL (spGTops A) [.ref g] H (ts.map V.int) := fun H1 e Q q E => ⟨g, dx, c, d, cs, ts, rfl, h.ex e, fun p H2 hp e2 h2 => q p H2 hp e2 h2⟩
theorem ok_Game_done_tops (T : Txt K mg A) : FnOk P w K mg base CX0 1 A.f_Game_done_tops A.d_Game_done_tops ["self"] (spGTops A) := by
  refine T.F_Game_done_tops.ok sc_Game_done_tops (fun vs H Q E h => ?_) (fun cdv AA outer s H vs Q E hr h => ?_)
  · obtain ⟨g, dx, c, d, cs, ts, rfl, _⟩ := h
    rfl
  · obtain ⟨g, dx, c, d, cs, ts, rfl, pl, q⟩ := h
    refine ⟨_, (pss_one (ps_ret (pe_callTy (r := rListS K) call_list_of (by rfl) T.n_list (by decide +kernel) (pa_cons (pe_fld (pv 0) rfl) pa_nil)))), ?_⟩
    exact s_retL (el_listR (EvR.old (ev_fld (ev_var rfl) pl.o T.C_Game T.N_Game_done (fsG_done c d)) pl.at2)) q
def spLeft (A : Ads) : Sp := fun vs H Q _ => ∃ (g dx c d : Addr) (cs ts rest e : List Int), vs = [.ref g] ∧ Pl A.c_Game H g dx c d cs ts ∧ Gm cs rest e ∧ RetV (.int (rest.length : Int)) H Q
theorem spLeft_V {H : Hp} {g dx c d : Addr} {cs ts rest e : List Int} (h : Pl A.c_Game H g dx c d cs ts) (hg : Gm cs rest e) : SpV (spLeft A) [.ref g] H (.int (rest.length : Int)) := fun H1 ex Q q E => ⟨g, dx, c, d, cs, ts, rest, e, rfl, h.ex ex, hg, fun H2 e2 => q H2 e2⟩
theorem ok_Game_left (T : Txt K mg A) : FnOk P w K mg base CX0 3 A.f_Game_left A.d_Game_left ["self"] (spLeft A) := by
  refine T.F_Game_left.ok sc_Game_left (fun vs H Q E h => ?_) (fun cdv AA outer s H vs Q E hr h => ?_)
  · obtain ⟨g, dx, c, d, cs, ts, rest, e, rfl, _⟩ := h
    rfl
  · obtain ⟨g, dx, c, d, cs, ts, rest, e, rfl, pl, hg, q⟩ := h
    refine ⟨_, (pss_one (ps_ret (pe_callB (r := rLenS K) call_len_seq (by rfl) T.n_len PySem.boot_len (pa_cons (pe_ix (r := rIxT K) ix_tup (pe_call (ok_game T) (hr.mono (by decide)) (by rfl) T.g_game T.F_game.kp T.b_game .nil pass0 (pa_cons (pe_fld (pv 0) rfl) pa_nil)) pe_int (fun _ _ => rfl)) pa_nil)))), ?_⟩
    refine s_ret (v := .int (rest.length : Int)) (fun G1 eG Q1 q1 => ev_fld (ev_var rfl) pl.o T.C_Game T.N_Game_cards (fsG_cards c d) G1 eG _ fun G2 e2 => ⟨c, cs, rest, e, rfl, (eG.trans e2) _ _ pl.at1, Dk.of pl, hg, fun p G3 t1 t2 np e3 hp n1 n2 h1 h2 => ?_⟩) q
    refine ⟨p, _, 0, .ref t1, rfl, rfl, st_of hp, at_of (j := 0) rfl rfl, t1, rest.map V.int, rfl, Or.inl (sq_of h1), ?_⟩
    rw [List.length_map]
    exact q1 G3 (e2.trans e3)

/-- a cell of the script, whatever number it holds -/
def spCellA (K : PySem.W.Frag) : Sp := fun vs H Q _ => ∃ (l : Addr) (ns : List Int) (k : Int), vs = [.ref l, .int k] ∧ SqL K H l (ns.map V.int) ∧ 0 ≤ k ∧ ∀ z : Int, RetV (.int z) H Q
theorem ok_law_cell_at (T : Txt K mg A) : FnOk P w K mg base CX0 1 A.f_law_cell_at A.d_law_cell_at ["script", "k"] (spCellA K) := by
  refine T.F_law_cell_at.ok sc_law_cell_at (fun vs H Q E h => ?_) (fun cdv AA outer s H vs Q E hr h => ?_)
  · obtain ⟨a, ns, k, rfl, _⟩ := h
    rfl
  · obtain ⟨a, ns, k, rfl, ha, hk, q⟩ := h
    refine ⟨_, (pss_cons (ps_if (pt_cmpR op_lt (pv 1) (pe_callB (r := rLenS K) call_len_seq (by rfl) T.n_len PySem.boot_len (pa_cons (pv 0) pa_nil)) (nomark _))
      (pss_one (ps_ret (pe_ix (r := rIxL K) ix_list (pv 0) (pv 1) (fun _ _ => rfl))))
      pss_nil)
      (pss_one (ps_ret pe_int))), ?_⟩
    refine q_when (et_test (ev_op (ev_var rfl) (ev_lenI (ev_var rfl) ha) rv_I0)) (fun hb H1 e1 => ?_) fun hb H1 e1 => ?_
    · have hlt : k < (ns.length : Int) := of_decide_eq_true hb
      have hi : ns[k.toNat]? = some ns[k.toNat] := List.getElem?_eq_getElem (by omega)
      exact s_ret (ev_op (ev_var rfl) (ev_var rfl) (rv_ix k.toNat (ex_l e1 ha) (by omega) hi)) fun H2 e2 => (q _).go (e1.trans e2)
    · exact s_ret ev_c fun H2 e2 => (q _).go (e1.trans e2)
theorem ei_cell {K : PySem.W.Frag} {σ : L2.St} {H : Hp} {l : Addr} {ns : List Int} {k : Int} {ta : TA} {E : XK} (h : EvA ta σ H [.ref l, .int k]) (hs : SqL K H l (ns.map V.int)) (hk : 0 ≤ k) : EvI (tCall (spCellA K) [] E ta) σ H (fun _ => True) := fun H1 e Q q =>
  h H1 e _ fun H2 e2 => ⟨l, ns, k, rfl, ex_l (e.trans e2) hs, hk, fun z H3 e3 => q z H3 (e2.trans e3) True.intro⟩

def spWhole : Sp := fun vs H Q _ => ∃ (i : Int), vs = [.int i] ∧ RetV (.bl true) H Q
theorem spWhole_V {H : Hp} {i : Int} : SpV spWhole [.int i] H (.bl true) := fun H1 e Q q E => ⟨i, rfl, fun H2 e2 => q H2 e2⟩
theorem ok_law_whole (T : Txt K mg A) : FnOk P w K mg base CX0 1 A.f_law_whole A.d_law_whole ["found"] spWhole := by
  refine T.F_law_whole.ok sc_law_whole (fun vs H Q E h => ?_) (fun cdv AA outer s H vs Q E hr h => ?_)
  · obtain ⟨i, rfl, _⟩ := h
    rfl
  · obtain ⟨i, rfl, q⟩ := h
    refine ⟨_, (pss_one (ps_ret (pe_and (pe_callB call_isi (by rfl) T.n_isinstance (by decide +kernel) (pa_cons (pv 0) (pa_cons (pe_bltn (v := .ty "int") (u := .type "int") (by rfl) T.n_int (by decide +kernel) rfl) pa_nil))) (pe_one (pe_not (pe_callB call_isi (by rfl) T.n_isinstance (by decide +kernel) (pa_cons (pv 0) (pa_cons (pe_bltn (v := .ty "bool") (u := .type "bool") (by rfl) T.n_bool (by decide +kernel) rfl) pa_nil)))))))), ?_⟩
    exact s_ret (ev_andV (ev_isi (T := "int") (bb := true) (ev_var rfl) (fun _ _ => .base (.int i)) (by decide +kernel)) fun _ => ev_notV (ev_isi (T := "int") (bb := false) (ev_var rfl) (fun _ _ => .base (.int i)) (by decide +kernel))) fun H1 e1 => q.go e1

theorem erase_perm {l : List Int} {j : Nat} {y : Int} (h : l[j]? = some y) (r : List Int) : (l.eraseIdx j ++ (r ++ [y])).Perm (l ++ r) := by
  obtain ⟨hj, e⟩ := List.getElem?_eq_some_iff.mp h
  have e1 : l.take j ++ y :: l.drop (j + 1) = l := by
    rw [← e]
    simp
  have e2 : l.eraseIdx j = l.take j ++ l.drop (j + 1) := List.eraseIdx_eq_take_drop_succ ..
  have p1 : (y :: (l.take j ++ l.drop (j + 1))).Perm l := by
    refine List.perm_middle.symm.trans ?_
    rw [e1]
  rw [e2, ← List.append_assoc]
  refine (List.perm_append_comm).trans ?_
  show (y :: (l.take j ++ l.drop (j + 1) ++ r)).Perm (l ++ r)
  rw [← List.cons_append]
  exact p1.append_right r
/-- any deck of at most so many cards -/
def spDeck (K : PySem.W.Frag) : Sp := fun vs H Q _ => ∃ (l : Addr) (cs : List Int) (at' most : Int), vs = [.ref l, .int at', .int most] ∧ SqL K H l (cs.map V.int) ∧ 0 ≤ at' ∧ 1 ≤ most ∧ most ≤ 16 ∧ ∀ ds : List Int, Dk ds → (ds.length : Int) ≤ most → RetL (ds.map V.int) H Q
theorem ok_law_deck (T : Txt K mg A) : FnOk P w K mg base CX0 2 A.f_law_deck A.d_law_deck ["script", "at", "most"] (spDeck K) := by
  refine T.F_law_deck.ok sc_law_deck (fun vs H Q E h => ?_) (fun cdv AA outer s H vs Q E hr h => ?_)
  · obtain ⟨a, ns, i, j, rfl, _⟩ := h
    rfl
  · obtain ⟨l, cs, i, j, rfl, hs, hi, hj, hj2, q⟩ := h
    refine ⟨_, (pss_cons (ps_set (i := 3) sc_law_deck.nd rfl (by first | exact Or.inl rfl | exact Or.inr rfl) (pe_op op_add pe_int (pe_op op_mod (pe_call (ok_law_cell_at T) (hr.mono (by decide)) (by rfl) T.g_law_cell_at T.F_law_cell_at.kp T.b_law_cell_at .nil pass0 (pa_cons (pv 0) (pa_cons (pv 1) pa_nil))) (pv 2))))
      (pss_cons (ps_set (i := 4) sc_law_deck.nd rfl (by first | exact Or.inl rfl | exact Or.inr rfl) (pe_listRg rfl (by rfl) T.n_list (prg_2 (by rfl) T.n_range pe_int (pe_op op_add (pv 3) pe_int))))
      (pss_cons (ps_set (i := 5) sc_law_deck.nd rfl (by first | exact Or.inl rfl | exact Or.inr rfl) (pe_lst pa_nil))
      (pss_cons (ps_for PassesOwn.never rfl (pi_range1 (by rfl) T.n_range (pa_cons (pv 3) pa_nil)) (pg_name (i := 6) sc_law_deck.nd rfl (by first | exact Or.inl rfl | exact Or.inr rfl))
      (pss_one (ps_expr (pe_bm PySem.F.plainAttrs_list PySem.F.slot_list_append PySem.F.type_list_append mt_append (pv 5) (pa_cons (pe_bm PySem.F.plainAttrs_list PySem.F.slot_list_pop PySem.F.type_list_pop mt_popAt (pv 4) (pa_cons (pe_op op_mod (pe_call (ok_law_cell_at T) (hr.mono (by decide)) (by rfl) T.g_law_cell_at T.F_law_cell_at.kp T.b_law_cell_at .nil pass0 (pa_cons (pv 0) (pa_cons (pe_op op_add (pe_op op_add (pv 1) pe_int) (pv 6)) pa_nil))) (pe_callB (r := rLenS K) call_len_seq (by rfl) T.n_len PySem.boot_len (pa_cons (pv 4) pa_nil))) pa_nil)) pa_nil)))))
      (pss_one (ps_ret (pv 5))))))), ?_⟩
    -- the size
    refine q_asgI (ei_op (ei_ev (P := fun z => z = 1) ev_c rfl) (ei_mod (ei_cell (ea_cons (ev_var rfl) (ea_cons (ev_var rfl) ea_nil)) hs hi) (ev_var rfl) (by omega))) fun z H1 hz e1 => ?_
    obtain ⟨_, y, rfl, ⟨z0, z1⟩, ez⟩ := hz
    have ez : z = 1 + y := ez
    obtain ⟨n, rfl⟩ : ∃ n : Nat, z = (n : Int) := ⟨z.toNat, by omega⟩
    -- the cards
    refine q_asgL (el_rng (n := n) ev_c (ev_op (ev_var rfl) ev_c rv_I0) rfl (by omega)) fun p H2 np e2 hp => ?_
    refine q_asgL (el_lst ea_nil (by decide)) fun r H3 nr e3 hr3 => ?_
    have npr : r ≠ p := fun e => by
      rw [e, hp] at nr
      cases nr
    have e12 := e1.trans e2
    refine q_forR1 (ea_cons (ev_var rfl) ea_nil) (by omega) (fun i' σ' H' => ∃ lf dk x, σ' = [some (.ref l), some (.int i), some (.int j), some (.int (n : Int)), some (.ref p), some (.ref r), x] ∧ Ex H H' ∧ At H' p lf ∧ At H' r dk ∧ (lf ++ dk).Perm (rng n) ∧ dk.length = i')
      (fun H4 e4 => ⟨rng n, [], none, rfl, (e12.trans e3).trans e4, e4 _ _ (e3 _ _ hp), e4 _ _ hr3, by rw [List.append_nil], rfl⟩) ?_ ?_
    · rintro i' σ' H' hi' ⟨lf, dk, x, rfl, ex, hlf, hdk, pm, hlen⟩
      have hl2 := pm.length_eq
      rw [List.length_append, rng_len] at hl2
      refine ⟨_, rfl, Or.inl ⟨rfl, _, sq_of hdk⟩, ?_⟩
      refine ⟨_, rfl, Or.inl ⟨rfl, _, sq_of hlf⟩, ?_⟩
      refine ei_mod (ei_cell (ea_cons (ev_var rfl) (ea_cons (ev_op (ev_op (ev_var rfl) ev_c rv_I0) (ev_var rfl) rv_I0) ea_nil)) (ex_l ex hs) (by omega)) (ev_lenI (ev_var rfl) (sq_of hlf)) (by omega) H' (Ex.refl _) _ fun c H5 e5 hc => ?_
      obtain ⟨c0, c1⟩ := hc
      have hj3 : c.toNat < lf.length := by omega
      have ey : lf[c.toNat]? = some lf[c.toNat] := List.getElem?_eq_getElem hj3
      refine ⟨p, _, _, c.toNat, .int lf[c.toNat], rfl, rfl, e5 _ _ hlf, by omega, by omega, by rw [List.length_map]; exact seqIndex_of c0 (by omega), by rw [List.getElem?_map, ey]; rfl, ?_⟩
      refine ⟨r, _, _, rfl, rfl, by rw [upd_ne npr]; exact e5 _ _ hdk, by rw [List.length_map]; exact sz_lt (by omega), ?_⟩
      refine ⟨lf.eraseIdx c.toNat, dk ++ [lf[c.toNat]], some (.int (i' : Int)), rfl, ?_, ?_, ?_, (erase_perm ey dk).trans pm, by rw [List.length_append, hlen]; rfl⟩
      · exact Ex.mut (Ex.mut (ex.trans e5) (fresh_back e1 np)) (fresh_back e12 nr)
      · show upd _ _ _ _ = _
        rw [upd_ne npr.symm, upd_same, erase_mapI]
      · show upd _ _ _ _ = _
        rw [upd_same, List.map_append]
        rfl
    · rintro σ' H' ⟨lf, dk, x, rfl, ex, hlf, hdk, pm, hlen⟩
      have hl2 := pm.length_eq
      rw [List.length_append, rng_len] at hl2
      have hlf0 : lf = [] := List.eq_nil_of_length_eq_zero (by omega)
      subst hlf0
      have hk : Dk dk := ⟨by unfold IsDk; rw [show dk.length = n by omega]; exact pm, by omega, by omega⟩
      exact ⟨_, rfl, q dk hk (by omega) r H' (fresh_back e12 nr) ex hdk⟩
theorem ep_deck {K : PySem.W.Frag} {σ : L2.St} {H : Hp} {l : Addr} {cs : List Int} {i j : Int} {ta : TA} {E : XK} (h : EvA ta σ H [.ref l, .int i, .int j]) (hs : SqL K H l (cs.map V.int)) (hi : 0 ≤ i) (h1 : 1 ≤ j) (h2 : j ≤ 16) :
    EvLP (tCall (spDeck K) [] E ta) σ H (fun ds => Dk ds ∧ (ds.length : Int) ≤ j) := fun H1 e Q q =>
  h H1 e _ fun H2 e2 => ⟨l, cs, i, j, rfl, ex_l (e.trans e2) hs, hi, h1, h2, fun ds d hl p H3 np e3 hp => q p ds H3 (fresh_back e2 np) (e2.trans e3) hp ⟨d, hl⟩⟩
theorem one_at {ds : List Int} (h : Dk ds) : ∃ j, ds[j]? = some 1 ∧ ∀ m : Nat, m < j → ds[m]? ≠ some 1 := by
  have hm : (1 : Int) ∈ ds := h.dk.mem.mpr ⟨by omega, by have := h.lo; omega⟩
  obtain ⟨j, hj⟩ := List.mem_iff_getElem?.mp hm
  exact ⟨j, hj, fun m hlt e => by have := two_at h.dk.nodup e hj; omega⟩
theorem one_first {ds : List Int} {j : Nat} (hj : ds[j]? = some 1) : (1 :: ds.eraseIdx j).Perm ds := by
  have h := erase_perm hj []
  rw [List.append_nil, List.nil_append] at h
  exact (List.perm_append_comm (l₁ := [1]) (l₂ := ds.eraseIdx j)).trans h

theorem ok_law_over (T : Txt K mg A) : FnOk P w K mg base CX0 1 A.f_law_over A.d_law_over ["deck", "many"] spOverL := by
  refine T.F_law_over.ok sc_law_over (fun vs H Q E h => ?_) (fun cdv AA outer s H vs Q E hr h => ?_)
  · obtain ⟨a, ns, k, rfl, _⟩ := h
    rfl
  · obtain ⟨a, ns, k, rfl, ha, hk, hkl, hl, q⟩ := h
    refine ⟨_, (pss_one (ps_ret (pe_op op_cat (pe_lc (own := [("k", 2)]) (g := gName 2) (tt := tYes) rfl sc_law_over.nd (pi_range1 (by rfl) T.n_range (pa_cons (pv 1) pa_nil)) (blkOk_by (N := N_law_over) (sc := defScope s_law_over) (by decide +kernel)) (fun _ _ _ _ _ => pg_name (i := 2) sc_law_over.nd rfl (Or.inl rfl)) (fun _ _ _ _ _ => pts_nil) (fun _ _ _ _ _ => (pe_ix (r := rIxL K) ix_list (pv 0) (pe_op op_sub (pe_op op_sub (pv 1) pe_int) (pv 2)) (fun _ _ => rfl)))) (pe_slice (r := rSlL K) sl_list (pv 0) (po_some (pv 1)) po_none)))), ?_⟩
    have e1 : given k.toNat (fun _ => true) (fun i => V.int (ns.getD (k - 1 - (i : Int)).toNat 0)) ++ (ns.drop k.toNat).map V.int = (ov ns k).map V.int := by
      rw [given_int, ← lov_eq hkl]
      unfold lov
      rw [List.map_append]
    unfold RetL at q
    rw [← e1] at q
    refine s_retL (el_cat (EvR.new (el_lcR1 (fun _ => true) (fun i => V.int (ns.getD (k - 1 - (i : Int)).toNat 0)) (ea_cons (ev_var rfl) ea_nil) (by omega) (fun x => rfl) (fun i H1 _ _ => et_yes) fun i H1 e1 hi _ => ?_))
      (EvR.new (el_drop (EvR.old (ev_var rfl) ha) (eo_some (ev_var rfl)) hk)) ?_) q
    · refine ev_op (ev_var rfl) (ev_op (ev_op (ev_var rfl) ev_c rv_I0) (ev_var rfl) rv_I0) (rv_ix (k - 1 - (i : Int)).toNat (sq_of (e1 _ _ ha)) (by omega) ?_)
      rw [List.getD_eq_getElem?_getD, List.getElem?_eq_getElem (by omega)]
      rfl
    · have := given_len k.toNat (fun _ => true) (fun i => V.int (ns.getD (k - 1 - (i : Int)).toNat 0))
      rw [List.length_map, List.length_drop]
      omega

def spLong (K : PySem.W.Frag) : Sp := spDeck K
theorem ok_law_long (T : Txt K mg A) : FnOk P w K mg base CX0 3 A.f_law_long A.d_law_long ["script", "at", "most"] (spLong K) := by
  refine T.F_law_long.ok sc_law_long (fun vs H Q E h => ?_) (fun cdv AA outer s H vs Q E hr h => ?_)
  · obtain ⟨a, ns, i, j, rfl, _⟩ := h
    rfl
  · obtain ⟨l, cs, i, j, rfl, hs, hi, hj, hj2, q⟩ := h
    refine ⟨_, (pss_cons (ps_set (i := 3) sc_law_long.nd rfl (by first | exact Or.inl rfl | exact Or.inr rfl) (pe_call (ok_law_deck T) (hr.mono (by decide)) (by rfl) T.g_law_deck T.F_law_deck.kp T.b_law_deck .nil pass0 (pa_cons (pv 0) (pa_cons (pv 1) (pa_cons (pv 2) pa_nil)))))
      (pss_cons (ps_expr (pe_bm PySem.F.plainAttrs_list PySem.F.slot_list_remove PySem.F.type_list_remove mt_remove (pv 3) (pa_cons pe_int pa_nil)))
      (pss_cons (ps_set (i := 3) sc_law_long.nd rfl (by first | exact Or.inl rfl | exact Or.inr rfl) (pe_op op_cat (pe_lst (pa_cons pe_int pa_nil)) (pv 3)))
      (pss_cons (ps_for PassesOwn.never rfl (pi_range1 (by rfl) T.n_range (pa_cons (pe_op op_mod (pe_call (ok_law_cell_at T) (hr.mono (by decide)) (by rfl) T.g_law_cell_at T.F_law_cell_at.kp T.b_law_cell_at .nil pass0 (pa_cons (pv 0) (pa_cons (pe_op op_add (pe_op op_add (pv 1) (pv 2)) pe_int) pa_nil))) pe_int) pa_nil)) (pg_name (i := 4) sc_law_long.nd rfl (by first | exact Or.inl rfl | exact Or.inr rfl))
      (pss_cons (ps_setLc (i := 5) (own := [("card", 7)]) (g := gName 7) rfl sc_law_long.nd rfl rfl (sw_true rfl rfl rfl (by decide +kernel)) (pi_list (pe_slice (r := rSlL K) sl_list (pv 3) (po_some pe_int) po_none)) (blkOk_by (N := N_law_long) (sc := defScope s_law_long) (by decide +kernel)) (fun _ _ _ _ _ => pg_name (i := 7) sc_law_long.nd rfl (Or.inl rfl)) (fun _ _ _ _ _ => (pts_one (pt_cmpR op_eq (pe_ix (r := rIxL K) ix_list (pv 3) (pe_op op_sub (pv 7) pe_int) (fun _ _ => rfl)) (pv 7) (nomark _)))) (fun _ _ _ _ _ => (pv 7)))
        (pss_one (ps_if (pt_cmpR op_gt (pe_callB (r := rLenS K) call_len_seq (by rfl) T.n_len PySem.boot_len (pa_cons (pv 5) pa_nil)) pe_int (nomark _))
        (pss_cons (ps_set (i := 6) sc_law_long.nd rfl (by first | exact Or.inl rfl | exact Or.inr rfl) (pe_ix (r := rIxL K) ix_list (pv 5) (pe_op op_mod (pe_op op_fdivN (pe_call (ok_law_cell_at T) (hr.mono (by decide)) (by rfl) T.g_law_cell_at T.F_law_cell_at.kp T.b_law_cell_at .nil pass0 (pa_cons (pv 0) (pa_cons (pe_op op_add (pe_op op_add (pe_op op_add (pv 1) (pv 2)) pe_int) (pe_op op_mod (pv 4) pe_int)) pa_nil))) (pe_op op_add pe_int (pv 4))) (pe_callB (r := rLenS K) call_len_seq (by rfl) T.n_len PySem.boot_len (pa_cons (pv 5) pa_nil))) (fun _ _ => rfl)))
          (pss_one (ps_set (i := 3) sc_law_long.nd rfl (by first | exact Or.inl rfl | exact Or.inr rfl) (pe_call (ok_law_over T) (hr.mono (by decide)) (by rfl) T.g_law_over T.F_law_over.kp T.b_law_over .nil pass0 (pa_cons (pv 3) (pa_cons (pv 6) pa_nil))))))
        pss_nil))))
      (pss_one (ps_ret (pv 3))))))), ?_⟩
    refine q_asgLP (ep_deck (ea_cons (ev_var rfl) (ea_cons (ev_var rfl) (ea_cons (ev_var rfl) ea_nil))) hs hi hj hj2) fun p ds H1 np e1 hp hd => ?_
    obtain ⟨hd, hdl⟩ := hd
    obtain ⟨i1, hi1, hno⟩ := one_at hd
    refine q_remove hp (ev_var rfl) ev_c hi1 hno fun H2 e2 => ?_
    have pm := one_first hi1
    have hlen := pm.length_eq
    have ex2 : Ex H (upd H2 p (.lst ((ds.eraseIdx i1).map V.int))) := Ex.mut (e1.trans e2) np
    refine q_asgL (el_cat (EvR.new (el_lst (ea_cons ev_c ea_nil) (by decide))) (EvR.old (ev_var rfl) upd_same) (by simp only [List.length_cons, List.length_nil, List.length_map] at *; have := hd.hi; omega)) fun p3 H3 np3 e3 hp3 => ?_
    have dk3 : Dk (1 :: ds.eraseIdx i1) := ⟨hd.dk.perm pm, by rw [hlen]; exact hd.lo, by rw [hlen]; exact hd.hi⟩
    have ex3 := ex2.trans e3
    refine q_forRI (m := 40) (ei_mod (ei_cell (ea_cons (ev_var rfl) (ea_cons (ev_op (ev_op (ev_var rfl) (ev_var rfl) rv_I0) ev_c rv_I0) ea_nil)) (ex_l ex3 hs) (by omega)) ev_c (by decide)) (by decide)
      (fun σ' H' => ∃ p ds x4 x5 x6 x7, σ' = [some (.ref l), some (.int i), some (.int j), some (.ref p), x4, x5, x6, x7] ∧ Ex H H' ∧ H p = none ∧ At H' p ds ∧ Dk ds ∧ (ds.length : Int) ≤ j)
      (fun H4 e4 => ⟨p3, 1 :: ds.eraseIdx i1, none, none, none, none, rfl, ex3.trans e4, fresh_back ex2 np3, e4 _ _ hp3, dk3, by rw [hlen]; exact hdl⟩) ?_ ?_
    · rintro k σ' H' hk ⟨p, ds, x4, x5, x6, x7, rfl, ex, np, hp, hd, hdl⟩
      have hcomp := el_lcNL (K := K) (tl := tSl (rSlL K) (tVar 3) (tPart (tC (.int 1))) tNoPart) (σ := [some (.ref l), some (.int i), some (.int j), some (.ref p), some (.int (k : Int)), x5, x6, x7]) (H := H') (xs := (ds.drop (1 : Int).toNat).map V.int) (j := 7) (vs := [7]) (fun i => decide (ds.getD ((ds.drop (1 : Int).toNat).getD i 0 - 1).toNat 0 = (ds.drop (1 : Int).toNat).getD i 0)) (fun i => V.int ((ds.drop (1 : Int).toNat).getD i 0))
        (el_drop (EvR.old (ev_var rfl) hp) (eo_some ev_c) (by decide)) (by simp; have := hd.hi; omega) (fun x => rfl)
        (t := tTest (tOp rEq (tOp (rIxL K) (tVar 3) (tOp (rI0 fun i j => V.int (i - j)) (tVar 7) (tC (V.int 1)))) (tVar 7))) (te := tVar 7)
        (fun i1 x H1 e1 hx => by
          obtain ⟨c, hc, rfl⟩ : ∃ c, (ds.drop (1 : Int).toNat)[i1]? = some c ∧ x = V.int c := by
            rw [List.getElem?_map] at hx
            cases e : (ds.drop (1 : Int).toNat)[i1]? with
            | none => rw [e] at hx; cases hx
            | some c => rw [e] at hx; exact ⟨c, rfl, (Option.some.inj hx).symm⟩
          have hcm := hd.dk.mem.mp (List.mem_of_mem_drop (List.mem_of_getElem? hc))
          have eg : (ds.drop (1 : Int).toNat).getD i1 0 = c := by rw [List.getD_eq_getElem?_getD, hc]; rfl
          rw [eg]
          refine et_test (ev_op (ev_op (ev_var rfl) (ev_op (ev_var rfl) ev_c rv_I0) (rv_ix (c - 1).toNat (sq_of (e1 _ _ hp)) (by omega) ?_)) (ev_var rfl) rv_eqI)
          rw [List.getD_eq_getElem?_getD, List.getElem?_eq_getElem (by omega)]
          rfl)
        (fun i1 x H1 e1 hx _ => by
          obtain ⟨c, hc, rfl⟩ : ∃ c, (ds.drop (1 : Int).toNat)[i1]? = some c ∧ x = V.int c := by
            rw [List.getElem?_map] at hx
            cases e : (ds.drop (1 : Int).toNat)[i1]? with
            | none => rw [e] at hx; cases hx
            | some c => rw [e] at hx; exact ⟨c, rfl, (Option.some.inj hx).symm⟩
          have eg : (ds.drop (1 : Int).toNat).getD i1 0 = c := by rw [List.getD_eq_getElem?_getD, hc]; rfl
          show Ev _ _ _ (V.int ((ds.drop (1 : Int).toNat).getD i1 0))
          rw [eg]
          exact ev_var rfl)
      rw [List.length_map, given_filter (fun c => decide (ds.getD (c - 1).toNat 0 = c))] at hcomp
      generalize hws : (ds.drop (1 : Int).toNat).filter (fun c => decide (ds.getD (c - 1).toNat 0 = c)) = ws at hcomp
      have hwm : ∀ c ∈ ws, 1 ≤ c ∧ c ≤ ds.length := fun c hc => by
        rw [← hws] at hc
        exact hd.dk.mem.mp (List.mem_of_mem_drop (List.mem_filter.mp hc).1)
      refine q_asgL hcomp fun p5 H5 np5 e5 hp5 => ?_
      have ex5 := ex.trans e5
      refine s_when (et_test (ev_op (ev_lenI (ev_var rfl) (sq_of hp5)) ev_c rv_I0)) (fun hb H6 e6 => ?_) fun hb H6 e6 => ?_
      · have hpos : 0 < ws.length := by have := of_decide_eq_true hb; omega
        have hp6 := e6 _ _ hp5
        have ex6 := ex5.trans e6
        refine q_asgI (ei_ix (EvR.old (ev_var rfl) hp6) (ei_mod (ei_fdiv (ei_cell (ea_cons (ev_var rfl) (ea_cons (ev_op (ev_op (ev_op (ev_var rfl) (ev_var rfl) rv_I0) ev_c rv_I0) (ev_op (ev_var rfl) ev_c (rv_I (show (0 : Int) < 12 by decide))) rv_I0) ea_nil)) (ex_l ex6 hs) ?_) (ev_op ev_c (ev_var rfl) rv_I0) (by omega) (by omega)) (ev_lenI (ev_var rfl) (sq_of hp6)) (by omega))) fun c H7 hc e7 => ?_
        · have := Int.emod_nonneg (k : Int) (show (12 : Int) ≠ 0 by decide)
          omega
        · have hcm := hwm c hc
          have hp7 := e7 _ _ (e6 _ _ (e5 _ _ hp))
          refine s_asgL (el_call (ea_cons (ev_var rfl) (ea_cons (ev_var rfl) ea_nil)) (spOverL_L hp7 (by omega) (by omega) (by have := hd.hi; omega))) fun p8 H8 np8 e8 hp8 => ?_
          exact ⟨p8, ov ds c, _, _, _, _, rfl, (ex6.trans e7).trans e8, fresh_back (ex6.trans e7) np8, hp8, hd.ov c, by rw [ov_len]; exact hdl⟩
      · exact ⟨p, ds, _, _, _, _, rfl, ex5.trans e6, np, e6 _ _ (e5 _ _ hp), hd, hdl⟩
    · rintro σ' H' ⟨p, ds, x4, x5, x6, x7, rfl, ex, np, hp, hd, hdl⟩
      exact ⟨_, rfl, q ds hd hdl p H' np ex hp⟩

/-- the law's game: the tops a new list, the end a list that may be the deck itself -/
def RetGL (ts e : List Int) (H : Hp) (Q : VK) : Prop := ∀ p H2 t1 t2, H p = none → Ex H H2 → H2 p = some (.tup [.ref t1, .ref t2]) → H t1 = none → At H2 t1 ts → At H2 t2 e → t2 ≠ t1 → Q (.ref p) H2
def spGameL : Sp := fun vs H Q _ => ∃ (a : Addr) (ns ts e : List Int), vs = [.ref a] ∧ At H a ns ∧ Dk ns ∧ Gm ns ts e ∧ RetGL ts e H Q
theorem ok_law_game (T : Txt K mg A) : FnOk P w K mg base CX0 2 A.f_law_game A.d_law_game ["deck"] spGameL := by
  refine T.F_law_game.ok sc_law_game (fun vs H Q E h => ?_) (fun cdv AA outer s H vs Q E hr h => ?_)
  · obtain ⟨a, ns, ts, e, rfl, _⟩ := h
    rfl
  · obtain ⟨a, ns, ts, e, rfl, ha, hd, hg, q⟩ := h
    refine ⟨_, (pss_cons (ps_set (i := 1) sc_law_game.nd rfl (by first | exact Or.inl rfl | exact Or.inr rfl) (pe_lst pa_nil))
      (pss_cons (ps_while PassesOwn.never (pt_cmpR op_ne (pe_ix (r := rIxL K) ix_list (pv 0) pe_int (fun _ _ => rfl)) pe_int (nomark _))
      (pss_cons (ps_expr (pe_bm PySem.F.plainAttrs_list PySem.F.slot_list_append PySem.F.type_list_append mt_append (pv 1) (pa_cons (pe_ix (r := rIxL K) ix_list (pv 0) pe_int (fun _ _ => rfl)) pa_nil)))
        (pss_one (ps_set (i := 0) sc_law_game.nd rfl (by first | exact Or.inl rfl | exact Or.inr rfl) (pe_call (ok_law_over T) (hr.mono (by decide)) (by rfl) T.g_law_over T.F_law_over.kp T.b_law_over .nil pass0 (pa_cons (pv 0) (pa_cons (pe_ix (r := rIxL K) ix_list (pv 0) pe_int (fun _ _ => rfl)) pa_nil)))))))
      (pss_one (ps_ret (pe_tup (pa_cons (pv 1) (pa_cons (pv 0) pa_nil))))))), ?_⟩
    have hts := hg.short16 hd
    refine q_asgL (el_lst ea_nil (by decide)) fun p H1 np e1 hp => ?_
    refine q_while (fun m σ H2 => ∃ a' d done rest, σ = [some (.ref a'), some (.ref p)] ∧ Ex H H2 ∧ At H2 p done ∧ At H2 a' d ∧ a' ≠ p ∧ Gm d rest e ∧ done ++ rest = ts ∧ m = rest.length ∧ Dk d) ts.length
      ⟨a, ns, [], ts, rfl, e1, hp, e1 _ _ ha, ne_of_none ha np, hg, rfl, rfl, hd⟩ fun m σ H2 hW => ?_
    obtain ⟨a', d, done, rest, rfl, ex, hp2, ha2, ne, g, hdone, rfl, hd2⟩ := hW
    obtain ⟨k, hk, k1, k2⟩ := hd2.top
    have hlen : done.length + rest.length = ts.length := by rw [← hdone, List.length_append]
    refine ⟨!decide (k = 1), et_is (et_test (ev_op (ev_op (ev_var rfl) ev_c (rv_ix 0 (sq_of ha2) rfl hk)) ev_c (rv_ne rfl))) (by by_cases hk1 : k = 1 <;> simp [hk1]), fun hb H3 e3 => ?_, fun hb H3 e3 => ?_⟩
    · have hk1 : k ≠ 1 := by simpa using hb
      cases g with
      | stop h => rw [hk] at h; exact absurd (Option.some.inj h) hk1
      | turn h n g2 =>
        rename_i ts' k'
        rw [hk] at h
        cases Option.some.inj h
        refine ⟨fun σ H2 => ∃ a' d done rest, σ = [some (.ref a'), some (.ref p)] ∧ Ex H H2 ∧ At H2 p done ∧ At H2 a' d ∧ a' ≠ p ∧ Gm d rest e ∧ done ++ rest = ts ∧ ts'.length = rest.length ∧ Dk d, fun σ2 H4 h => ⟨ts'.length, by simp, h⟩, ?_⟩
        have hp3 := e3 _ _ hp2
        have ha3 := e3 _ _ ha2
        simp only [List.length_cons] at hlen
        refine q_app hp3 (ev_var rfl) (ev_op (ev_var rfl) ev_c (rv_ix 0 (sq_of ha3) rfl hk)) (by simp; omega) fun H4 e4 => ?_
        have ha4 : At (upd H4 p (.lst (done.map V.int ++ [.int k]))) a' d := by
          show upd _ _ _ _ = _
          rw [upd_ne ne]
          exact e4 _ _ ha3
        refine s_asgL (el_call (ea_cons (ev_var rfl) (ea_cons (ev_op (ev_var rfl) ev_c (rv_ix 0 (sq_of ha4) rfl hk)) ea_nil)) (spOverL_L ha4 (by omega) k2 (by have := hd2.hi; omega))) fun p5 H5 n5 e5 h5 => ?_
        refine ⟨p5, ov d k, done ++ [k], ts', rfl, ?_, ?_, h5, ?_, g2, by rw [List.append_assoc]; exact hdone, rfl, hd2.ov k⟩
        · exact (Ex.mut ((ex.trans e3).trans e4) np).trans e5
        · refine e5 _ _ ?_
          rw [upd_same, List.map_append]
          rfl
        · intro z
          rw [z, upd_same] at n5
          cases n5
    · have hk1 : k = 1 := by simpa using hb
      subst hk1
      cases g with
      | turn h n g2 => rw [hk] at h; exact absurd (Option.some.inj h).symm n
      | stop _ =>
        rw [List.append_nil] at hdone
        subst hdone
        have hp3 := e3 _ _ hp2
        have ha3 := e3 _ _ ha2
        refine ⟨_, rfl, _, rfl, by show 2 ≤ sizeLine; decide, fun p5 n5 => ?_⟩
        have e23 := ex.trans e3
        exact q p5 _ p a' (fresh_back e23 n5) (e23.trans (Ex.new n5)) upd_same np (Ex.new n5 _ _ hp3) (Ex.new n5 _ _ ha3) ne

/-- which errors an error of the class at D is -/
structure Which (K : PySem.W.Frag) (A : Ads) (D : Addr) (bs : List Bool) : Prop where
  e : ExcC K D
  bs : ∃ b0 b1 b2 b3 b4 b5 b6, bs = [b0, b1, b2, b3, b4, b5, b6] ∧ PySem.W.kitOne K (.ref D) (.ref A.c_NoDeck) = some b0 ∧ PySem.W.kitOne K (.ref D) (.ref A.c_NoTurn) = some b1 ∧ PySem.W.kitOne K (.ref D) (.ref A.c_NoGame) = some b2 ∧ PySem.W.kitOne K (.ref D) (.ref A.c_TooTall) = some b3 ∧
    PySem.W.kitOne K (.ref D) (.ref A.c_NoBack) = some b4 ∧ PySem.W.kitOne K (.ref D) (.ref A.c_BadLine) = some b5 ∧ PySem.W.kitOne K (.ref D) (.type "ValueError") = some b6
def spWhich (K : PySem.W.Frag) (A : Ads) : SpE := fun a c d vs H Q _ => ∃ (D : Addr) (bs : List Bool), vs = [.ref a] ∧ c = .ref D ∧ d = none ∧ Which K A D bs ∧ RetL (bs.map V.bl) H Q
theorem ok_law_which (T : Txt K mg A) : FnE P w K mg base 1 A.f_law_which A.d_law_which ["e"] (spWhich K A) := by
  refine okE T.F_law_which sc_law_which (fun a c d vs H Q E h => ?_) (fun cdv AA outer s H vs Q E p c d hot hz hr h => ?_)
  · obtain ⟨D, bs, rfl, _⟩ := h
    rfl
  · obtain ⟨D, bs, rfl, rfl, rfl, ⟨hE, b0, b1, b2, b3, b4, b5, b6, rfl, k0, k1, k2, k3, k4, k5, k6⟩, q⟩ := h
    have hf : ∃ vs, p.2.data = .fields vs := let ⟨vs, e, _⟩ := hot.2; ⟨vs, e⟩
    refine ⟨_, (pss_cons (ps_set (i := 1) sc_law_which.nd rfl (by first | exact Or.inl rfl | exact Or.inr rfl) (pe_lst (pa_cons (pe_callB (r := rIsE K D p.1) (call_isP List.mem_cons_self hE hz hf) (by rfl) T.n_isinstance (by decide +kernel) (pa_cons (pv 0) (pa_cons (pe_glob (v := .ref A.c_NoDeck) (by rfl) T.K_NoDeck.g rfl) pa_nil))) (pa_cons (pe_callB (r := rIsE K D p.1) (call_isP List.mem_cons_self hE hz hf) (by rfl) T.n_isinstance (by decide +kernel) (pa_cons (pv 0) (pa_cons (pe_glob (v := .ref A.c_NoTurn) (by rfl) T.K_NoTurn.g rfl) pa_nil))) (pa_cons (pe_callB (r := rIsE K D p.1) (call_isP List.mem_cons_self hE hz hf) (by rfl) T.n_isinstance (by decide +kernel) (pa_cons (pv 0) (pa_cons (pe_glob (v := .ref A.c_NoGame) (by rfl) T.K_NoGame.g rfl) pa_nil))) (pa_cons (pe_callB (r := rIsE K D p.1) (call_isP List.mem_cons_self hE hz hf) (by rfl) T.n_isinstance (by decide +kernel) (pa_cons (pv 0) (pa_cons (pe_glob (v := .ref A.c_TooTall) (by rfl) T.K_TooTall.g rfl) pa_nil))) pa_nil))))))
      (pss_one (ps_ret (pe_op op_cat (pv 1) (pe_lst (pa_cons (pe_callB (r := rIsE K D p.1) (call_isP List.mem_cons_self hE hz hf) (by rfl) T.n_isinstance (by decide +kernel) (pa_cons (pv 0) (pa_cons (pe_glob (v := .ref A.c_NoBack) (by rfl) T.K_NoBack.g rfl) pa_nil))) (pa_cons (pe_callB (r := rIsE K D p.1) (call_isP List.mem_cons_self hE hz hf) (by rfl) T.n_isinstance (by decide +kernel) (pa_cons (pv 0) (pa_cons (pe_glob (v := .ref A.c_BadLine) (by rfl) T.K_BadLine.g rfl) pa_nil))) (pa_cons (pe_callB (r := rIsE K D p.1) (call_isP List.mem_cons_self hE hz hf) (by rfl) T.n_isinstance (by decide +kernel) (pa_cons (pv 0) (pa_cons (pe_bltn (v := .ty "ValueError") (u := .type "ValueError") (by rfl) T.n_ValueError (by decide +kernel) rfl) pa_nil))) pa_nil)))))))), ?_⟩
    have one : ∀ {x : Addr} {b : Bool} {H1 : Hp} {v1 : Option V}, PySem.W.kitOne K (.ref D) (.ref x) = some b → Ev (tCB (rIsE K D p.1) (tCons (tVar 0) (tCons (tC (.ref x)) tNil))) [some (.ref p.1), v1] H1 (.bl b) := fun k => ev_isE (ev_var rfl) (fun u r => r) k
    refine q_asgL (el_lst (ea_cons (one k0) (ea_cons (one k1) (ea_cons (one k2) (ea_cons (one k3) ea_nil)))) (by simp)) fun a H1 na e1 ha => ?_
    refine s_retL (xs := [V.bl b0, V.bl b1, V.bl b2, V.bl b3] ++ [V.bl b4, V.bl b5, V.bl b6]) (el_cat (EvR.old (ev_var rfl) ha) (EvR.new (el_lst (ea_cons (one k4) (ea_cons (one k5) (ea_cons (ev_isE (ev_var rfl) (fun u r => r) k6) ea_nil))) (by simp))) (by simp)) fun b H2 nb e2 hb => ?_
    exact q b H2 (fresh_back e1 nb) (e1.trans e2) hb
theorem which_NoTurn (T : Txt K mg A) : Which K A A.c_NoTurn [false, true, false, false, false, false, true] := ⟨T.E_NoTurn.e, _, _, _, _, _, _, _, rfl, kit_not T.K_NoDeck.i T.K_NoDeck.t T.s_NoTurn_NoDeck T.E_NoTurn.s, kit_self, kit_not T.K_NoGame.i T.K_NoGame.t T.s_NoTurn_NoGame T.E_NoTurn.s, kit_not T.K_TooTall.i T.K_TooTall.t T.s_NoTurn_TooTall T.E_NoTurn.s, kit_not T.K_NoBack.i T.K_NoBack.t T.s_NoTurn_NoBack T.E_NoTurn.s, kit_not T.K_BadLine.i T.K_BadLine.t T.s_NoTurn_BadLine T.E_NoTurn.s, kit_blt (by decide +kernel) T.E_NoTurn.v⟩
theorem which_NoBack (T : Txt K mg A) : Which K A A.c_NoBack [false, false, false, false, true, false, true] := ⟨T.E_NoBack.e, _, _, _, _, _, _, _, rfl, kit_not T.K_NoDeck.i T.K_NoDeck.t T.s_NoBack_NoDeck T.E_NoBack.s, kit_not T.K_NoTurn.i T.K_NoTurn.t T.s_NoBack_NoTurn T.E_NoBack.s, kit_not T.K_NoGame.i T.K_NoGame.t T.s_NoBack_NoGame T.E_NoBack.s, kit_not T.K_TooTall.i T.K_TooTall.t T.s_NoBack_TooTall T.E_NoBack.s, kit_self, kit_not T.K_BadLine.i T.K_BadLine.t T.s_NoBack_BadLine T.E_NoBack.s, kit_blt (by decide +kernel) T.E_NoBack.v⟩

def bTurn : List Bool := [false, true, false, false, false, false, true]
def bBack : List Bool := [false, false, false, false, true, false, true]
def spRefused (A : Ads) : Sp := fun vs H Q _ => ∃ (g dx c d : Addr) (cs ts : List Int) (w : Int) (bs : List Bool), vs = [.ref g, .int w] ∧ Pl A.c_Game H g dx c d cs ts ∧ ts.length < 100000 ∧ (∀ t ∈ ts, 1 ≤ t ∧ t ≤ (cs.length : Int)) ∧ ((w = 0 ∧ cs[0]? = some 1 ∧ bs = bTurn) ∨ (w = 1 ∧ ts = [] ∧ bs = bBack)) ∧ RetL (bs.map V.bl) H Q
theorem spRefused_L {H : Hp} {g dx c d : Addr} {cs ts : List Int} {w : Int} {bs : List Bool} (h : Pl A.c_Game H g dx c d cs ts) (hl : ts.length < 100000) (ht : ∀ t ∈ ts, 1 ≤ t ∧ t ≤ (cs.length : Int)) (hw : (w = 0 ∧ cs[0]? = some 1 ∧ bs = bTurn) ∨ (w = 1 ∧ ts = [] ∧ bs = bBack)) : SpL (spRefused A) [.ref g, .int w] H (bs.map V.bl) :=
  fun H1 e Q q E => ⟨g, dx, c, d, cs, ts, w, bs, rfl, h.ex e, hl, ht, hw, fun p H2 np e2 hp => q p H2 np e2 hp⟩
theorem ok_law_refused (T : Txt K mg A) : FnOk P w K mg base CX0 4 A.f_law_refused A.d_law_refused ["play", "way"] (spRefused A) := by
  refine T.F_law_refused.ok sc_law_refused (fun vs H Q E h => ?_) (fun cdv AA outer s H vs Q E hr h => ?_)
  · obtain ⟨g, dx, c, d, cs, ts, w, bs, rfl, _⟩ := h
    rfl
  · obtain ⟨g, dx, c, d, cs, ts, w, bs, rfl, pl, hl, ht, hw, q⟩ := h
    refine ⟨_, (pss_cons (ps_set (i := 2) sc_law_refused.nd rfl (by first | exact Or.inl rfl | exact Or.inr rfl) (pe_lst pa_nil))
      (pss_cons (L2N.ps_try_as (i := 3) rfl rfl sc_law_refused.nd rfl rfl ⟨rfl, by decide, .inl T.K_CardError.g⟩ takesN0 (fun W pn xe tk _ =>
      (pss_one (ps_if (pt_cmpR op_eq (pv 1) pe_int (nomark _))
        (pss_one (ps_expr (pe_methT0 (pv 0) T.C_Game T.m_Game_turn (ok_Game_turn T) (hr.mono (by decide)) T.b_Game_turn (fun σ => L2N.passAt tk σ))))
        (pss_one (ps_expr (pe_methT0 (pv 0) T.C_Game T.m_Game_back (ok_Game_back T) (hr.mono (by decide)) T.b_Game_back (fun σ => L2N.passAt tk σ)))))))
      (fun a oe cls d pn hz hf =>
      (pss_one (ps_set (i := 2) sc_law_refused.nd rfl (by first | exact Or.inl rfl | exact Or.inr rfl) (by exact (pe_callE (a := a) (oe := oe) (c := cls) (d := d) (ok_law_which T) (roomH_at (hr.mono (by decide)) rfl rfl) (hot_at rfl hz hf) List.mem_cons_self hz (by rfl) T.g_law_which T.F_law_which.kp T.b_law_which (pa_cons (pv 3) pa_nil)))))))
      (pss_one (ps_ret (pv 2))))), ?_⟩
    refine q_asgL (el_lst ea_nil (by decide)) fun p0 H1 np0 e1 hp0 => ?_
    refine s_if (b := decide (w = 0)) (et_test (ev_op (ev_var rfl) ev_c rv_eqI)) (fun hb H2 e2 => ?_) fun hb H2 e2 => ?_
    · have ex2 := e1.trans e2
      rcases hw with ⟨rfl, hk, rfl⟩ | ⟨rfl, _⟩
      · refine ⟨_, rfl, g, dx, _, rfl, (pl.ex ex2).o, fsG_no _ _ (by decide +kernel) (by decide +kernel), g, dx, c, d, cs, ts, 1, rfl, pl.ex ex2, hl, hk, fun z => absurd rfl z, fun _ H3 e3 => ?_⟩
        refine ⟨true, PySem.W.exm_ref T.cb_CardError T.cd_CardError T.K_CardError.t T.s_NoTurn_CardError, fun _ x nx => ?_, fun z => nomatch z⟩
        refine ⟨_, rfl, A.c_NoTurn, _, rfl, rfl, rfl, which_NoTurn T, fun p H4 np e4 hp => ?_⟩
        exact ⟨_, rfl, q p H4 (fresh_back (ex2.trans e3) np) ((ex2.trans e3).trans e4) hp⟩
      · exact absurd (of_decide_eq_true hb) (by decide)
    · have ex2 := e1.trans e2
      rcases hw with ⟨rfl, _⟩ | ⟨rfl, hts, rfl⟩
      · exact absurd rfl (of_decide_eq_false hb)
      · refine ⟨_, rfl, g, dx, _, rfl, (pl.ex ex2).o, fsG_no _ _ (by decide +kernel) (by decide +kernel), g, dx, c, d, cs, ts, rfl, pl.ex ex2, ht, fun ts' t z => absurd (hts.symm.trans z) (by simp), fun _ H3 e3 => ?_⟩
        refine ⟨true, PySem.W.exm_ref T.cb_CardError T.cd_CardError T.K_CardError.t T.s_NoBack_CardError, fun _ x nx => ?_, fun z => nomatch z⟩
        refine ⟨_, rfl, A.c_NoBack, _, rfl, rfl, rfl, which_NoBack T, fun p H4 np e4 hp => ?_⟩
        exact ⟨_, rfl, q p H4 (fresh_back (ex2.trans e3) np) ((ex2.trans e3).trans e4) hp⟩

def spDeed (A : Ads) : Sp := fun vs H Q _ => ∃ (g dx d kp dn : Addr) (cs ts : List Int) (z : Int), vs = [.ref g, .ref kp, .ref dn, .int z] ∧ Js A.c_Game H g dx d kp dn cs ts ∧ ts.length < 90000 ∧
  ∀ H', Frm [g, d, kp, dn] H H' → Js A.c_Game H' g dx d kp dn (stepM z cs ts).1 (stepM z cs ts).2 → Q (.bl true) H'
theorem el_seven {σ : L2.St} {H : Hp} {b0 b1 b2 b3 b4 b5 b6 : Bool} : EvL (tLst (tCons (tC (.bl b0)) (tCons (tC (.bl b1)) (tCons (tC (.bl b2)) (tCons (tC (.bl b3)) (tCons (tC (.bl b4)) (tCons (tC (.bl b5)) (tCons (tC (.bl b6)) tNil)))))))) σ H ([b0, b1, b2, b3, b4, b5, b6].map V.bl) :=
  el_lst (ea_cons ev_c (ea_cons ev_c (ea_cons ev_c (ea_cons ev_c (ea_cons ev_c (ea_cons ev_c (ea_cons ev_c ea_nil))))))) (by show 7 ≤ 100000; decide)
theorem ok_law_deed (T : Txt K mg A) : FnOk P w K mg base CX0 5 A.f_law_deed A.d_law_deed ["play", "kept", "done", "cell"] (spDeed A) := by
  refine T.F_law_deed.ok sc_law_deed (fun vs H Q E h => ?_) (fun cdv AA outer s H vs Q E hr h => ?_)
  · obtain ⟨g, dx, d, kp, dn, cs, ts, z, rfl, _⟩ := h
    rfl
  · obtain ⟨g, dx, d, kp, dn, cs, ts, z, rfl, js, hl, q⟩ := h
    refine ⟨_, (pss_cons (ps_set (i := 4) sc_law_deed.nd rfl (by first | exact Or.inl rfl | exact Or.inr rfl) (pe_ix (r := rIxL K) ix_list (pv 1) pe_int (fun _ _ => rfl)))
      (pss_cons (ps_if (PW.pt (pw_and (pt_cmpR op_lt (pe_op op_mod (pv 3) pe_int) pe_int (nomark _)) (pw_and1 (pt_cmpR op_eq (pe_ix (r := rIxL K) ix_list (pv 4) pe_int (fun _ _ => rfl)) pe_int (nomark _)))))
      (pss_one (ps_ret (pe_cmpR (r := rEqD K) (op_eqD hr.units) (pe_call (ok_law_refused T) (hr.mono (by decide)) (by rfl) T.g_law_refused T.F_law_refused.kp T.b_law_refused .nil pass0 (pa_cons (pv 0) (pa_cons pe_int pa_nil))) (pe_lst (pa_cons pe_bl (pa_cons pe_bl (pa_cons pe_bl (pa_cons pe_bl (pa_cons pe_bl (pa_cons pe_bl (pa_cons pe_bl pa_nil)))))))) (nomark _))))
      pss_nil)
      (pss_cons (ps_if (pt_cmpR op_lt (pe_op op_mod (pv 3) pe_int) pe_int (nomark _))
      (pss_cons (ps_set (i := 5) sc_law_deed.nd rfl (by first | exact Or.inl rfl | exact Or.inr rfl) (pe_meth0 (pv 0) T.C_Game T.m_Game_turn (ok_Game_turn T) (hr.mono (by decide)) T.b_Game_turn .nil passN))
        (pss_cons (ps_expr (pe_bm PySem.F.plainAttrs_list PySem.F.slot_list_append PySem.F.type_list_append mt_append (pv 2) (pa_cons (pe_ix (r := rIxL K) ix_list (pv 4) pe_int (fun _ _ => rfl)) pa_nil)))
        (pss_cons (ps_asg (pe_call (ok_law_over T) (hr.mono (by decide)) (by rfl) T.g_law_over T.F_law_over.kp T.b_law_over .nil pass0 (pa_cons (pv 4) (pa_cons (pe_ix (r := rIxL K) ix_list (pv 4) pe_int (fun _ _ => rfl)) pa_nil))) (pg_sub (pv 1) pe_int set_list))
        (pss_one (ps_ret (pe_and (pe_call (ok_law_whole T) (hr.mono (by decide)) (by rfl) T.g_law_whole T.F_law_whole.kp T.b_law_whole .nil pass0 (pa_cons (pv 5) pa_nil)) (pe_one (pe_cmpR op_eq (pv 5) (pe_ix (r := rIxL K) ix_list (pv 4) pe_int (fun _ _ => rfl)) (nomark _)))))))))
      pss_nil)
      (pss_cons (ps_if (pt_cmpR op_eq (pe_callB (r := rLenS K) call_len_seq (by rfl) T.n_len PySem.boot_len (pa_cons (pv 2) pa_nil)) pe_int (nomark _))
      (pss_one (ps_ret (pe_cmpR (r := rEqD K) (op_eqD hr.units) (pe_call (ok_law_refused T) (hr.mono (by decide)) (by rfl) T.g_law_refused T.F_law_refused.kp T.b_law_refused .nil pass0 (pa_cons (pv 0) (pa_cons pe_int pa_nil))) (pe_lst (pa_cons pe_bl (pa_cons pe_bl (pa_cons pe_bl (pa_cons pe_bl (pa_cons pe_bl (pa_cons pe_bl (pa_cons pe_bl pa_nil)))))))) (nomark _))))
      pss_nil)
      (pss_cons (ps_set (i := 6) sc_law_deed.nd rfl (by first | exact Or.inl rfl | exact Or.inr rfl) (pe_bm0 PySem.F.plainAttrs_list PySem.F.slot_list_pop PySem.F.type_list_pop mt_pop (pv 2)))
      (pss_cons (ps_asg (pe_call (ok_law_over T) (hr.mono (by decide)) (by rfl) T.g_law_over T.F_law_over.kp T.b_law_over .nil pass0 (pa_cons (pv 4) (pa_cons (pv 6) pa_nil))) (pg_sub (pv 1) pe_int set_list))
      (pss_cons (ps_set (i := 5) sc_law_deed.nd rfl (by first | exact Or.inl rfl | exact Or.inr rfl) (pe_meth0 (pv 0) T.C_Game T.m_Game_back (ok_Game_back T) (hr.mono (by decide)) T.b_Game_back .nil passN))
      (pss_one (ps_ret (pe_and (pe_call (ok_law_whole T) (hr.mono (by decide)) (by rfl) T.g_law_whole T.F_law_whole.kp T.b_law_whole .nil pass0 (pa_cons (pv 5) pa_nil)) (pe_one (pe_cmpR op_eq (pv 5) (pv 6) (nomark _))))))))))))), ?_⟩
    obtain ⟨⟨c, pl, ncn⟩, ⟨kc, hkp, hkc, nkd, nkn⟩, hdn, ndn, htp⟩ := id js
    have hd := Dk.of pl
    obtain ⟨k, hk, k1, k2⟩ := hd.top
    have eg : cs.getD 0 0 = k := by rw [List.getD_eq_getElem?_getD, hk]; rfl
    refine q_asg (ev_op (ev_var rfl) ev_c (rv_ixP (ps := [kc]) 0 hkp rfl rfl)) fun H1 e1 => ?_
    have hkc1 := e1 _ _ hkc
    refine q_when (b := decide (z % 3 < 2) && decide (k = 1)) (et_and (et_test (ev_op (ev_op (ev_var rfl) ev_c (rv_I (by decide))) ev_c rv_I0)) fun _ => et_test (ev_op (ev_op (ev_var rfl) ev_c (rv_ix 0 (sq_of hkc1) rfl hk)) ev_c rv_eqI)) (fun hb H2 e2 => ?_) (fun hb H2 e2 => ?_)
    · rw [Bool.and_eq_true, decide_eq_true_eq, decide_eq_true_eq] at hb
      have ex2 := e1.trans e2
      have est : stepM z cs ts = (cs, ts) := by
        unfold stepM
        rw [if_pos hb.1, eg, if_pos hb.2]
      rw [est] at q
      refine s_ret (ev_eqB (bs := bTurn) (cs := bTurn) (EvR.new (el_call (ea_cons (ev_var rfl) (ea_cons ev_c ea_nil)) (spRefused_L (pl.ex ex2) (by omega) htp (Or.inl ⟨rfl, by rw [hk, hb.2], rfl⟩)))) (EvR.new el_seven)) fun H3 e3 => ?_
      rw [decide_eq_true rfl]
      exact q H3 (Frm.ex (ex2.trans e3)) (js.ex (ex2.trans e3))
    · refine q_when (b := decide (z % 3 < 2)) (et_test (ev_op (ev_op (ev_var rfl) ev_c (rv_I (by decide))) ev_c rv_I0)) (fun hz H3 e3 => ?_) (fun hz H3 e3 => ?_)
      · have hz := of_decide_eq_true hz
        have hk1 : k ≠ 1 := fun y => by rw [decide_eq_true hz, decide_eq_true y] at hb; cases hb
        have ex3 := (e1.trans e2).trans e3
        have est : stepM z cs ts = (ov cs k, ts ++ [k]) := by
          unfold stepM
          rw [if_pos hz, eg, if_neg hk1]
        rw [est] at q
        have pl3 := pl.ex ex3
        refine ⟨_, rfl, g, dx, _, rfl, pl3.o, fsG_no _ _ (by decide +kernel) (by decide +kernel), g, dx, c, d, cs, ts, k, rfl, pl3, by omega, hk, fun _ H4 c' fr nc' pl4 => ?_, fun y => absurd y hk1⟩
        have hkp3 := ex3 _ _ hkp
        have hkc3 := ex3 _ _ hkc
        have hdn3 := ex3 _ _ hdn
        have nkg : kc ≠ g := lst_ins hkc3 pl3.o
        have ndg : dn ≠ g := lst_ins hdn3 pl3.o
        have npg : kp ≠ g := lst_ins hkp3 pl3.o
        have npd : kp ≠ d := ref_ints hkp3 pl3.at2
        have npn : kp ≠ dn := ref_ints hkp3 hdn3
        have npc : kp ≠ kc := ref_ints hkp3 hkc3
        have hkp4 : H4 kp = _ := fr _ _ (by simp [npg, npd]) hkp3
        have hkc4 : At H4 kc cs := fr _ _ (by simp [nkg, nkd]) hkc3
        have hdn4 : At H4 dn ts := fr _ _ (by simp [ndg, ndn.symm]) hdn3
        have ncc : c' ≠ dn := fun y => by
          have hdn3' : H3 dn = _ := hdn3
          rw [y, hdn3'] at nc'
          cases nc'
        have ncp : c' ≠ kp := fun y => by rw [y, hkp3] at nc'; cases nc'
        refine q_app hdn4 (ev_var rfl) (ev_op (ev_var rfl) ev_c (rv_ix 0 (sq_of hkc4) rfl hk)) (by rw [List.length_map]; omega) fun H5 e5 => ?_
        have hkc5 : At (upd H5 dn (.lst (ts.map V.int ++ [.int k]))) kc cs := upd_at (e5 _ _ hkc4) nkn
        have hkp5 : (upd H5 dn (.lst (ts.map V.int ++ [.int k]))) kp = some (.lst [.ref kc]) := upd_at (e5 _ _ hkp4) npn
        have hdn5 : At (upd H5 dn (.lst (ts.map V.int ++ [.int k]))) dn (ts ++ [k]) := by
          show upd _ _ _ _ = _
          rw [upd_same, List.map_append]
          rfl
        have pl5 : Pl A.c_Game (upd H5 dn (.lst (ts.map V.int ++ [.int k]))) g dx c' d (ov cs k) (ts ++ [k]) := (pl4.ex e5).frm Frm.of_upd (by simp [ndg.symm]) (by simp [ncc]) (by simp [ndn])
        have fr5 : Frm [g, d, kp, dn] H (upd H5 dn (.lst (ts.map V.int ++ [.int k]))) := Frm.upd (((Frm.ex ex3).trans (fr.mono (by simp))).trans (Frm.ex e5)) (by simp)
        generalize upd H5 dn (.lst (ts.map V.int ++ [.int k])) = H6 at *
        refine el_call (ea_cons (ev_var rfl) (ea_cons (ev_op (ev_var rfl) ev_c (rv_ix 0 (sq_of hkc5) rfl hk)) ea_nil)) (spOverL_L hkc5 (by omega) k2 (by have := hd.hi; omega)) H6 (Ex.refl _) _ fun kn H7 nkn7 e7 hkn7 => ?_
        refine ⟨_, rfl, kp, _, (0 : Nat), 0, rfl, rfl, e7 _ _ hkp5, ixN_nat (by simp), ?_⟩
        have npk : kn ≠ kp := fun y => by rw [y, hkp5] at nkn7; cases nkn7
        have nknd : kn ≠ d := fun y => by
          have h : H6 d = _ := pl5.at2
          rw [y, h] at nkn7
          cases nkn7
        have nknn : kn ≠ dn := fun y => by
          have h : H6 dn = _ := hdn5
          rw [y, h] at nkn7
          cases nkn7
        have pl8 : Pl A.c_Game (upd H7 kp (.lst ([V.ref kc].set 0 (.ref kn)))) g dx c' d (ov cs k) (ts ++ [k]) := (pl5.ex e7).frm Frm.of_upd (by simp [npg.symm]) (by simp [ncp]) (by simp [npd.symm])
        have fr8 : Frm [g, d, kp, dn] H (upd H7 kp (.lst ([V.ref kc].set 0 (.ref kn)))) := (fr5.trans (Frm.ex e7)).upd (by simp)
        have js8 : Js A.c_Game (upd H7 kp (.lst ([V.ref kc].set 0 (.ref kn)))) g dx d kp dn (ov cs k) (ts ++ [k]) := by
          refine ⟨⟨c', pl8, ncc⟩, ⟨kn, upd_same, upd_at hkn7 npk, nknd, nknn⟩, upd_at (e7 _ _ hdn5) npn.symm, ndn, fun t ht => ?_⟩
          rw [ov_len]
          rcases List.mem_append.mp ht with ht | ht
          · exact htp t ht
          · rw [List.mem_singleton.mp ht]
            exact ⟨k1, k2⟩
        have hkc8 : At (upd H7 kp (.lst ([V.ref kc].set 0 (.ref kn)))) kc cs := upd_at (e7 _ _ hkc5) npc.symm
        generalize upd H7 kp (.lst ([V.ref kc].set 0 (.ref kn))) = H8 at *
        refine s_ret (ev_is (ev_andV (ev_call (ea_cons (ev_var rfl) ea_nil) spWhole_V) fun _ => ev_op (ev_var rfl) (ev_op (ev_var rfl) ev_c (rv_ix 0 (sq_of hkc8) rfl hk)) rv_eqI) (w := .bl true) (by simp)) fun H9 e9 => q H9 (fr8.trans (Frm.ex e9)) (js8.ex e9)
      · have hz := of_decide_eq_false hz
        have ex3 := (e1.trans e2).trans e3
        have hdn3 := ex3 _ _ hdn
        refine q_when (b := decide (ts = [])) (et_is (et_test (ev_op (ev_lenI (ev_var rfl) (sq_of hdn3)) ev_c rv_eqI)) (by cases ts <;> simp; omega)) (fun hb H4 e4 => ?_) fun hb H4 e4 => ?_
        · have hts := of_decide_eq_true hb
          have ex4 := ex3.trans e4
          have est : stepM z cs ts = (cs, ts) := by
            unfold stepM
            rw [if_neg hz, hts]
            rfl
          rw [est] at q
          refine s_ret (ev_eqB (bs := bBack) (cs := bBack) (EvR.new (el_call (ea_cons (ev_var rfl) (ea_cons ev_c ea_nil)) (spRefused_L (pl.ex ex4) (by omega) htp (Or.inr ⟨rfl, hts, rfl⟩)))) (EvR.new el_seven)) fun H5 e5 => ?_
          rw [decide_eq_true rfl]
          exact q H5 (Frm.ex (ex4.trans e5)) (js.ex (ex4.trans e5))
        · have hne := of_decide_eq_false hb
          obtain ⟨ts', t, rfl⟩ : ∃ ts' t, ts = ts' ++ [t] := ⟨ts.dropLast, ts.getLast hne, (List.dropLast_concat_getLast hne).symm⟩
          have ht := htp t (by simp)
          have est : stepM z cs (ts' ++ [t]) = (ov cs t, ts') := by
            unfold stepM
            rw [if_neg hz]
            simp
          rw [est] at q
          have ex4 := ex3.trans e4
          refine q_asgPop (ev_var rfl) (ex4 _ _ hdn) fun H5 e5 => ?_
          have ex5 := ex4.trans e5
          have pl5 := pl.ex ex5
          have hkp5 := ex5 _ _ hkp
          have hkc5 := ex5 _ _ hkc
          have hdn5 := ex5 _ _ hdn
          have nkg : kc ≠ g := lst_ins hkc5 pl5.o
          have ndg : dn ≠ g := lst_ins hdn5 pl5.o
          have npg : kp ≠ g := lst_ins hkp5 pl5.o
          have npd : kp ≠ d := ref_ints hkp5 pl5.at2
          have npn : kp ≠ dn := ref_ints hkp5 hdn5
          have npc : kp ≠ kc := ref_ints hkp5 hkc5
          have npcc : kp ≠ c := ref_ints hkp5 pl5.at1
          have hkc6 : At (upd H5 dn (.lst (ts'.map V.int))) kc cs := upd_at hkc5 nkn
          have hkp6 : (upd H5 dn (.lst (ts'.map V.int))) kp = some (.lst [.ref kc]) := upd_at hkp5 npn
          have hdn6 : At (upd H5 dn (.lst (ts'.map V.int))) dn ts' := upd_same
          have pl6 : Pl A.c_Game (upd H5 dn (.lst (ts'.map V.int))) g dx c d cs (ts' ++ [t]) := pl5.frm Frm.of_upd (by simp [ndg.symm]) (by simp [ncn]) (by simp [ndn])
          have fr6 : Frm [g, d, kp, dn] H (upd H5 dn (.lst (ts'.map V.int))) := (Frm.ex ex5).upd (by simp)
          generalize upd H5 dn (.lst (ts'.map V.int)) = H6 at *
          refine el_call (ea_cons (ev_var rfl) (ea_cons (ev_var rfl) ea_nil)) (spOverL_L hkc6 (by omega) ht.2 (by have := hd.hi; omega)) H6 (Ex.refl _) _ fun kn H7 nkn7 e7 hkn7 => ?_
          refine ⟨_, rfl, kp, _, (0 : Nat), 0, rfl, rfl, e7 _ _ hkp6, ixN_nat (by simp), ?_⟩
          have npk : kn ≠ kp := fun y => by rw [y, hkp6] at nkn7; cases nkn7
          have nknd : kn ≠ d := fun y => by
            have h : H6 d = _ := pl6.at2
            rw [y, h] at nkn7
            cases nkn7
          have nknn : kn ≠ dn := fun y => by
            have h : H6 dn = _ := hdn6
            rw [y, h] at nkn7
            cases nkn7
          have nkng : kn ≠ g := fun y => by
            have h : H6 g = _ := pl6.o
            rw [y, h] at nkn7
            cases nkn7
          have pl8 : Pl A.c_Game (upd H7 kp (.lst ([V.ref kc].set 0 (.ref kn)))) g dx c d cs (ts' ++ [t]) := (pl6.ex e7).frm Frm.of_upd (by simp [npg.symm]) (by simp [npcc.symm]) (by simp [npd.symm])
          have fr8 : Frm [g, d, kp, dn] H (upd H7 kp (.lst ([V.ref kc].set 0 (.ref kn)))) := (fr6.trans (Frm.ex e7)).upd (by simp)
          have hkn8 : At (upd H7 kp (.lst ([V.ref kc].set 0 (.ref kn)))) kn (ov cs t) := upd_at hkn7 npk
          have hkp8 : (upd H7 kp (.lst ([V.ref kc].set 0 (.ref kn)))) kp = some (.lst [.ref kn]) := upd_same
          have hdn8 : At (upd H7 kp (.lst ([V.ref kc].set 0 (.ref kn)))) dn ts' := upd_at (e7 _ _ hdn6) npn.symm
          generalize upd H7 kp (.lst ([V.ref kc].set 0 (.ref kn))) = H8 at *
          refine ⟨_, rfl, g, dx, _, rfl, pl8.o, fsG_no _ _ (by decide +kernel) (by decide +kernel), g, dx, c, d, cs, _, rfl, pl8, htp, fun ts2 t2 e H9 c' fr nc' pl9 => ?_, fun y => absurd y (by simp)⟩
          obtain ⟨rfl, e2'⟩ := List.append_inj' e rfl
          cases e2'
          have hkn9 : At H9 kn (ov cs t) := fr _ _ (by simp [nkng, nknd]) hkn8
          have hkp9 : H9 kp = some (.lst [.ref kn]) := fr _ _ (by simp [npg, npd]) hkp8
          have hdn9 : At H9 dn ts' := fr _ _ (by simp [ndg, ndn.symm]) hdn8
          have ncc : c' ≠ dn := fun y => by
            have hdn8' : H8 dn = _ := hdn8
            rw [y, hdn8'] at nc'
            cases nc'
          have js9 : Js A.c_Game H9 g dx d kp dn (ov cs t) ts' := by
            refine ⟨⟨c', pl9, ncc⟩, ⟨kn, hkp9, hkn9, nknd, nknn⟩, hdn9, ndn, fun x hx => ?_⟩
            rw [ov_len]
            exact htp x (List.mem_append_left _ hx)
          refine s_ret (ev_is (ev_andV (ev_call (ea_cons (ev_var rfl) ea_nil) spWhole_V) fun _ => ev_op (ev_var rfl) (ev_var rfl) rv_eqI) (w := .bl true) (by simp)) fun H10 e10 => q H10 ((fr8.trans (fr.mono (by simp))).trans (Frm.ex e10)) (js9.ex e10)

def spEnd2 (A : Ads) : Sp := fun vs H Q _ => ∃ (g dx d kp dn : Addr) (cs ts : List Int), vs = [.ref g, .ref kp, .ref dn] ∧ Js A.c_Game H g dx d kp dn cs ts ∧ ts.length ≤ 100 ∧ ∀ H' cs', Frm [g, d, kp, dn] H H' → Js A.c_Game H' g dx d kp dn cs' [] → Q (.bl true) H'
theorem Js.dk {C g dx d kp dn : Addr} {H : Hp} {cs ts : List Int} (h : Js C H g dx d kp dn cs ts) : Dk cs := by
  obtain ⟨⟨c, pl, _⟩, _⟩ := h
  exact Dk.of pl
theorem ok_law_to_the_end (T : Txt K mg A) : FnOk P w K mg base CX0 6 A.f_law_to_the_end A.d_law_to_the_end ["play", "kept", "done"] (spEnd2 A) := by
  refine T.F_law_to_the_end.ok sc_law_to_the_end (fun vs H Q E h => ?_) (fun cdv AA outer s H vs Q E hr h => ?_)
  · obtain ⟨g, dx, d, kp, dn, cs, ts, rfl, _⟩ := h
    rfl
  · obtain ⟨g, dx, d, kp, dn, cs, ts, rfl, js, hl, q⟩ := h
    refine ⟨_, (pss_cons (ps_while PassesOwn.never (pt_cmpR op_ne (pe_ix (r := rIxL K) ix_list (pe_ix (r := rIxL K) ix_list (pv 1) pe_int (fun _ _ => rfl)) pe_int (fun _ _ => rfl)) pe_int (nomark _))
      (pss_one (ps_if (pt_not (pt_val (pe_call (ok_law_deed T) (hr.mono (by decide)) (by rfl) T.g_law_deed T.F_law_deed.kp T.b_law_deed .nil pass0 (pa_cons (pv 0) (pa_cons (pv 1) (pa_cons (pv 2) (pa_cons pe_int pa_nil)))))))
        (pss_one (ps_ret pe_bl))
        pss_nil)))
      (pss_cons (ps_if (PW.pt (pw_or (pt_cmpR (r := rNeD K) (op_neD hr.units) (pe_meth0 (pv 0) T.C_Game T.m_Game_done_tops (ok_Game_done_tops T) (hr.mono (by decide)) T.b_Game_done_tops .nil pass0) (pv 2) (nomark _)) (pw_or1 (pt_cmpR op_ne (pe_meth0 (pv 0) T.C_Game T.m_Game_left (ok_Game_left T) (hr.mono (by decide)) T.b_Game_left .nil pass0) pe_int (nomark _)))))
      (pss_one (ps_ret pe_bl))
      pss_nil)
      (pss_cons (ps_while PassesOwn.never (pt_cmpR op_gt (pe_callB (r := rLenS K) call_len_seq (by rfl) T.n_len PySem.boot_len (pa_cons (pv 2) pa_nil)) pe_int (nomark _))
      (pss_one (ps_if (pt_not (pt_val (pe_call (ok_law_deed T) (hr.mono (by decide)) (by rfl) T.g_law_deed T.F_law_deed.kp T.b_law_deed .nil pass0 (pa_cons (pv 0) (pa_cons (pv 1) (pa_cons (pv 2) (pa_cons pe_int pa_nil)))))))
        (pss_one (ps_ret pe_bl))
        pss_nil)))
      (pss_one (ps_ret (pe_cmpR (r := rEqD K) (op_eqD hr.units) (pe_meth0 (pv 0) T.C_Game T.m_Game_done_tops (ok_Game_done_tops T) (hr.mono (by decide)) T.b_Game_done_tops .nil pass0) (pe_lst pa_nil) (nomark _))))))), ?_⟩
    have hd := js.dk
    obtain ⟨rest, e, hg⟩ := Gm.all hd.dk hd.lo
    have hg16 := hg.short16 hd
    refine q_while (fun m σ' H' => ∃ (cs ts rest : List Int), σ' = [some (.ref g), some (.ref kp), some (.ref dn)] ∧ Frm [g, d, kp, dn] H H' ∧ Js A.c_Game H' g dx d kp dn cs ts ∧ Gm cs rest e ∧ m = rest.length ∧ ts.length + rest.length ≤ 40000) rest.length ⟨cs, ts, rest, rfl, Frm.ex (Ex.refl _), js, hg, rfl, by omega⟩ fun m σ' H' hW => ?_
    obtain ⟨cs, ts, rest, rfl, fr, js, hg, rfl, hlen⟩ := hW
    have hd := js.dk
    obtain ⟨k, hk, k1, k2⟩ := hd.top
    have eg : cs.getD 0 0 = k := by rw [List.getD_eq_getElem?_getD, hk]; rfl
    obtain ⟨⟨c, pl, ncn⟩, ⟨kc, hkp, hkc, nkd, nkn⟩, hdn, ndn, htp⟩ := id js
    refine ⟨!decide (k = 1), et_test (ev_op (ev_op (ev_op (ev_var rfl) ev_c (rv_ixP (ps := [kc]) 0 hkp rfl rfl)) ev_c (rv_ix 0 (sq_of hkc) rfl hk)) ev_c rv_neI), fun hb H4 e4 => ?_, fun hb H4 e4 => ?_⟩
    · have hk1 : k ≠ 1 := by simpa using hb
      cases hg with
      | stop h => rw [hk] at h; exact absurd (Option.some.inj h) hk1
      | turn h n g2 =>
        rename_i rest' k'
        rw [hk] at h
        cases Option.some.inj h
        rw [List.length_cons] at hlen
        refine ⟨fun σ' H' => ∃ (cs ts : List Int), σ' = [some (.ref g), some (.ref kp), some (.ref dn)] ∧ Frm [g, d, kp, dn] H H' ∧ Js A.c_Game H' g dx d kp dn cs ts ∧ Gm cs rest' e ∧ ts.length + rest'.length ≤ 40000, fun σ2 H5 ⟨cs2, ts2, a1, a2, a3, a4, a5⟩ => ⟨rest'.length, by simp, cs2, ts2, rest', a1, a2, a3, a4, rfl, a5⟩, ?_⟩
        refine ⟨_, rfl, _, rfl, _, rfl, g, dx, d, kp, dn, cs, ts, 0, rfl, js.ex e4, by omega, fun H5 fr5 js5 => ⟨true, rfl, ?_⟩⟩
        have est : stepM 0 cs ts = (ov cs k, ts ++ [k]) := by
          unfold stepM
          rw [if_pos (by decide), eg, if_neg hk1]
        rw [est] at js5
        exact ⟨ov cs k, ts ++ [k], rfl, (fr.trans (Frm.ex e4)).trans fr5, js5, g2, by simp; omega⟩
    · have hk1 : k = 1 := by simpa using hb
      subst hk1
      cases hg with
      | turn h n g2 => rw [hk] at h; exact absurd (Option.some.inj h).symm n
      | stop hs =>
        have pl4 := pl.ex e4
        refine q_when (b := false) (et_is (et_or (et_test (ev_neR (EvR.new (el_meth (ev_var rfl) pl4.o (fsG_no _ _ (by decide +kernel) (by decide +kernel)) (spGTops_L pl4))) (EvR.old (ev_var rfl) (e4 _ _ hdn)))) fun _ => et_test (ev_op (ev_meth (ev_var rfl) pl4.o (fsG_no _ _ (by decide +kernel) (by decide +kernel)) (spLeft_V pl4 (.stop hs))) ev_c rv_neI)) (by simp)) (fun z => nomatch z) fun _ H5 e5 => ?_
        have e45 := e4.trans e5
        refine q_while (fun m σ' H' => ∃ (cs ts : List Int), σ' = [some (.ref g), some (.ref kp), some (.ref dn)] ∧ Frm [g, d, kp, dn] H H' ∧ Js A.c_Game H' g dx d kp dn cs ts ∧ m = ts.length ∧ ts.length ≤ 40000) ts.length ⟨_, ts, rfl, fr.trans (Frm.ex e45), js.ex e45, rfl, by omega⟩ fun m σ' H' hW => ?_
        obtain ⟨cs, ts, rfl, fr, js, rfl, hlen⟩ := hW
        refine ⟨decide (0 < (ts.length : Int)), et_test (ev_op (ev_lenI (ev_var rfl) (sq_of js.nt)) ev_c rv_I0), fun hb H6 e6 => ?_, fun hb H6 e6 => ?_⟩
        · have hne : ts ≠ [] := fun z => by rw [z] at hb; simp at hb
          obtain ⟨ts', t, rfl⟩ : ∃ ts' t, ts = ts' ++ [t] := ⟨ts.dropLast, ts.getLast hne, (List.dropLast_concat_getLast hne).symm⟩
          have hl1 : (ts' ++ [t]).length = ts'.length + 1 := by simp
          refine ⟨fun σ' H' => ∃ (cs : List Int), σ' = [some (.ref g), some (.ref kp), some (.ref dn)] ∧ Frm [g, d, kp, dn] H H' ∧ Js A.c_Game H' g dx d kp dn cs ts', fun σ2 H7 ⟨cs2, a1, a2, a3⟩ => ⟨ts'.length, by omega, cs2, ts', a1, a2, a3, rfl, by omega⟩, ?_⟩
          refine ⟨_, rfl, _, rfl, _, rfl, g, dx, d, kp, dn, cs, _, 2, rfl, js.ex e6, by omega, fun H7 fr7 js7 => ⟨true, rfl, ?_⟩⟩
          have est : stepM 2 cs (ts' ++ [t]) = (ov cs t, ts') := by
            unfold stepM
            rw [if_neg (by decide)]
            simp
          rw [est] at js7
          exact ⟨ov cs t, rfl, (fr.trans (Frm.ex e6)).trans fr7, js7⟩
        · have hts : ts = [] := by
            have := of_decide_eq_false hb
            exact List.eq_nil_of_length_eq_zero (by omega)
          subst hts
          have js6 := js.ex e6
          obtain ⟨⟨c6, pl6, _⟩, _⟩ := id js6
          refine s_ret (ev_eqR (ns := []) (ms := []) (EvR.new (el_meth (ev_var rfl) pl6.o (fsG_no _ _ (by decide +kernel) (by decide +kernel)) (spGTops_L pl6))) (EvR.new (el_lst ea_nil (by decide)))) fun H7 e7 => ?_
          rw [decide_eq_true rfl]
          exact q H7 cs ((fr.trans (Frm.ex e6)).trans (Frm.ex e7)) (js6.ex e7)

theorem stepM_len {z : Int} {cs ts : List Int} : (stepM z cs ts).2.length ≤ ts.length + 1 := by
  unfold stepM
  split
  · split
    · simp
    · simp
  · split
    · simp
    · simp
      omega
theorem make_ex {H H' : Hp} {x dx : Addr} {o o' : HO} (nx : H x = none) (ndx : H dx = none) (fr : Frm [x] (L2.upd (L2.upd H dx o) x o') H') : Ex H H' := fun b u h => fr b u (by
  simp only [List.mem_singleton]
  exact ne_of_none h nx) (by
  rw [upd_ne (ne_of_none h nx), upd_ne (ne_of_none h ndx)]
  exact h)
/-- for i in range(n), n not known; the word speaks of the turn -/
theorem q_forRJ {σ : L2.St} {H : Hp} {te : TE} {D : Ends} {tu tz : TS} {j : Nat} {m : Int} (h : EvI te σ H (fun z => 0 ≤ z ∧ z < m)) (hm : m ≤ 100000) (Pv : Nat → L2.St → Hp → Prop) (h0 : ∀ H1, Ex H H1 → Pv 0 σ H1)
    (hs : ∀ (i : Nat) σ' H', (i : Int) < m → Pv i σ' H' → tu { D with nx := Pv (i + 1), ct := Pv (i + 1), bk := tz D } (σ'.set j (some (.int (i : Int)))) H') (hd : ∀ (i : Nat) σ' H', (i : Int) < m → Pv i σ' H' → tz D σ' H') : tSeq (tFor (iRng1 (tCons te tNil)) (gName j) tu) tz D σ H :=
  h H (Ex.refl H) _ fun z H1 e hz => ⟨z, rfl, by omega, by omega, for_range (lo := 0) (n := z.toNat) Pv (h0 H1 e) (fun i σ' H' hi p => by
    have e0 : (0 : Int) + (i : Int) = (i : Int) := Int.zero_add _
    show tu { D with nx := Pv (i + 1), ct := Pv (i + 1), bk := tz D } (σ'.set j (some (.int ((0 : Int) + (i : Int))))) H'
    rw [e0]
    exact hs i σ' H' (by omega) p) fun σ' H' p => hd _ σ' H' (by omega) p⟩
/-- how many tops a game told has -/
theorem ev_gameLen {K : PySem.W.Frag} {σ : L2.St} {H : Hp} {p : Addr} {d ts e : List Int} {ta : TE} (h : Ev ta σ H (.ref p)) (hp : At H p d) (hd : Dk d) (g : Gm d ts e) : Ev (tCB (rLenS K) (tCons (tOp (rIxT K) (tCall spGameL [] E0 (tCons ta tNil)) (tC (.int 0))) tNil)) σ H (.int (ts.length : Int)) := fun H1 e1 Q q =>
  h H1 e1 _ fun H2 e2 => ⟨p, d, ts, e, rfl, (e1.trans e2) _ _ hp, hd, g, fun pd H3 t1 t2 npd e3 hpd nt1 ht1 ht2 ne => ⟨pd, _, 0, .ref t1, rfl, rfl, st_of hpd, at_of (j := 0) rfl rfl, t1, ts.map V.int, rfl, Or.inl (sq_of ht1), by
    rw [List.length_map]
    exact q H3 (e2.trans e3)⟩⟩
def spLaw (K : PySem.W.Frag) : Sp := fun vs H Q _ => ∃ (a : Addr) (ns : List Int), vs = [.ref a] ∧ SqL K H a (ns.map V.int) ∧ ns.length ≤ 63 ∧ ∀ H', Q (.bl true) H'
theorem ok_law (T : Txt K mg A) : FnOk P w K mg base CX0 7 A.f_law A.d_law ["script"] (spLaw K) := by
  refine T.F_law.ok sc_law (fun vs H Q E h => ?_) (fun cdv AA outer s H vs Q E hr h => ?_)
  · obtain ⟨a, ns, rfl, _⟩ := h
    rfl
  · obtain ⟨l, cs0, rfl, hs, hlen, q⟩ := h
    refine ⟨_, (pss_cons (ps_set (i := 1) sc_law.nd rfl (by first | exact Or.inl rfl | exact Or.inr rfl) (pe_ix (r := rIxL K) ix_list (pe_lst (pa_cons pe_int (pa_cons pe_int (pa_cons pe_int (pa_cons pe_int pa_nil))))) (pe_op op_mod (pe_op op_fdivN (pe_call (ok_law_cell_at T) (hr.mono (by decide)) (by rfl) T.g_law_cell_at T.F_law_cell_at.kp T.b_law_cell_at .nil pass0 (pa_cons (pv 0) (pa_cons pe_int pa_nil))) pe_int) pe_int) (fun _ _ => rfl)))
      (pss_cons (ps_set (i := 2) sc_law.nd rfl (by first | exact Or.inl rfl | exact Or.inr rfl) (pe_call (ok_law_deck T) (hr.mono (by decide)) (by rfl) T.g_law_deck T.F_law_deck.kp T.b_law_deck .nil pass0 (pa_cons (pv 0) (pa_cons pe_int (pa_cons (pv 1) pa_nil)))))
      (pss_cons (ps_if (pt_cmpR op_eq (pe_op op_mod (pe_call (ok_law_cell_at T) (hr.mono (by decide)) (by rfl) T.g_law_cell_at T.F_law_cell_at.kp T.b_law_cell_at .nil pass0 (pa_cons (pv 0) (pa_cons pe_int pa_nil))) pe_int) pe_int (nomark _))
      (pss_one (ps_set (i := 2) sc_law.nd rfl (by first | exact Or.inl rfl | exact Or.inr rfl) (pe_call (ok_law_long T) (hr.mono (by decide)) (by rfl) T.g_law_long T.F_law_long.kp T.b_law_long .nil pass0 (pa_cons (pv 0) (pa_cons pe_int (pa_cons (pv 1) pa_nil))))))
      pss_nil)
      (pss_cons (ps_set (i := 3) sc_law.nd rfl (by first | exact Or.inl rfl | exact Or.inr rfl) (pe_callTy (r := rListS K) call_list_of (by rfl) T.n_list (by decide +kernel) (pa_cons (pv 2) pa_nil)))
      (pss_cons (ps_set (i := 4) sc_law.nd rfl (by first | exact Or.inl rfl | exact Or.inr rfl) (pe_make T.k_Game (ok_Game___init__ T) (hr.mono (by decide)) (by rfl) T.G_Game T.b_Game___init__ .nil pass0 (pa_cons (pv 3) pa_nil)))
      (pss_cons (ps_set (i := 5) sc_law.nd rfl (by first | exact Or.inl rfl | exact Or.inr rfl) (pe_make T.k_Game (ok_Game___init__ T) (hr.mono (by decide)) (by rfl) T.G_Game T.b_Game___init__ .nil pass0 (pa_cons (pv 3) pa_nil)))
      (pss_cons (ps_expr (pe_bm0 PySem.F.plainAttrs_list PySem.F.slot_list_reverse PySem.F.type_list_reverse mt_reverse (pv 3)))
      (pss_cons (ps_expr (pe_bm PySem.F.plainAttrs_list PySem.F.slot_list_append PySem.F.type_list_append mt_append (pv 3) (pa_cons pe_int pa_nil)))
      (pss_cons (ps_set (i := 6) sc_law.nd rfl (by first | exact Or.inl rfl | exact Or.inr rfl) (pe_lst (pa_cons (pe_callTy (r := rListS K) call_list_of (by rfl) T.n_list (by decide +kernel) (pa_cons (pv 2) pa_nil)) pa_nil)))
      (pss_cons (ps_set (i := 7) sc_law.nd rfl (by first | exact Or.inl rfl | exact Or.inr rfl) (pe_lst pa_nil))
      (pss_cons (ps_for PassesOwn.never rfl (pi_range1 (by rfl) T.n_range (pa_cons (pe_op op_mod (pe_call (ok_law_cell_at T) (hr.mono (by decide)) (by rfl) T.g_law_cell_at T.F_law_cell_at.kp T.b_law_cell_at .nil pass0 (pa_cons (pv 0) (pa_cons pe_int pa_nil))) pe_int) pa_nil)) (pg_name (i := 8) sc_law.nd rfl (by first | exact Or.inl rfl | exact Or.inr rfl))
      (pss_cons (ps_if (pt_not (pt_val (pe_call (ok_law_deed T) (hr.mono (by decide)) (by rfl) T.g_law_deed T.F_law_deed.kp T.b_law_deed .nil pass0 (pa_cons (pv 4) (pa_cons (pv 6) (pa_cons (pv 7) (pa_cons (pe_call (ok_law_cell_at T) (hr.mono (by decide)) (by rfl) T.g_law_cell_at T.F_law_cell_at.kp T.b_law_cell_at .nil pass0 (pa_cons (pv 0) (pa_cons (pe_op op_add pe_int (pv 8)) pa_nil))) pa_nil)))))))
        (pss_one (ps_ret pe_bl))
        pss_nil)
        (pss_cons (ps_set (i := 9) sc_law.nd rfl (by first | exact Or.inl rfl | exact Or.inr rfl) (pe_lst (pa_cons (pe_meth0 (pv 4) T.C_Game T.m_Game_deck (ok_Game_deck T) (hr.mono (by decide)) T.b_Game_deck .nil pass0) (pa_cons (pe_meth0 (pv 4) T.C_Game T.m_Game_done_tops (ok_Game_done_tops T) (hr.mono (by decide)) T.b_Game_done_tops .nil pass0) pa_nil))))
        (pss_cons (ps_set (i := 10) sc_law.nd rfl (by first | exact Or.inl rfl | exact Or.inr rfl) (pe_meth0 (pv 4) T.C_Game T.m_Game_left (ok_Game_left T) (hr.mono (by decide)) T.b_Game_left .nil pass0))
        (pss_cons (ps_if (PW.pt (pw_or (pt_cmpR (r := rNeD K) (op_neD hr.units) (pv 9) (pe_lst (pa_cons (pe_ix (r := rIxL K) ix_list (pv 6) pe_int (fun _ _ => rfl)) (pa_cons (pv 7) pa_nil))) (nomark _)) (pw_or (pt_not (pt_val (pe_call (ok_law_whole T) (hr.mono (by decide)) (by rfl) T.g_law_whole T.F_law_whole.kp T.b_law_whole .nil pass0 (pa_cons (pv 10) pa_nil)))) (pw_or1 (pt_cmpR op_ne (pv 10) (pe_callB (r := rLenS K) call_len_seq (by rfl) T.n_len PySem.boot_len (pa_cons (pe_ix (r := rIxT K) ix_tup (pe_call (ok_law_game T) (hr.mono (by decide)) (by rfl) T.g_law_game T.F_law_game.kp T.b_law_game .nil pass0 (pa_cons (pe_ix (r := rIxL K) ix_list (pv 6) pe_int (fun _ _ => rfl)) pa_nil)) pe_int (fun _ _ => rfl)) pa_nil)) (nomark _))))))
        (pss_one (ps_ret pe_bl))
        pss_nil)
        (pss_cons (ps_expr (pe_bm PySem.F.plainAttrs_list PySem.F.slot_list_append PySem.F.type_list_append mt_append (pe_ix (r := rIxL K) ix_list (pv 9) pe_int (fun _ _ => rfl)) (pa_cons pe_int pa_nil)))
        (pss_one (ps_expr (pe_bm PySem.F.plainAttrs_list PySem.F.slot_list_append PySem.F.type_list_append mt_append (pe_ix (r := rIxL K) ix_list (pv 9) pe_int (fun _ _ => rfl)) (pa_cons pe_int pa_nil))))))))))
      (pss_cons (ps_if (PW.pt (pw_and (pt_cmpR op_eq (pe_op op_mod (pe_op op_fdivN (pe_call (ok_law_cell_at T) (hr.mono (by decide)) (by rfl) T.g_law_cell_at T.F_law_cell_at.kp T.b_law_cell_at .nil pass0 (pa_cons (pv 0) (pa_cons pe_int pa_nil))) pe_int) pe_int) pe_int (nomark _)) (pw_and1 (pt_not (pt_val (pe_call (ok_law_to_the_end T) (hr.mono (by decide)) (by rfl) T.g_law_to_the_end T.F_law_to_the_end.kp T.b_law_to_the_end .nil pass0 (pa_cons (pv 4) (pa_cons (pv 6) (pa_cons (pv 7) pa_nil)))))))))
      (pss_one (ps_ret pe_bl))
      pss_nil)
      (pss_one (ps_ret (pe_and (pe_cmpR (r := rEqD K) (op_eqD hr.units) (pe_meth0 (pv 5) T.C_Game T.m_Game_deck (ok_Game_deck T) (hr.mono (by decide)) T.b_Game_deck .nil pass0) (pv 2) (nomark _)) (pe_and (pe_cmpR (r := rEqD K) (op_eqD hr.units) (pe_meth0 (pv 5) T.C_Game T.m_Game_done_tops (ok_Game_done_tops T) (hr.mono (by decide)) T.b_Game_done_tops .nil pass0) (pe_lst pa_nil) (nomark _)) (pe_one (pe_cmpR (r := rEqD K) (op_eqD hr.units) (pe_meth0 (pv 4) T.C_Game T.m_Game_deck (ok_Game_deck T) (hr.mono (by decide)) T.b_Game_deck .nil pass0) (pe_ix (r := rIxL K) ix_list (pv 6) pe_int (fun _ _ => rfl)) (nomark _))))))))))))))))))), ?_⟩
    refine q_asgI (ei_ix (ns := [8, 8, 8, 16]) (EvR.new (el_lst (ea_cons ev_c (ea_cons ev_c (ea_cons ev_c (ea_cons ev_c ea_nil)))) (by show 4 ≤ 100000; decide))) (ei_imp (ei_mod (ei_fdiv (ei_cell (ea_cons (ev_var rfl) (ea_cons ev_c ea_nil)) hs (by decide)) ev_c (by decide) (by decide)) ev_c (by decide)) (fun z hz => hz))) fun mo H0 hmo e0 => ?_
    have hmo : 1 ≤ mo ∧ mo ≤ 16 := by simp at hmo; omega
    refine q_asgLP (ep_deck (ea_cons (ev_var rfl) (ea_cons ev_c (ea_cons (ev_var rfl) ea_nil))) (ex_l e0 hs) (by decide) hmo.1 hmo.2) fun p ds H1 np e1 hp hd => ?_
    have ex1 := e0.trans e1
    refine q_maybe (ep_eq (ei_mod (ei_cell (ea_cons (ev_var rfl) (ea_cons ev_c ea_nil)) (ex_l ex1 hs) (by decide)) ev_c (by decide)) ei_c) (ep_deck (ea_cons (ev_var rfl) (ea_cons ev_c (ea_cons (ev_var rfl) ea_nil))) (ex_l ex1 hs) (by decide) hmo.1 hmo.2) rfl hp hd fun p ds H2 e2 hp hd => ?_
    obtain ⟨hd, _⟩ := hd
    have ex2 := ex1.trans e2
    have h2 := hd.hi
    -- handed, two games
    refine q_asgL (el_listR (EvR.old (ev_var rfl) hp)) fun h H3 nh e3 hh => ?_
    refine ⟨_, rfl, fun g1 dx1 ng1 ndx1 nex1 => ⟨g1, dx1, h, ds, rfl, upd_same, Ex.mut (Ex.new ndx1) ng1 _ _ hh, hd, fun H5 c1 d1 fr5 nc1 nd1 pl1 => ⟨rfl, ?_⟩⟩⟩
    have e35 : Ex H3 H5 := make_ex ng1 ndx1 fr5
    have eM1 := Ex.mut (Ex.new (o := .own g1) ndx1) ng1 (o := .ins A.c_Game dx1 [])
    have nc13 : H3 c1 = none := fresh_back eM1 nc1
    have nd13 : H3 d1 = none := fresh_back eM1 nd1
    refine ⟨_, rfl, fun g2 dx2 ng2 ndx2 nex2 => ⟨g2, dx2, h, ds, rfl, upd_same, Ex.mut (Ex.new ndx2) ng2 _ _ (e35 _ _ hh), hd, fun H7 c2 d2 fr7 nc2 nd2 pl2 => ⟨rfl, ?_⟩⟩⟩
    have e57 : Ex H5 H7 := make_ex ng2 ndx2 fr7
    have eM2 := Ex.mut (Ex.new (o := .own g2) ndx2) ng2 (o := .ins A.c_Game dx2 [])
    have nc25 : H5 c2 = none := fresh_back eM2 nc2
    have nd25 : H5 d2 = none := fresh_back eM2 nd2
    have pl17 := pl1.ex e57
    have hh7 : H7 h = _ := e57 _ _ (e35 _ _ hh)
    have b5 : ∀ {x : Addr} {o : HO} {y : Addr}, H5 x = some o → H5 y = none → y ≠ x := fun h1 h2 z => by rw [z, h1] at h2; cases h2
    have nhg1 : g1 ≠ h := fun z => by rw [z, hh] at ng1; cases ng1
    have nhc1 : c1 ≠ h := fun z => by rw [z, hh] at nc13; cases nc13
    have nhd1 : d1 ≠ h := fun z => by rw [z, hh] at nd13; cases nd13
    have nhg2 : g2 ≠ h := b5 (e35 _ _ hh) ng2
    have nhc2 : c2 ≠ h := b5 (e35 _ _ hh) nc25
    have nhd2 : d2 ≠ h := b5 (e35 _ _ hh) nd25
    have ng21 : g2 ≠ g1 := b5 pl1.o ng2
    have ng2d : g2 ≠ d1 := b5 pl1.at2 ng2
    have nc2g : c2 ≠ g1 := b5 pl1.o nc25
    have nc2d : c2 ≠ d1 := b5 pl1.at2 nc25
    have nd2g : d2 ≠ g1 := b5 pl1.o nd25
    have nd2d : d2 ≠ d1 := b5 pl1.at2 nd25
    have ex7 : Ex H2 H7 := (e3.trans e35).trans e57
    refine ⟨_, rfl, Or.inl ⟨rfl, _, sq_of hh7⟩, h, _, rfl, rfl, hh7, ?_⟩
    refine q_app (l := h) (xs := (ds.map V.int).reverse) upd_same (ev_var rfl) ev_c (by rw [List.length_reverse, List.length_map]; omega) fun H8 e8 => ?_
    have fr8 : Frm [h] H7 (upd H8 h (.lst ((ds.map V.int).reverse ++ [.int 0]))) := (Frm.of_upd.trans (Frm.ex e8)).upd (by simp)
    have pl18 := pl17.frm fr8 (by simp [nhg1]) (by simp [nhc1]) (by simp [nhd1])
    have pl28 := pl2.frm fr8 (by simp [nhg2]) (by simp [nhc2]) (by simp [nhd2])
    have ex8 : Ex H2 (upd H8 h (.lst ((ds.map V.int).reverse ++ [.int 0]))) := fr8.toEx ex7 (by simp [nh])
    have ng12 : H2 g1 = none := fresh_back e3 ng1
    have nd12 : H2 d1 = none := fresh_back e3 nd13
    generalize upd H8 h (.lst ((ds.map V.int).reverse ++ [.int 0])) = H9 at *
    -- kept, done
    refine el_listR (EvR.old (ev_var rfl) (ex8 _ _ hp)) H9 (Ex.refl _) _ fun kc H10 nkc e10 hkc => ?_
    refine ⟨by show 1 ≤ sizeLine; decide, fun kp nkp => ?_⟩
    have e11 : Ex H10 (upd H10 kp (.lst [.ref kc])) := Ex.new nkp
    have hkp11 : (upd H10 kp (.lst [.ref kc])) kp = some (.lst [.ref kc]) := upd_same
    have hkc11 : At (upd H10 kp (.lst [.ref kc])) kc ds := e11 _ _ hkc
    generalize upd H10 kp (.lst [.ref kc]) = H11 at *
    refine q_asgL (el_lst ea_nil (by decide)) fun dn H12 ndn e12 hdn => ?_
    have e912 : Ex H9 H12 := (e10.trans e11).trans e12
    have pl1' := pl18.ex e912
    have pl2' := pl28.ex e912
    have b9 : ∀ {x : Addr} {o : HO}, H9 x = some o → x ≠ kp := fun h1 z => by
      have := e10 _ _ h1
      rw [z, nkp] at this
      cases this
    have b11 : ∀ {x : Addr} {o : HO}, H11 x = some o → x ≠ dn := fun h1 z => by
      rw [z, ndn] at h1
      cases h1
    have e911 := e10.trans e11
    have js0 : Js A.c_Game H12 g1 dx1 d1 kp dn ds [] := by
      refine ⟨⟨c1, pl1', b11 (e911 _ _ pl18.at1)⟩, ⟨kc, e12 _ _ hkp11, e12 _ _ hkc11, fun z => ?_, b11 hkc11⟩, hdn, b11 (e911 _ _ pl18.at2), fun t ht => by cases ht⟩
      have h := pl18.at2
      have h : H9 d1 = _ := h
      rw [← z, nkc] at h
      cases h
    have nkp2 : H2 kp = none := fresh_back (ex8.trans e10) nkp
    have ndn2 : H2 dn = none := fresh_back (ex8.trans e911) ndn
    have hM : ∀ x ∈ [g1, d1, kp, dn], H2 x = none := by simp [ng12, nd12, nkp2, ndn2]
    have oM : g2 ∉ [g1, d1, kp, dn] ∧ c2 ∉ [g1, d1, kp, dn] ∧ d2 ∉ [g1, d1, kp, dn] := by
      refine ⟨?_, ?_, ?_⟩
      · simp [ng21, ng2d, b9 pl28.o, b11 (e911 _ _ pl28.o)]
      · simp [nc2g, nc2d, b9 pl28.at1, b11 (e911 _ _ pl28.at1)]
      · simp [nd2g, nd2d, b9 pl28.at2, b11 (e911 _ _ pl28.at2)]
    refine q_forRJ (m := 41) (ei_mod (ei_cell (ea_cons (ev_var rfl) (ea_cons ev_c ea_nil)) (ex_l (ex2.trans (ex8.trans e912)) hs) (by decide)) ev_c (by decide)) (by decide)
      (fun i σ' H' => ∃ x8 x9 x10 cs ts, σ' = [some (.ref l), some (.int mo), some (.ref p), some (.ref h), some (.ref g1), some (.ref g2), some (.ref kp), some (.ref dn), x8, x9, x10] ∧ Ex H2 H' ∧ Pl A.c_Game H' g2 dx2 c2 d2 ds [] ∧ Js A.c_Game H' g1 dx1 d1 kp dn cs ts ∧ ts.length ≤ i)
      (fun H13 e13 => ⟨none, none, none, ds, [], rfl, (ex8.trans e912).trans e13, pl2'.ex e13, js0.ex e13, Nat.le_refl _⟩) ?_ ?_
    · rintro i σ' H' hi ⟨x8, x9, x10, cs, ts, rfl, ex, po, js, htl⟩
      refine ⟨_, rfl, _, rfl, _, rfl, ?_⟩
      refine ei_cell (ea_cons (ev_var rfl) (ea_cons (ev_op ev_c (ev_var rfl) rv_I0) ea_nil)) (ex_l (ex2.trans ex) hs) (by omega) H' (Ex.refl _) _ fun z H5 e5 _ => ?_
      refine ⟨g1, dx1, d1, kp, dn, cs, ts, z, rfl, js.ex e5, by omega, fun H6 fr6 js6 => ⟨true, rfl, ?_⟩⟩
      have htl6 := stepM_len (z := z) (cs := cs) (ts := ts)
      generalize stepM z cs ts = st at *
      obtain ⟨cs, ts'⟩ := st
      dsimp only at js6 htl6
      have ex6 : Ex H2 H6 := fr6.toEx (ex.trans e5) hM
      have po6 := (po.ex e5).frm fr6 oM.1 oM.2.1 oM.2.2
      obtain ⟨⟨c, pl, ncn⟩, ⟨kc', hkp6, hkc6, nkd, nkn⟩, hdn6, ndn6, htp⟩ := id js6
      have hdk := Dk.of pl
      obtain ⟨rest, e, hg⟩ := Gm.all hdk.dk hdk.lo
      dsimp only
      rw [if_neg (by decide)]
      show tSeq _ _ _ _ _
      refine el_meth (ev_var rfl) pl.o (fsG_no _ _ (by decide +kernel) (by decide +kernel)) (spGDeck_L pl) H6 (Ex.refl _) _ fun f1 H7 nf1 e7 hf1 => ?_
      refine el_meth (ev_var rfl) (pl.ex e7).o (fsG_no _ _ (by decide +kernel) (by decide +kernel)) (spGTops_L (pl.ex e7)) H7 (Ex.refl _) _ fun f2 H8 nf2 e8 hf2 => ?_
      refine ⟨by show 2 ≤ sizeLine; decide, fun ff nff => ?_⟩
      have e69 : Ex H6 (upd H8 ff (.lst [.ref f1, .ref f2])) := (e7.trans e8).trans (Ex.new nff)
      have hff : (upd H8 ff (.lst [.ref f1, .ref f2])) ff = some (.lst [.ref f1, .ref f2]) := upd_same
      have hf19 : At (upd H8 ff (.lst [.ref f1, .ref f2])) f1 cs := Ex.new nff _ _ (e8 _ _ hf1)
      have hf29 : At (upd H8 ff (.lst [.ref f1, .ref f2])) f2 ts' := Ex.new nff _ _ hf2
      have nf12 : f1 ≠ f2 := ne_of_none hf1 nf2
      have nff1 : f1 ≠ ff := ne_of_none (e8 _ _ hf1) nff
      have nff2 : f2 ≠ ff := ne_of_none hf2 nff
      have nf26 : H6 f2 = none := fresh_back e7 nf2
      have nff6 : H6 ff = none := fresh_back (e7.trans e8) nff
      generalize upd H8 ff (.lst [.ref f1, .ref f2]) = H9' at *
      have pl9 := pl.ex e69
      refine q_asg (ev_meth (ev_var rfl) pl9.o (fsG_no _ _ (by decide +kernel) (by decide +kernel)) (spLeft_V pl9 hg)) fun H10' e10' => ?_
      have e610 := e69.trans e10'
      have hkp10 := e610 _ _ hkp6
      have hkc10 := e610 _ _ hkc6
      have kx : ∀ {G : Hp} {y9 y10 : Option V}, Ex H10' G → Ev (tOp (rIxL K) (tVar 6) (tC (.int 0))) [some (.ref l), some (.int mo), some (.ref p), some (.ref h), some (.ref g1), some (.ref g2), some (.ref kp), some (.ref dn), some (.int (i : Int)), y9, y10] G (.ref kc') := fun eG => ev_op (ev_var rfl) ev_c (rv_ixP (ps := [kc']) 0 (eG _ _ hkp10) rfl rfl)
      refine q_when (b := false) (et_is (et_or (et_test (ev_neRL (EvRL.old (ev_var rfl) (AtL.two (e10' _ _ hff) (e10' _ _ hf19) (e10' _ _ hf29))) (erl_two (EvR.old (kx (Ex.refl _)) hkc10) (EvR.old (ev_var rfl) (e610 _ _ hdn6))))) fun _ => et_or (a := false) (et_not (et_B (ev_call (ea_cons (ev_var rfl) ea_nil) spWhole_V))) fun _ =>
        et_test (ev_op (ev_var rfl) (ev_gameLen (kx (Ex.refl _)) hkc10 hdk hg) rv_neI)) (by simp)) (fun z => nomatch z) fun _ H11' e11' => ?_
      have e611 := e610.trans e11'
      have e911' := e10'.trans e11'
      refine q_app (e911' _ _ hf19) (ev_op (ev_var rfl) ev_c (rv_ixL (sq_of (e911' _ _ hff)) (at_of (j := 0) rfl rfl))) ev_c (by rw [List.length_map]; have := hdk.hi; omega) fun H12' e12' => ?_
      have e912' := e911'.trans e12'
      refine s_app (upd_at (e912' _ _ hf29) nf12.symm) (ev_op (ev_var rfl) ev_c (rv_ixL (sq_of (upd_at (e912' _ _ hff) nff1.symm)) (at_of (j := 1) rfl rfl))) ev_c (by rw [List.length_map]; omega) fun H13' e13' => ?_
      have e6Z := Ex.mut ((Ex.mut (e611.trans e12') nf1 (o := .lst (cs.map V.int ++ [.int 0]))).trans e13') nf26 (o := .lst (ts'.map V.int ++ [.int 0]))
      exact ⟨_, _, _, cs, ts', rfl, ex6.trans e6Z, po6.ex e6Z, js6.ex e6Z, by omega⟩
    · rintro i σ' H' hi ⟨x8, x9, x10, cs, ts, rfl, ex, po, js, htl⟩
      refine ep_eq (ei_mod (ei_fdiv (ei_cell (ea_cons (ev_var rfl) (ea_cons ev_c ea_nil)) (ex_l (ex2.trans ex) hs) (by decide)) ev_c (by decide) (by decide)) ev_c (by decide)) ei_c H' (Ex.refl _) _ fun b HA eA => ?_
      cases b with
      | false =>
        have jsF := js.ex eA
        have exF := ex.trans eA
        have po := po.ex eA
        dsimp only
        rw [if_neg (by decide)]
        repeat (first | rw [if_neg (by decide)] | dsimp only [tNext])
        obtain ⟨⟨cF, plF, _⟩, ⟨kcF, hkpF, hkcF, _⟩, _⟩ := id jsF
        refine s_ret (ev_is (ev_andV (ev_eqR (ns := ds) (ms := ds) (EvR.new (el_meth (ev_var rfl) po.o (fsG_no _ _ (by decide +kernel) (by decide +kernel)) (spGDeck_L po))) (EvR.old (ev_var rfl) (exF _ _ hp))) fun _ => ev_andV (ev_eqR (ns := []) (ms := []) (EvR.new (el_meth (ev_var rfl) po.o (fsG_no _ _ (by decide +kernel) (by decide +kernel)) (spGTops_L po))) (EvR.new (el_lst ea_nil (by decide)))) fun _ =>
          ev_eqR (EvR.new (el_meth (ev_var rfl) plF.o (fsG_no _ _ (by decide +kernel) (by decide +kernel)) (spGDeck_L plF))) (EvR.old (ev_op (ev_var rfl) ev_c (rv_ixP (ps := [kcF]) 0 hkpF rfl rfl)) hkcF)) (w := .bl true) (by simp)) fun HZ _ => q HZ

      | true =>
        refine ⟨_, rfl, _, rfl, _, rfl, g1, dx1, d1, kp, dn, cs, ts, rfl, js.ex eA, by omega, fun HB cs' frB jsF => ⟨true, rfl, ?_⟩⟩
        have exF : Ex H2 HB := frB.toEx (ex.trans eA) hM
        have po := (po.ex eA).frm frB oM.1 oM.2.1 oM.2.2
        dsimp only
        rw [if_neg (by decide)]
        repeat (first | rw [if_neg (by decide)] | dsimp only [tNext])
        obtain ⟨⟨cF, plF, _⟩, ⟨kcF, hkpF, hkcF, _⟩, _⟩ := id jsF
        refine s_ret (ev_is (ev_andV (ev_eqR (ns := ds) (ms := ds) (EvR.new (el_meth (ev_var rfl) po.o (fsG_no _ _ (by decide +kernel) (by decide +kernel)) (spGDeck_L po))) (EvR.old (ev_var rfl) (exF _ _ hp))) fun _ => ev_andV (ev_eqR (ns := []) (ms := []) (EvR.new (el_meth (ev_var rfl) po.o (fsG_no _ _ (by decide +kernel) (by decide +kernel)) (spGTops_L po))) (EvR.new (el_lst ea_nil (by decide)))) fun _ =>
          ev_eqR (EvR.new (el_meth (ev_var rfl) plF.o (fsG_no _ _ (by decide +kernel) (by decide +kernel)) (spGDeck_L plF))) (EvR.old (ev_op (ev_var rfl) ev_c (rv_ixP (ps := [kcF]) 0 hkpF rfl rfl)) hkcF)) (w := .bl true) (by simp)) fun HZ _ => q HZ

end
theorem all_mk {l : PySem.W.OpenLaw} {w : World} {K : PySem.W.Frag} {h : Heap} {mg : Str → Option Value} {fa : Addr} (X : K.In h) (G : h.Ns mainGlobals mg) (hfa : mg "law" = some (.ref fa))
    {c_Game : Addr}
    {f0 : Addr} {od0 an0 : Option Addr} {sl0 : Array (Option Value)} {oc0 kV0 dc0 pm0 cd0 ct0 : Value}
    {f1 : Addr} {od1 an1 : Option Addr} {sl1 : Array (Option Value)} {oc1 kV1 dc1 pm1 cd1 ct1 : Value}
    {f2 : Addr} {od2 an2 : Option Addr} {sl2 : Array (Option Value)} {oc2 kV2 dc2 pm2 cd2 ct2 : Value}
    {f3 : Addr} {od3 an3 : Option Addr} {sl3 : Array (Option Value)} {oc3 kV3 dc3 pm3 cd3 ct3 : Value}
    {f4 : Addr} {od4 an4 : Option Addr} {sl4 : Array (Option Value)} {oc4 kV4 dc4 pm4 cd4 ct4 : Value}
    {f5 : Addr} {od5 an5 : Option Addr} {sl5 : Array (Option Value)} {oc5 kV5 dc5 pm5 cd5 ct5 : Value}
    {f6 : Addr} {od6 an6 : Option Addr} {sl6 : Array (Option Value)} {oc6 kV6 dc6 pm6 cd6 ct6 : Value}
    {f7 : Addr} {od7 an7 : Option Addr} {sl7 : Array (Option Value)} {oc7 kV7 dc7 pm7 cd7 ct7 : Value}
    {f8 : Addr} {od8 an8 : Option Addr} {sl8 : Array (Option Value)} {oc8 kV8 dc8 pm8 cd8 ct8 : Value}
    {f9 : Addr} {od9 an9 : Option Addr} {sl9 : Array (Option Value)} {oc9 kV9 dc9 pm9 cd9 ct9 : Value}
    {f10 : Addr} {od10 an10 : Option Addr} {sl10 : Array (Option Value)} {oc10 kV10 dc10 pm10 cd10 ct10 : Value}
    {f11 : Addr} {od11 an11 : Option Addr} {sl11 : Array (Option Value)} {oc11 kV11 dc11 pm11 cd11 ct11 : Value}
    {f12 : Addr} {od12 an12 : Option Addr} {sl12 : Array (Option Value)} {oc12 kV12 dc12 pm12 cd12 ct12 : Value}
    {f13 : Addr} {od13 an13 : Option Addr} {sl13 : Array (Option Value)} {oc13 kV13 dc13 pm13 cd13 ct13 : Value}
    {f14 : Addr} {od14 an14 : Option Addr} {sl14 : Array (Option Value)} {oc14 kV14 dc14 pm14 cd14 ct14 : Value}
    {f15 : Addr} {od15 an15 : Option Addr} {sl15 : Array (Option Value)} {oc15 kV15 dc15 pm15 cd15 ct15 : Value}
    {f16 : Addr} {od16 an16 : Option Addr} {sl16 : Array (Option Value)} {oc16 kV16 dc16 pm16 cd16 ct16 : Value}
    {f17 : Addr} {od17 an17 : Option Addr} {sl17 : Array (Option Value)} {oc17 kV17 dc17 pm17 cd17 ct17 : Value}
    {f18 : Addr} {od18 an18 : Option Addr} {sl18 : Array (Option Value)} {oc18 kV18 dc18 pm18 cd18 ct18 : Value}
    {f19 : Addr} {od19 an19 : Option Addr} {sl19 : Array (Option Value)} {oc19 kV19 dc19 pm19 cd19 ct19 : Value}
    {f20 : Addr} {od20 an20 : Option Addr} {sl20 : Array (Option Value)} {oc20 kV20 dc20 pm20 cd20 ct20 : Value}
    {t_MOST : Tok}
    {c_CardError : Addr}
    {c_NoDeck : Addr}
    {c_NoTurn : Addr}
    {c_NoGame : Addr}
    {c_TooTall : Addr}
    {c_NoBack : Addr}
    {c_BadLine : Addr}
    (gG_Game : PySem.W.nsIn K mainGlobals "Game" = some (some (.ref c_Game)))
    (a0 : PySem.W.nsIn K mainGlobals "ask" = some (some (.ref f0)))
    (l0 : K.lookup f0 = some ⟨oc0, od0, .func (PySem.W.fnOf "ask" "ask" (defArgs s_ask) (defBody s_ask) (defScope s_ask) .none kV0 dc0 pm0 an0 cd0 ct0), sl0⟩)
    (c0 : PySem.W.codeIn K cd0 "ask" = true)
    (k0 : PySem.W.keepIn K (.ref f0) = true)
    (a1 : PySem.W.nsIn K mainGlobals "over" = some (some (.ref f1)))
    (l1 : K.lookup f1 = some ⟨oc1, od1, .func (PySem.W.fnOf "over" "over" (defArgs s_over) (defBody s_over) (defScope s_over) .none kV1 dc1 pm1 an1 cd1 ct1), sl1⟩)
    (c1 : PySem.W.codeIn K cd1 "over" = true)
    (k1 : PySem.W.keepIn K (.ref f1) = true)
    (a2 : PySem.W.nsIn K mainGlobals "turned" = some (some (.ref f2)))
    (l2 : K.lookup f2 = some ⟨oc2, od2, .func (PySem.W.fnOf "turned" "turned" (defArgs s_turned) (defBody s_turned) (defScope s_turned) .none kV2 dc2 pm2 an2 cd2 ct2), sl2⟩)
    (c2 : PySem.W.codeIn K cd2 "turned" = true)
    (k2 : PySem.W.keepIn K (.ref f2) = true)
    (a3 : PySem.W.nsIn K mainGlobals "game" = some (some (.ref f3)))
    (l3 : K.lookup f3 = some ⟨oc3, od3, .func (PySem.W.fnOf "game" "game" (defArgs s_game) (defBody s_game) (defScope s_game) .none kV3 dc3 pm3 an3 cd3 ct3), sl3⟩)
    (c3 : PySem.W.codeIn K cd3 "game" = true)
    (k3 : PySem.W.keepIn K (.ref f3) = true)
    (a4 : PySem.W.findIn K (.ref c_Game) "__init__" = some (some (.ref f4)))
    (i4 : PySem.W.isFn K (.ref f4) = true)
    (l4 : K.lookup f4 = some ⟨oc4, od4, .func (PySem.W.fnOf "__init__" "Game.__init__" (defArgs s_Game___init__) (defBody s_Game___init__) (defScope s_Game___init__) .none kV4 dc4 pm4 an4 cd4 ct4), sl4⟩)
    (c4 : PySem.W.codeIn K cd4 "Game.__init__" = true)
    (k4 : PySem.W.keepIn K (.ref f4) = true)
    (a5 : PySem.W.findIn K (.ref c_Game) "turn" = some (some (.ref f5)))
    (i5 : PySem.W.isFn K (.ref f5) = true)
    (l5 : K.lookup f5 = some ⟨oc5, od5, .func (PySem.W.fnOf "turn" "Game.turn" (defArgs s_Game_turn) (defBody s_Game_turn) (defScope s_Game_turn) .none kV5 dc5 pm5 an5 cd5 ct5), sl5⟩)
    (c5 : PySem.W.codeIn K cd5 "Game.turn" = true)
    (k5 : PySem.W.keepIn K (.ref f5) = true)
    (a6 : PySem.W.findIn K (.ref c_Game) "back" = some (some (.ref f6)))
    (i6 : PySem.W.isFn K (.ref f6) = true)
    (l6 : K.lookup f6 = some ⟨oc6, od6, .func (PySem.W.fnOf "back" "Game.back" (defArgs s_Game_back) (defBody s_Game_back) (defScope s_Game_back) .none kV6 dc6 pm6 an6 cd6 ct6), sl6⟩)
    (c6 : PySem.W.codeIn K cd6 "Game.back" = true)
    (k6 : PySem.W.keepIn K (.ref f6) = true)
    (a7 : PySem.W.findIn K (.ref c_Game) "deck" = some (some (.ref f7)))
    (i7 : PySem.W.isFn K (.ref f7) = true)
    (l7 : K.lookup f7 = some ⟨oc7, od7, .func (PySem.W.fnOf "deck" "Game.deck" (defArgs s_Game_deck) (defBody s_Game_deck) (defScope s_Game_deck) .none kV7 dc7 pm7 an7 cd7 ct7), sl7⟩)
    (c7 : PySem.W.codeIn K cd7 "Game.deck" = true)
    (k7 : PySem.W.keepIn K (.ref f7) = true)
    (a8 : PySem.W.findIn K (.ref c_Game) "done_tops" = some (some (.ref f8)))
    (i8 : PySem.W.isFn K (.ref f8) = true)
    (l8 : K.lookup f8 = some ⟨oc8, od8, .func (PySem.W.fnOf "done_tops" "Game.done_tops" (defArgs s_Game_done_tops) (defBody s_Game_done_tops) (defScope s_Game_done_tops) .none kV8 dc8 pm8 an8 cd8 ct8), sl8⟩)
    (c8 : PySem.W.codeIn K cd8 "Game.done_tops" = true)
    (k8 : PySem.W.keepIn K (.ref f8) = true)
    (a9 : PySem.W.findIn K (.ref c_Game) "left" = some (some (.ref f9)))
    (i9 : PySem.W.isFn K (.ref f9) = true)
    (l9 : K.lookup f9 = some ⟨oc9, od9, .func (PySem.W.fnOf "left" "Game.left" (defArgs s_Game_left) (defBody s_Game_left) (defScope s_Game_left) .none kV9 dc9 pm9 an9 cd9 ct9), sl9⟩)
    (c9 : PySem.W.codeIn K cd9 "Game.left" = true)
    (k9 : PySem.W.keepIn K (.ref f9) = true)
    (a10 : PySem.W.nsIn K mainGlobals "_law_cell_at" = some (some (.ref f10)))
    (l10 : K.lookup f10 = some ⟨oc10, od10, .func (PySem.W.fnOf "_law_cell_at" "_law_cell_at" (defArgs s_law_cell_at) (defBody s_law_cell_at) (defScope s_law_cell_at) .none kV10 dc10 pm10 an10 cd10 ct10), sl10⟩)
    (c10 : PySem.W.codeIn K cd10 "_law_cell_at" = true)
    (k10 : PySem.W.keepIn K (.ref f10) = true)
    (a11 : PySem.W.nsIn K mainGlobals "_law_whole" = some (some (.ref f11)))
    (l11 : K.lookup f11 = some ⟨oc11, od11, .func (PySem.W.fnOf "_law_whole" "_law_whole" (defArgs s_law_whole) (defBody s_law_whole) (defScope s_law_whole) .none kV11 dc11 pm11 an11 cd11 ct11), sl11⟩)
    (c11 : PySem.W.codeIn K cd11 "_law_whole" = true)
    (k11 : PySem.W.keepIn K (.ref f11) = true)
    (a12 : PySem.W.nsIn K mainGlobals "_law_deck" = some (some (.ref f12)))
    (l12 : K.lookup f12 = some ⟨oc12, od12, .func (PySem.W.fnOf "_law_deck" "_law_deck" (defArgs s_law_deck) (defBody s_law_deck) (defScope s_law_deck) .none kV12 dc12 pm12 an12 cd12 ct12), sl12⟩)
    (c12 : PySem.W.codeIn K cd12 "_law_deck" = true)
    (k12 : PySem.W.keepIn K (.ref f12) = true)
    (a13 : PySem.W.nsIn K mainGlobals "_law_over" = some (some (.ref f13)))
    (l13 : K.lookup f13 = some ⟨oc13, od13, .func (PySem.W.fnOf "_law_over" "_law_over" (defArgs s_law_over) (defBody s_law_over) (defScope s_law_over) .none kV13 dc13 pm13 an13 cd13 ct13), sl13⟩)
    (c13 : PySem.W.codeIn K cd13 "_law_over" = true)
    (k13 : PySem.W.keepIn K (.ref f13) = true)
    (a14 : PySem.W.nsIn K mainGlobals "_law_long" = some (some (.ref f14)))
    (l14 : K.lookup f14 = some ⟨oc14, od14, .func (PySem.W.fnOf "_law_long" "_law_long" (defArgs s_law_long) (defBody s_law_long) (defScope s_law_long) .none kV14 dc14 pm14 an14 cd14 ct14), sl14⟩)
    (c14 : PySem.W.codeIn K cd14 "_law_long" = true)
    (k14 : PySem.W.keepIn K (.ref f14) = true)
    (a15 : PySem.W.nsIn K mainGlobals "_law_game" = some (some (.ref f15)))
    (l15 : K.lookup f15 = some ⟨oc15, od15, .func (PySem.W.fnOf "_law_game" "_law_game" (defArgs s_law_game) (defBody s_law_game) (defScope s_law_game) .none kV15 dc15 pm15 an15 cd15 ct15), sl15⟩)
    (c15 : PySem.W.codeIn K cd15 "_law_game" = true)
    (k15 : PySem.W.keepIn K (.ref f15) = true)
    (a16 : PySem.W.nsIn K mainGlobals "_law_which" = some (some (.ref f16)))
    (l16 : K.lookup f16 = some ⟨oc16, od16, .func (PySem.W.fnOf "_law_which" "_law_which" (defArgs s_law_which) (defBody s_law_which) (defScope s_law_which) .none kV16 dc16 pm16 an16 cd16 ct16), sl16⟩)
    (c16 : PySem.W.codeIn K cd16 "_law_which" = true)
    (k16 : PySem.W.keepIn K (.ref f16) = true)
    (a17 : PySem.W.nsIn K mainGlobals "_law_refused" = some (some (.ref f17)))
    (l17 : K.lookup f17 = some ⟨oc17, od17, .func (PySem.W.fnOf "_law_refused" "_law_refused" (defArgs s_law_refused) (defBody s_law_refused) (defScope s_law_refused) .none kV17 dc17 pm17 an17 cd17 ct17), sl17⟩)
    (c17 : PySem.W.codeIn K cd17 "_law_refused" = true)
    (k17 : PySem.W.keepIn K (.ref f17) = true)
    (a18 : PySem.W.nsIn K mainGlobals "_law_deed" = some (some (.ref f18)))
    (l18 : K.lookup f18 = some ⟨oc18, od18, .func (PySem.W.fnOf "_law_deed" "_law_deed" (defArgs s_law_deed) (defBody s_law_deed) (defScope s_law_deed) .none kV18 dc18 pm18 an18 cd18 ct18), sl18⟩)
    (c18 : PySem.W.codeIn K cd18 "_law_deed" = true)
    (k18 : PySem.W.keepIn K (.ref f18) = true)
    (a19 : PySem.W.nsIn K mainGlobals "_law_to_the_end" = some (some (.ref f19)))
    (l19 : K.lookup f19 = some ⟨oc19, od19, .func (PySem.W.fnOf "_law_to_the_end" "_law_to_the_end" (defArgs s_law_to_the_end) (defBody s_law_to_the_end) (defScope s_law_to_the_end) .none kV19 dc19 pm19 an19 cd19 ct19), sl19⟩)
    (c19 : PySem.W.codeIn K cd19 "_law_to_the_end" = true)
    (k19 : PySem.W.keepIn K (.ref f19) = true)
    (a20 : PySem.W.nsIn K mainGlobals "law" = some (some (.ref f20)))
    (l20 : K.lookup f20 = some ⟨oc20, od20, .func (PySem.W.fnOf "law" "law" (defArgs s_law) (defBody s_law) (defScope s_law) .none kV20 dc20 pm20 an20 cd20 ct20), sl20⟩)
    (c20 : PySem.W.codeIn K cd20 "law" = true)
    (k20 : PySem.W.keepIn K (.ref f20) = true)
    (z_len : PySem.W.nsIn K mainGlobals "len" = some none)
    (z_sorted : PySem.W.nsIn K mainGlobals "sorted" = some none)
    (z_list : PySem.W.nsIn K mainGlobals "list" = some none)
    (z_range : PySem.W.nsIn K mainGlobals "range" = some none)
    (z_reversed : PySem.W.nsIn K mainGlobals "reversed" = some none)
    (z_isinstance : PySem.W.nsIn K mainGlobals "isinstance" = some none)
    (z_int : PySem.W.nsIn K mainGlobals "int" = some none)
    (z_bool : PySem.W.nsIn K mainGlobals "bool" = some none)
    (z_ValueError : PySem.W.nsIn K mainGlobals "ValueError" = some none)
    (y_MOST : PySem.W.nsIn K mainGlobals "MOST" = some (some (.int 16 t_MOST)))
    (pg_Game : PySem.W.plainGet K c_Game Str.empty = true)
    (hd_Game : PySem.W.hasDictIn K c_Game = true)
    (po_Game : PySem.W.plainOver K c_Game = true)
    (sa_Game : PySem.W.findIn K (.ref c_Game) "__setattr__" = some (some (.builtin "object.__setattr__")))
    (mk_Game : PySem.W.makesIn K c_Game = true)
    (kc_Game : PySem.W.keepIn K (.ref c_Game) = true)
    (nf_Game_cards : PySem.W.findIn K (.ref c_Game) "cards" = some none)
    (nf_Game_done : PySem.W.findIn K (.ref c_Game) "done" = some none)
    (cg_CardError : PySem.W.nsIn K mainGlobals "CardError" = some (some (.ref c_CardError)))
    (ci_CardError : PySem.W.isClsIn K c_CardError = true)
    (ct_CardError : PySem.W.typeIn K (.ref c_CardError) = some (.type "type"))
    (cg_NoDeck : PySem.W.nsIn K mainGlobals "NoDeck" = some (some (.ref c_NoDeck)))
    (ci_NoDeck : PySem.W.isClsIn K c_NoDeck = true)
    (ct_NoDeck : PySem.W.typeIn K (.ref c_NoDeck) = some (.type "type"))
    (cg_NoTurn : PySem.W.nsIn K mainGlobals "NoTurn" = some (some (.ref c_NoTurn)))
    (ci_NoTurn : PySem.W.isClsIn K c_NoTurn = true)
    (ct_NoTurn : PySem.W.typeIn K (.ref c_NoTurn) = some (.type "type"))
    (cg_NoGame : PySem.W.nsIn K mainGlobals "NoGame" = some (some (.ref c_NoGame)))
    (ci_NoGame : PySem.W.isClsIn K c_NoGame = true)
    (ct_NoGame : PySem.W.typeIn K (.ref c_NoGame) = some (.type "type"))
    (cg_TooTall : PySem.W.nsIn K mainGlobals "TooTall" = some (some (.ref c_TooTall)))
    (ci_TooTall : PySem.W.isClsIn K c_TooTall = true)
    (ct_TooTall : PySem.W.typeIn K (.ref c_TooTall) = some (.type "type"))
    (cg_NoBack : PySem.W.nsIn K mainGlobals "NoBack" = some (some (.ref c_NoBack)))
    (ci_NoBack : PySem.W.isClsIn K c_NoBack = true)
    (ct_NoBack : PySem.W.typeIn K (.ref c_NoBack) = some (.type "type"))
    (cg_BadLine : PySem.W.nsIn K mainGlobals "BadLine" = some (some (.ref c_BadLine)))
    (ci_BadLine : PySem.W.isClsIn K c_BadLine = true)
    (ct_BadLine : PySem.W.typeIn K (.ref c_BadLine) = some (.type "type"))
    (ek_NoTurn : PySem.W.keepIn K (.ref c_NoTurn) = true)
    (ex_NoTurn : PySem.W.excIn K c_NoTurn [.type "ValueError", .type "Exception", .type "BaseException", .type "object"] "ValueError.__new__" = true)
    (eb_NoTurn : PySem.W.subIn K (.ref c_NoTurn) (.type "BaseException") = some true)
    (ev_NoTurn : PySem.W.subIn K (.ref c_NoTurn) (.type "ValueError") = some true)
    (es_NoTurn : PySem.W.subIn K (.ref c_NoTurn) (.ref c_NoTurn) = some true)
    (ehg_NoTurn : PySem.W.findIn K (.ref c_NoTurn) "__getattribute__" = some (some (.builtin "BaseException.__getattribute__")))
    (ehk_NoTurn : PySem.W.findIn K (.ref c_NoTurn) "__getattr__" = some none)
    (ehd_NoTurn : PySem.W.hasDictIn K c_NoTurn = true)
    (eha_NoTurn : PySem.W.findIn K (.ref c_NoTurn) "__class__" = some (some (.builtin "object.__class__")))
    (ehm_NoTurn : PySem.W.mroIn K c_NoTurn (.type "object") = some true)
    (es_NoTurn_CardError : PySem.W.subIn K (.ref c_NoTurn) (.ref c_CardError) = some true)
    (es_NoTurn_NoDeck : PySem.W.subIn K (.ref c_NoTurn) (.ref c_NoDeck) = some false)
    (es_NoTurn_NoGame : PySem.W.subIn K (.ref c_NoTurn) (.ref c_NoGame) = some false)
    (es_NoTurn_TooTall : PySem.W.subIn K (.ref c_NoTurn) (.ref c_TooTall) = some false)
    (es_NoTurn_NoBack : PySem.W.subIn K (.ref c_NoTurn) (.ref c_NoBack) = some false)
    (es_NoTurn_BadLine : PySem.W.subIn K (.ref c_NoTurn) (.ref c_BadLine) = some false)
    (ek_NoBack : PySem.W.keepIn K (.ref c_NoBack) = true)
    (ex_NoBack : PySem.W.excIn K c_NoBack [.type "ValueError", .type "Exception", .type "BaseException", .type "object"] "ValueError.__new__" = true)
    (eb_NoBack : PySem.W.subIn K (.ref c_NoBack) (.type "BaseException") = some true)
    (ev_NoBack : PySem.W.subIn K (.ref c_NoBack) (.type "ValueError") = some true)
    (es_NoBack : PySem.W.subIn K (.ref c_NoBack) (.ref c_NoBack) = some true)
    (ehg_NoBack : PySem.W.findIn K (.ref c_NoBack) "__getattribute__" = some (some (.builtin "BaseException.__getattribute__")))
    (ehk_NoBack : PySem.W.findIn K (.ref c_NoBack) "__getattr__" = some none)
    (ehd_NoBack : PySem.W.hasDictIn K c_NoBack = true)
    (eha_NoBack : PySem.W.findIn K (.ref c_NoBack) "__class__" = some (some (.builtin "object.__class__")))
    (ehm_NoBack : PySem.W.mroIn K c_NoBack (.type "object") = some true)
    (es_NoBack_CardError : PySem.W.subIn K (.ref c_NoBack) (.ref c_CardError) = some true)
    (es_NoBack_NoDeck : PySem.W.subIn K (.ref c_NoBack) (.ref c_NoDeck) = some false)
    (es_NoBack_NoTurn : PySem.W.subIn K (.ref c_NoBack) (.ref c_NoTurn) = some false)
    (es_NoBack_NoGame : PySem.W.subIn K (.ref c_NoBack) (.ref c_NoGame) = some false)
    (es_NoBack_TooTall : PySem.W.subIn K (.ref c_NoBack) (.ref c_TooTall) = some false)
    (es_NoBack_BadLine : PySem.W.subIn K (.ref c_NoBack) (.ref c_BadLine) = some false)
    (q_n : PySem.W.specialIn K (.builtin "object.__class__") "__get__" = some (some (.builtin "getset_descriptor.__get__")))
    (q_t : PySem.W.takesIn K (.builtin "object.__class__") = some true)
    (kb_CardError : PySem.W.subIn K (.ref c_CardError) (.type "BaseException") = some true)
    (kd_CardError : PySem.W.hasDictIn K c_CardError = true) :
    ∃ fd : FuncData, (∀ (s : Shared) (v : Value), BindsTo s fd ⟨[v], []⟩ [("script", v)]) ∧ ∀ base : Heap, K.In base → base.Ns mainGlobals mg → FnOk l.prog w K mg base CX0 7 fa fd ["script"] (spLaw K) := by
  have e := hfa.symm.trans (PySem.W.mg_of X G a20)
  cases e
  have F0 := fun_mk (st := s_ask) l0 c0 k0
  have b0 := F0.binds (ps := ["deck"]) fun _ _ _ _ _ _ us hl => match us, hl with | [_], _ => rfl
  have F1 := fun_mk (st := s_over) l1 c1 k1
  have b1 := F1.binds (ps := ["deck", "many"]) fun _ _ _ _ _ _ us hl => match us, hl with | [_, _], _ => rfl
  have F2 := fun_mk (st := s_turned) l2 c2 k2
  have b2 := F2.binds (ps := ["deck"]) fun _ _ _ _ _ _ us hl => match us, hl with | [_], _ => rfl
  have F3 := fun_mk (st := s_game) l3 c3 k3
  have b3 := F3.binds (ps := ["deck"]) fun _ _ _ _ _ _ us hl => match us, hl with | [_], _ => rfl
  have F4 := fun_mk (st := s_Game___init__) l4 c4 k4
  have b4 := F4.binds (ps := ["self", "deck"]) fun _ _ _ _ _ _ us hl => match us, hl with | [_, _], _ => rfl
  have F5 := fun_mk (st := s_Game_turn) l5 c5 k5
  have b5 := F5.binds (ps := ["self"]) fun _ _ _ _ _ _ us hl => match us, hl with | [_], _ => rfl
  have F6 := fun_mk (st := s_Game_back) l6 c6 k6
  have b6 := F6.binds (ps := ["self"]) fun _ _ _ _ _ _ us hl => match us, hl with | [_], _ => rfl
  have F7 := fun_mk (st := s_Game_deck) l7 c7 k7
  have b7 := F7.binds (ps := ["self"]) fun _ _ _ _ _ _ us hl => match us, hl with | [_], _ => rfl
  have F8 := fun_mk (st := s_Game_done_tops) l8 c8 k8
  have b8 := F8.binds (ps := ["self"]) fun _ _ _ _ _ _ us hl => match us, hl with | [_], _ => rfl
  have F9 := fun_mk (st := s_Game_left) l9 c9 k9
  have b9 := F9.binds (ps := ["self"]) fun _ _ _ _ _ _ us hl => match us, hl with | [_], _ => rfl
  have F10 := fun_mk (st := s_law_cell_at) l10 c10 k10
  have b10 := F10.binds (ps := ["script", "k"]) fun _ _ _ _ _ _ us hl => match us, hl with | [_, _], _ => rfl
  have F11 := fun_mk (st := s_law_whole) l11 c11 k11
  have b11 := F11.binds (ps := ["found"]) fun _ _ _ _ _ _ us hl => match us, hl with | [_], _ => rfl
  have F12 := fun_mk (st := s_law_deck) l12 c12 k12
  have b12 := F12.binds (ps := ["script", "at", "most"]) fun _ _ _ _ _ _ us hl => match us, hl with | [_, _, _], _ => rfl
  have F13 := fun_mk (st := s_law_over) l13 c13 k13
  have b13 := F13.binds (ps := ["deck", "many"]) fun _ _ _ _ _ _ us hl => match us, hl with | [_, _], _ => rfl
  have F14 := fun_mk (st := s_law_long) l14 c14 k14
  have b14 := F14.binds (ps := ["script", "at", "most"]) fun _ _ _ _ _ _ us hl => match us, hl with | [_, _, _], _ => rfl
  have F15 := fun_mk (st := s_law_game) l15 c15 k15
  have b15 := F15.binds (ps := ["deck"]) fun _ _ _ _ _ _ us hl => match us, hl with | [_], _ => rfl
  have F16 := fun_mk (st := s_law_which) l16 c16 k16
  have b16 := F16.binds (ps := ["e"]) fun _ _ _ _ _ _ us hl => match us, hl with | [_], _ => rfl
  have F17 := fun_mk (st := s_law_refused) l17 c17 k17
  have b17 := F17.binds (ps := ["play", "way"]) fun _ _ _ _ _ _ us hl => match us, hl with | [_, _], _ => rfl
  have F18 := fun_mk (st := s_law_deed) l18 c18 k18
  have b18 := F18.binds (ps := ["play", "kept", "done", "cell"]) fun _ _ _ _ _ _ us hl => match us, hl with | [_, _, _, _], _ => rfl
  have F19 := fun_mk (st := s_law_to_the_end) l19 c19 k19
  have b19 := F19.binds (ps := ["play", "kept", "done"]) fun _ _ _ _ _ _ us hl => match us, hl with | [_, _, _], _ => rfl
  have F20 := fun_mk (st := s_law) l20 c20 k20
  have b20 := F20.binds (ps := ["script"]) fun _ _ _ _ _ _ us hl => match us, hl with | [_], _ => rfl
  have T : Txt K mg { f_ask := f0, d_ask := PySem.W.fnOf "ask" "ask" (defArgs s_ask) (defBody s_ask) (defScope s_ask) .none kV0 dc0 pm0 an0 cd0 ct0, f_over := f1, d_over := PySem.W.fnOf "over" "over" (defArgs s_over) (defBody s_over) (defScope s_over) .none kV1 dc1 pm1 an1 cd1 ct1, f_turned := f2, d_turned := PySem.W.fnOf "turned" "turned" (defArgs s_turned) (defBody s_turned) (defScope s_turned) .none kV2 dc2 pm2 an2 cd2 ct2, f_game := f3, d_game := PySem.W.fnOf "game" "game" (defArgs s_game) (defBody s_game) (defScope s_game) .none kV3 dc3 pm3 an3 cd3 ct3, f_Game___init__ := f4, d_Game___init__ := PySem.W.fnOf "__init__" "Game.__init__" (defArgs s_Game___init__) (defBody s_Game___init__) (defScope s_Game___init__) .none kV4 dc4 pm4 an4 cd4 ct4, f_Game_turn := f5, d_Game_turn := PySem.W.fnOf "turn" "Game.turn" (defArgs s_Game_turn) (defBody s_Game_turn) (defScope s_Game_turn) .none kV5 dc5 pm5 an5 cd5 ct5, f_Game_back := f6, d_Game_back := PySem.W.fnOf "back" "Game.back" (defArgs s_Game_back) (defBody s_Game_back) (defScope s_Game_back) .none kV6 dc6 pm6 an6 cd6 ct6, f_Game_deck := f7, d_Game_deck := PySem.W.fnOf "deck" "Game.deck" (defArgs s_Game_deck) (defBody s_Game_deck) (defScope s_Game_deck) .none kV7 dc7 pm7 an7 cd7 ct7, f_Game_done_tops := f8, d_Game_done_tops := PySem.W.fnOf "done_tops" "Game.done_tops" (defArgs s_Game_done_tops) (defBody s_Game_done_tops) (defScope s_Game_done_tops) .none kV8 dc8 pm8 an8 cd8 ct8, f_Game_left := f9, d_Game_left := PySem.W.fnOf "left" "Game.left" (defArgs s_Game_left) (defBody s_Game_left) (defScope s_Game_left) .none kV9 dc9 pm9 an9 cd9 ct9, f_law_cell_at := f10, d_law_cell_at := PySem.W.fnOf "_law_cell_at" "_law_cell_at" (defArgs s_law_cell_at) (defBody s_law_cell_at) (defScope s_law_cell_at) .none kV10 dc10 pm10 an10 cd10 ct10, f_law_whole := f11, d_law_whole := PySem.W.fnOf "_law_whole" "_law_whole" (defArgs s_law_whole) (defBody s_law_whole) (defScope s_law_whole) .none kV11 dc11 pm11 an11 cd11 ct11, f_law_deck := f12, d_law_deck := PySem.W.fnOf "_law_deck" "_law_deck" (defArgs s_law_deck) (defBody s_law_deck) (defScope s_law_deck) .none kV12 dc12 pm12 an12 cd12 ct12, f_law_over := f13, d_law_over := PySem.W.fnOf "_law_over" "_law_over" (defArgs s_law_over) (defBody s_law_over) (defScope s_law_over) .none kV13 dc13 pm13 an13 cd13 ct13, f_law_long := f14, d_law_long := PySem.W.fnOf "_law_long" "_law_long" (defArgs s_law_long) (defBody s_law_long) (defScope s_law_long) .none kV14 dc14 pm14 an14 cd14 ct14, f_law_game := f15, d_law_game := PySem.W.fnOf "_law_game" "_law_game" (defArgs s_law_game) (defBody s_law_game) (defScope s_law_game) .none kV15 dc15 pm15 an15 cd15 ct15, f_law_which := f16, d_law_which := PySem.W.fnOf "_law_which" "_law_which" (defArgs s_law_which) (defBody s_law_which) (defScope s_law_which) .none kV16 dc16 pm16 an16 cd16 ct16, f_law_refused := f17, d_law_refused := PySem.W.fnOf "_law_refused" "_law_refused" (defArgs s_law_refused) (defBody s_law_refused) (defScope s_law_refused) .none kV17 dc17 pm17 an17 cd17 ct17, f_law_deed := f18, d_law_deed := PySem.W.fnOf "_law_deed" "_law_deed" (defArgs s_law_deed) (defBody s_law_deed) (defScope s_law_deed) .none kV18 dc18 pm18 an18 cd18 ct18, f_law_to_the_end := f19, d_law_to_the_end := PySem.W.fnOf "_law_to_the_end" "_law_to_the_end" (defArgs s_law_to_the_end) (defBody s_law_to_the_end) (defScope s_law_to_the_end) .none kV19 dc19 pm19 an19 cd19 ct19, f_law := fa, d_law := PySem.W.fnOf "law" "law" (defArgs s_law) (defBody s_law) (defScope s_law) .none kV20 dc20 pm20 an20 cd20 ct20, t_MOST := t_MOST, c_CardError := c_CardError, c_NoDeck := c_NoDeck, c_NoTurn := c_NoTurn, c_NoGame := c_NoGame, c_TooTall := c_TooTall, c_NoBack := c_NoBack, c_BadLine := c_BadLine, c_Game := c_Game } :=
    { n_len := PySem.W.mg_none_of X G z_len, n_sorted := PySem.W.mg_none_of X G z_sorted, n_list := PySem.W.mg_none_of X G z_list, n_range := PySem.W.mg_none_of X G z_range, n_reversed := PySem.W.mg_none_of X G z_reversed, n_isinstance := PySem.W.mg_none_of X G z_isinstance, n_int := PySem.W.mg_none_of X G z_int, n_bool := PySem.W.mg_none_of X G z_bool, n_ValueError := PySem.W.mg_none_of X G z_ValueError, g_MOST := PySem.W.mg_of X G y_MOST, F_ask := F0, g_ask := PySem.W.mg_of X G a0, b_ask := b0, F_over := F1, g_over := PySem.W.mg_of X G a1, b_over := b1, F_turned := F2, g_turned := PySem.W.mg_of X G a2, b_turned := b2, F_game := F3, g_game := PySem.W.mg_of X G a3, b_game := b3, F_Game___init__ := F4, m_Game___init__ := ⟨a4, i4, k4⟩, b_Game___init__ := b4, F_Game_turn := F5, m_Game_turn := ⟨a5, i5, k5⟩, b_Game_turn := b5, F_Game_back := F6, m_Game_back := ⟨a6, i6, k6⟩, b_Game_back := b6, F_Game_deck := F7, m_Game_deck := ⟨a7, i7, k7⟩, b_Game_deck := b7, F_Game_done_tops := F8, m_Game_done_tops := ⟨a8, i8, k8⟩, b_Game_done_tops := b8, F_Game_left := F9, m_Game_left := ⟨a9, i9, k9⟩, b_Game_left := b9, F_law_cell_at := F10, g_law_cell_at := PySem.W.mg_of X G a10, b_law_cell_at := b10, F_law_whole := F11, g_law_whole := PySem.W.mg_of X G a11, b_law_whole := b11, F_law_deck := F12, g_law_deck := PySem.W.mg_of X G a12, b_law_deck := b12, F_law_over := F13, g_law_over := PySem.W.mg_of X G a13, b_law_over := b13, F_law_long := F14, g_law_long := PySem.W.mg_of X G a14, b_law_long := b14, F_law_game := F15, g_law_game := PySem.W.mg_of X G a15, b_law_game := b15, F_law_which := F16, g_law_which := PySem.W.mg_of X G a16, b_law_which := b16, F_law_refused := F17, g_law_refused := PySem.W.mg_of X G a17, b_law_refused := b17, F_law_deed := F18, g_law_deed := PySem.W.mg_of X G a18, b_law_deed := b18, F_law_to_the_end := F19, g_law_to_the_end := PySem.W.mg_of X G a19, b_law_to_the_end := b19, F_law := F20, g_law := PySem.W.mg_of X G a20, b_law := b20, C_Game := ⟨pg_Game, hd_Game, po_Game, sa_Game⟩, k_Game := ⟨mk_Game, a4, i4, kc_Game⟩, G_Game := PySem.W.mg_of X G gG_Game, N_Game_cards := nf_Game_cards, N_Game_done := nf_Game_done, K_CardError := ⟨PySem.W.mg_of X G cg_CardError, ci_CardError, ct_CardError⟩, K_NoDeck := ⟨PySem.W.mg_of X G cg_NoDeck, ci_NoDeck, ct_NoDeck⟩, K_NoTurn := ⟨PySem.W.mg_of X G cg_NoTurn, ci_NoTurn, ct_NoTurn⟩, K_NoGame := ⟨PySem.W.mg_of X G cg_NoGame, ci_NoGame, ct_NoGame⟩, K_TooTall := ⟨PySem.W.mg_of X G cg_TooTall, ci_TooTall, ct_TooTall⟩, K_NoBack := ⟨PySem.W.mg_of X G cg_NoBack, ci_NoBack, ct_NoBack⟩, K_BadLine := ⟨PySem.W.mg_of X G cg_BadLine, ci_BadLine, ct_BadLine⟩, E_NoTurn := ⟨PySem.W.mg_of X G cg_NoTurn, ek_NoTurn, ex_NoTurn, eb_NoTurn, ev_NoTurn, ct_NoTurn, ci_NoTurn, es_NoTurn, ⟨ehg_NoTurn, ehk_NoTurn, eb_NoTurn, ehd_NoTurn, eha_NoTurn, q_n, q_t, ehm_NoTurn⟩⟩, s_NoTurn_CardError := es_NoTurn_CardError, s_NoTurn_NoDeck := es_NoTurn_NoDeck, s_NoTurn_NoGame := es_NoTurn_NoGame, s_NoTurn_TooTall := es_NoTurn_TooTall, s_NoTurn_NoBack := es_NoTurn_NoBack, s_NoTurn_BadLine := es_NoTurn_BadLine, E_NoBack := ⟨PySem.W.mg_of X G cg_NoBack, ek_NoBack, ex_NoBack, eb_NoBack, ev_NoBack, ct_NoBack, ci_NoBack, es_NoBack, ⟨ehg_NoBack, ehk_NoBack, eb_NoBack, ehd_NoBack, eha_NoBack, q_n, q_t, ehm_NoBack⟩⟩, s_NoBack_CardError := es_NoBack_CardError, s_NoBack_NoDeck := es_NoBack_NoDeck, s_NoBack_NoTurn := es_NoBack_NoTurn, s_NoBack_NoGame := es_NoBack_NoGame, s_NoBack_TooTall := es_NoBack_TooTall, s_NoBack_BadLine := es_NoBack_BadLine, cb_CardError := kb_CardError, cd_CardError := kd_CardError }
  exact ⟨_, fun s v => .of_eq rfl, fun base _ _ => ok_law T⟩
end Tt
open PySem PySem.W PyProof.Rows
set_option maxHeartbeats 0 in
theorem PySem.Challenge.cw_topturn_k12_whole_games_played_holds : PySem.Challenge.rw_topturn_k12_whole_games_played.Holds := by
  w_on; o_law; k_head; (case hw => w_witness2)
  k_fill
  refine L2.walk_of (l := PySem.Challenge.rw_topturn_k12_whole_games_played) (n := 63) (k := 7) (x := "script") (CX := fun _ => L2.CX0) (sp := fun w => Tt.spLaw _) rfl (by decide) rfl ⟨rfl, by decide, by decide⟩ (fun w h Y => PySem.W.kIn_of Y) ?F (fun _ _ a ns hl _ hS => ⟨a, ns, rfl, hS, hl, fun _ => rfl⟩) (fun _ _ _ _ _ h => h)
  case F =>
    intro w mg fa h KX G hmg
    refine' Tt.all_mk KX G hmg ?gG_Game ?a0 ?l0 ?c0 ?k0 ?a1 ?l1 ?c1 ?k1 ?a2 ?l2 ?c2 ?k2 ?a3 ?l3 ?c3 ?k3 ?a4 ?i4 ?l4 ?c4 ?k4 ?a5 ?i5 ?l5 ?c5 ?k5 ?a6 ?i6 ?l6 ?c6 ?k6 ?a7 ?i7 ?l7 ?c7 ?k7 ?a8 ?i8 ?l8 ?c8 ?k8 ?a9 ?i9 ?l9 ?c9 ?k9 ?a10 ?l10 ?c10 ?k10 ?a11 ?l11 ?c11 ?k11 ?a12 ?l12 ?c12 ?k12 ?a13 ?l13 ?c13 ?k13 ?a14 ?l14 ?c14 ?k14 ?a15 ?l15 ?c15 ?k15 ?a16 ?l16 ?c16 ?k16 ?a17 ?l17 ?c17 ?k17 ?a18 ?l18 ?c18 ?k18 ?a19 ?l19 ?c19 ?k19 ?a20 ?l20 ?c20 ?k20 ?z_len ?z_sorted ?z_list ?z_range ?z_reversed ?z_isinstance ?z_int ?z_bool ?z_ValueError ?y_MOST ?pg_Game ?hd_Game ?po_Game ?sa_Game ?mk_Game ?kc_Game ?nf_Game_cards ?nf_Game_done ?cg_CardError ?ci_CardError ?ct_CardError ?cg_NoDeck ?ci_NoDeck ?ct_NoDeck ?cg_NoTurn ?ci_NoTurn ?ct_NoTurn ?cg_NoGame ?ci_NoGame ?ct_NoGame ?cg_TooTall ?ci_TooTall ?ct_TooTall ?cg_NoBack ?ci_NoBack ?ct_NoBack ?cg_BadLine ?ci_BadLine ?ct_BadLine ?ek_NoTurn ?ex_NoTurn ?eb_NoTurn ?ev_NoTurn ?es_NoTurn ?ehg_NoTurn ?ehk_NoTurn ?ehd_NoTurn ?eha_NoTurn ?ehm_NoTurn ?es_NoTurn_CardError ?es_NoTurn_NoDeck ?es_NoTurn_NoGame ?es_NoTurn_TooTall ?es_NoTurn_NoBack ?es_NoTurn_BadLine ?ek_NoBack ?ex_NoBack ?eb_NoBack ?ev_NoBack ?es_NoBack ?ehg_NoBack ?ehk_NoBack ?ehd_NoBack ?eha_NoBack ?ehm_NoBack ?es_NoBack_CardError ?es_NoBack_NoDeck ?es_NoBack_NoTurn ?es_NoBack_NoGame ?es_NoBack_TooTall ?es_NoBack_BadLine ?q_n ?q_t ?kb_CardError ?kd_CardError
    (case gG_Game => k_is)
    (case a0 => k_is)
    (case l0 => k_is)
    (case c0 => k_is)
    (case k0 => k_is)
    (case a1 => k_is)
    (case l1 => k_is)
    (case c1 => k_is)
    (case k1 => k_is)
    (case a2 => k_is)
    (case l2 => k_is)
    (case c2 => k_is)
    (case k2 => k_is)
    (case a3 => k_is)
    (case l3 => k_is)
    (case c3 => k_is)
    (case k3 => k_is)
    (case a4 => k_is)
    (case i4 => k_is)
    (case l4 => k_is)
    (case c4 => k_is)
    (case k4 => k_is)
    (case a5 => k_is)
    (case i5 => k_is)
    (case l5 => k_is)
    (case c5 => k_is)
    (case k5 => k_is)
    (case a6 => k_is)
    (case i6 => k_is)
    (case l6 => k_is)
    (case c6 => k_is)
    (case k6 => k_is)
    (case a7 => k_is)
    (case i7 => k_is)
    (case l7 => k_is)
    (case c7 => k_is)
    (case k7 => k_is)
    (case a8 => k_is)
    (case i8 => k_is)
    (case l8 => k_is)
    (case c8 => k_is)
    (case k8 => k_is)
    (case a9 => k_is)
    (case i9 => k_is)
    (case l9 => k_is)
    (case c9 => k_is)
    (case k9 => k_is)
    (case a10 => k_is)
    (case l10 => k_is)
    (case c10 => k_is)
    (case k10 => k_is)
    (case a11 => k_is)
    (case l11 => k_is)
    (case c11 => k_is)
    (case k11 => k_is)
    (case a12 => k_is)
    (case l12 => k_is)
    (case c12 => k_is)
    (case k12 => k_is)
    (case a13 => k_is)
    (case l13 => k_is)
    (case c13 => k_is)
    (case k13 => k_is)
    (case a14 => k_is)
    (case l14 => k_is)
    (case c14 => k_is)
    (case k14 => k_is)
    (case a15 => k_is)
    (case l15 => k_is)
    (case c15 => k_is)
    (case k15 => k_is)
    (case a16 => k_is)
    (case l16 => k_is)
    (case c16 => k_is)
    (case k16 => k_is)
    (case a17 => k_is)
    (case l17 => k_is)
    (case c17 => k_is)
    (case k17 => k_is)
    (case a18 => k_is)
    (case l18 => k_is)
    (case c18 => k_is)
    (case k18 => k_is)
    (case a19 => k_is)
    (case l19 => k_is)
    (case c19 => k_is)
    (case k19 => k_is)
    (case a20 => k_is)
    (case l20 => k_is)
    (case c20 => k_is)
    (case k20 => k_is)
    (case z_len => k_is)
    (case z_sorted => k_is)
    (case z_list => k_is)
    (case z_range => k_is)
    (case z_reversed => k_is)
    (case z_isinstance => k_is)
    (case z_int => k_is)
    (case z_bool => k_is)
    (case z_ValueError => k_is)
    (case y_MOST => k_is)
    (case pg_Game => k_is)
    (case hd_Game => k_is)
    (case po_Game => k_is)
    (case sa_Game => k_is)
    (case mk_Game => k_is)
    (case kc_Game => k_is)
    (case nf_Game_cards => k_is)
    (case nf_Game_done => k_is)
    (case cg_CardError => k_is)
    (case ci_CardError => k_is)
    (case ct_CardError => k_is)
    (case cg_NoDeck => k_is)
    (case ci_NoDeck => k_is)
    (case ct_NoDeck => k_is)
    (case cg_NoTurn => k_is)
    (case ci_NoTurn => k_is)
    (case ct_NoTurn => k_is)
    (case cg_NoGame => k_is)
    (case ci_NoGame => k_is)
    (case ct_NoGame => k_is)
    (case cg_TooTall => k_is)
    (case ci_TooTall => k_is)
    (case ct_TooTall => k_is)
    (case cg_NoBack => k_is)
    (case ci_NoBack => k_is)
    (case ct_NoBack => k_is)
    (case cg_BadLine => k_is)
    (case ci_BadLine => k_is)
    (case ct_BadLine => k_is)
    (case ek_NoTurn => k_is)
    (case ex_NoTurn => k_exc)
    (case eb_NoTurn => k_is)
    (case ev_NoTurn => k_is)
    (case es_NoTurn => first | rfl | k_is)
    (case ehg_NoTurn => k_is)
    (case ehk_NoTurn => k_is)
    (case ehd_NoTurn => k_is)
    (case eha_NoTurn => k_is)
    (case ehm_NoTurn => k_is)
    (case es_NoTurn_CardError => k_is)
    (case es_NoTurn_NoDeck => k_is)
    (case es_NoTurn_NoGame => k_is)
    (case es_NoTurn_TooTall => k_is)
    (case es_NoTurn_NoBack => k_is)
    (case es_NoTurn_BadLine => k_is)
    (case ek_NoBack => k_is)
    (case ex_NoBack => k_exc)
    (case eb_NoBack => k_is)
    (case ev_NoBack => k_is)
    (case es_NoBack => first | rfl | k_is)
    (case ehg_NoBack => k_is)
    (case ehk_NoBack => k_is)
    (case ehd_NoBack => k_is)
    (case eha_NoBack => k_is)
    (case ehm_NoBack => k_is)
    (case es_NoBack_CardError => k_is)
    (case es_NoBack_NoDeck => k_is)
    (case es_NoBack_NoTurn => k_is)
    (case es_NoBack_NoGame => k_is)
    (case es_NoBack_TooTall => k_is)
    (case es_NoBack_BadLine => k_is)
    (case q_n => k_is)
    (case q_t => k_is)
    (case kb_CardError => k_is)
    (case kd_CardError => k_is)
