import PyProof.Rows.All
import Wide.All
import OpenK.AllK
import Wide.FinOn
import PyProof.EqAt
import PyProof.EqKinds
import PyProof.TupleCall
import PyProof.Rows.FactsT2
import KE.KRevIter
import HandS.ForMost
import HandS.ForExc
import HandS.Evl
import HandS.Conv
import HandS.SortInts
import HandS.IsInst
import HandS.SetFor
import HandS.Rev
import HandS.ExcCtx
import HandS.HotCalls
import HandS.ExcIs
import PySem.Challenge.RW_topturn_k15_each_refusal_its_own
set_option Elab.async false
set_option linter.all false
set_option maxRecDepth 100000
set_option maxHeartbeats 4000000

/-! The mathematics of the turned cards, in plain Lean. -/
namespace Tt
/-- the cards 1 .. n -/
def rng (n : Nat) : List Int := (List.range n).map fun i => (1 : Int) + (i : Nat)
theorem rng_len (n : Nat) : (rng n).length = n := by simp [rng]
theorem rng_get {n i : Nat} (h : i < n) : (rng n)[i]? = some ((1 : Int) + (i : Nat)) := by
  unfold rng
  rw [List.getElem?_map, List.getElem?_range h]
  rfl
theorem mem_rng {n : Nat} {x : Int} : x ∈ rng n ↔ 1 ≤ x ∧ x ≤ n := by
  unfold rng
  rw [List.mem_map]
  constructor
  · rintro ⟨i, hi, rfl⟩
    have := List.mem_range.mp hi
    omega
  · intro h
    exact ⟨(x - 1).toNat, List.mem_range.mpr (by omega), by omega⟩
theorem rng_lt (n : Nat) : (rng n).Pairwise (· < ·) := by
  unfold rng
  rw [List.pairwise_map]
  refine List.Pairwise.imp ?_ List.pairwise_lt_range
  intro a b h
  omega
theorem rng_le (n : Nat) : (rng n).Pairwise (· ≤ ·) := (rng_lt n).imp fun h => Int.le_of_lt h
theorem rng_nodup (n : Nat) : (rng n).Nodup := (rng_lt n).imp fun h => Int.ne_of_lt h
theorem rng_succ (n : Nat) : rng (n + 1) = rng n ++ [(1 : Int) + (n : Nat)] := by
  unfold rng
  rw [List.range_succ, List.map_append]
  rfl

/-- a deck, of whatever size -/
def IsDk (d : List Int) : Prop := d.Perm (rng d.length)
theorem IsDk.nodup {d : List Int} (h : IsDk d) : d.Nodup := h.symm.nodup (rng_nodup _)
theorem IsDk.mem {d : List Int} (h : IsDk d) {x : Int} : x ∈ d ↔ 1 ≤ x ∧ x ≤ d.length := by
  rw [h.mem_iff, mem_rng]
theorem IsDk.at {d : List Int} (h : IsDk d) {i : Nat} {x : Int} (e : d[i]? = some x) : 1 ≤ x ∧ x ≤ d.length := h.mem.mp (List.mem_of_getElem? e)
theorem IsDk.perm {d e : List Int} (h : IsDk d) (p : e.Perm d) : IsDk e := by
  unfold IsDk
  rw [p.length_eq]
  exact p.trans h
/-- sorted and alike -/
theorem sorted_rng {l : List Int} {n : Nat} (p : l.Perm (rng n)) (s : l.Pairwise (· ≤ ·)) : l = rng n :=
  p.eq_of_pairwise (fun a b _ _ h1 h2 => Int.le_antisymm h1 h2) s (rng_le n)
theorem isDk_iff {d l : List Int} (p : l.Perm d) (s : l.Pairwise (· ≤ ·)) : l = rng d.length ↔ IsDk d :=
  ⟨fun e => by unfold IsDk; rw [← e]; exact p.symm, fun h => sorted_rng (p.trans h) s⟩
theorem two_at {d : List Int} (h : d.Nodup) {i j : Nat} {x : Int} (a : d[i]? = some x) (b : d[j]? = some x) : i = j := by
  obtain ⟨h1, e1⟩ := List.getElem?_eq_some_iff.mp a
  obtain ⟨h2, e2⟩ := List.getElem?_eq_some_iff.mp b
  exact (List.getElem_inj h).mp (e1.trans e2.symm)

/-- the first k turned over -/
def ov (d : List Int) (k : Int) : List Int := (d.take k.toNat).reverse ++ d.drop k.toNat
theorem ov_perm (d : List Int) (k : Int) : (ov d k).Perm d := by
  unfold ov
  exact ((List.reverse_perm _).append_right _).trans (List.Perm.of_eq (List.take_append_drop _ _))
theorem ov_len (d : List Int) (k : Int) : (ov d k).length = d.length := (ov_perm d k).length_eq
theorem IsDk.ov {d : List Int} (h : IsDk d) (k : Int) : IsDk (ov d k) := h.perm (ov_perm d k)
theorem ov_ov (d : List Int) {k : Int} (h : k ≤ d.length) : ov (ov d k) k = d := by
  have e : ((d.take k.toNat).reverse).length = k.toNat := by rw [List.length_reverse, List.length_take]; omega
  unfold ov
  rw [List.take_append_of_le_length (by omega), List.take_of_length_le (by omega), List.reverse_reverse, List.drop_append_of_le_length (by omega), List.drop_of_length_le (by omega), List.nil_append, List.take_append_drop]
theorem ov_lo {d : List Int} {k : Int} {i : Nat} (h : k ≤ d.length) (hi : (i : Int) < k) : (ov d k)[i]? = d[k.toNat - 1 - i]? := by
  have e : ((d.take k.toNat).reverse).length = k.toNat := by rw [List.length_reverse, List.length_take]; omega
  have e2 : (d.take k.toNat).length = k.toNat := by rw [List.length_take]; omega
  unfold ov
  rw [List.getElem?_append_left (by omega), List.getElem?_reverse (by omega), List.getElem?_take_of_lt (by omega), e2]
theorem ov_hi {d : List Int} {k : Int} {i : Nat} (h0 : 0 ≤ k) (h : k ≤ d.length) (hi : k ≤ i) : (ov d k)[i]? = d[i]? := by
  have e : ((d.take k.toNat).reverse).length = k.toNat := by rw [List.length_reverse, List.length_take]; omega
  unfold ov
  rw [List.getElem?_append_right (by omega), List.getElem?_drop, e]
  congr 1
  omega
theorem ov_top {d : List Int} {k : Int} (h1 : 1 ≤ k) (h : k ≤ d.length) : (ov d k)[0]? = d[k.toNat - 1]? := ov_lo h (by omega)
theorem ov_end {d : List Int} {k : Int} (h1 : 1 ≤ k) (h : k ≤ d.length) : (ov d k)[k.toNat - 1]? = d[0]? := by
  rw [ov_lo h (by omega)]
  congr 1
  omega
/-- the law's own way to turn over -/
def lov (d : List Int) (k : Int) : List Int := (List.range k.toNat).map (fun i : Nat => d.getD (k - 1 - (i : Int)).toNat 0) ++ d.drop k.toNat
theorem lov_eq {d : List Int} {k : Int} (h : k ≤ d.length) : lov d k = ov d k := by
  unfold lov ov
  congr 1
  refine List.ext_getElem? fun i => ?_
  by_cases hi : i < k.toNat
  · have e2 : (d.take k.toNat).length = k.toNat := by rw [List.length_take]; omega
    rw [List.getElem?_map, List.getElem?_range hi, List.getElem?_reverse (by omega), e2, List.getElem?_take_of_lt (by omega)]
    have e3 : (k - 1 - (i : Int)).toNat = k.toNat - 1 - i := by omega
    simp only [Option.map_some, e3]
    rw [List.getD_eq_getElem?_getD, List.getElem?_eq_getElem (by omega)]
    rfl
  · rw [List.getElem?_eq_none (by simp; omega), List.getElem?_eq_none (by simp; omega)]

/-! ### games -/
inductive Gm : List Int → List Int → List Int → Prop where
  | stop {d : List Int} : d[0]? = some 1 → Gm d [] d
  | turn {d ts e : List Int} {k : Int} : d[0]? = some k → k ≠ 1 → Gm (ov d k) ts e → Gm d (k :: ts) e
theorem Gm.det {d ts e : List Int} (g : Gm d ts e) : ∀ {ts' e' : List Int}, Gm d ts' e' → ts' = ts ∧ e' = e := by
  induction g with
  | stop h =>
    intro ts' e' g'
    cases g' with
    | stop _ => exact ⟨rfl, rfl⟩
    | turn h' n _ => rw [h] at h'; exact absurd (Option.some.inj h').symm n
  | turn h n _ ih =>
    intro ts' e' g'
    cases g' with
    | stop h' => rw [h] at h'; exact absurd (Option.some.inj h') n
    | turn h' n' g2 =>
      rw [h] at h'
      cases Option.some.inj h'
      obtain ⟨e1, e2⟩ := ih g2
      exact ⟨by rw [e1], e2⟩
/-- a deck that is won by k's place -/
def inPl (d : List Int) (k : Nat) : Bool := decide (d[k + 1]? = some ((k : Int) + 2))
/-- worths below m -/
def W (f : Nat → Bool) : Nat → Nat
  | 0 => 0
  | m + 1 => W f m + if f m = true then 2 ^ m else 0
theorem W_lt (f : Nat → Bool) : ∀ m, W f m < 2 ^ m
  | 0 => Nat.one_pos
  | m + 1 => by
    have h := W_lt f m
    unfold W
    have e : 2 ^ (m + 1) = 2 ^ m + 2 ^ m := by rw [Nat.pow_succ]; omega
    split <;> omega
theorem W_congr {f g : Nat → Bool} : ∀ {m : Nat}, (∀ i, i < m → f i = g i) → W f m = W g m
  | 0, _ => rfl
  | m + 1, h => by
    unfold W
    rw [W_congr fun i hi => h i (by omega), h m (by omega)]
theorem W_rise {f g : Nat → Bool} {j : Nat} (hj : f j = false) (hg : g j = true) : ∀ {m : Nat}, j < m → (∀ i, j < i → i < m → f i = g i) → W f m < W g m
  | 0, h, _ => by omega
  | m + 1, h, a => by
    unfold W
    by_cases e : j = m
    · subst e
      have := W_lt f j
      rw [hj, hg]
      simp
      omega
    · have ih := W_rise hj hg (m := m) (by omega) fun i h1 h2 => a i h1 (by omega)
      rw [a m (by omega) (by omega)]
      split <;> omega
def wt (d : List Int) : Nat := W (inPl d) (d.length - 1)
theorem wt_lt (d : List Int) : wt d < 2 ^ (d.length - 1) := W_lt _ _
theorem wt_rise {d : List Int} {k : Int} (h : IsDk d) (h0 : d[0]? = some k) (hk : k ≠ 1) : wt d < wt (ov d k) := by
  obtain ⟨k1, k2⟩ := h.at h0
  have ek : k.toNat - 2 + 1 = k.toNat - 1 := by omega
  unfold wt
  rw [ov_len]
  refine W_rise (j := k.toNat - 2) ?_ ?_ (by omega) fun i h1 h2 => ?_
  · unfold inPl
    refine decide_eq_false fun e => ?_
    have e3 : ((k.toNat - 2 : Nat) : Int) + 2 = k := by omega
    rw [e3] at e
    have := two_at h.nodup h0 e
    omega
  · unfold inPl
    refine decide_eq_true ?_
    rw [ek, ov_end k1 k2, h0]
    congr 1
    omega
  · unfold inPl
    rw [ov_hi (by omega) k2 (by omega)]
/-- each game ends; as many turns at most as the weight grows -/
theorem Gm.ends : ∀ (m : Nat) (d : List Int), IsDk d → 0 < d.length → 2 ^ (d.length - 1) - wt d ≤ m → ∃ ts e, Gm d ts e
  | m, d, h, h0, hm => by
    obtain ⟨k, hk⟩ : ∃ k, d[0]? = some k := ⟨d[0], List.getElem?_eq_getElem h0⟩
    by_cases h1 : k = 1
    · subst h1
      exact ⟨[], d, .stop hk⟩
    · have r := wt_rise h hk h1
      have l := wt_lt (ov d k)
      rw [ov_len] at l
      cases m with
      | zero => omega
      | succ m =>
        obtain ⟨ts, e, g⟩ := Gm.ends m (ov d k) (h.ov k) (by rw [ov_len]; exact h0) (by rw [ov_len]; omega)
        exact ⟨k :: ts, e, .turn hk h1 g⟩
theorem Gm.all {d : List Int} (h : IsDk d) (h0 : 0 < d.length) : ∃ ts e, Gm d ts e := Gm.ends _ d h h0 (Nat.le_refl _)
theorem Gm.perm {d ts e : List Int} (g : Gm d ts e) : e.Perm d := by
  induction g with
  | stop _ => exact .refl _
  | turn _ _ _ ih => exact ih.trans (ov_perm _ _)
theorem Gm.one {d ts e : List Int} (g : Gm d ts e) : e[0]? = some 1 := by
  induction g with
  | stop h => exact h
  | turn _ _ _ ih => exact ih
theorem Gm.wt {d ts e : List Int} (g : Gm d ts e) : IsDk d → ts.length + wt d ≤ wt e := by
  induction g with
  | stop _ => intro _; simp
  | turn h n _ ih =>
    intro hd
    have := ih (hd.ov _)
    have := wt_rise hd h n
    simp only [List.length_cons]
    omega
theorem Gm.short {d ts e : List Int} (g : Gm d ts e) (h : IsDk d) : ts.length < 2 ^ (d.length - 1) := by
  have h1 := g.wt h
  have h2 := wt_lt e
  rw [g.perm.length_eq] at h2
  omega

/-! ### backwards -/
def bk (d : List Int) (t : Int) : Option (List Int) := if 2 ≤ t ∧ t ≤ d.length ∧ d[t.toNat - 1]? = some t then some (ov d t) else none
def bks : List Int → List Int → Option (List Int)
  | d, [] => some d
  | d, t :: r => (bk d t).bind fun x => bks x r
theorem bks_append : ∀ (d l r : List Int), bks d (l ++ r) = (bks d l).bind fun x => bks x r
  | d, [], r => rfl
  | d, t :: l, r => by
    show (bk d t).bind (fun x => bks x (l ++ r)) = ((bk d t).bind fun x => bks x l).bind fun x => bks x r
    cases e : bk d t with
    | none => rfl
    | some x => exact bks_append x l r
theorem bk_len {d x : List Int} {t : Int} (h : bk d t = some x) : x.length = d.length := by
  unfold bk at h
  split at h
  · rw [← Option.some.inj h, ov_len]
  · cases h
theorem bk_perm {d x : List Int} {t : Int} (h : bk d t = some x) : x.Perm d := by
  unfold bk at h
  split at h
  · rw [← Option.some.inj h]
    exact ov_perm _ _
  · cases h
theorem bk_some {d x : List Int} {t : Int} (h : bk d t = some x) : 2 ≤ t ∧ t ≤ d.length ∧ d[t.toNat - 1]? = some t ∧ x = ov d t := by
  unfold bk at h
  split at h
  · rename_i c
    exact ⟨c.1, c.2.1, c.2.2, (Option.some.inj h).symm⟩
  · cases h
theorem bk_turn {d : List Int} {k : Int} (h : IsDk d) (h0 : d[0]? = some k) (hk : k ≠ 1) : bk (ov d k) k = some d := by
  obtain ⟨k1, k2⟩ := h.at h0
  unfold bk
  rw [if_pos ⟨by omega, by rw [ov_len]; exact k2, by rw [ov_end (by omega) k2, h0]⟩, ov_ov d k2]
theorem Gm.back {d ts e : List Int} (g : Gm d ts e) : IsDk d → bks e ts.reverse = some d := by
  induction g with
  | stop _ => intro _; rfl
  | turn h n _ ih =>
    intro hd
    rw [List.reverse_cons, bks_append, ih (hd.ov _)]
    show (bk _ _).bind (fun x => bks x []) = _
    rw [bk_turn hd h n]
    rfl
/-- the test that a top fails -/
def bkT (d : List Int) (t : Int) : Bool := decide (t < 2) || (decide ((d.length : Int) < t) || !decide (d.getD (t.toNat - 1) 0 = t))
theorem bkT_yes {d : List Int} {t : Int} (h : bkT d t = true) : bk d t = none := by
  unfold bk
  rw [if_neg]
  rintro ⟨h1, h2, h3⟩
  unfold bkT at h
  rw [List.getD_eq_getElem?_getD, h3] at h
  simp at h
  omega
theorem bkT_no {d : List Int} {t : Int} (h : bkT d t = false) : 2 ≤ t ∧ t ≤ d.length ∧ bk d t = some (ov d t) := by
  unfold bkT at h
  simp only [Bool.or_eq_false_iff, decide_eq_false_iff_not, Bool.not_eq_false', decide_eq_true_eq] at h
  obtain ⟨h1, h2, h3⟩ := h
  have hlt : t.toNat - 1 < d.length := by omega
  rw [List.getD_eq_getElem?_getD, List.getElem?_eq_getElem hlt] at h3
  have e3 : d[t.toNat - 1]? = some t := (List.getElem?_eq_getElem hlt).trans (congrArg some h3)
  exact ⟨by omega, by omega, if_pos ⟨by omega, by omega, e3⟩⟩
/-- the deck whose game has this end and these tops, if any -/
def bksO (e ts : List Int) : Option (List Int) := if e[0]? = some 1 then bks e ts.reverse else none
end Tt

/-! Own rules: a list made of the reversed items of a list. -/
namespace RvL
open PySem PySem.Spec PyProof.Rows RT
section
variable {prog : Program} {w : World} {A : Around} {E : Value → Shared → Prop} {s : Shared}
theorem ext_rev {R : Result → Shared → Prop} {it l S : Addr} {items : Array Value} (hh : A.handled = none) (hit : s.heap.IsRevIter it l ((items.size : Int) - 1)) (hl : s.heap.IsList l items) (hne : l ≠ it) (hn : items.size ≤ sizeLine)
    (hSi : S ≠ it) (hSl : S ≠ l) (res : Value) (c₀ : Nat) (hS : s.heap.get? S = some { cls := .type "list", data := .seq #[] c₀ })
    (hR : ∀ h' tk acc' c', (∀ b o, b ≠ S → b ≠ it → s.heap.get? b = some o → h'.get? b = some o) → h'.get? S = some { cls := .type "list", dict := none, data := .seq acc' c', slots := #[] } →
      ItemsOf (fun i v => items[items.size - 1 - i]? = some v) acc' items.size → R (.ok (.ret res)) { s with heap := h', toks := tk }) :
    wpAny (model prog w) A.in1 (Builtin.List.listExtendWith (.ref S) (.ref it) res)
      (fun fin s' => match fin with | .done f => R (.ok f) s' | .again c' => c'.quiet = true ∧ codeAny (model prog w) A c' R s') (fun e s' => R (.error e) s') s := by
  have W := (Walks.listRev (prog := prog) (w := w) (A := A.in1) hh it l hne items).toS
  have hSf : S ∉ [it, l] := by simp only [List.mem_cons, List.not_mem_nil, or_false, not_or]; exact ⟨hSi, hSl⟩
  have hT : s.TypeIs (.ref it) "list_reverseiterator" := hit.typeIs
  have h1 : Builtin.List.listSameRef (.ref S) (.ref it) = false := by simp [Builtin.List.listSameRef, hSi]
  unfold Builtin.List.listExtendWith
  refine wpAny_bind (wpAny_typeOf hT ?_)
  rw [if_neg (by rw [h1]; decide)]
  refine wpAny_bind (wpAny_pyIter_revIter hit ?_)
  refine wpAny_bind (wpAny_holding ?_)
  unfold Builtin.List.listLengthHint
  refine wpAny_bind (wpAny_specialOf hT nolen_lri ?_)
  show wpAny _ A.in1 (specialOf (Value.ref it) (Str.ofString "__length_hint__") >>= _) _ _ _
  refine wpAny_bind (wpAny_specialOf hT hint_lri ?_)
  generalize hid : ("list_reverseiterator.__length_hint__" : String) = id0
  wp_delta
  rw [show splitId id0 = some ("list_reverseiterator", "__length_hint__") from by subst hid; decide +kernel]
  subst hid
  refine wpAny_bind (wpAny_isInstance (b := true) hT (by rw [isSubtype_type]; kernel_rfl) ?_)
  refine wpAny_pure ?_
  rw [if_neg (by decide)]
  have e0 : ((items.size : Nat) : Int) - 1 - ((0 : Nat) : Int) = (items.size : Int) - 1 := by omega
  refine wpAny_pure ⟨plainId_quiet F.plain_extend_loop _, codeAny_extend_loopS W hn _ hSf _ items.size 0 _ _ _ rfl (Nat.zero_le _) ⟨Nat.zero_le _, by rw [e0]; exact hit, hl⟩ hS (ItemsOf.nil _) fun s' acc' c' hm hS' hacc => ?_⟩
  rw [Moved.eq_with hm]
  refine hR s'.heap s'.toks acc' c' (fun b o hb hbi e => hm.heap b o (fun hmem => ?_) e) hS' hacc
  rcases List.mem_cons.mp hmem with e' | hmem
  · exact hb e'
  · exact hbi (List.mem_singleton.mp hmem)
theorem init_rev {R : Result → Shared → Prop} {it l S : Addr} {items : Array Value} (hh : A.handled = none) (hit : s.heap.IsRevIter it l ((items.size : Int) - 1)) (hl : s.heap.IsList l items) (hne : l ≠ it) (hn : items.size ≤ sizeLine)
    (hSi : S ≠ it) (hSl : S ≠ l) (hS : s.heap.get? S = some { cls := .type "list", data := .seq #[] })
    (hR : ∀ h' tk acc' c', (∀ b o, b ≠ S → b ≠ it → s.heap.get? b = some o → h'.get? b = some o) → h'.get? S = some { cls := .type "list", dict := none, data := .seq acc' c', slots := #[] } →
      ItemsOf (fun i v => items[items.size - 1 - i]? = some v) acc' items.size → R (.ok (.ret .none)) { s with heap := h', toks := tk }) :
    wpAny (model prog w) A.in1 (Builtin.«list.__init__» ⟨[.ref S, .ref it], []⟩)
      (fun fin s' => match fin with | .done f => R (.ok f) s' | .again c' => c'.quiet = true ∧ codeAny (model prog w) A c' R s') (fun e s' => R (.error e) s') s := by
  show wpAny _ _ (do let old ← Builtin.List.listItems (.ref S); Builtin.List.listUpdate (.ref S) (fun _ => #[]); letGo old.toList.reverse; Builtin.List.listExtendWith (.ref S) (.ref it) .none) _ _ s
  refine wpAny_bind ?_
  unfold Builtin.List.listItems
  refine wpAny_bind (wpAny_seqItems hS rfl (wpAny_pure ?_))
  show wpAny _ _ (updateSeq S (fun _ => #[]) >>= fun _ => letGo (#[] : Array Value).toList.reverse >>= fun _ => Builtin.List.listExtendWith (.ref S) (.ref it) .none) _ _ s
  refine wpAny_bind (wpAny_updateSeq hS rfl ?_)
  have hS₂ := Heap.get?_update_self (Obj.mapSeq (fun _ => (#[] : Array Value))) hS rfl
  have oth : ∀ b o, b ≠ S → s.heap.get? b = some o → (s.heap.update S (Obj.mapSeq (fun _ => (#[] : Array Value)))).get? b = some o :=
    fun b o hb e => (Heap.get?_update_other _ _ (Ne.symm hb)).trans e
  refine wpAny_bind (wpAny_letGo ?_)
  refine ext_rev (s := { s with heap := s.heap.update S (Obj.mapSeq (fun _ => (#[] : Array Value))) }) hh (hit.at fun o e => oth _ _ (Ne.symm hSi) e) (hl.at fun o e => oth _ _ (Ne.symm hSl) e) hne hn hSi hSl .none _ hS₂ fun h' tk acc' c' hk hS' hacc => ?_
  exact hR h' tk acc' c' (fun b o hb hbi e => hk b o hb hbi (oth b o hb e)) hS' hacc
theorem call_list_rev {Q : Value → Shared → Prop} {it l : Addr} {items : Array Value} (hh : A.handled = none) (hit : s.heap.IsRevIter it l ((items.size : Int) - 1)) (hl : s.heap.IsList l items) (hne : l ≠ it) (hn : items.size ≤ sizeLine)
    (hQ : ∀ h' tk acc' c', (∀ b o, b ≠ it → s.heap.get? b = some o → h'.get? b = some o) →
      h'.get? s.heap.objs.size = some { cls := .type "list", dict := none, data := .seq acc' c', slots := #[] } → ItemsOf (fun i v => items[items.size - 1 - i]? = some v) acc' items.size → Q (.ref s.heap.objs.size) { s with heap := h', toks := tk }) :
    wpAny (model prog w) A (call (.type "list") [.ref it]) Q E s := by
  obtain ⟨oi, hoi, _⟩ := id hit
  obtain ⟨ol, hol, _⟩ := id hl
  refine callType_codes (Q₁ := fun obj s₁ => obj = .ref s.heap.objs.size ∧ s₁ = { s with heap := s.heap.push { cls := .type "list", data := .seq #[] } }) F.called_list (F.typeCall_list_1 _) F.entry_list_init
    (code_list_new _ ⟨rfl, rfl⟩) fun obj s₁ h₁ => ?_
  obtain ⟨rfl, rfl⟩ := h₁
  have hS : (s.heap.push { cls := .type "list", data := .seq #[] }).get? s.heap.objs.size = some { cls := .type "list", data := .seq #[] } := Heap.get?_push_size _ rfl
  refine ⟨⟨_, hS, rfl⟩, F.args_list_init_2 _ _, init_rev (A := A.in1) (s := { s with heap := s.heap.push { cls := .type "list", data := .seq #[] } }) hh (hit.at fun o e => Heap.get?_push_of_some _ e) (hl.push _) hne hn (Nat.ne_of_gt (Heap.lt_size hoi)) (Nat.ne_of_gt (Heap.lt_size hol)) hS fun h' tk acc' c' hk hS' hacc => ?_⟩
  exact ⟨rfl, hQ h' tk acc' c' (fun b o hb e => hk b o (Nat.ne_of_lt (Heap.lt_size e)) hb (Heap.get?_push_of_some _ e)) hS' hacc⟩
end
end RvL
namespace L2
open PySem PySem.Spec PyProof.Rows RT RvL
/-- an untracked new object is tracked from here on -/
theorem Inv.track {X : Cx} {pins : List (Addr × Obj)} {σ : St} {H : Hp} {s : Shared} {S : Addr} {o : HO} (I : Inv X pins σ H s) (fp : FpOk X pins H S) (new : ObjOk X.prog X.w (upd H S o) s.heap S o) : Inv X pins σ (upd H S o) s := by
  obtain ⟨f0, f1, f2, f3, f4, f5⟩ := fp
  refine I.step (h' := s.heap) (t' := s.toks) (g' := s.gens) (d' := s.drawn) (ch := [S]) (fun b hb => ?_) (fun b o _ _ _ e _ => e) (fun b o _ _ _ e _ => ⟨o.slots, e⟩) (fun b o hc _ n => ?_) (fun b o _ e => ⟨o, e⟩)
    (fun b xs e => by rw [upd_ne (ne_of_none e f0)]; exact e) (fun b ob u e => by rw [upd_ne (ne_of_none e f0)]; exact e) (fun b ps e => ⟨#[], by rw [upd_ne (ne_of_none e f0), e]; simp⟩) (fun m hm => hm) (fun b u e => ?_) I.bare
  · have e : b = S := by simpa using hb
    subst e
    exact ⟨f3, f1, f4, f5⟩
  · rw [upd_ne (fun z => hc (by simp [z]))]
    exact n
  · by_cases hb : b = S
    · subst hb
      rw [upd_same] at e
      cases e
      exact new
    · rw [upd_ne hb] at e
      exact (I.hok b u e).stay (fun c v _ q => q) (fun c q => by rw [upd_ne (ne_of_none q f0)]; exact q) fun c xs q => by rw [upd_ne (ne_of_none q f0)]; exact q
def tLstRev (K : PySem.W.Frag) (te : TE) : TE := fun σ H Q => te σ H fun v H1 => ∃ (a : Addr) (xs : List V), v = .ref a ∧ SqL K H1 a xs ∧ ∀ q, H1 q = none → Q (.ref q) (upd H1 q (.lst xs.reverse))
section
variable {X : Cx}
theorem pe_listRev {e : Expr} {te : TE} {p p2 pos pos2 : Pos} (hc : X.calm = true) (hg : Gl X "list") (hm : X.mg "list" = none) (hg2 : Gl X "reversed") (hm2 : X.mg "reversed" = none) (he : PE X e te)
    (hs : starEach [e] X.env = (false, eval e X.env) :: starEach [] X.env := by rfl)
    (hs2 : starEach [.Call (.Name "reversed" p2) [e] [] pos2] X.env = (false, eval (.Call (.Name "reversed" p2) [e] [] pos2) X.env) :: starEach [] X.env := by rfl) :
    PE X (.Call (.Name "list" p) [.Call (.Name "reversed" p2) [e] [] pos2] [] pos) (tLstRev X.K te) := by
  refine ⟨fun pins s σ H Q I h => ?_⟩
  refine Call_ (ld_blt I hg hm boot_list (PyProof.Rows.callWith_type1 (args_cons (Call_ (ld_blt I hg2 hm2 PyProof.Rows.boot_reversed (PyProof.Rows.callWith_type1 (args_cons (thn (he.run pins s σ H _ I h) fun u s1 ⟨v, H1, I1, r1, q1⟩ => args_nil ?_) hs) hs rfl))) hs2) hs2 rfl))
  obtain ⟨a, xs, ev, hq, q⟩ := q1
  subst ev
  obtain rfl : u = Value.ref a := r1
  obtain ⟨its, rv, p', hz⟩ := I1.list hq
  refine call_reversed_list p'.isList (args_nil ?_)
  have k0 : ∀ b o, s1.heap.get? b = some o → (s1.heap.push (revObj a ((its.toArray.size : Int) - 1))).get? b = some o := fun b o e => Heap.get?_push_of_some _ e
  have I2 : Inv X pins σ H1 { s1 with heap := s1.heap.push (revObj a ((its.toArray.size : Int) - 1)) } := I1.kept (t' := s1.toks) k0
  obtain ⟨f0, f1, f2, f3, f4, f5⟩ := I1.fpOk (H' := H1) (b := s1.heap.objs.size) (Nat.le_refl _) (I1.hok.fresh (Nat.le_refl _))
  have hl := p'.isList
  obtain ⟨ol, hol, _⟩ := id hl
  have hne : a ≠ s1.heap.objs.size := Nat.ne_of_lt (Heap.lt_size hol)
  have hn : its.toArray.size ≤ sizeLine := by rw [List.size_toArray, ← rv.length]; exact hz
  refine call_list_rev (s := { s1 with heap := s1.heap.push (revObj a ((its.toArray.size : Int) - 1)) }) (I1.ok.hd hc) ⟨_, Heap.get?_push_size _ rfl, rfl, rfl⟩ (hl.push _) hne hn fun h' tk acc c' hk e' hi => ?_
  have hsz : (s1.heap.push (revObj a ((its.toArray.size : Int) - 1))).objs.size = s1.heap.objs.size + 1 := Heap.size_push ..
  have hfr : H1 (s1.heap.objs.size + 1) = none := I1.hok.fresh (Nat.le_succ _)
  rw [hsz] at e'
  have I3 : Inv X pins σ H1 { s1 with heap := h', toks := tk } := I2.turned (t' := tk) (fun b o hb e => hk b o hb e) f0 f1 f3 f4 f5
  have hz2 : (s1.heap.push (revObj a ((its.toArray.size : Int) - 1))).objs.size ≤ s1.heap.objs.size + 1 := Nat.le_of_eq hsz
  refine ⟨.ref (s1.heap.objs.size + 1), upd H1 (s1.heap.objs.size + 1) (.lst xs.reverse), ?_, by rw [hsz]; rfl, q _ hfr⟩
  exact I3.track (I2.fpOk (H' := H1) (b := s1.heap.objs.size + 1) hz2 hfr) (show ObjOk X.prog X.w _ _ _ (.lst xs.reverse) from ⟨by rw [List.length_reverse]; exact hz, acc.toList, c', vals_rev rv hi, by rw [Array.toArray_toList]; exact e'⟩)
end
end L2

/-! What the readings come to: lists of ints. -/
namespace Tt
open PySem PySem.Spec PyProof.Rows L2 Evl

/-! ### data that is compared -/
structure Dat {α : Type} [DecidableEq α] (f : α → PyData) (n : Nat) : Prop where
  eq : ∀ a b, PyData.eqv (f a) (f b) = decide (a = b)
  can : ∀ a, (f a).canLay0 = true
  dep : ∀ a, (f a).depth ≤ n
theorem Dat.int : Dat PyData.int 0 := ⟨fun a b => by simp [PyData.eqv, BEq.beq], fun _ => rfl, fun _ => by simp [PyData.depth]⟩
theorem Dat.bool : Dat PyData.bool 0 := ⟨fun a b => by cases a <;> cases b <;> rfl, fun _ => rfl, fun _ => by simp [PyData.depth]⟩
theorem Dat.list {α : Type} [DecidableEq α] {f : α → PyData} {n : Nat} (d : Dat f n) : Dat (fun l : List α => PyData.list (l.map f)) (n + 1) where
  eq := fun a b => by
    show PyData.eqvAll (a.map f) (b.map f) = _
    induction a generalizing b with
    | nil => cases b <;> simp [PyData.eqvAll]
    | cons x a ih =>
      cases b with
      | nil => simp [PyData.eqvAll]
      | cons y b =>
        rw [List.map_cons, List.map_cons, PyData.eqvAll, d.eq, ih]
        by_cases h : x = y <;> by_cases h2 : a = b <;> simp [h, h2]
  can := fun a => by
    show PyData.canLayAll0 (a.map f) = true
    induction a with
    | nil => rfl
    | cons x a ih => rw [List.map_cons, PyData.canLayAll0, d.can, ih]; rfl
  dep := fun a => by
    have h : PyData.depthAll (a.map f) ≤ n := by
      induction a with
      | nil => simp [PyData.depthAll]
      | cons x a ih =>
        have := d.dep x
        simp only [List.map_cons, PyData.depthAll]
        omega
    simp only [PyData.depth]
    omega
theorem Dat.shaped {α : Type} [DecidableEq α] {f : α → PyData} {n : Nat} (d : Dat f n) (hn : n ≤ 64) (a : α) : SeqAt.shaped (f a) = true := by
  unfold SeqAt.shaped
  rw [d.can a]
  have := d.dep a
  simp only [Bool.true_and, decide_eq_true_eq]
  omega
abbrev dI (ns : List Int) : PyData := .list (ns.map PyData.int)
abbrev dB (ns : List Bool) : PyData := .list (ns.map PyData.bool)
abbrev dII (ns : List (List Int)) : PyData := .list (ns.map dI)
theorem dpAll {K : PySem.W.Frag} {H : Hp} {α : Type} {g : α → V} {f : α → PyData} (h : ∀ a, Dp K H (g a) (f a)) : ∀ l : List α, DpAll K H (l.map g) (l.map f)
  | [] => .nil
  | a :: l => .cons (h a) (dpAll h l)

/-! ### lists of ints in the heap -/
abbrev At (H : Hp) (a : Addr) (ns : List Int) : Prop := H a = some (.lst (ns.map V.int))
section
variable {K : PySem.W.Frag} {σ : L2.St} {H H' : Hp} {ta tb te tx : TE} {t u : TT} {x y z v : V} {r : R2} {a b p q l : Addr} {ns ms : List Int} {xs ys : List V}
theorem Dp.ints (h : SqL K H a (ns.map V.int)) : Dp K H (.ref a) (dI ns) := .lst h (dpAll (fun i => .int i) ns)
theorem Dp.bools {bs : List Bool} (h : SqL K H a (bs.map V.bl)) : Dp K H (.ref a) (dB bs) := .lst h (dpAll (fun i => .bl i) bs)
/-- a list, new or not -/
def EvR (te : TE) (σ : L2.St) (H : Hp) (xs : List V) : Prop := ∀ H1, Ex H H1 → ∀ Q : VK, (∀ p H2, Ex H1 H2 → H2 p = some (.lst xs) → Q (.ref p) H2) → te σ H1 Q
theorem EvR.new (h : EvL te σ H xs) : EvR te σ H xs := fun H1 e Q q => h H1 e Q fun p H2 _ e2 h2 => q p H2 e2 h2
theorem EvR.old (h : Ev te σ H (.ref a)) (ha : H a = some (.lst xs)) : EvR te σ H xs := fun H1 e Q q => h H1 e Q fun H2 e2 => q a H2 e2 (e2 _ _ (e _ _ ha))
theorem EvR.mono (e : Ex H H') (h : EvR te σ H xs) : EvR te σ H' xs := fun H1 a Q q => h H1 (e.trans a) Q q
theorem ev_eqR (ha : EvR ta σ H (ns.map V.int)) (hb : EvR tb σ H (ms.map V.int)) : Ev (tOp (rEqD K) ta tb) σ H (.bl (decide (ns = ms))) := fun H1 e Q q =>
  ha H1 e _ fun p H2 e2 hp => hb H2 (e.trans e2) _ fun r H3 e3 hr =>
    ⟨dI ns, dI ms, Dp.ints (sq_of (e3 _ _ hp)), Dp.ints (sq_of hr), Dat.int.list.shaped (by decide) ns, Dat.int.list.shaped (by decide) ms, by rw [Dat.int.list.eq]; exact q H3 (e2.trans e3)⟩
theorem ev_neR (ha : EvR ta σ H (ns.map V.int)) (hb : EvR tb σ H (ms.map V.int)) : Ev (tOp (rNeD K) ta tb) σ H (.bl (!decide (ns = ms))) := fun H1 e Q q =>
  ha H1 e _ fun p H2 e2 hp => hb H2 (e.trans e2) _ fun r H3 e3 hr =>
    ⟨dI ns, dI ms, Dp.ints (sq_of (e3 _ _ hp)), Dp.ints (sq_of hr), Dat.int.list.shaped (by decide) ns, Dat.int.list.shaped (by decide) ms, by rw [Dat.int.list.eq]; exact q H3 (e2.trans e3)⟩
theorem el_cat (ha : EvR ta σ H xs) (hb : EvR tb σ H ys) (hz : xs.length + ys.length ≤ 100000) : EvL (tOp rCat ta tb) σ H (xs ++ ys) := fun H1 e Q q =>
  ha H1 e _ fun p H2 e2 hp => hb H2 (e.trans e2) _ fun r H3 e3 hr =>
    ⟨p, r, xs, ys, rfl, rfl, e3 _ _ hp, hr, sz_of hz, fun s hs => q s _ (fresh_back (e2.trans e3) hs) ((e2.trans e3).trans (Ex.new hs)) upd_same⟩
theorem rv_ix {i : Int} {x : Int} (j : Nat) (h : SqL K H a (ns.map V.int)) (ej : i = (j : Int)) (e : ns[j]? = some x) : RV (rIxL K) (.ref a) (.int i) H (.int x) :=
  rv_ixL h (at_of ej (by rw [List.getElem?_map, e]; rfl))
/-- an item of a list that is read -/
theorem ev_ixR {i : Int} {x : Int} (j : Nat) (ha : EvR ta σ H (ns.map V.int)) (hb : Ev tb σ H (.int i)) (ej : i = (j : Int)) (e : ns[j]? = some x) : Ev (tOp (rIxL K) ta tb) σ H (.int x) := fun H1 e1 Q q =>
  ha H1 e1 _ fun p H2 e2 hp => hb H2 (e1.trans e2) _ fun H3 e3 => rv_ix j (sq_of (e3 _ _ hp)) ej e H3 (Ex.refl H3) Q fun H4 e4 => q H4 ((e2.trans e3).trans e4)
theorem ev_lenI (ha : Ev ta σ H (.ref a)) (h : SqL K H a (ns.map V.int)) : Ev (tCB (rLenS K) (tCons ta tNil)) σ H (.int (ns.length : Int)) := by
  have := ev_len (K := K) ha h
  rwa [List.length_map] at this
theorem ev_lenR (ha : EvR ta σ H (ns.map V.int)) : Ev (tCB (rLenS K) (tCons ta tNil)) σ H (.int (ns.length : Int)) := fun H1 e Q q =>
  ha H1 e _ fun p H2 e2 h2 => ⟨p, ns.map V.int, rfl, Or.inl (sq_of h2), by rw [List.length_map]; exact q H2 e2⟩
theorem el_listR (ha : EvR ta σ H xs) : EvL (tCB (rListS K) (tCons ta tNil)) σ H xs := fun H1 e Q q =>
  ha H1 e _ fun p H2 e2 h2 => ⟨p, xs, rfl, Or.inl (sq_of h2), fun l hl => q l _ (fresh_back e2 hl) (e2.trans (Ex.new hl)) upd_same⟩
theorem rgV_rng (n : Nat) : rgV 1 ((n : Int) + 1) = (rng n).map V.int := by
  unfold rgV rng
  rw [List.map_map]
  have e : ((n : Int) + 1 - 1).toNat = n := by omega
  rw [e]
  rfl
theorem el_rng {n : Nat} {m : Int} (ha : Ev ta σ H (.int 1)) (hb : Ev tb σ H (.int m)) (em : m = (n : Int) + 1) (hn : n ≤ 100000) : EvL (tLstRg (tRg2 ta tb)) σ H ((rng n).map V.int) := fun H1 e Q q =>
  ha H1 e _ fun H2 e2 => hb H2 (e.trans e2) _ fun H3 e3 => ⟨1, m, rfl, rfl, RgOk.of_le (by omega) (by omega) (by omega) (by omega), fun p hp => q p _ (fresh_back (e2.trans e3) hp) ((e2.trans e3).trans (Ex.new hp)) (by rw [upd_same, em, rgV_rng])⟩
theorem el_rev (ha : EvR te σ H xs) : EvL (tLstRev K te) σ H xs.reverse := fun H1 e Q q =>
  ha H1 e _ fun p H2 e2 hp => ⟨p, xs, rfl, sq_of hp, fun s hs => q s _ (fresh_back e2 hs) (e2.trans (Ex.new hs)) upd_same⟩
theorem cut_to (xs : List V) {k : Int} (h : 0 ≤ k) : cutV xs none (some k) = xs.take k.toNat := by
  obtain ⟨j, rfl⟩ : ∃ j : Nat, k = (j : Int) := ⟨k.toNat, by omega⟩
  unfold cutV
  rw [HT.sIx_nat, HT.sIx_none]
  rw [List.drop_zero, Nat.sub_zero]
  show xs.take (min j xs.length) = xs.take j
  by_cases hj : j ≤ xs.length
  · rw [Nat.min_eq_left hj]
  · rw [List.take_of_length_le (by omega), List.take_of_length_le (by omega)]
theorem cut_from (xs : List V) {k : Int} (h : 0 ≤ k) : cutV xs (some k) none = xs.drop k.toNat := by
  obtain ⟨j, rfl⟩ : ∃ j : Nat, k = (j : Int) := ⟨k.toNat, by omega⟩
  unfold cutV
  rw [HT.sIx_nat, HT.sIx_none]
  show List.take (xs.length - min j xs.length) (List.drop (min j xs.length) xs) = xs.drop j
  by_cases hj : j ≤ xs.length
  · rw [Nat.min_eq_left hj, List.take_of_length_le (by rw [List.length_drop]; omega)]
  · rw [List.drop_of_length_le (by omega), List.drop_of_length_le (by omega), List.take_nil]
theorem el_sl2 {tl th : TO} {lo hi : Option Int} (h : EvR te σ H xs) (h1 : EvO tl σ H lo) (h2 : EvO th σ H hi) : EvL (tSl (rSlL K) te tl th) σ H (cutV xs lo hi) := fun H1 e _ q =>
  h H1 e _ fun a H2 e2 ha => h1 H2 (e.trans e2) _ fun H3 e3 => h2 H3 ((e.trans e2).trans e3) _ fun H4 e4 =>
    ⟨a, xs, rfl, sq_of (e4 _ _ (e3 _ _ ha)), fun p hp => q p _ (fresh_back ((e2.trans e3).trans e4) hp) (((e2.trans e3).trans e4).trans (Ex.new hp)) upd_same⟩
theorem el_take {th : TO} {k : Int} (h : EvR te σ H (ns.map V.int)) (h2 : EvO th σ H (some k)) (hk : 0 ≤ k) : EvL (tSl (rSlL K) te tNoPart th) σ H ((ns.take k.toNat).map V.int) := by
  rw [List.map_take, ← cut_to _ hk]
  exact el_sl2 h eo_none h2
theorem el_drop {tl : TO} {k : Int} (h : EvR te σ H (ns.map V.int)) (h2 : EvO tl σ H (some k)) (hk : 0 ≤ k) : EvL (tSl (rSlL K) te tl tNoPart) σ H ((ns.drop k.toNat).map V.int) := by
  rw [List.map_drop, ← cut_from _ hk]
  exact el_sl2 h h2 eo_none
/-- the one rising list of these ints -/
def srt (ns : List Int) : List Int := ns.mergeSort (fun a b => decide (a ≤ b))
theorem srt_perm (ns : List Int) : (srt ns).Perm ns := List.mergeSort_perm ns _
theorem srt_le (ns : List Int) : (srt ns).Pairwise (· ≤ ·) := by
  have h := List.pairwise_mergeSort (le := fun a b : Int => decide (a ≤ b)) (fun a b c h1 h2 => by simp at *; omega) (fun a b => by simp; omega) ns
  exact h.imp fun h => by simpa using h
theorem srt_one {ns l : List Int} (hp : l.Perm ns) (hs : l.Pairwise (· ≤ ·)) : l = srt ns :=
  (hp.trans (srt_perm ns).symm).eq_of_pairwise (fun a b _ _ h1 h2 => Int.le_antisymm h1 h2) hs (srt_le ns)
theorem srt_rng (ns : List Int) : srt ns = rng ns.length ↔ IsDk ns := isDk_iff (srt_perm ns) (srt_le ns)
theorem el_sorted (ha : EvR ta σ H (ns.map V.int)) : EvL (tCB (rSortedI K) (tCons ta tNil)) σ H ((srt ns).map V.int) := fun H1 e Q q =>
  ha H1 e _ fun a H2 e2 h2 => ⟨a, ns, rfl, sq_of h2, fun ns' p hp hs hn => q p _ (fresh_back e2 hn) (e2.trans (Ex.new hn)) (by rw [upd_same, srt_one hp hs])⟩
/-- isinstance(x, c), c built in -/
theorem ev_isi {T : String} {c : String} {bb : Bool} (ha : Ev ta σ H x) (ty : ∀ H1, Ex H H1 → TyX K H1 x (.type T)) (hk : kitB T c = some bb) : Ev (tCB (rIsi K) (tCons ta (tCons (tC (.ty c)) tNil))) σ H (.bl bb) := fun H1 e Q q =>
  ha H1 e _ fun H2 e2 => ⟨x, .ty c, .type T, .type c, bb, rfl, .ty c, ty H2 (e.trans e2), kit_ty hk, q H2 e2⟩
variable {D : Ends} {tz : TS}
/-- l.append(p.pop(i)) -/
theorem s_appPop {j : Nat} {i : Int} (hl : H l = some (.lst xs)) (hp : H p = some (.lst ys)) (ne : l ≠ p) (ha : Ev ta σ H (.ref l)) (hb : Ev tb σ H (.ref p)) (hi : Ev te σ H (.int i)) (ei : i = (j : Int)) (hj : ys[j]? = some y) (hy : ys.length ≤ 1000) (hz : xs.length < 100000)
    (k : ∀ H1, Ex H H1 → D.nx σ (upd (upd H1 p (.lst (ys.eraseIdx j))) l (.lst (xs ++ [y])))) :
    tDrop (tBM K "list" rAppend ta (tCons (tBM K "list" rPopAt tb (tCons te tNil)) tNil)) D σ H := ha H (Ex.refl H) _ fun H1 e1 =>
  ⟨Or.inl ⟨rfl, xs, sq_of (e1 l _ hl)⟩, hb H1 e1 _ fun H2 e2 => ⟨Or.inl ⟨rfl, ys, sq_of (e2 _ _ (e1 _ _ hp))⟩, hi H2 (e1.trans e2) _ fun H3 e3 => by
    have hlt : j < ys.length := (List.getElem?_eq_some_iff.mp hj).1
    refine ⟨p, ys, i, j, y, rfl, rfl, e3 _ _ (e2 _ _ (e1 _ _ hp)), by omega, by omega, by rw [ei]; exact seqIndex_of (by omega) (by omega), hj, ?_⟩
    exact ⟨l, xs, y, rfl, rfl, by rw [upd_ne ne]; exact e3 _ _ (e2 _ _ (e1 _ _ hl)), sz_lt hz, k H3 ((e1.trans e2).trans e3)⟩⟩⟩
/-- l.remove(k) -/
theorem q_remove {k : Int} {j : Nat} (hl : At H l ns) (ha : Ev ta σ H (.ref l)) (hi : Ev te σ H (.int k)) (hj : ns[j]? = some k) (hno : ∀ m : Nat, m < j → ns[m]? ≠ some k) (c : ∀ H1, Ex H H1 → tz D σ (upd H1 l (.lst ((ns.eraseIdx j).map V.int)))) :
    tSeq (tDrop (tBM K "list" rRemI ta (tCons te tNil))) tz D σ H := ha H (Ex.refl H) _ fun H1 e1 =>
  ⟨Or.inl ⟨rfl, _, sq_of (e1 l _ hl)⟩, hi H1 e1 _ fun H2 e2 => ⟨l, ns, k, j, rfl, rfl, e2 _ _ (e1 _ _ hl), hj, hno, c H2 (e1.trans e2)⟩⟩
end
end Tt
namespace Tt
open PySem PySem.Spec PyProof.Rows L2 Evl
/-! ### an int of which something is known -/
def EvI (te : TE) (σ : L2.St) (H : Hp) (P : Int → Prop) : Prop := ∀ H1, Ex H H1 → ∀ Q : VK, (∀ z H2, Ex H1 H2 → P z → Q (.int z) H2) → te σ H1 Q
section
variable {K : PySem.W.Frag} {σ : L2.St} {H H' : Hp} {ta tb te : TE} {P R : Int → Prop} {i j : Int}
theorem ei_ev (h : Ev te σ H (.int i)) (p : P i) : EvI te σ H P := fun H1 e Q q => h H1 e Q fun H2 e2 => q i H2 e2 p
theorem ei_imp (h : EvI te σ H P) (c : ∀ z, P z → R z) : EvI te σ H R := fun H1 e Q q => h H1 e Q fun z H2 e2 p => q z H2 e2 (c z p)
theorem EvI.mono (e : Ex H H') (h : EvI te σ H P) : EvI te σ H' P := fun H1 a Q q => h H1 (e.trans a) Q q
theorem ei_mod (ha : EvI ta σ H P) (hb : Ev tb σ H (.int j)) (hj : 0 < j) : EvI (tOp (rI (fun _ j => 0 < j) fun i j => .int (i % j)) ta tb) σ H (fun z => 0 ≤ z ∧ z < j) := fun H1 e Q q =>
  ha H1 e _ fun i H2 e2 _ => hb H2 (e.trans e2) _ fun H3 e3 => ⟨i, j, rfl, rfl, hj, q _ H3 (e2.trans e3) ⟨Int.emod_nonneg _ (by omega), Int.emod_lt_of_pos _ hj⟩⟩
theorem ei_fdiv (ha : EvI ta σ H P) (hb : Ev tb σ H (.int j)) (hj : 0 < j) (h2 : j < 1073741824) : EvI (tOp (rI CDivN fun i j => .int (i.fdiv j)) ta tb) σ H (fun _ => True) := fun H1 e Q q =>
  ha H1 e _ fun i H2 e2 _ => hb H2 (e.trans e2) _ fun H3 e3 => ⟨i, j, rfl, rfl, ⟨by omega, by omega⟩, q _ H3 (e2.trans e3) True.intro⟩
theorem ei_op {f : Int → Int → Int} (ha : EvI ta σ H P) (hb : EvI tb σ H R) : EvI (tOp (rI0 fun i j => .int (f i j)) ta tb) σ H (fun z => ∃ x y, P x ∧ R y ∧ z = f x y) := fun H1 e Q q =>
  ha H1 e _ fun i H2 e2 pi => hb H2 (e.trans e2) _ fun j H3 e3 rj => ⟨i, j, rfl, rfl, q _ H3 (e2.trans e3) ⟨i, j, pi, rj, rfl⟩⟩
variable {D : Ends} {tu tw tz : TS}
theorem q_asgI {k : Nat} (h : EvI te σ H P) (c : ∀ z H1, P z → Ex H H1 → tz D (σ.set k (some (.int z))) H1) : tSeq (tAsg te (gName k)) tz D σ H := h H (Ex.refl _) _ fun z H1 e p => c z H1 p e
theorem s_asgI {k : Nat} (h : EvI te σ H P) (c : ∀ z H1, P z → Ex H H1 → D.nx (σ.set k (some (.int z))) H1) : tAsg te (gName k) D σ H := h H (Ex.refl _) _ fun z H1 e p => c z H1 p e
/-- a test of which the answer is either -/
def EvTP (t : TT) (σ : L2.St) (H : Hp) : Prop := ∀ H1, Ex H H1 → ∀ Q : Bool → Hp → Prop, (∀ b H2, Ex H1 H2 → Q b H2) → t σ H1 Q
theorem ep_eq (ha : EvI ta σ H P) (hb : EvI tb σ H R) : EvTP (tTest (tOp rEq ta tb)) σ H := fun H1 e Q q =>
  ha H1 e _ fun i H2 e2 _ => hb H2 (e.trans e2) _ fun j H3 e3 _ => ⟨rfl, _, rfl, q _ H3 (e2.trans e3)⟩
theorem ep_gt (ha : EvI ta σ H P) (hb : EvI tb σ H R) : EvTP (tTest (tOp (rI0 fun i j => .bl (decide (j < i))) ta tb)) σ H := fun H1 e Q q =>
  ha H1 e _ fun i H2 e2 _ => hb H2 (e.trans e2) _ fun j H3 e3 _ => ⟨i, j, rfl, rfl, _, rfl, q _ H3 (e2.trans e3)⟩
theorem q_any {t : TT} (h : EvTP t σ H) (h1 : ∀ H1, Ex H H1 → tu { D with nx := tz D } σ H1) (h2 : ∀ H1, Ex H H1 → tz D σ H1) : tSeq (tIfS t tu tNext) tz D σ H := h H (Ex.refl _) _ fun b H1 e => by
  cases b with
  | true => exact h1 H1 e
  | false => exact h2 H1 e
theorem given_filter (p : Int → Bool) (ms : List Int) : given ms.length (fun i => p (ms.getD i 0)) (fun i => V.int (ms.getD i 0)) = (ms.filter p).map V.int := by
  have e : (List.range ms.length).map (fun i => ms.getD i 0) = ms := by
    refine List.ext_getElem? fun i => ?_
    by_cases hi : i < ms.length
    · rw [List.getElem?_map, List.getElem?_range hi, List.getElem?_eq_getElem hi]
      simp [List.getD_eq_getElem?_getD, List.getElem?_eq_getElem hi]
    · rw [List.getElem?_eq_none (by simp; omega), List.getElem?_eq_none (by omega)]
  unfold given
  have h2 : (ms.filter p) = ((List.range ms.length).filter (p ∘ fun i => ms.getD i 0)).map (fun i => ms.getD i 0) := by
    rw [← List.filter_map, e]
  rw [h2, List.map_map]
  rfl
theorem rv_eqI {i j : Int} : RV rEq (.int i) (.int j) H (.bl (decide (i = j))) := fun H1 _ _ q => ⟨rfl, by
  have e : decide (V.int i = V.int j) = decide (i = j) := by simp
  rw [e]
  exact q H1 (Ex.refl H1)⟩
theorem rv_neI {i j : Int} : RV rNe (.int i) (.int j) H (.bl (!decide (i = j))) := fun H1 _ _ q => ⟨rfl, by
  have e : decide (V.int i = V.int j) = decide (i = j) := by simp
  rw [e]
  exact q H1 (Ex.refl H1)⟩
theorem ei_ix {ns : List Int} (ha : EvR ta σ H (ns.map V.int)) (hb : EvI tb σ H (fun z => 0 ≤ z ∧ z < (ns.length : Int))) : EvI (tOp (rIxL K) ta tb) σ H (fun x => x ∈ ns) := fun H1 e Q q =>
  ha H1 e _ fun p H2 e2 hp => hb H2 (e.trans e2) _ fun i H3 e3 hi => by
    have hlt : i.toNat < ns.length := by omega
    have ei : ns[i.toNat]? = some ns[i.toNat] := List.getElem?_eq_getElem hlt
    exact rv_ix i.toNat (sq_of (e3 _ _ hp)) (by omega) ei H3 (Ex.refl H3) Q fun H4 e4 => q _ H4 ((e2.trans e3).trans e4) (List.mem_of_getElem? ei)
/-- a new list of ints of which something is known -/
def EvLP (te : TE) (σ : L2.St) (H : Hp) (P : List Int → Prop) : Prop := ∀ H1, Ex H H1 → ∀ Q : VK, (∀ p ns H2, H1 p = none → Ex H1 H2 → At H2 p ns → P ns → Q (.ref p) H2) → te σ H1 Q
theorem q_asgLP {k : Nat} {P : List Int → Prop} (h : EvLP te σ H P) (c : ∀ p ns H1, H p = none → Ex H H1 → At H1 p ns → P ns → tz D (σ.set k (some (.ref p))) H1) : tSeq (tAsg te (gName k)) tz D σ H := h H (Ex.refl _) _ fun p ns H1 n e hp pn => c p ns H1 n e hp pn
theorem s_asgLP {k : Nat} {P : List Int → Prop} (h : EvLP te σ H P) (c : ∀ p ns H1, H p = none → Ex H H1 → At H1 p ns → P ns → D.nx (σ.set k (some (.ref p))) H1) : tAsg te (gName k) D σ H := h H (Ex.refl _) _ fun p ns H1 n e hp pn => c p ns H1 n e hp pn
/-- for i in range(n), n not known; the word does not speak of the turn -/
theorem q_forRI {j : Nat} {m : Int} (h : EvI te σ H (fun z => 0 ≤ z ∧ z < m)) (hm : m ≤ 100000) (Pv : L2.St → Hp → Prop) (h0 : ∀ H1, Ex H H1 → Pv σ H1)
    (hs : ∀ (i : Nat) σ' H', (i : Int) < m → Pv σ' H' → tu { D with nx := Pv, ct := Pv, bk := tz D } (σ'.set j (some (.int (i : Int)))) H') (hd : ∀ σ' H', Pv σ' H' → tz D σ' H') : tSeq (tFor (iRng1 (tCons te tNil)) (gName j) tu) tz D σ H :=
  h H (Ex.refl H) _ fun z H1 e hz => ⟨z, rfl, by omega, by omega, for_range (lo := 0) (n := z.toNat) (fun _ => Pv) (h0 H1 e) (fun i σ' H' hi p => by
    have e0 : (0 : Int) + (i : Int) = (i : Int) := Int.zero_add _
    show tu { D with nx := Pv, ct := Pv, bk := tz D } (σ'.set j (some (.int ((0 : Int) + (i : Int))))) H'
    rw [e0]
    exact hs i σ' H' (by omega) p) fun σ' H' p => hd σ' H' p⟩
/-- a list is stored anew, perhaps -/
theorem q_maybe {k : Nat} {P : List Int → Prop} {t : TT} {p0 : Addr} {ns0 : List Int} (h : EvTP t σ H) (h1 : EvLP te σ H P) (hσ : σ.set k (some (.ref p0)) = σ) (h0 : At H p0 ns0) (hP : P ns0) (c : ∀ p ns H1, Ex H H1 → At H1 p ns → P ns → tz D (σ.set k (some (.ref p))) H1) :
    tSeq (tIfS t (tAsg te (gName k)) tNext) tz D σ H :=
  q_any h (fun H1 e1 => s_asgLP (D := { D with nx := tz D }) (fun H2 e2 Q q => h1 H2 (e1.trans e2) Q q) fun p ns H2 _ e2 hp pn => c p ns H2 (e1.trans e2) hp pn) (fun H1 e1 => by
    have g := c p0 ns0 H1 e1 (e1 _ _ h0) hP
    rw [hσ] at g
    exact g)
theorem ei_c {i : Int} : EvI (tC (.int i)) σ H (fun z => z = i) := ei_ev ev_c rfl
theorem EvLP.imp {P R : List Int → Prop} (h : EvLP te σ H P) (c : ∀ z, P z → R z) : EvLP te σ H R := fun H1 e Q q => h H1 e Q fun p ns H2 n e2 hp pn => q p ns H2 n e2 hp (c ns pn)
/-- an item of a list is an int -/
theorem int_item {ns : List Int} {i : Nat} {y : V} (h : (ns.map V.int)[i]? = some y) : ∃ c, ns[i]? = some c ∧ y = V.int c := by
  rw [List.getElem?_map] at h
  cases e : ns[i]? with
  | none => rw [e] at h; cases h
  | some c => rw [e] at h; exact ⟨c, rfl, (Option.some.inj h).symm⟩
theorem upd_at {p b : Addr} {o u : HO} (h : H b = some u) (ne : b ≠ p) : (upd H p o) b = some u := by
  rw [upd_ne ne]
  exact h
/-- a call of one argument that is a list, new or not -/
theorem el_call1R {sp : Sp} {E : XK} {xs ys : List V} (h : EvR te σ H xs) (hs : ∀ p H1, Ex H H1 → H1 p = some (.lst xs) → SpL sp [.ref p] H1 ys) : EvL (tCall sp [] E (tCons te tNil)) σ H ys := fun H1 e Q q =>
  h H1 e _ fun p H2 e2 hp => hs p H2 (e.trans e2) hp H2 (Ex.refl _) Q (fun r H3 nr e3 hr => q r H3 (fresh_back e2 nr) (e2.trans e3) hr) E
theorem ev_call1R {sp : Sp} {E : XK} {xs : List V} {z : V} (h : EvR te σ H xs) (hs : ∀ p H1, Ex H H1 → H1 p = some (.lst xs) → SpV sp [.ref p] H1 z) : Ev (tCall sp [] E (tCons te tNil)) σ H z := fun H1 e Q q =>
  h H1 e _ fun p H2 e2 hp => hs p H2 (e.trans e2) hp H2 (Ex.refl _) Q (fun H3 e3 => q H3 (e2.trans e3)) E
theorem el_call2R {sp : Sp} {E : XK} {xs ys zs : List V} (h : EvR ta σ H xs) (h2 : EvR tb σ H ys) (hs : ∀ p q H1, Ex H H1 → H1 p = some (.lst xs) → H1 q = some (.lst ys) → SpL sp [.ref p, .ref q] H1 zs) : EvL (tCall sp [] E (tCons ta (tCons tb tNil))) σ H zs := fun H1 e Q q =>
  h H1 e _ fun p H2 e2 hp => h2 H2 (e.trans e2) _ fun r H3 e3 hr => hs p r H3 ((e.trans e2).trans e3) (e3 _ _ hp) hr H3 (Ex.refl _) Q (fun x H4 nx e4 hx => q x H4 (fresh_back (e2.trans e3) nx) ((e2.trans e3).trans e4) hx) E
/-- for x in reversed(xs) -/
theorem q_forRev {a : Addr} {xs : List V} {j : Nat} (h : Ev ta σ H (.ref a)) (hx : SqL K H a xs) (Pv : Nat → L2.St → Hp → Prop) (h0 : ∀ H1, Ex H H1 → Pv 0 σ H1) (hl : ∀ i σ' H', Pv i σ' H' → SqL K H' a xs)
    (hs : ∀ i x σ' H', i < xs.length → xs[xs.length - 1 - i]? = some x → Pv i σ' H' → tu { D with nx := Pv (i + 1), ct := Pv (i + 1), bk := tz D } (σ'.set j (some x)) H') (hd : ∀ σ' H', Pv xs.length σ' H' → tz D σ' H') : tSeq (tFor (iRev K (tCons ta tNil)) (gName j) tu) tz D σ H :=
  h H (Ex.refl H) _ fun H1 e => ⟨a, xs, rfl, ex_l e hx, RT.for_Itv (D := { D with nx := tz D }) Pv (h0 H1 e) hl hs hd⟩
theorem et_yes {σ : L2.St} {H : Hp} : EvT tYes σ H true := fun H1 _ Q q => q H1 (Ex.refl H1)
theorem given_int (n : Nat) (g : Nat → Int) : given n (fun _ => true) (fun i => V.int (g i)) = ((List.range n).map g).map V.int := by
  unfold given
  rw [List.filter_eq_self.mpr (fun _ _ => rfl), List.map_map]
  rfl
theorem range_getD {α : Type} (l : List α) (d : α) : (List.range l.length).map (fun i => l.getD i d) = l := by
  refine List.ext_getElem? fun i => ?_
  by_cases hi : i < l.length
  · rw [List.getElem?_map, List.getElem?_range hi, List.getElem?_eq_getElem hi]
    simp [List.getD_eq_getElem?_getD, List.getElem?_eq_getElem hi]
  · rw [List.getElem?_eq_none (by simp; omega), List.getElem?_eq_none (by omega)]
theorem at_nat {α : Type} {xs : List α} {j : Nat} {x : α} (h : xs[j]? = some x) : atI xs (j : Int) = some x := by
  have hj := (List.getElem?_eq_some_iff.mp h).1
  unfold atI
  rw [ixN_nat hj]
  exact h
/-- a list of ints of which something is known, new or not -/
def EvRP (te : TE) (σ : L2.St) (H : Hp) (P : List Int → Prop) : Prop := ∀ H1, Ex H H1 → ∀ Q : VK, (∀ p ns H2, Ex H1 H2 → At H2 p ns → P ns → Q (.ref p) H2) → te σ H1 Q
theorem EvRP.ofR {ns : List Int} (h : EvR te σ H (ns.map V.int)) : EvRP te σ H (fun l => l = ns) := fun H1 e Q q => h H1 e Q fun p H2 e2 hp => q p ns H2 e2 hp rfl
theorem EvRP.ofL {P : List Int → Prop} (h : EvLP te σ H P) : EvRP te σ H P := fun H1 e Q q => h H1 e Q fun p ns H2 _ e2 hp pn => q p ns H2 e2 hp pn
theorem EvLP.ofL {P : List Int → Prop} {ns : List Int} (h : EvL te σ H (ns.map V.int)) (hP : P ns) : EvLP te σ H P := fun H1 e Q q => h H1 e Q fun p H2 np e2 hp => q p ns H2 np e2 hp hP
theorem elp_cat {P R : List Int → Prop} (ha : EvRP ta σ H P) (hb : EvRP tb σ H R) (hz : ∀ ns ms, P ns → R ms → ns.length + ms.length ≤ 100000) : EvLP (tOp rCat ta tb) σ H (fun l => ∃ ns ms, P ns ∧ R ms ∧ l = ns ++ ms) := fun H1 e Q q =>
  ha H1 e _ fun p ns H2 e2 hp pn => hb H2 (e.trans e2) _ fun r ms H3 e3 hr pm => by
    refine ⟨p, r, ns.map V.int, ms.map V.int, rfl, rfl, e3 _ _ hp, hr, sz_of (by rw [List.length_map, List.length_map]; exact hz ns ms pn pm), fun s hs => ?_⟩
    rw [← List.map_append]
    exact q s (ns ++ ms) _ (fresh_back (e2.trans e3) hs) ((e2.trans e3).trans (Ex.new hs)) upd_same ⟨ns, ms, pn, pm, rfl⟩
theorem elp3 {tc : TE} {P R S : Int → Prop} (ha : EvI ta σ H P) (hb : EvI tb σ H R) (hc : EvI tc σ H S) : EvLP (tLst (tCons ta (tCons tb (tCons tc tNil)))) σ H (fun l => l.length = 3) := fun H1 e Q q =>
  ha H1 e _ fun i H2 e2 _ => hb H2 (e.trans e2) _ fun j H3 e3 _ => hc H3 ((e.trans e2).trans e3) _ fun k H4 e4 _ => ⟨by show 3 ≤ sizeLine; decide, fun p hp => q p [i, j, k] _ (fresh_back ((e2.trans e3).trans e4) hp) (((e2.trans e3).trans e4).trans (Ex.new hp)) upd_same rfl⟩
theorem ei_ixP {P : List Int → Prop} {R : Int → Prop} (ha : EvRP ta σ H P) (hb : EvI tb σ H R) (hi : ∀ ns z, P ns → R z → 0 ≤ z ∧ z < (ns.length : Int)) : EvI (tOp (rIxL K) ta tb) σ H (fun _ => True) := fun H1 e Q q =>
  ha H1 e _ fun p ns H2 e2 hp pn => hb H2 (e.trans e2) _ fun i H3 e3 ri => by
    obtain ⟨i0, i1⟩ := hi ns i pn ri
    have hlt : i.toNat < ns.length := by omega
    have ei : ns[i.toNat]? = some ns[i.toNat] := List.getElem?_eq_getElem hlt
    exact rv_ix i.toNat (sq_of (e3 _ _ hp)) (by omega) ei H3 (Ex.refl H3) Q fun H4 e4 => q _ H4 ((e2.trans e3).trans e4) True.intro
theorem ei_fdivP {P : Int → Prop} {j : Int} (ha : EvI ta σ H P) (hb : Ev tb σ H (.int j)) (hj : 0 < j) (h2 : j < 1073741824) : EvI (tOp (rI CDivN fun i j => .int (i.fdiv j)) ta tb) σ H (fun z => ∃ x, P x ∧ z = x.fdiv j) := fun H1 e Q q =>
  ha H1 e _ fun i H2 e2 pi => hb H2 (e.trans e2) _ fun H3 e3 => ⟨i, j, rfl, rfl, ⟨by omega, by omega⟩, q _ H3 (e2.trans e3) ⟨i, pi, rfl⟩⟩
/-- a list times a number of which something is known -/
theorem elp_rep {x : Int} {R : Int → Prop} (ha : Ev ta σ H (.int x)) (hb : EvI tb σ H R) (hR : ∀ z, R z → 0 ≤ z ∧ z ≤ 100) : EvLP (tOp rRep (tLst (tCons ta tNil)) tb) σ H (fun l => l.length ≤ 100) := fun H1 e Q q =>
  ha H1 e _ fun H2 e2 => ⟨by show 1 ≤ sizeLine; decide, fun p hp => hb _ ((e.trans e2).trans (Ex.new hp)) _ fun k H3 e3 rk => by
    obtain ⟨k0, k1⟩ := hR k rk
    have ex : Ex H1 H3 := (e2.trans (Ex.new hp)).trans e3
    refine ⟨p, k, [.int x], rfl, rfl, e3 _ _ upd_same, by omega, by omega, sz_of (by rw [List.length_singleton]; omega), fun r hr => ?_⟩
    have e0 : (List.replicate k.toNat [V.int x]).flatten = (List.replicate k.toNat x).map V.int := by
      generalize k.toNat = n
      induction n with
      | zero => rfl
      | succ n ih => rw [List.replicate_succ, List.replicate_succ, List.flatten_cons, ih]; rfl
    refine q r (List.replicate k.toNat x) _ (fresh_back ex hr) (ex.trans (Ex.new hr)) ?_ (by show (List.replicate k.toNat x).length ≤ 100; rw [List.length_replicate]; omega)
    show upd _ _ _ _ = _
    rw [upd_same, e0]⟩
/-- an if without else, both ways coming to Inv -/
theorem q_two {D : Ends} {tu tz : TS} {t : TT} (M : L2.St → Hp → Prop) (h : EvTP t σ H) (h1 : ∀ N : L2.St → Hp → Prop, (∀ σ' H', M σ' H' → N σ' H') → ∀ H1, Ex H H1 → tu { D with nx := N } σ H1) (h2 : ∀ H1, Ex H H1 → M σ H1) (k : ∀ σ' H', M σ' H' → tz D σ' H') :
    tSeq (tIfS t tu tNext) tz D σ H := q_any h (fun H1 e1 => h1 (tz D) k H1 e1) (fun H1 e1 => k _ _ (h2 H1 e1))
theorem rv_isN {x : V} : RV (fun x y H Q => y = .non ∧ Q (.bl (decide (x = .non))) H) x .non H (.bl (decide (x = .non))) := fun H1 _ _ q => ⟨rfl, q H1 (Ex.refl H1)⟩
theorem q_maybeF {D : Ends} {tz : TS} {k : Nat} {P : List Int → Prop} {t : TT} {p0 : Addr} {ns0 : List Int} (h : EvTP t σ H) (h1 : EvLP te σ H P) (hσ : σ.set k (some (.ref p0)) = σ) (h0 : At H p0 ns0) (hP : P ns0) (c : ∀ p ns H1, Ex H H1 → At H1 p ns → P ns → (p = p0 ∨ H p = none) → tz D (σ.set k (some (.ref p))) H1) :
    tSeq (tIfS t (tAsg te (gName k)) tNext) tz D σ H :=
  q_any h (fun H1 e1 => s_asgLP (D := { D with nx := tz D }) (fun H2 e2 Q q => h1 H2 (e1.trans e2) Q q) fun p ns H2 np e2 hp pn => c p ns H2 (e1.trans e2) hp pn (Or.inr (fresh_back e1 np))) (fun H1 e1 => by
    have g := c p0 ns0 H1 e1 (e1 _ _ h0) hP (Or.inl rfl)
    rw [hσ] at g
    exact g)
end
end Tt

/-! Errors: a def that may raise; a def that is asked of the caught error. -/
namespace Tt
open PySem PySem.Spec PyProof.Rows L2 L2H Evl
/-- nothing is let out -/
theorem passN {X : Cx} : Passes (L2N.CX X.prog X.w) X E0 := fun _ _ _ _ _ _ _ c => by
  obtain ⟨_, _, _, _, _, _, _, _, _, _, _, _, f⟩ := c
  cases f
theorem takes0 {X : Cx} : L2.Takes X (fun _ _ _ _ => False) := fun _ _ x => by
  obtain ⟨_, _, _, _, _, _, _, _, _, _, _, _, _, _, _, _, f⟩ := x
  cases f
theorem takesN0 {X : Cx} : L2N.Takes X (fun _ _ _ _ => False) := fun _ _ x => by
  obtain ⟨_, _, _, _, _, _, _, _, _, _, _, _, _, _, _, _, f⟩ := x
  cases f
section
variable {P : Program} {w : World} {K : PySem.W.Frag} {mg : Str → Option Value} {base : Heap}
/-- a def of the text that may raise -/
theorem okN {x qual : Str} {st : Stmt} {f : Addr} {fd : FuncData} {N ps : List Str} {k : Nat} {sp : Sp} (F : Fun K x qual st f fd) (S : FnScope N ps (defScope st)) (len : ∀ vs H Q E, sp vs H Q E → vs.length = ps.length)
    (body : ∀ (cdv : Value) (AA : Around) (outer : List Env) (s : Shared) (H : Hp) (vs : List V) (Q : VK) (E : XK), Room k (AA.deeper (envOfC qual (defScope st) s.heap.objs.size f cdv)) → sp vs H Q E →
      ∃ t, PSs (cxOf (L2N.CX P w) P w K mg base N qual (defScope st) f cdv AA outer s H E) (defBody st) t ∧ t { nx := fun _ H' => Q .non H', rt := Q } (start N vs) H) : FnOk P w K mg base (L2N.CX P w) (k + 1) f fd ps sp := by
  obtain ⟨oc, od, kV, doc, pm, an, cdv, ct, osl, rfl, lk, hcd⟩ := F.ex
  exact fn_of lk hcd S len fun AA outer s H vs Q E hr hsp => body cdv AA outer s H vs Q E hr hsp

/-! ### a def that is handed the caught error: its promise may speak of it -/
abbrev SpE := Addr → Value → Option Addr → Sp
structure FnE (P : Program) (w : World) (K : PySem.W.Frag) (mg : Str → Option Value) (base : Heap) (k : Nat) (f : Addr) (fd : FuncData) (ps : List Str) (sp : SpE) : Prop where
  len : ∀ a c d vs H Q E, sp a c d vs H Q E → vs.length = ps.length
  run : ∀ (AA : Around) (outer : List Env) (s : Shared) (H : Hp) (args : Args) (us : List Value) (vs : List V) (Q : VK) (E : XK) (p : Addr × Obj) (c : Value) (d : Option Addr), RoomH k AA → Hot1 AA p → L2N.Zn c d p.2 → PinOk outer H s p → Env0 P w K mg base AA outer s H →
    BindsTo s fd args (ps.zip us) → Vals vs us → sp p.1 c d vs H Q E → codeAny (model P w) AA (.call (.ref f) args) (CR CX0 outer P w H s Q E) s
/-- such a def, by its body -/
theorem okE {x qual : Str} {st : Stmt} {f : Addr} {fd : FuncData} {N ps : List Str} {k : Nat} {sp : SpE} (F : Fun K x qual st f fd) (S : FnScope N ps (defScope st)) (len : ∀ a c d vs H Q E, sp a c d vs H Q E → vs.length = ps.length)
    (body : ∀ (cdv : Value) (AA : Around) (outer : List Env) (s : Shared) (H : Hp) (vs : List V) (Q : VK) (E : XK) (p : Addr × Obj) (c : Value) (d : Option Addr), Hot1 AA p → L2N.Zn c d p.2 → RoomH k (AA.deeper (envOfC qual (defScope st) s.heap.objs.size f cdv)) → sp p.1 c d vs H Q E →
      ∃ t, PSs (cxH CX0 P w K mg base N qual (defScope st) f cdv AA outer s H E p) (defBody st) t ∧ t { nx := fun _ H' => Q .non H', rt := Q } (start N vs) H) : FnE P w K mg base (k + 1) f fd ps sp := by
  obtain ⟨oc, od, kV, doc, pm, an, cdv, ct, osl, rfl, lk, hcd⟩ := F.ex
  refine ⟨len, fun AA outer s H args us vs Q E p c d hr hot hz hpin e0 hb r hsp => ?_⟩
  -- the promise at this very error, as a promise of the layer's own kind
  let sp1 : Sp := fun vs H Q E => sp p.1 c d vs H Q E
  refine (fn_ofP lk hcd S (sp := sp1) (p := p) (fun vs H Q E h => len _ _ _ vs H Q E h) fun AA outer s H vs Q E hot hr h => body cdv AA outer s H vs Q E p c d hot hz hr h) AA outer s H args us vs Q E hr hot hpin e0 hb r hsp
where
  fn_ofP {name qual : Str} {params : Arguments} {body : List Stmt} {scope : Scope} {dV kV doc pm cdv ct oc : Value} {an od : Option Addr} {f : Addr} {k : Nat} {osl : Array (Option Value)} {N ps : List Str} {sp : Sp} {p : Addr × Obj} (lk : K.lookup f = some ⟨oc, od, .func (PySem.W.fnOf name qual params body scope dV kV doc pm an cdv ct), osl⟩) (hcd : PySem.W.codeIn K cdv qual = true) (S : FnScope N ps scope)
    (len : ∀ vs H Q E, sp vs H Q E → vs.length = ps.length)
    (hbody : ∀ (AA : Around) (outer : List Env) (s : Shared) (H : Hp) (vs : List V) (Q : VK) (E : XK), Hot1 AA p → RoomH k (AA.deeper (envOfC qual scope s.heap.objs.size f cdv)) → sp vs H Q E →
      ∃ t, PSs (cxH CX0 P w K mg base N qual scope f cdv AA outer s H E p) body t ∧ t { nx := fun _ H' => Q .non H', rt := Q } (start N vs) H) :
    ∀ (AA : Around) (outer : List Env) (s : Shared) (H : Hp) (args : Args) (us : List Value) (vs : List V) (Q : VK) (E : XK), RoomH (k + 1) AA → Hot1 AA p → PinOk outer H s p → Env0 P w K mg base AA outer s H → BindsTo s (PySem.W.fnOf name qual params body scope dV kV doc pm an cdv ct) args (ps.zip us) → Vals vs us → sp vs H Q E →
      codeAny (model P w) AA (.call (.ref f) args) (CR CX0 outer P w H s Q E) s := by
    intro AA outer s H args us vs Q E hr hot hpin e0 hb r hsp
    have hl := len _ _ _ _ hsp
    have KX : K.In s.heap := e0.mod.kin.keeps fun b o e => (e0.bs b o e).1
    have lim : s.heap.NoLimit := e0.mod.nolimit.keeps fun b o e => (e0.bs b o e).1
    have kinds : ∀ y ∈ ps.zip us, scope.names.lookup y.1 = some .local ∨ (scope.names.lookup y.1 = some .cell ∧ ((cellsFrom (s.heap.objs.size + 1) scope.names []).lookup y.1).isSome = true) := by
      intro y hy
      obtain ⟨n, v⟩ := y
      rcases S.par n (List.of_mem_zip hy).1 with h | h
      · exact Or.inl h
      · exact Or.inr ⟨h, PySem.W.cellsFrom_some _ _ _ (Or.inl h)⟩
    refine codeAny_call_function hr.depth (KX _ _ lk) rfl S.co S.gen rfl (PySem.W.codeRec_of KX hcd) (hb _ _ _ _ ?_)
    refine wpAny_newFunctionEnv_cells S.kind kinds fun env he s1 x => ?_
    subst he
    refine ⟨lim.keeps x.toInCall.keep, codeAny_func ?_⟩
    obtain ⟨t, ht, hq⟩ := hbody AA outer s H vs Q E hot (hr.deeper _) hsp
    have I := inv_startH (CX := CX0) (E := E) (qual := qual) (f := f) (cd := cdv) S hpin e0 hl r x
    refine wpAny_mono (ht.run [] s1 _ H _ I hq) (fun fl s' hs => ?_) fun e s' hs => hs
    match fl, hs with
    | .ret u, ⟨v, σ', H', J, rv, q⟩ => exact ⟨v, H', J.os, J.bare, J.base, J.hok, rv, q⟩
    | .next, ⟨σ', H', J, q⟩ => exact ⟨V.non, H', J.os, J.bare, J.base, J.hok, rfl, q⟩
    | .brk, ⟨_, _, _, q⟩ => exact q.elim
    | .cont, ⟨_, _, _, q⟩ => exact q.elim
end
/-- its call in the suite that holds the error -/
def tCallE (sp : SpE) (a : Addr) (c : Value) (d : Option Addr) (t : TA) : TE := fun σ H Q => t σ H fun vs H1 => sp a c d vs H1 Q E0
theorem pe_callE {X : Cx} {k : Nat} {f : Addr} {fd : FuncData} {ps : List Str} {sp : SpE} {x : Str} {q pos : Pos} {e : Expr} {es : List Expr} {t : TA} {a : Addr} {oe : Obj} {c : Value} {d : Option Addr} (F : FnE X.prog X.w X.K X.mg X.base k f fd ps sp) (hr : RoomH k X.A) (hot : Hot1 X.A (a, oe)) (hp : (a, oe) ∈ X.pn) (hz : L2N.Zn c d oe)
    (hg : Gl X x) (hm : X.mg x = some (.ref f)) (hk : PySem.W.keepIn X.K (.ref f) = true) (hb : Binds X.K fd ps []) (ha : PA X (e :: es) t)
    (hdb : (x == ("__debug__" : Str)) = false := by decide) (he : starEach (e :: es) X.env = (false, eval e X.env) :: starEach es X.env := by rfl) (hpl : (backTo pos (starEach es X.env)).any (·.1) = false := by rfl) :
    PE X (.Call (.Name x q) (e :: es) [] pos) (tCallE sp a c d t) := by
  refine ⟨fun pins s σ H Q I h => ?_⟩
  refine wpAny_Call_Name_kw (ld_glob I hg hm ?_ hdb)
  refine PySem.W.callWith_K (h₀ := X.base) I.ok.mod.kin hk (thn (ha.run pos pins s σ H _ I h) fun us s1 ⟨vs, H1, I1, r, hsp⟩ => ⟨I1.kIn, ?_⟩) he hpl
  have hl : us.length = ps.length := by rw [← r.length]; exact F.len _ _ _ _ _ _ _ hsp
  have b := hb s1 us I1.kIn (by rw [List.append_nil]; exact hl)
  rw [List.append_nil] at b
  have P1 := I1.pin (a, oe) (List.mem_append_left _ hp)
  have hpin : PinOk X.stack H1 s1 (a, oe) := ⟨P1.1, P1.2.1, fun hm => (List.mem_cons.mp (I1.stkSub a hm)).elim P1.2.2.1 P1.2.2.2.1, P1.2.2.2.2⟩
  refine wpAny_call (codeAny_mono (F.run X.A X.stack s1 H1 ⟨us, []⟩ us vs Q E0 (a, oe) c d hr hot hz hpin I1.env0 b r hsp) fun r s' hq => ?_)
  match r, hq with
  | .error e, hq => exact hq.elim
  | .ok (.ret u), hq => exact I1.after hq
  | .ok .next, hq => exact hq.elim
  | .ok .brk, hq => exact hq.elim
  | .ok .cont, hq => exact hq.elim
/-- isinstance of the error that the context holds -/
theorem call_isP {X : Cx} {D : Addr} {p : Addr × Obj} (hp : p ∈ X.pn) (C : ExcC X.K D) (hz : L2N.Zn (.ref D) none p.2) (hf : ∃ vs, p.2.data = .fields vs) : CallR X (.builtin "isinstance") (rIsE X.K D p.1) := by
  intro pins s σ H xs us Q I r h
  obtain ⟨c, cv, b, rfl, hcv, e, q⟩ := h
  match us, r with
  | [u1, u2], .cons rx (.cons rt .nil) =>
    cases rx
    cases hcv _ rt
    have hget := (I.pin p (List.mem_append_left _ hp)).1
    obtain ⟨vs, hv⟩ := hf
    have J : PySem.W.InstAt s.heap p.1 p.2 D none := by
      obtain ⟨a, oc, od, oda, osl⟩ := p
      obtain ⟨h1, h2, _⟩ := hz
      dsimp only at h1 h2 hv hget
      subst h1 h2 hv
      exact ⟨hget, rfl, rfl, trivial⟩
    exact PySem.W.kia_one (PySem.W.handS_kitx_exc C.hg C.hk C.hs C.hd C.ha C.hn C.ht C.hm) I.kIn J e (fun z => nomatch z) fun tk => ⟨.bl b, H, I.kept (t' := tk) fun _ _ z => z, rfl, q⟩
/-! ### which errors an error is -/
theorem kit_own {K : PySem.W.Frag} {D C : Addr} {b : Bool} (i : PySem.W.isClsIn K C = true) (t : PySem.W.typeIn K (.ref C) = some (.type "type")) (s : PySem.W.subIn K (.ref D) (.ref C) = some b) (ne : D ≠ C) : PySem.W.kitOne K (.ref D) (.ref C) = some b := by
  have e0 : ¬ (Value.ref D == Value.ref C) = true := fun z => ne (Value.ref.inj (beq_iff_eq.mp z))
  have e2 : ((PySem.W.clsIn K C).isSome && PySem.W.typeIn K (.ref C) == some (.type "type")) = true := by
    have i' : (PySem.W.clsIn K C).isSome = true := i
    rw [i', t]
    rfl
  unfold PySem.W.kitOne
  rw [if_neg e0]
  show (if ((PySem.W.clsIn K C).isSome && PySem.W.typeIn K (.ref C) == some (.type "type")) = true then PySem.W.subIn K (.ref D) (.ref C) else none) = some b
  rw [if_pos e2]
  exact s
theorem kit_self {K : PySem.W.Frag} {D : Addr} : PySem.W.kitOne K (.ref D) (.ref D) = some true := by
  unfold PySem.W.kitOne
  rw [if_pos (beq_self_eq_true _)]
theorem kit_blt {K : PySem.W.Frag} {D : Addr} {T : String} {b : Bool} (m : PySem.W.kitMeta T = true) (s : PySem.W.subIn K (.ref D) (.type T) = some b) : PySem.W.kitOne K (.ref D) (.type T) = some b := by
  unfold PySem.W.kitOne
  rw [if_neg (fun z => by have := beq_iff_eq.mp z; cases this)]
  show (if PySem.W.kitMeta T = true then PySem.W.subIn K (.ref D) (.type T) else none) = some b
  rw [if_pos m]
  exact s
theorem ne_by_sub {K : PySem.W.Frag} {D C : Addr} (s : PySem.W.subIn K (.ref D) (.ref C) = some false) (t : PySem.W.subIn K (.ref D) (.ref D) = some true) : D ≠ C := fun z => by
  rw [← z, t] at s
  cases s
theorem kit_not {K : PySem.W.Frag} {D C : Addr} (i : PySem.W.isClsIn K C = true) (t : PySem.W.typeIn K (.ref C) = some (.type "type")) (s : PySem.W.subIn K (.ref D) (.ref C) = some false) (r : PySem.W.subIn K (.ref D) (.ref D) = some true) : PySem.W.kitOne K (.ref D) (.ref C) = some false := kit_own i t s (ne_by_sub s r)
/-- what the top says of a class of errors -/
structure ErrF (K : PySem.W.Frag) (mg : Str → Option Value) (x : Str) (C : Addr) : Prop where
  g : mg x = some (.ref C)
  k : PySem.W.keepIn K (.ref C) = true
  x : PySem.W.excIn K C [.type "ValueError", .type "Exception", .type "BaseException", .type "object"] "ValueError.__new__" = true
  b : PySem.W.subIn K (.ref C) (.type "BaseException") = some true
  v : PySem.W.subIn K (.ref C) (.type "ValueError") = some true
  t : PySem.W.typeIn K (.ref C) = some (.type "type")
  i : PySem.W.isClsIn K C = true
  s : PySem.W.subIn K (.ref C) (.ref C) = some true
  e : ExcC K C
theorem ErrF.raises {K : PySem.W.Frag} {mg : Str → Option Value} {x : Str} {C : Addr} {X : Cx} (F : ErrF K mg x C) (h : X.K = K) : Raises X (.ref C) := raises_own (by rw [h]; exact F.b) (by rw [h]; exact F.t)
structure ClsF (K : PySem.W.Frag) (mg : Str → Option Value) (x : Str) (C : Addr) : Prop where
  g : mg x = some (.ref C)
  i : PySem.W.isClsIn K C = true
  t : PySem.W.typeIn K (.ref C) = some (.type "type")
theorem roomH_at {k : Nat} {A B : Around} (r : Room k A) (e1 : B.depth = A.depth) (e2 : B.units = A.units) : RoomH k B := ⟨by rw [e1]; exact r.dp, by rw [e2]; exact r.un⟩
theorem hot_at {A : Around} {a : Addr} {oe : Obj} {c : Value} {d : Option Addr} (h : A.handled = some (.ref a)) (hz : L2N.Zn c d oe) (hf : ∃ vs, oe.data = .fields vs) : Hot1 A (a, oe) :=
  ⟨h, let ⟨vs, e⟩ := hf; ⟨vs, e, hz.2.2 vs e⟩⟩
/-- a list of bools, new -/
theorem ev_neB {K : PySem.W.Frag} {σ : L2.St} {H : Hp} {ta tb : TE} {bs cs : List Bool} (ha : EvR ta σ H (bs.map V.bl)) (hb : EvR tb σ H (cs.map V.bl)) : Ev (tOp (rNeD K) ta tb) σ H (.bl (!decide (bs = cs))) := fun H1 e Q q =>
  ha H1 e _ fun p H2 e2 hp => hb H2 (e.trans e2) _ fun r H3 e3 hr =>
    ⟨dB bs, dB cs, Dp.bools (sq_of (e3 _ _ hp)), Dp.bools (sq_of hr), Dat.bool.list.shaped (by decide) bs, Dat.bool.list.shaped (by decide) cs, by rw [Dat.bool.list.eq]; exact q H3 (e2.trans e3)⟩
theorem ev_eqB {K : PySem.W.Frag} {σ : L2.St} {H : Hp} {ta tb : TE} {bs cs : List Bool} (ha : EvR ta σ H (bs.map V.bl)) (hb : EvR tb σ H (cs.map V.bl)) : Ev (tOp (rEqD K) ta tb) σ H (.bl (decide (bs = cs))) := fun H1 e Q q =>
  ha H1 e _ fun p H2 e2 hp => hb H2 (e.trans e2) _ fun r H3 e3 hr =>
    ⟨dB bs, dB cs, Dp.bools (sq_of (e3 _ _ hp)), Dp.bools (sq_of hr), Dat.bool.list.shaped (by decide) bs, Dat.bool.list.shaped (by decide) cs, by rw [Dat.bool.list.eq]; exact q H3 (e2.trans e3)⟩
/-- isinstance(e, C), as a value -/
theorem ev_isE {K : PySem.W.Frag} {σ : L2.St} {H : Hp} {ta : TE} {D a : Addr} {c : V} {cv : Value} {b : Bool} (ha : Ev ta σ H (.ref a)) (hc : ∀ u, RelV c u → u = cv) (k : PySem.W.kitOne K (.ref D) cv = some b) : Ev (tCB (rIsE K D a) (tCons ta (tCons (tC c) tNil))) σ H (.bl b) := fun H1 e Q q =>
  ha H1 e _ fun H2 e2 => ⟨c, cv, b, rfl, hc, k, q H2 e2⟩
end Tt

namespace Tt
open PySem PySem.Spec PyProof.Rows L2 Evl L2H
/-! ### the text by places -/
def topS (i : Nat) : Stmt := PySem.Challenge.pw_topturn_k15_each_refusal_its_own.main.body.getD i (.Pass ⟨0, 0, 0, 0⟩)
abbrev s_ask : Stmt := topS 11
abbrev N_ask : List Str := ["deck"]
theorem sc_ask : FnScope N_ask ["deck"] (defScope s_ask) := ⟨rfl, rfl, rfl, by decide +kernel, rfl, by decide +kernel, by decide +kernel⟩
abbrev s_turned : Stmt := topS 13
abbrev N_turned : List Str := ["deck"]
theorem sc_turned : FnScope N_turned ["deck"] (defScope s_turned) := ⟨rfl, rfl, rfl, by decide +kernel, rfl, by decide +kernel, by decide +kernel⟩
abbrev s_tops : Stmt := topS 15
abbrev N_tops : List Str := ["deck"]
theorem sc_tops : FnScope N_tops ["deck"] (defScope s_tops) := ⟨rfl, rfl, rfl, by decide +kernel, rfl, by decide +kernel, by decide +kernel⟩
abbrev s_end : Stmt := topS 16
abbrev N_end : List Str := ["deck"]
theorem sc_end : FnScope N_end ["deck"] (defScope s_end) := ⟨rfl, rfl, rfl, by decide +kernel, rfl, by decide +kernel, by decide +kernel⟩
abbrev s_weight : Stmt := topS 17
abbrev N_weight : List Str := ["deck", "found", "worth", "k"]
theorem sc_weight : FnScope N_weight ["deck"] (defScope s_weight) := ⟨rfl, rfl, rfl, by decide +kernel, rfl, by decide +kernel, by decide +kernel⟩
abbrev s_aheads : Stmt := topS 20
abbrev N_aheads : List Str := ["deck", "k"]
theorem sc_aheads : FnScope N_aheads ["deck"] (defScope s_aheads) := ⟨rfl, rfl, rfl, by decide +kernel, rfl, by decide +kernel, by decide +kernel⟩
abbrev s_shown : Stmt := topS 30
abbrev N_shown : List Str := ["deck", "card"]
theorem sc_shown : FnScope N_shown ["deck"] (defScope s_shown) := ⟨rfl, rfl, rfl, by decide +kernel, rfl, by decide +kernel, by decide +kernel⟩
abbrev s_undone : Stmt := topS 21
abbrev N_undone : List Str := ["last", "row", "deck", "top"]
theorem sc_undone : FnScope N_undone ["last", "row"] (defScope s_undone) := ⟨rfl, rfl, rfl, by decide +kernel, rfl, by decide +kernel, by decide +kernel⟩
abbrev s_sources : Stmt := topS 22
abbrev N_sources : List Str := ["deck", "turns", "found", "turn", "ahead", "one"]
theorem sc_sources : FnScope N_sources ["deck", "turns"] (defScope s_sources) := ⟨rfl, rfl, rfl, by decide +kernel, rfl, by decide +kernel, by decide +kernel⟩
abbrev s_layers : Stmt := topS 26
abbrev N_layers : List Str := ["size", "found", "here", "ahead", "deck"]
theorem sc_layers : FnScope N_layers ["size"] (defScope s_layers) := ⟨rfl, rfl, rfl, by decide +kernel, rfl, by decide +kernel, by decide +kernel⟩
abbrev s_counts : Stmt := topS 27
abbrev N_counts : List Str := ["size", "row"]
theorem sc_counts : FnScope N_counts ["size"] (defScope s_counts) := ⟨rfl, rfl, rfl, by decide +kernel, rfl, by decide +kernel, by decide +kernel⟩
abbrev s_longest : Stmt := topS 28
abbrev N_longest : List Str := ["size"]
theorem sc_longest : FnScope N_longest ["size"] (defScope s_longest) := ⟨rfl, rfl, rfl, by decide +kernel, rfl, by decide +kernel, by decide +kernel⟩
abbrev s_Game___init__ : Stmt := inClass (topS 32) 0
abbrev N_Game___init__ : List Str := ["self", "deck"]
theorem sc_Game___init__ : FnScope N_Game___init__ ["self", "deck"] (defScope s_Game___init__) := ⟨rfl, rfl, rfl, by decide +kernel, rfl, by decide +kernel, by decide +kernel⟩
abbrev s_law_cell_at : Stmt := topS 34
abbrev N_law_cell_at : List Str := ["script", "k"]
theorem sc_law_cell_at : FnScope N_law_cell_at ["script", "k"] (defScope s_law_cell_at) := ⟨rfl, rfl, rfl, by decide +kernel, rfl, by decide +kernel, by decide +kernel⟩
abbrev s_law_deck : Stmt := topS 35
abbrev N_law_deck : List Str := ["script", "at", "most", "size", "left", "deck", "k"]
theorem sc_law_deck : FnScope N_law_deck ["script", "at", "most"] (defScope s_law_deck) := ⟨rfl, rfl, rfl, by decide +kernel, rfl, by decide +kernel, by decide +kernel⟩
abbrev s_law_which : Stmt := topS 36
abbrev N_law_which : List Str := ["e", "some"]
theorem sc_law_which : FnScope N_law_which ["e"] (defScope s_law_which) := ⟨rfl, rfl, rfl, by decide +kernel, rfl, by decide +kernel, by decide +kernel⟩
abbrev s_law_asked : Stmt := topS 37
abbrev N_law_asked : List Str := ["way", "deck", "number"]
theorem sc_law_asked : FnScope N_law_asked ["way", "deck", "number"] (defScope s_law_asked) := ⟨rfl, rfl, rfl, by decide +kernel, rfl, by decide +kernel, by decide +kernel⟩
abbrev s_law_told : Stmt := topS 38
abbrev N_law_told : List Str := ["way", "deck", "number", "told", "e"]
theorem sc_law_told : FnScope N_law_told ["way", "deck", "number"] (defScope s_law_told) := ⟨rfl, rfl, rfl, by decide +kernel, rfl, by decide +kernel, by decide +kernel⟩
abbrev s_law_no_deck : Stmt := topS 39
abbrev N_law_no_deck : List Str := ["script", "deck", "far", "at", "way", "card"]
theorem sc_law_no_deck : FnScope N_law_no_deck ["script", "deck", "far"] (defScope s_law_no_deck) := ⟨rfl, rfl, rfl, by decide +kernel, rfl, by decide +kernel, by decide +kernel⟩
abbrev s_law : Stmt := topS 40
abbrev N_law : List Str := ["script", "deck", "far", "kind", "way", "number", "tall"]
theorem sc_law : FnScope N_law ["script"] (defScope s_law) := ⟨rfl, rfl, rfl, by decide +kernel, rfl, by decide +kernel, by decide +kernel⟩
/-- where things stand -/
structure Ads where
  (f_ask : Addr) (d_ask : FuncData)
  (f_turned : Addr) (d_turned : FuncData)
  (f_tops : Addr) (d_tops : FuncData)
  (f_end : Addr) (d_end : FuncData)
  (f_weight : Addr) (d_weight : FuncData)
  (f_aheads : Addr) (d_aheads : FuncData)
  (f_shown : Addr) (d_shown : FuncData)
  (f_undone : Addr) (d_undone : FuncData)
  (f_sources : Addr) (d_sources : FuncData)
  (f_layers : Addr) (d_layers : FuncData)
  (f_counts : Addr) (d_counts : FuncData)
  (f_longest : Addr) (d_longest : FuncData)
  (f_Game___init__ : Addr) (d_Game___init__ : FuncData)
  (f_law_cell_at : Addr) (d_law_cell_at : FuncData)
  (f_law_deck : Addr) (d_law_deck : FuncData)
  (f_law_which : Addr) (d_law_which : FuncData)
  (f_law_asked : Addr) (d_law_asked : FuncData)
  (f_law_told : Addr) (d_law_told : FuncData)
  (f_law_no_deck : Addr) (d_law_no_deck : FuncData)
  (f_law : Addr) (d_law : FuncData)
  t_MOST : Tok
  t_MOST_BACK : Tok
  t_MOST_COUNTED : Tok
  c_CardError : Addr
  c_NoDeck : Addr
  c_NoTurn : Addr
  c_NoGame : Addr
  c_TooTall : Addr
  c_NoBack : Addr
  c_BadLine : Addr
  c_Game : Addr
/-- what the top has written -/
structure Txt (K : PySem.W.Frag) (mg : Str → Option Value) (A : Ads) : Prop where
  n_len : mg "len" = none
  n_sorted : mg "sorted" = none
  n_list : mg "list" = none
  n_range : mg "range" = none
  n_reversed : mg "reversed" = none
  n_isinstance : mg "isinstance" = none
  n_str : mg "str" = none
  n_ValueError : mg "ValueError" = none
  g_MOST : mg "MOST" = some (.int 16 A.t_MOST)
  g_MOST_BACK : mg "MOST_BACK" = some (.int 6 A.t_MOST_BACK)
  g_MOST_COUNTED : mg "MOST_COUNTED" = some (.int 7 A.t_MOST_COUNTED)
  F_ask : Fun K "ask" "ask" s_ask A.f_ask A.d_ask
  g_ask : mg "ask" = some (.ref A.f_ask)
  b_ask : Binds K A.d_ask ["deck"] []
  F_turned : Fun K "turned" "turned" s_turned A.f_turned A.d_turned
  g_turned : mg "turned" = some (.ref A.f_turned)
  b_turned : Binds K A.d_turned ["deck"] []
  F_tops : Fun K "tops" "tops" s_tops A.f_tops A.d_tops
  g_tops : mg "tops" = some (.ref A.f_tops)
  b_tops : Binds K A.d_tops ["deck"] []
  F_end : Fun K "end" "end" s_end A.f_end A.d_end
  g_end : mg "end" = some (.ref A.f_end)
  b_end : Binds K A.d_end ["deck"] []
  F_weight : Fun K "weight" "weight" s_weight A.f_weight A.d_weight
  g_weight : mg "weight" = some (.ref A.f_weight)
  b_weight : Binds K A.d_weight ["deck"] []
  F_aheads : Fun K "aheads" "aheads" s_aheads A.f_aheads A.d_aheads
  g_aheads : mg "aheads" = some (.ref A.f_aheads)
  b_aheads : Binds K A.d_aheads ["deck"] []
  F_shown : Fun K "shown" "shown" s_shown A.f_shown A.d_shown
  g_shown : mg "shown" = some (.ref A.f_shown)
  b_shown : Binds K A.d_shown ["deck"] []
  F_undone : Fun K "undone" "undone" s_undone A.f_undone A.d_undone
  g_undone : mg "undone" = some (.ref A.f_undone)
  b_undone : Binds K A.d_undone ["last", "row"] []
  F_sources : Fun K "sources" "sources" s_sources A.f_sources A.d_sources
  g_sources : mg "sources" = some (.ref A.f_sources)
  b_sources : Binds K A.d_sources ["deck", "turns"] []
  F_layers : Fun K "layers" "layers" s_layers A.f_layers A.d_layers
  g_layers : mg "layers" = some (.ref A.f_layers)
  b_layers : Binds K A.d_layers ["size"] []
  F_counts : Fun K "counts" "counts" s_counts A.f_counts A.d_counts
  g_counts : mg "counts" = some (.ref A.f_counts)
  b_counts : Binds K A.d_counts ["size"] []
  F_longest : Fun K "longest" "longest" s_longest A.f_longest A.d_longest
  g_longest : mg "longest" = some (.ref A.f_longest)
  b_longest : Binds K A.d_longest ["size"] []
  F_Game___init__ : Fun K "__init__" "Game.__init__" s_Game___init__ A.f_Game___init__ A.d_Game___init__
  m_Game___init__ : Meth K A.c_Game "__init__" A.f_Game___init__
  b_Game___init__ : Binds K A.d_Game___init__ ["self", "deck"] []
  F_law_cell_at : Fun K "_law_cell_at" "_law_cell_at" s_law_cell_at A.f_law_cell_at A.d_law_cell_at
  g_law_cell_at : mg "_law_cell_at" = some (.ref A.f_law_cell_at)
  b_law_cell_at : Binds K A.d_law_cell_at ["script", "k"] []
  F_law_deck : Fun K "_law_deck" "_law_deck" s_law_deck A.f_law_deck A.d_law_deck
  g_law_deck : mg "_law_deck" = some (.ref A.f_law_deck)
  b_law_deck : Binds K A.d_law_deck ["script", "at", "most"] []
  F_law_which : Fun K "_law_which" "_law_which" s_law_which A.f_law_which A.d_law_which
  g_law_which : mg "_law_which" = some (.ref A.f_law_which)
  b_law_which : Binds K A.d_law_which ["e"] []
  F_law_asked : Fun K "_law_asked" "_law_asked" s_law_asked A.f_law_asked A.d_law_asked
  g_law_asked : mg "_law_asked" = some (.ref A.f_law_asked)
  b_law_asked : Binds K A.d_law_asked ["way", "deck", "number"] []
  F_law_told : Fun K "_law_told" "_law_told" s_law_told A.f_law_told A.d_law_told
  g_law_told : mg "_law_told" = some (.ref A.f_law_told)
  b_law_told : Binds K A.d_law_told ["way", "deck", "number"] []
  F_law_no_deck : Fun K "_law_no_deck" "_law_no_deck" s_law_no_deck A.f_law_no_deck A.d_law_no_deck
  g_law_no_deck : mg "_law_no_deck" = some (.ref A.f_law_no_deck)
  b_law_no_deck : Binds K A.d_law_no_deck ["script", "deck", "far"] []
  F_law : Fun K "law" "law" s_law A.f_law A.d_law
  g_law : mg "law" = some (.ref A.f_law)
  b_law : Binds K A.d_law ["script"] []
  C_Game : Cls K A.c_Game
  k_Game : Mk K A.c_Game A.f_Game___init__
  G_Game : mg "Game" = some (.ref A.c_Game)
  N_Game_cards : NoAttr K A.c_Game "cards"
  N_Game_done : NoAttr K A.c_Game "done"
  K_CardError : ClsF K mg "CardError" A.c_CardError
  K_NoDeck : ClsF K mg "NoDeck" A.c_NoDeck
  K_NoTurn : ClsF K mg "NoTurn" A.c_NoTurn
  K_NoGame : ClsF K mg "NoGame" A.c_NoGame
  K_TooTall : ClsF K mg "TooTall" A.c_TooTall
  K_NoBack : ClsF K mg "NoBack" A.c_NoBack
  K_BadLine : ClsF K mg "BadLine" A.c_BadLine
  E_NoDeck : ErrF K mg "NoDeck" A.c_NoDeck
  s_NoDeck_CardError : PySem.W.subIn K (.ref A.c_NoDeck) (.ref A.c_CardError) = some true
  s_NoDeck_NoTurn : PySem.W.subIn K (.ref A.c_NoDeck) (.ref A.c_NoTurn) = some false
  s_NoDeck_NoGame : PySem.W.subIn K (.ref A.c_NoDeck) (.ref A.c_NoGame) = some false
  s_NoDeck_TooTall : PySem.W.subIn K (.ref A.c_NoDeck) (.ref A.c_TooTall) = some false
  s_NoDeck_NoBack : PySem.W.subIn K (.ref A.c_NoDeck) (.ref A.c_NoBack) = some false
  s_NoDeck_BadLine : PySem.W.subIn K (.ref A.c_NoDeck) (.ref A.c_BadLine) = some false
  E_TooTall : ErrF K mg "TooTall" A.c_TooTall
  s_TooTall_CardError : PySem.W.subIn K (.ref A.c_TooTall) (.ref A.c_CardError) = some true
  s_TooTall_NoDeck : PySem.W.subIn K (.ref A.c_TooTall) (.ref A.c_NoDeck) = some false
  s_TooTall_NoTurn : PySem.W.subIn K (.ref A.c_TooTall) (.ref A.c_NoTurn) = some false
  s_TooTall_NoGame : PySem.W.subIn K (.ref A.c_TooTall) (.ref A.c_NoGame) = some false
  s_TooTall_NoBack : PySem.W.subIn K (.ref A.c_TooTall) (.ref A.c_NoBack) = some false
  s_TooTall_BadLine : PySem.W.subIn K (.ref A.c_TooTall) (.ref A.c_BadLine) = some false
  cb_CardError : PySem.W.subIn K (.ref A.c_CardError) (.type "BaseException") = some true
  cd_CardError : PySem.W.hasDictIn K A.c_CardError = true
section
variable {P : Program} {w : World} {K : PySem.W.Frag} {mg : Str → Option Value} {base : Heap} {A : Ads}
/-- a deck of 1 to 16 cards -/
structure Dk (ns : List Int) : Prop where
  dk : IsDk ns
  lo : 1 ≤ ns.length
  hi : ns.length ≤ 16
theorem Dk.ov {ns : List Int} (h : Dk ns) (k : Int) : Dk (ov ns k) := ⟨h.dk.ov k, by rw [ov_len]; exact h.lo, by rw [ov_len]; exact h.hi⟩
theorem Dk.top {ns : List Int} (h : Dk ns) : ∃ k : Int, ns[0]? = some k ∧ 1 ≤ k ∧ k ≤ ns.length := by
  have h0 : 0 < ns.length := h.lo
  have e : ns[0]? = some ns[0] := List.getElem?_eq_getElem h0
  exact ⟨_, e, h.dk.at e⟩
theorem Gm.short16 {d ts e : List Int} (g : Gm d ts e) (h : Dk d) : ts.length < 32768 := by
  have h1 := g.short h.dk
  have h2 : 2 ^ (d.length - 1) ≤ 2 ^ 15 := Nat.pow_le_pow_right (by decide) (by have := h.hi; omega)
  omega
def spAsk (C : Addr) : Sp := fun vs H Q E => ∃ (a : Addr) (ns : List Int), vs = [.ref a] ∧ At H a ns ∧ ns.length ≤ 1000 ∧ (Dk ns → RetV .non H Q) ∧ (¬ Dk ns → ∀ H1, Ex H H1 → E (.ref C) none H1)
theorem spAsk_V {C : Addr} {H : Hp} {a : Addr} {ns : List Int} (h : At H a ns) (d : Dk ns) : SpV (spAsk C) [.ref a] H .non := fun H1 e Q q E => ⟨a, ns, rfl, e _ _ h, by have := d.hi; omega, fun _ H2 e2 => q H2 e2, fun z => absurd d z⟩
theorem ok_ask (T : Txt K mg A) : FnOk P w K mg base (L2N.CX P w) 1 A.f_ask A.d_ask ["deck"] (spAsk A.c_NoDeck) := by
  refine okN T.F_ask sc_ask (fun vs H Q E h => ?_) (fun cdv AA outer s H vs Q E hr h => ?_)
  · obtain ⟨a, ns, rfl, _⟩ := h
    rfl
  · obtain ⟨a, ns, rfl, ha, hl, q, qE⟩ := h
    refine ⟨_, (pss_one (ps_if (PW.pt (pw_or (pt_cmpR op_lt (pe_callB (r := rLenS K) call_len_seq (by rfl) T.n_len PySem.boot_len (pa_cons (pv 0) pa_nil)) pe_int (nomark _)) (pw_or (pt_cmpR op_gt (pe_callB (r := rLenS K) call_len_seq (by rfl) T.n_len PySem.boot_len (pa_cons (pv 0) pa_nil)) (pe_glob (v := .int 16) rfl T.g_MOST ⟨_, rfl⟩) (nomark _)) (pw_or1 (pt_cmpR (r := rNeD K) (op_neD hr.units) (pe_callB (r := rSortedI K) cr_sortedI (by rfl) T.n_sorted (by decide +kernel) (pa_cons (pv 0) pa_nil)) (pe_listRg rfl (by rfl) T.n_list (prg_2 (by rfl) T.n_range pe_int (pe_op op_add (pe_callB (r := rLenS K) call_len_seq (by rfl) T.n_len PySem.boot_len (pa_cons (pv 0) pa_nil)) pe_int))) (nomark _))))))
      (pss_one (L2N.ps_raise rfl (L2N.takes_of rfl rfl rfl rfl) (L2N.pmk_own PySem.F.excBase_ValueError T.E_NoDeck.x T.E_NoDeck.g T.E_NoDeck.k (T.E_NoDeck.raises rfl) rfl)))
      pss_nil)), ?_⟩
    have e1 : (decide ((ns.length : Int) < 1) || (decide ((16 : Int) < (ns.length : Int)) || !decide (srt ns = rng ns.length))) = true ↔ ¬ Dk ns := by
      have h3 := srt_rng ns
      simp only [Bool.or_eq_true, decide_eq_true_eq, Bool.not_eq_true', decide_eq_false_iff_not]
      constructor
      · rintro h d
        have h1 := d.lo
        have h2 := d.hi
        rcases h with h | h | h
        · omega
        · omega
        · exact h (h3.mpr d.dk)
      · intro hn
        by_cases c1 : (ns.length : Int) < 1
        · exact Or.inl c1
        · by_cases c2 : (16 : Int) < (ns.length : Int)
          · exact Or.inr (Or.inl c2)
          · exact Or.inr (Or.inr fun z => hn ⟨h3.mp z, by omega, by omega⟩)
    refine s_when (et_or (et_test (ev_op (ev_lenI (ev_var rfl) (sq_of ha)) ev_c rv_I0)) fun _ => et_or (et_test (ev_op (ev_lenI (ev_var rfl) (sq_of ha)) ev_c rv_I0)) fun _ => et_test (ev_neR (EvR.new (el_sorted (EvR.old (ev_var rfl) ha))) (EvR.new (el_rng ev_c (ev_op (ev_lenI (ev_var rfl) (sq_of ha)) ev_c rv_I0) rfl (by omega))))) (fun hb H1 ex => qE (e1.mp hb) H1 ex) fun hb H1 ex => q ?_ H1 ex
    by_cases d : Dk ns
    · exact d
    · rw [e1.mpr d] at hb
      cases hb

/-- a call that takes a deck, handed none -/
def spNo (C : Addr) : Sp := fun vs H _ E => ∃ (a : Addr) (ns : List Int), vs = [.ref a] ∧ At H a ns ∧ ns.length ≤ 1000 ∧ ¬ Dk ns ∧ ∀ H1, Ex H H1 → E (.ref C) none H1
def spNo2 (C : Addr) : Sp := fun vs H _ E => ∃ (a : Addr) (u : V) (ns : List Int), vs = [.ref a, u] ∧ At H a ns ∧ ns.length ≤ 1000 ∧ ¬ Dk ns ∧ ∀ H1, Ex H H1 → E (.ref C) none H1
def spNoI (C : Addr) : Sp := fun vs H _ E => ∃ (a : Addr) (u : V) (ns : List Int), vs = [u, .ref a] ∧ At H a ns ∧ ns.length ≤ 1000 ∧ ¬ Dk ns ∧ ∀ H1, Ex H H1 → E (.ref C) none H1
theorem cr_never {X : Cx} : CallR X (.builtin "sorted") (fun _ _ _ => False) := fun _ _ _ _ _ _ _ _ _ h => h.elim
theorem ok_turned (T : Txt K mg A) : FnOk P w K mg base (L2N.CX P w) 2 A.f_turned A.d_turned ["deck"] (spNo A.c_NoDeck) := by
  refine okN T.F_turned sc_turned (fun vs H Q E h => ?_) (fun cdv AA outer s H vs Q E hr h => ?_)
  · obtain ⟨a, ns, rfl, _⟩ := h
    rfl
  · obtain ⟨a, ns, rfl, ha, hl, hn, qE⟩ := h
    refine ⟨_, (pss_cons (ps_expr (pe_call (ok_ask T) (hr.mono (by decide)) (by rfl) T.g_ask T.F_ask.kp T.b_ask .nil (L2N.passes_call (E := E) (L2N.takes_of rfl rfl rfl rfl) (fun _ _ _ _ h => h)) (pa_cons (pv 0) pa_nil)))
      pss_never), ?_⟩
    exact ⟨_, rfl, a, ns, rfl, ha, hl, fun z => absurd z hn, fun _ H1 e1 => qE H1 e1⟩
theorem ok_tops (T : Txt K mg A) : FnOk P w K mg base (L2N.CX P w) 3 A.f_tops A.d_tops ["deck"] (spNo A.c_NoDeck) := by
  refine okN T.F_tops sc_tops (fun vs H Q E h => ?_) (fun cdv AA outer s H vs Q E hr h => ?_)
  · obtain ⟨a, ns, rfl, _⟩ := h
    rfl
  · obtain ⟨a, ns, rfl, ha, hl, hn, qE⟩ := h
    refine ⟨_, (pss_cons (ps_expr (pe_call (ok_ask T) (hr.mono (by decide)) (by rfl) T.g_ask T.F_ask.kp T.b_ask .nil (L2N.passes_call (E := E) (L2N.takes_of rfl rfl rfl rfl) (fun _ _ _ _ h => h)) (pa_cons (pv 0) pa_nil)))
      pss_never), ?_⟩
    exact ⟨_, rfl, a, ns, rfl, ha, hl, fun z => absurd z hn, fun _ H1 e1 => qE H1 e1⟩
theorem ok_end (T : Txt K mg A) : FnOk P w K mg base (L2N.CX P w) 3 A.f_end A.d_end ["deck"] (spNo A.c_NoDeck) := by
  refine okN T.F_end sc_end (fun vs H Q E h => ?_) (fun cdv AA outer s H vs Q E hr h => ?_)
  · obtain ⟨a, ns, rfl, _⟩ := h
    rfl
  · obtain ⟨a, ns, rfl, ha, hl, hn, qE⟩ := h
    refine ⟨_, (pss_cons (ps_expr (pe_call (ok_ask T) (hr.mono (by decide)) (by rfl) T.g_ask T.F_ask.kp T.b_ask .nil (L2N.passes_call (E := E) (L2N.takes_of rfl rfl rfl rfl) (fun _ _ _ _ h => h)) (pa_cons (pv 0) pa_nil)))
      pss_never), ?_⟩
    exact ⟨_, rfl, a, ns, rfl, ha, hl, fun z => absurd z hn, fun _ H1 e1 => qE H1 e1⟩
theorem ok_weight (T : Txt K mg A) : FnOk P w K mg base (L2N.CX P w) 2 A.f_weight A.d_weight ["deck"] (spNo A.c_NoDeck) := by
  refine okN T.F_weight sc_weight (fun vs H Q E h => ?_) (fun cdv AA outer s H vs Q E hr h => ?_)
  · obtain ⟨a, ns, rfl, _⟩ := h
    rfl
  · obtain ⟨a, ns, rfl, ha, hl, hn, qE⟩ := h
    refine ⟨_, (pss_cons (ps_expr (pe_call (ok_ask T) (hr.mono (by decide)) (by rfl) T.g_ask T.F_ask.kp T.b_ask .nil (L2N.passes_call (E := E) (L2N.takes_of rfl rfl rfl rfl) (fun _ _ _ _ h => h)) (pa_cons (pv 0) pa_nil)))
      pss_never), ?_⟩
    exact ⟨_, rfl, a, ns, rfl, ha, hl, fun z => absurd z hn, fun _ H1 e1 => qE H1 e1⟩
theorem ok_aheads (T : Txt K mg A) : FnOk P w K mg base (L2N.CX P w) 2 A.f_aheads A.d_aheads ["deck"] (spNo A.c_NoDeck) := by
  refine okN T.F_aheads sc_aheads (fun vs H Q E h => ?_) (fun cdv AA outer s H vs Q E hr h => ?_)
  · obtain ⟨a, ns, rfl, _⟩ := h
    rfl
  · obtain ⟨a, ns, rfl, ha, hl, hn, qE⟩ := h
    refine ⟨_, (pss_cons (ps_expr (pe_call (ok_ask T) (hr.mono (by decide)) (by rfl) T.g_ask T.F_ask.kp T.b_ask .nil (L2N.passes_call (E := E) (L2N.takes_of rfl rfl rfl rfl) (fun _ _ _ _ h => h)) (pa_cons (pv 0) pa_nil)))
      pss_never), ?_⟩
    exact ⟨_, rfl, a, ns, rfl, ha, hl, fun z => absurd z hn, fun _ H1 e1 => qE H1 e1⟩
theorem ok_shown (T : Txt K mg A) : FnOk P w K mg base (L2N.CX P w) 2 A.f_shown A.d_shown ["deck"] (spNo A.c_NoDeck) := by
  refine okN T.F_shown sc_shown (fun vs H Q E h => ?_) (fun cdv AA outer s H vs Q E hr h => ?_)
  · obtain ⟨a, ns, rfl, _⟩ := h
    rfl
  · obtain ⟨a, ns, rfl, ha, hl, hn, qE⟩ := h
    refine ⟨_, (pss_cons (ps_expr (pe_call (ok_ask T) (hr.mono (by decide)) (by rfl) T.g_ask T.F_ask.kp T.b_ask .nil (L2N.passes_call (E := E) (L2N.takes_of rfl rfl rfl rfl) (fun _ _ _ _ h => h)) (pa_cons (pv 0) pa_nil)))
      pss_never), ?_⟩
    exact ⟨_, rfl, a, ns, rfl, ha, hl, fun z => absurd z hn, fun _ H1 e1 => qE H1 e1⟩
theorem ok_undone (T : Txt K mg A) : FnOk P w K mg base (L2N.CX P w) 2 A.f_undone A.d_undone ["last", "row"] (spNo2 A.c_NoDeck) := by
  refine okN T.F_undone sc_undone (fun vs H Q E h => ?_) (fun cdv AA outer s H vs Q E hr h => ?_)
  · obtain ⟨a, u, ns, rfl, _⟩ := h
    rfl
  · obtain ⟨a, u, ns, rfl, ha, hl, hn, qE⟩ := h
    refine ⟨_, (pss_cons (ps_expr (pe_call (ok_ask T) (hr.mono (by decide)) (by rfl) T.g_ask T.F_ask.kp T.b_ask .nil (L2N.passes_call (E := E) (L2N.takes_of rfl rfl rfl rfl) (fun _ _ _ _ h => h)) (pa_cons (pv 0) pa_nil)))
      pss_never), ?_⟩
    exact ⟨_, rfl, a, ns, rfl, ha, hl, fun z => absurd z hn, fun _ H1 e1 => qE H1 e1⟩
theorem ok_Game___init__ (T : Txt K mg A) : FnOk P w K mg base (L2N.CX P w) 2 A.f_Game___init__ A.d_Game___init__ ["self", "deck"] (spNoI A.c_NoDeck) := by
  refine okN T.F_Game___init__ sc_Game___init__ (fun vs H Q E h => ?_) (fun cdv AA outer s H vs Q E hr h => ?_)
  · obtain ⟨a, u, ns, rfl, _⟩ := h
    rfl
  · obtain ⟨a, u, ns, rfl, ha, hl, hn, qE⟩ := h
    refine ⟨_, (pss_cons (ps_expr (pe_call (ok_ask T) (hr.mono (by decide)) (by rfl) T.g_ask T.F_ask.kp T.b_ask .nil (L2N.passes_call (E := E) (L2N.takes_of rfl rfl rfl rfl) (fun _ _ _ _ h => h)) (pa_cons (pv 1) pa_nil)))
      pss_never), ?_⟩
    exact ⟨_, rfl, a, ns, rfl, ha, hl, fun z => absurd z hn, fun _ H1 e1 => qE H1 e1⟩
def spSrc (C D : Addr) : Sp := fun vs H _ E => ∃ (a : Addr) (n : Int) (ns : List Int), vs = [.ref a, .int n] ∧ At H a ns ∧ ns.length ≤ 1000 ∧ (¬ Dk ns → ∀ H1, Ex H H1 → E (.ref C) none H1) ∧ (Dk ns → (6 < (ns.length : Int) ∨ n < 0 ∨ 40 < n) ∧ ∀ H1, Ex H H1 → E (.ref D) none H1)
theorem ok_sources (T : Txt K mg A) : FnOk P w K mg base (L2N.CX P w) 3 A.f_sources A.d_sources ["deck", "turns"] (spSrc A.c_NoDeck A.c_TooTall) := by
  refine okN T.F_sources sc_sources (fun vs H Q E h => ?_) (fun cdv AA outer s H vs Q E hr h => ?_)
  · obtain ⟨a, u, ns, rfl, _⟩ := h
    rfl
  · obtain ⟨a, n, ns, rfl, ha, hl, qN, qT⟩ := h
    refine ⟨_, (pss_cons (ps_expr (pe_call (ok_ask T) (hr.mono (by decide)) (by rfl) T.g_ask T.F_ask.kp T.b_ask .nil (L2N.passes_call (E := E) (L2N.takes_of rfl rfl rfl rfl) (fun _ _ _ _ h => h)) (pa_cons (pv 0) pa_nil)))
      (pss_cons (ps_if (PW.pt (pw_or (pt_cmpR op_gt (pe_callB (r := rLenS K) call_len_seq (by rfl) T.n_len PySem.boot_len (pa_cons (pv 0) pa_nil)) (pe_glob (v := .int 6) rfl T.g_MOST_BACK ⟨_, rfl⟩) (nomark _)) (pw_or (pt_cmpR op_lt (pv 1) pe_int (nomark _)) (pw_or1 (pt_cmpR op_gt (pv 1) pe_int (nomark _))))))
      (pss_one (L2N.ps_raise rfl (L2N.takes_of rfl rfl rfl rfl) (L2N.pmk_own PySem.F.excBase_ValueError T.E_TooTall.x T.E_TooTall.g T.E_TooTall.k (T.E_TooTall.raises rfl) rfl)))
      pss_nil)
      pss_never)), ?_⟩
    refine ⟨_, rfl, a, ns, rfl, ha, hl, fun hd H1 e1 => ?_, fun hn H1 e1 => qN hn H1 e1⟩
    obtain ⟨hb, qE⟩ := qT hd
    dsimp only
    refine q_when (b := true) (et_is (et_or (et_test (ev_op (ev_lenI (ev_var rfl) (sq_of (e1 _ _ ha))) ev_c rv_I0)) fun _ => et_or (et_test (ev_op (ev_var rfl) ev_c rv_I0)) fun _ => et_test (ev_op (ev_var rfl) ev_c rv_I0)) ?_) (fun _ H2 e2 => ?_) (fun z => nomatch z)
    · simpa using hb
    · exact qE H2 (e1.trans e2)
def spTall (C : Addr) : Sp := fun vs H _ E => ∃ (n : Int), vs = [.int n] ∧ (n < 1 ∨ 7 < n) ∧ ∀ H1, Ex H H1 → E (.ref C) none H1
theorem ok_layers (T : Txt K mg A) : FnOk P w K mg base (L2N.CX P w) 3 A.f_layers A.d_layers ["size"] (spTall A.c_TooTall) := by
  refine okN T.F_layers sc_layers (fun vs H Q E h => ?_) (fun cdv AA outer s H vs Q E hr h => ?_)
  · obtain ⟨n, rfl, _⟩ := h
    rfl
  · obtain ⟨n, rfl, hb, qE⟩ := h
    refine ⟨_, (pss_cons (ps_if (PW.pt (pw_or (pt_cmpR op_lt (pv 0) pe_int (nomark _)) (pw_or1 (pt_cmpR op_gt (pv 0) (pe_glob (v := .int 7) rfl T.g_MOST_COUNTED ⟨_, rfl⟩) (nomark _)))))
      (pss_one (L2N.ps_raise rfl (L2N.takes_of rfl rfl rfl rfl) (L2N.pmk_own PySem.F.excBase_ValueError T.E_TooTall.x T.E_TooTall.g T.E_TooTall.k (T.E_TooTall.raises rfl) rfl)))
      pss_nil)
      pss_never), ?_⟩
    refine q_when (b := true) (et_is (et_or (et_test (ev_op (ev_var rfl) ev_c rv_I0)) fun _ => et_test (ev_op (ev_var rfl) ev_c rv_I0)) ?_) (fun _ H2 e2 => ?_) (fun z => nomatch z)
    · simpa using hb
    · exact qE H2 e2
theorem ok_counts (T : Txt K mg A) : FnOk P w K mg base (L2N.CX P w) 4 A.f_counts A.d_counts ["size"] (spTall A.c_TooTall) := by
  refine okN T.F_counts sc_counts (fun vs H Q E h => ?_) (fun cdv AA outer s H vs Q E hr h => ?_)
  · obtain ⟨n, rfl, _⟩ := h
    rfl
  · obtain ⟨n, rfl, hb, qE⟩ := h
    refine ⟨_, (pss_one (ps_ret (pe_lc (own := [("row", 1)]) (g := gName 1) (tt := tYes) rfl sc_counts.nd (pi_list (pe_call (ok_layers T) (hr.mono (by decide)) (by rfl) T.g_layers T.F_layers.kp T.b_layers .nil (L2N.passes_call (E := E) (L2N.takes_of rfl rfl rfl rfl) (fun _ _ _ _ h => h)) (pa_cons (pv 0) pa_nil))) (blkOk_by (N := N_counts) (sc := defScope s_counts) (by decide +kernel)) (fun _ _ _ _ _ => pg_name (i := 1) sc_counts.nd rfl (Or.inl rfl)) (fun _ _ _ _ _ => pts_nil) (fun _ _ _ _ _ => (pe_callB (r := rLenS K) call_len_seq (by rfl) T.n_len PySem.boot_len (pa_cons (pv 1) pa_nil)))))), ?_⟩
    exact ⟨_, rfl, n, rfl, hb, qE⟩
theorem ok_longest (T : Txt K mg A) : FnOk P w K mg base (L2N.CX P w) 4 A.f_longest A.d_longest ["size"] (spTall A.c_TooTall) := by
  refine okN T.F_longest sc_longest (fun vs H Q E h => ?_) (fun cdv AA outer s H vs Q E hr h => ?_)
  · obtain ⟨n, rfl, _⟩ := h
    rfl
  · obtain ⟨n, rfl, hb, qE⟩ := h
    refine ⟨_, (pss_one (ps_ret (pe_callB cr_never (by rfl) T.n_sorted (by decide +kernel) (pa_cons (pe_ix (r := rIxL K) ix_list (pe_call (ok_layers T) (hr.mono (by decide)) (by rfl) T.g_layers T.F_layers.kp T.b_layers .nil (L2N.passes_call (E := E) (L2N.takes_of rfl rfl rfl rfl) (fun _ _ _ _ h => h)) (pa_cons (pv 0) pa_nil)) (pe_un un_neg pe_int) (fun _ _ => rfl)) pa_nil)))), ?_⟩
    exact ⟨_, rfl, n, rfl, hb, qE⟩

/-- a cell of the script, whatever number it holds -/
def spCellA (K : PySem.W.Frag) : Sp := fun vs H Q _ => ∃ (l : Addr) (ns : List Int) (k : Int), vs = [.ref l, .int k] ∧ SqL K H l (ns.map V.int) ∧ 0 ≤ k ∧ ∀ z : Int, RetV (.int z) H Q
theorem ok_law_cell_at (T : Txt K mg A) : FnOk P w K mg base CX0 1 A.f_law_cell_at A.d_law_cell_at ["script", "k"] (spCellA K) := by
  refine T.F_law_cell_at.ok sc_law_cell_at (fun vs H Q E h => ?_) (fun cdv AA outer s H vs Q E hr h => ?_)
  · obtain ⟨a, ns, k, rfl, _⟩ := h
    rfl
  · obtain ⟨a, ns, k, rfl, ha, hk, q⟩ := h
    refine ⟨_, (pss_cons (ps_if (pt_cmpR op_lt (pv 1) (pe_callB (r := rLenS K) call_len_seq (by rfl) T.n_len PySem.boot_len (pa_cons (pv 0) pa_nil)) (nomark _))
      (pss_one (ps_ret (pe_ix (r := rIxL K) ix_list (pv 0) (pv 1) (fun _ _ => rfl))))
      pss_nil)
      (pss_one (ps_ret pe_int))), ?_⟩
    refine q_when (et_test (ev_op (ev_var rfl) (ev_lenI (ev_var rfl) ha) rv_I0)) (fun hb H1 e1 => ?_) fun hb H1 e1 => ?_
    · have hlt : k < (ns.length : Int) := of_decide_eq_true hb
      have hi : ns[k.toNat]? = some ns[k.toNat] := List.getElem?_eq_getElem (by omega)
      exact s_ret (ev_op (ev_var rfl) (ev_var rfl) (rv_ix k.toNat (ex_l e1 ha) (by omega) hi)) fun H2 e2 => (q _).go (e1.trans e2)
    · exact s_ret ev_c fun H2 e2 => (q _).go (e1.trans e2)
theorem ei_cell {K : PySem.W.Frag} {σ : L2.St} {H : Hp} {l : Addr} {ns : List Int} {k : Int} {ta : TA} {E : XK} (h : EvA ta σ H [.ref l, .int k]) (hs : SqL K H l (ns.map V.int)) (hk : 0 ≤ k) : EvI (tCall (spCellA K) [] E ta) σ H (fun _ => True) := fun H1 e Q q =>
  h H1 e _ fun H2 e2 => ⟨l, ns, k, rfl, ex_l (e.trans e2) hs, hk, fun z H3 e3 => q z H3 (e2.trans e3) True.intro⟩

theorem erase_perm {l : List Int} {j : Nat} {y : Int} (h : l[j]? = some y) (r : List Int) : (l.eraseIdx j ++ (r ++ [y])).Perm (l ++ r) := by
  obtain ⟨hj, e⟩ := List.getElem?_eq_some_iff.mp h
  have e1 : l.take j ++ y :: l.drop (j + 1) = l := by
    rw [← e]
    simp
  have e2 : l.eraseIdx j = l.take j ++ l.drop (j + 1) := List.eraseIdx_eq_take_drop_succ ..
  have p1 : (y :: (l.take j ++ l.drop (j + 1))).Perm l := by
    refine List.perm_middle.symm.trans ?_
    rw [e1]
  rw [e2, ← List.append_assoc]
  refine (List.perm_append_comm).trans ?_
  show (y :: (l.take j ++ l.drop (j + 1) ++ r)).Perm (l ++ r)
  rw [← List.cons_append]
  exact p1.append_right r
/-- any deck of at most so many cards -/
def spDeck (K : PySem.W.Frag) : Sp := fun vs H Q _ => ∃ (l : Addr) (cs : List Int) (at' most : Int), vs = [.ref l, .int at', .int most] ∧ SqL K H l (cs.map V.int) ∧ 0 ≤ at' ∧ 1 ≤ most ∧ most ≤ 16 ∧ ∀ ds : List Int, Dk ds → (ds.length : Int) ≤ most → RetL (ds.map V.int) H Q
theorem ok_law_deck (T : Txt K mg A) : FnOk P w K mg base CX0 2 A.f_law_deck A.d_law_deck ["script", "at", "most"] (spDeck K) := by
  refine T.F_law_deck.ok sc_law_deck (fun vs H Q E h => ?_) (fun cdv AA outer s H vs Q E hr h => ?_)
  · obtain ⟨a, ns, i, j, rfl, _⟩ := h
    rfl
  · obtain ⟨l, cs, i, j, rfl, hs, hi, hj, hj2, q⟩ := h
    refine ⟨_, (pss_cons (ps_set (i := 3) sc_law_deck.nd rfl (by first | exact Or.inl rfl | exact Or.inr rfl) (pe_op op_add pe_int (pe_op op_mod (pe_call (ok_law_cell_at T) (hr.mono (by decide)) (by rfl) T.g_law_cell_at T.F_law_cell_at.kp T.b_law_cell_at .nil pass0 (pa_cons (pv 0) (pa_cons (pv 1) pa_nil))) (pv 2))))
      (pss_cons (ps_set (i := 4) sc_law_deck.nd rfl (by first | exact Or.inl rfl | exact Or.inr rfl) (pe_listRg rfl (by rfl) T.n_list (prg_2 (by rfl) T.n_range pe_int (pe_op op_add (pv 3) pe_int))))
      (pss_cons (ps_set (i := 5) sc_law_deck.nd rfl (by first | exact Or.inl rfl | exact Or.inr rfl) (pe_lst pa_nil))
      (pss_cons (ps_for PassesOwn.never rfl (pi_range1 (by rfl) T.n_range (pa_cons (pv 3) pa_nil)) (pg_name (i := 6) sc_law_deck.nd rfl (by first | exact Or.inl rfl | exact Or.inr rfl))
      (pss_one (ps_expr (pe_bm PySem.F.plainAttrs_list PySem.F.slot_list_append PySem.F.type_list_append mt_append (pv 5) (pa_cons (pe_bm PySem.F.plainAttrs_list PySem.F.slot_list_pop PySem.F.type_list_pop mt_popAt (pv 4) (pa_cons (pe_op op_mod (pe_call (ok_law_cell_at T) (hr.mono (by decide)) (by rfl) T.g_law_cell_at T.F_law_cell_at.kp T.b_law_cell_at .nil pass0 (pa_cons (pv 0) (pa_cons (pe_op op_add (pe_op op_add (pv 1) pe_int) (pv 6)) pa_nil))) (pe_callB (r := rLenS K) call_len_seq (by rfl) T.n_len PySem.boot_len (pa_cons (pv 4) pa_nil))) pa_nil)) pa_nil)))))
      (pss_one (ps_ret (pv 5))))))), ?_⟩
    -- the size
    refine q_asgI (ei_op (ei_ev (P := fun z => z = 1) ev_c rfl) (ei_mod (ei_cell (ea_cons (ev_var rfl) (ea_cons (ev_var rfl) ea_nil)) hs hi) (ev_var rfl) (by omega))) fun z H1 hz e1 => ?_
    obtain ⟨_, y, rfl, ⟨z0, z1⟩, ez⟩ := hz
    have ez : z = 1 + y := ez
    obtain ⟨n, rfl⟩ : ∃ n : Nat, z = (n : Int) := ⟨z.toNat, by omega⟩
    -- the cards
    refine q_asgL (el_rng (n := n) ev_c (ev_op (ev_var rfl) ev_c rv_I0) rfl (by omega)) fun p H2 np e2 hp => ?_
    refine q_asgL (el_lst ea_nil (by decide)) fun r H3 nr e3 hr3 => ?_
    have npr : r ≠ p := fun e => by
      rw [e, hp] at nr
      cases nr
    have e12 := e1.trans e2
    refine q_forR1 (ea_cons (ev_var rfl) ea_nil) (by omega) (fun i' σ' H' => ∃ lf dk x, σ' = [some (.ref l), some (.int i), some (.int j), some (.int (n : Int)), some (.ref p), some (.ref r), x] ∧ Ex H H' ∧ At H' p lf ∧ At H' r dk ∧ (lf ++ dk).Perm (rng n) ∧ dk.length = i')
      (fun H4 e4 => ⟨rng n, [], none, rfl, (e12.trans e3).trans e4, e4 _ _ (e3 _ _ hp), e4 _ _ hr3, by rw [List.append_nil], rfl⟩) ?_ ?_
    · rintro i' σ' H' hi' ⟨lf, dk, x, rfl, ex, hlf, hdk, pm, hlen⟩
      have hl2 := pm.length_eq
      rw [List.length_append, rng_len] at hl2
      refine ⟨_, rfl, Or.inl ⟨rfl, _, sq_of hdk⟩, ?_⟩
      refine ⟨_, rfl, Or.inl ⟨rfl, _, sq_of hlf⟩, ?_⟩
      refine ei_mod (ei_cell (ea_cons (ev_var rfl) (ea_cons (ev_op (ev_op (ev_var rfl) ev_c rv_I0) (ev_var rfl) rv_I0) ea_nil)) (ex_l ex hs) (by omega)) (ev_lenI (ev_var rfl) (sq_of hlf)) (by omega) H' (Ex.refl _) _ fun c H5 e5 hc => ?_
      obtain ⟨c0, c1⟩ := hc
      have hj3 : c.toNat < lf.length := by omega
      have ey : lf[c.toNat]? = some lf[c.toNat] := List.getElem?_eq_getElem hj3
      refine ⟨p, _, _, c.toNat, .int lf[c.toNat], rfl, rfl, e5 _ _ hlf, by omega, by omega, by rw [List.length_map]; exact seqIndex_of c0 (by omega), by rw [List.getElem?_map, ey]; rfl, ?_⟩
      refine ⟨r, _, _, rfl, rfl, by rw [upd_ne npr]; exact e5 _ _ hdk, by rw [List.length_map]; exact sz_lt (by omega), ?_⟩
      refine ⟨lf.eraseIdx c.toNat, dk ++ [lf[c.toNat]], some (.int (i' : Int)), rfl, ?_, ?_, ?_, (erase_perm ey dk).trans pm, by rw [List.length_append, hlen]; rfl⟩
      · exact Ex.mut (Ex.mut (ex.trans e5) (fresh_back e1 np)) (fresh_back e12 nr)
      · show upd _ _ _ _ = _
        rw [upd_ne npr.symm, upd_same, erase_mapI]
      · show upd _ _ _ _ = _
        rw [upd_same, List.map_append]
        rfl
    · rintro σ' H' ⟨lf, dk, x, rfl, ex, hlf, hdk, pm, hlen⟩
      have hl2 := pm.length_eq
      rw [List.length_append, rng_len] at hl2
      have hlf0 : lf = [] := List.eq_nil_of_length_eq_zero (by omega)
      subst hlf0
      have hk : Dk dk := ⟨by unfold IsDk; rw [show dk.length = n by omega]; exact pm, by omega, by omega⟩
      exact ⟨_, rfl, q dk hk (by omega) r H' (fresh_back e12 nr) ex hdk⟩
theorem ep_deck {K : PySem.W.Frag} {σ : L2.St} {H : Hp} {l : Addr} {cs : List Int} {i j : Int} {ta : TA} {E : XK} (h : EvA ta σ H [.ref l, .int i, .int j]) (hs : SqL K H l (cs.map V.int)) (hi : 0 ≤ i) (h1 : 1 ≤ j) (h2 : j ≤ 16) :
    EvLP (tCall (spDeck K) [] E ta) σ H (fun ds => Dk ds ∧ (ds.length : Int) ≤ j) := fun H1 e Q q =>
  h H1 e _ fun H2 e2 => ⟨l, cs, i, j, rfl, ex_l (e.trans e2) hs, hi, h1, h2, fun ds d hl p H3 np e3 hp => q p ds H3 (fresh_back e2 np) (e2.trans e3) hp ⟨d, hl⟩⟩

/-- which errors an error of the class at D is -/
structure Which (K : PySem.W.Frag) (A : Ads) (D : Addr) (bs : List Bool) : Prop where
  e : ExcC K D
  bs : ∃ b0 b1 b2 b3 b4 b5 b6, bs = [b0, b1, b2, b3, b4, b5, b6] ∧ PySem.W.kitOne K (.ref D) (.ref A.c_NoDeck) = some b0 ∧ PySem.W.kitOne K (.ref D) (.ref A.c_NoTurn) = some b1 ∧ PySem.W.kitOne K (.ref D) (.ref A.c_NoGame) = some b2 ∧ PySem.W.kitOne K (.ref D) (.ref A.c_TooTall) = some b3 ∧
    PySem.W.kitOne K (.ref D) (.ref A.c_NoBack) = some b4 ∧ PySem.W.kitOne K (.ref D) (.ref A.c_BadLine) = some b5 ∧ PySem.W.kitOne K (.ref D) (.type "ValueError") = some b6
def spWhich (K : PySem.W.Frag) (A : Ads) : SpE := fun a c d vs H Q _ => ∃ (D : Addr) (bs : List Bool), vs = [.ref a] ∧ c = .ref D ∧ d = none ∧ Which K A D bs ∧ RetL (bs.map V.bl) H Q
theorem ok_law_which (T : Txt K mg A) : FnE P w K mg base 1 A.f_law_which A.d_law_which ["e"] (spWhich K A) := by
  refine okE T.F_law_which sc_law_which (fun a c d vs H Q E h => ?_) (fun cdv AA outer s H vs Q E p c d hot hz hr h => ?_)
  · obtain ⟨D, bs, rfl, _⟩ := h
    rfl
  · obtain ⟨D, bs, rfl, rfl, rfl, ⟨hE, b0, b1, b2, b3, b4, b5, b6, rfl, k0, k1, k2, k3, k4, k5, k6⟩, q⟩ := h
    have hf : ∃ vs, p.2.data = .fields vs := let ⟨vs, e, _⟩ := hot.2; ⟨vs, e⟩
    refine ⟨_, (pss_cons (ps_set (i := 1) sc_law_which.nd rfl (by first | exact Or.inl rfl | exact Or.inr rfl) (pe_lst (pa_cons (pe_callB (r := rIsE K D p.1) (call_isP List.mem_cons_self hE hz hf) (by rfl) T.n_isinstance (by decide +kernel) (pa_cons (pv 0) (pa_cons (pe_glob (v := .ref A.c_NoDeck) (by rfl) T.K_NoDeck.g rfl) pa_nil))) (pa_cons (pe_callB (r := rIsE K D p.1) (call_isP List.mem_cons_self hE hz hf) (by rfl) T.n_isinstance (by decide +kernel) (pa_cons (pv 0) (pa_cons (pe_glob (v := .ref A.c_NoTurn) (by rfl) T.K_NoTurn.g rfl) pa_nil))) (pa_cons (pe_callB (r := rIsE K D p.1) (call_isP List.mem_cons_self hE hz hf) (by rfl) T.n_isinstance (by decide +kernel) (pa_cons (pv 0) (pa_cons (pe_glob (v := .ref A.c_NoGame) (by rfl) T.K_NoGame.g rfl) pa_nil))) (pa_cons (pe_callB (r := rIsE K D p.1) (call_isP List.mem_cons_self hE hz hf) (by rfl) T.n_isinstance (by decide +kernel) (pa_cons (pv 0) (pa_cons (pe_glob (v := .ref A.c_TooTall) (by rfl) T.K_TooTall.g rfl) pa_nil))) pa_nil))))))
      (pss_one (ps_ret (pe_op op_cat (pv 1) (pe_lst (pa_cons (pe_callB (r := rIsE K D p.1) (call_isP List.mem_cons_self hE hz hf) (by rfl) T.n_isinstance (by decide +kernel) (pa_cons (pv 0) (pa_cons (pe_glob (v := .ref A.c_NoBack) (by rfl) T.K_NoBack.g rfl) pa_nil))) (pa_cons (pe_callB (r := rIsE K D p.1) (call_isP List.mem_cons_self hE hz hf) (by rfl) T.n_isinstance (by decide +kernel) (pa_cons (pv 0) (pa_cons (pe_glob (v := .ref A.c_BadLine) (by rfl) T.K_BadLine.g rfl) pa_nil))) (pa_cons (pe_callB (r := rIsE K D p.1) (call_isP List.mem_cons_self hE hz hf) (by rfl) T.n_isinstance (by decide +kernel) (pa_cons (pv 0) (pa_cons (pe_bltn (v := .ty "ValueError") (u := .type "ValueError") (by rfl) T.n_ValueError (by decide +kernel) rfl) pa_nil))) pa_nil)))))))), ?_⟩
    have one : ∀ {x : Addr} {b : Bool} {H1 : Hp} {v1 : Option V}, PySem.W.kitOne K (.ref D) (.ref x) = some b → Ev (tCB (rIsE K D p.1) (tCons (tVar 0) (tCons (tC (.ref x)) tNil))) [some (.ref p.1), v1] H1 (.bl b) := fun k => ev_isE (ev_var rfl) (fun u r => r) k
    refine q_asgL (el_lst (ea_cons (one k0) (ea_cons (one k1) (ea_cons (one k2) (ea_cons (one k3) ea_nil)))) (by simp)) fun a H1 na e1 ha => ?_
    refine s_retL (xs := [V.bl b0, V.bl b1, V.bl b2, V.bl b3] ++ [V.bl b4, V.bl b5, V.bl b6]) (el_cat (EvR.old (ev_var rfl) ha) (EvR.new (el_lst (ea_cons (one k4) (ea_cons (one k5) (ea_cons (ev_isE (ev_var rfl) (fun u r => r) k6) ea_nil))) (by simp))) (by simp)) fun b H2 nb e2 hb => ?_
    exact q b H2 (fresh_back e1 nb) (e1.trans e2) hb
theorem which_NoDeck (T : Txt K mg A) : Which K A A.c_NoDeck [true, false, false, false, false, false, true] := ⟨T.E_NoDeck.e, _, _, _, _, _, _, _, rfl, kit_self, kit_not T.K_NoTurn.i T.K_NoTurn.t T.s_NoDeck_NoTurn T.E_NoDeck.s, kit_not T.K_NoGame.i T.K_NoGame.t T.s_NoDeck_NoGame T.E_NoDeck.s, kit_not T.K_TooTall.i T.K_TooTall.t T.s_NoDeck_TooTall T.E_NoDeck.s, kit_not T.K_NoBack.i T.K_NoBack.t T.s_NoDeck_NoBack T.E_NoDeck.s, kit_not T.K_BadLine.i T.K_BadLine.t T.s_NoDeck_BadLine T.E_NoDeck.s, kit_blt (by decide +kernel) T.E_NoDeck.v⟩
theorem which_TooTall (T : Txt K mg A) : Which K A A.c_TooTall [false, false, false, true, false, false, true] := ⟨T.E_TooTall.e, _, _, _, _, _, _, _, rfl, kit_not T.K_NoDeck.i T.K_NoDeck.t T.s_TooTall_NoDeck T.E_TooTall.s, kit_not T.K_NoTurn.i T.K_NoTurn.t T.s_TooTall_NoTurn T.E_TooTall.s, kit_not T.K_NoGame.i T.K_NoGame.t T.s_TooTall_NoGame T.E_TooTall.s, kit_self, kit_not T.K_NoBack.i T.K_NoBack.t T.s_TooTall_NoBack T.E_TooTall.s, kit_not T.K_BadLine.i T.K_BadLine.t T.s_TooTall_BadLine T.E_TooTall.s, kit_blt (by decide +kernel) T.E_TooTall.v⟩

/-- what is asked that is refused: C the error's class -/
def Refd (A : Ads) (way : Int) (ns : List Int) (number : Int) (C : Addr) : Prop := (0 ≤ way ∧ way < 9 ∧ ¬ Dk ns ∧ C = A.c_NoDeck) ∨ (way = 8 ∧ Dk ns ∧ (6 < (ns.length : Int) ∨ number < 0 ∨ 40 < number) ∧ C = A.c_TooTall) ∨ ((way = 9 ∨ way = 10) ∧ (number < 1 ∨ 7 < number) ∧ C = A.c_TooTall)
def spAsked (A : Ads) : Sp := fun vs H _ E => ∃ (way : Int) (a : Addr) (ns : List Int) (number : Int) (C : Addr), vs = [.int way, .ref a, .int number] ∧ At H a ns ∧ ns.length ≤ 1000 ∧ Refd A way ns number C ∧ ∀ H1, Ex H H1 → E (.ref C) none H1
theorem ok_law_asked (T : Txt K mg A) : FnOk P w K mg base (L2N.CX P w) 5 A.f_law_asked A.d_law_asked ["way", "deck", "number"] (spAsked A) := by
  refine okN T.F_law_asked sc_law_asked (fun vs H Q E h => ?_) (fun cdv AA outer s H vs Q E hr h => ?_)
  · obtain ⟨way, a, ns, number, C, rfl, _⟩ := h
    rfl
  · obtain ⟨way, a, ns, number, C, rfl, ha, hl, hR, qE⟩ := h
    refine ⟨_, (pss_one (ps_if (pt_cmpR op_eq (pv 0) pe_int (nomark _))
      (pss_one (ps_expr (pe_call (ok_turned T) (hr.mono (by decide)) (by rfl) T.g_turned T.F_turned.kp T.b_turned .nil (L2N.passes_call (E := E) (L2N.takes_of rfl rfl rfl rfl) (fun _ _ _ _ h => h)) (pa_cons (pv 1) pa_nil))))
      (pss_one (ps_if (pt_cmpR op_eq (pv 0) pe_int (nomark _))
        (pss_one (ps_expr (pe_call (ok_tops T) (hr.mono (by decide)) (by rfl) T.g_tops T.F_tops.kp T.b_tops .nil (L2N.passes_call (E := E) (L2N.takes_of rfl rfl rfl rfl) (fun _ _ _ _ h => h)) (pa_cons (pv 1) pa_nil))))
        (pss_one (ps_if (pt_cmpR op_eq (pv 0) pe_int (nomark _))
          (pss_one (ps_expr (pe_call (ok_end T) (hr.mono (by decide)) (by rfl) T.g_end T.F_end.kp T.b_end .nil (L2N.passes_call (E := E) (L2N.takes_of rfl rfl rfl rfl) (fun _ _ _ _ h => h)) (pa_cons (pv 1) pa_nil))))
          (pss_one (ps_if (pt_cmpR op_eq (pv 0) pe_int (nomark _))
            (pss_one (ps_expr (pe_call (ok_weight T) (hr.mono (by decide)) (by rfl) T.g_weight T.F_weight.kp T.b_weight .nil (L2N.passes_call (E := E) (L2N.takes_of rfl rfl rfl rfl) (fun _ _ _ _ h => h)) (pa_cons (pv 1) pa_nil))))
            (pss_one (ps_if (pt_cmpR op_eq (pv 0) pe_int (nomark _))
              (pss_one (ps_expr (pe_call (ok_aheads T) (hr.mono (by decide)) (by rfl) T.g_aheads T.F_aheads.kp T.b_aheads .nil (L2N.passes_call (E := E) (L2N.takes_of rfl rfl rfl rfl) (fun _ _ _ _ h => h)) (pa_cons (pv 1) pa_nil))))
              (pss_one (ps_if (pt_cmpR op_eq (pv 0) pe_int (nomark _))
                (pss_one (ps_expr (pe_call (ok_undone T) (hr.mono (by decide)) (by rfl) T.g_undone T.F_undone.kp T.b_undone .nil (L2N.passes_call (E := E) (L2N.takes_of rfl rfl rfl rfl) (fun _ _ _ _ h => h)) (pa_cons (pv 1) (pa_cons (pe_lst (pa_cons (pv 2) pa_nil)) pa_nil)))))
                (pss_one (ps_if (pt_cmpR op_eq (pv 0) pe_int (nomark _))
                  (pss_one (ps_expr (pe_make T.k_Game (ok_Game___init__ T) (hr.mono (by decide)) (by rfl) T.G_Game T.b_Game___init__ .nil (L2N.passes_call (E := E) (L2N.takes_of rfl rfl rfl rfl) (fun _ _ _ _ h => h)) (pa_cons (pv 1) pa_nil))))
                  (pss_one (ps_if (pt_cmpR op_eq (pv 0) pe_int (nomark _))
                    (pss_one (ps_expr (pe_call (ok_shown T) (hr.mono (by decide)) (by rfl) T.g_shown T.F_shown.kp T.b_shown .nil (L2N.passes_call (E := E) (L2N.takes_of rfl rfl rfl rfl) (fun _ _ _ _ h => h)) (pa_cons (pv 1) pa_nil))))
                    (pss_one (ps_if (pt_cmpR op_eq (pv 0) pe_int (nomark _))
                      (pss_one (ps_expr (pe_call (ok_sources T) (hr.mono (by decide)) (by rfl) T.g_sources T.F_sources.kp T.b_sources .nil (L2N.passes_call (E := E) (L2N.takes_of rfl rfl rfl rfl) (fun _ _ _ _ h => h)) (pa_cons (pv 1) (pa_cons (pv 2) pa_nil)))))
                      (pss_one (ps_if (pt_cmpR op_eq (pv 0) pe_int (nomark _))
                        (pss_one (ps_expr (pe_call (ok_counts T) (hr.mono (by decide)) (by rfl) T.g_counts T.F_counts.kp T.b_counts .nil (L2N.passes_call (E := E) (L2N.takes_of rfl rfl rfl rfl) (fun _ _ _ _ h => h)) (pa_cons (pv 2) pa_nil))))
                        (pss_one (ps_expr (pe_call (ok_longest T) (hr.mono (by decide)) (by rfl) T.g_longest T.F_longest.kp T.b_longest .nil (L2N.passes_call (E := E) (L2N.takes_of rfl rfl rfl rfl) (fun _ _ _ _ h => h)) (pa_cons (pv 2) pa_nil)))))))))))))))))))))))), ?_⟩
    have hk : 0 ≤ way ∧ way ≤ 10 := by unfold Refd at hR; omega
    have no : ∀ {w : Int}, way = w → 0 ≤ w → w < 8 → ¬ Dk ns ∧ C = A.c_NoDeck := fun e h0 h8 => by
      rcases hR with h | h | h
      · exact ⟨h.2.2.1, h.2.2.2⟩
      · exact absurd h.1 (by omega)
      · exact absurd h.1 (by omega)
    refine s_if (b := decide (way = 0)) (et_test (ev_op (ev_var rfl) ev_c rv_eqI)) (fun hb H0 e0 => ?a0) (fun n0 H0 e0 => ?b0)
    case a0 =>
      have ex := e0
      obtain ⟨hn, rfl⟩ := no (of_decide_eq_true hb) (by decide) (by decide)
      exact ⟨_, rfl, a, ns, rfl, ex _ _ ha, hl, hn, fun G eG => qE G (ex.trans eG)⟩
    have n0 := of_decide_eq_false n0
    refine s_if (b := decide (way = 1)) (et_test (ev_op (ev_var rfl) ev_c rv_eqI)) (fun hb H1 e1 => ?a1) (fun n1 H1 e1 => ?b1)
    case a1 =>
      have ex := (e0.trans e1)
      obtain ⟨hn, rfl⟩ := no (of_decide_eq_true hb) (by decide) (by decide)
      exact ⟨_, rfl, a, ns, rfl, ex _ _ ha, hl, hn, fun G eG => qE G (ex.trans eG)⟩
    have n1 := of_decide_eq_false n1
    refine s_if (b := decide (way = 2)) (et_test (ev_op (ev_var rfl) ev_c rv_eqI)) (fun hb H2 e2 => ?a2) (fun n2 H2 e2 => ?b2)
    case a2 =>
      have ex := ((e0.trans e1).trans e2)
      obtain ⟨hn, rfl⟩ := no (of_decide_eq_true hb) (by decide) (by decide)
      exact ⟨_, rfl, a, ns, rfl, ex _ _ ha, hl, hn, fun G eG => qE G (ex.trans eG)⟩
    have n2 := of_decide_eq_false n2
    refine s_if (b := decide (way = 3)) (et_test (ev_op (ev_var rfl) ev_c rv_eqI)) (fun hb H3 e3 => ?a3) (fun n3 H3 e3 => ?b3)
    case a3 =>
      have ex := (((e0.trans e1).trans e2).trans e3)
      obtain ⟨hn, rfl⟩ := no (of_decide_eq_true hb) (by decide) (by decide)
      exact ⟨_, rfl, a, ns, rfl, ex _ _ ha, hl, hn, fun G eG => qE G (ex.trans eG)⟩
    have n3 := of_decide_eq_false n3
    refine s_if (b := decide (way = 4)) (et_test (ev_op (ev_var rfl) ev_c rv_eqI)) (fun hb H4 e4 => ?a4) (fun n4 H4 e4 => ?b4)
    case a4 =>
      have ex := ((((e0.trans e1).trans e2).trans e3).trans e4)
      obtain ⟨hn, rfl⟩ := no (of_decide_eq_true hb) (by decide) (by decide)
      exact ⟨_, rfl, a, ns, rfl, ex _ _ ha, hl, hn, fun G eG => qE G (ex.trans eG)⟩
    have n4 := of_decide_eq_false n4
    refine s_if (b := decide (way = 5)) (et_test (ev_op (ev_var rfl) ev_c rv_eqI)) (fun hb H5 e5 => ?a5) (fun n5 H5 e5 => ?b5)
    case a5 =>
      have ex := (((((e0.trans e1).trans e2).trans e3).trans e4).trans e5)
      obtain ⟨hn, rfl⟩ := no (of_decide_eq_true hb) (by decide) (by decide)
      exact ⟨_, rfl, _, rfl, by show 1 ≤ sizeLine; decide, fun p np => ⟨a, _, ns, rfl, Ex.new np _ _ (ex _ _ ha), hl, hn, fun G eG => qE G ((ex.trans (Ex.new np)).trans eG)⟩⟩
    have n5 := of_decide_eq_false n5
    refine s_if (b := decide (way = 6)) (et_test (ev_op (ev_var rfl) ev_c rv_eqI)) (fun hb H6 e6 => ?a6) (fun n6 H6 e6 => ?b6)
    case a6 =>
      have ex := ((((((e0.trans e1).trans e2).trans e3).trans e4).trans e5).trans e6)
      obtain ⟨hn, rfl⟩ := no (of_decide_eq_true hb) (by decide) (by decide)
      exact ⟨_, rfl, fun x dx nx ndx ne => ⟨a, _, ns, rfl, Ex.mut (Ex.new ndx) nx _ _ (ex _ _ ha), hl, hn, fun G eG => qE G ((ex.trans (Ex.mut (Ex.new ndx) nx)).trans eG)⟩⟩
    have n6 := of_decide_eq_false n6
    refine s_if (b := decide (way = 7)) (et_test (ev_op (ev_var rfl) ev_c rv_eqI)) (fun hb H7 e7 => ?a7) (fun n7 H7 e7 => ?b7)
    case a7 =>
      have ex := (((((((e0.trans e1).trans e2).trans e3).trans e4).trans e5).trans e6).trans e7)
      obtain ⟨hn, rfl⟩ := no (of_decide_eq_true hb) (by decide) (by decide)
      exact ⟨_, rfl, a, ns, rfl, ex _ _ ha, hl, hn, fun G eG => qE G (ex.trans eG)⟩
    have n7 := of_decide_eq_false n7
    refine s_if (b := decide (way = 8)) (et_test (ev_op (ev_var rfl) ev_c rv_eqI)) (fun hb H8 e8 => ?a8) (fun n8 H8 e8 => ?b8)
    case a8 =>
      have ex := ((((((((e0.trans e1).trans e2).trans e3).trans e4).trans e5).trans e6).trans e7).trans e8)
      have hb := of_decide_eq_true hb
      refine ⟨_, rfl, _, rfl, a, number, ns, rfl, ex _ _ ha, hl, fun hn G eG => ?_, fun hd => ?_⟩
      · rcases hR with h | h | h
        · rw [← h.2.2.2]
          exact qE G (ex.trans eG)
        · exact absurd h.2.1 hn
        · exact absurd h.1 (by omega)
      · rcases hR with h | h | h
        · exact absurd hd h.2.2.1
        · refine ⟨h.2.2.1, fun G eG => ?_⟩
          rw [← h.2.2.2]
          exact qE G (ex.trans eG)
        · exact absurd h.1 (by omega)
    have n8 := of_decide_eq_false n8
    refine s_if (b := decide (way = 9)) (et_test (ev_op (ev_var rfl) ev_c rv_eqI)) (fun hb H9 e9 => ?a9) (fun n9 H9 e9 => ?b9)
    case a9 =>
      have ex := (((((((((e0.trans e1).trans e2).trans e3).trans e4).trans e5).trans e6).trans e7).trans e8).trans e9)
      have hb := of_decide_eq_true hb
      rcases hR with h | h | h
      · exact absurd h.2.1 (by omega)
      · exact absurd h.1 (by omega)
      · obtain ⟨_, h2, rfl⟩ := h
        exact ⟨_, rfl, number, rfl, h2, fun G eG => qE G (ex.trans eG)⟩
    case b9 =>
      have ex := (((((((((e0.trans e1).trans e2).trans e3).trans e4).trans e5).trans e6).trans e7).trans e8).trans e9)
      have n9 := of_decide_eq_false n9
      rcases hR with h | h | h
      · exact absurd h.2.1 (by omega)
      · exact absurd h.1 (by omega)
      · obtain ⟨_, h2, rfl⟩ := h
        exact ⟨_, rfl, number, rfl, h2, fun G eG => qE G (ex.trans eG)⟩

def isDk : List Bool := [true, false, false, false, false, false, true]
def isTall : List Bool := [false, false, false, true, false, false, true]
/-- the list told for the class C -/
def Tells (A : Ads) (C : Addr) (bs : List Bool) : Prop := (C = A.c_NoDeck ∧ bs = isDk) ∨ (C = A.c_TooTall ∧ bs = isTall)
def spTold (A : Ads) : Sp := fun vs H Q _ => ∃ (way : Int) (a : Addr) (ns : List Int) (number : Int) (C : Addr) (bs : List Bool), vs = [.int way, .ref a, .int number] ∧ At H a ns ∧ ns.length ≤ 1000 ∧ Refd A way ns number C ∧ Tells A C bs ∧ RetL (bs.map V.bl) H Q
theorem ok_law_told (T : Txt K mg A) : FnOk P w K mg base CX0 6 A.f_law_told A.d_law_told ["way", "deck", "number"] (spTold A) := by
  refine T.F_law_told.ok sc_law_told (fun vs H Q E h => ?_) (fun cdv AA outer s H vs Q E hr h => ?_)
  · obtain ⟨way, a, ns, number, C, bs, rfl, _⟩ := h
    rfl
  · obtain ⟨way, a, ns, number, C, bs, rfl, ha, hl, hR, hT, q⟩ := h
    refine ⟨_, (pss_cons (ps_set (i := 3) sc_law_told.nd rfl (by first | exact Or.inl rfl | exact Or.inr rfl) (pe_lst pa_nil))
      (pss_cons (L2N.ps_try_as (i := 4) rfl rfl sc_law_told.nd rfl rfl ⟨rfl, by decide, .inl T.K_CardError.g⟩ takesN0 (fun W pn xe tk _ =>
      (pss_one (ps_expr (by exact (pe_callS (ok_law_asked T) (hr.mono (by decide)) (by rfl) T.g_law_asked T.F_law_asked.kp T.b_law_asked (fun σ => L2N.passAt tk σ) (pa_cons (pv 0) (pa_cons (pv 1) (pa_cons (pv 2) pa_nil))))))))
      (fun a oe cls d pn hz hf =>
      (pss_one (ps_set (i := 3) sc_law_told.nd rfl (by first | exact Or.inl rfl | exact Or.inr rfl) (by exact (pe_callE (a := a) (oe := oe) (c := cls) (d := d) (ok_law_which T) (roomH_at (hr.mono (by decide)) rfl rfl) (hot_at rfl hz hf) List.mem_cons_self hz (by rfl) T.g_law_which T.F_law_which.kp T.b_law_which (pa_cons (pv 4) pa_nil)))))))
      (pss_one (ps_ret (pv 3))))), ?_⟩
    refine q_asgL (el_lst ea_nil (by decide)) fun p0 H1 np0 e1 hp0 => ?_
    refine ⟨_, rfl, _, rfl, _, rfl, way, a, ns, number, C, rfl, e1 _ _ ha, hl, hR, fun H2 e2 => ?_⟩
    have hc : PySem.W.exmOne K (.ref C) (.ref A.c_CardError) = some true := by
      rcases hT with ⟨rfl, rfl⟩ | ⟨rfl, rfl⟩
      · exact PySem.W.exm_ref T.cb_CardError T.cd_CardError T.K_CardError.t T.s_NoDeck_CardError
      · exact PySem.W.exm_ref T.cb_CardError T.cd_CardError T.K_CardError.t T.s_TooTall_CardError
    have hw : Which K A C bs := by
      rcases hT with ⟨rfl, rfl⟩ | ⟨rfl, rfl⟩
      · exact which_NoDeck T
      · exact which_TooTall T
    refine ⟨true, hc, fun _ x nx => ?_, fun z => nomatch z⟩
    refine ⟨_, rfl, C, _, rfl, rfl, rfl, hw, fun p H3 np e3 hp => ?_⟩
    exact ⟨_, rfl, q p H3 (fresh_back (e1.trans e2) np) ((e1.trans e2).trans e3) hp⟩

theorem no_out {l : List Int} {x : Int} (h : x ∈ l) (o : x < 1 ∨ (l.length : Int) < x) : ¬ Dk l := fun d => by
  have := d.dk.mem.mp h
  omega
theorem no_len {l : List Int} (h : l.length < 1 ∨ 16 < l.length) : ¬ Dk l := fun d => by
  have := d.lo
  have := d.hi
  omega
theorem no_two {l : List Int} {x : Int} (h : x ∈ l) : ¬ Dk (l ++ [x]) := fun d => by
  have := d.dk.nodup
  rw [List.nodup_append] at this
  exact this.2.2 x h x (by simp) rfl
theorem no_swap {l : List Int} {x : Int} (h : x ∈ l) : ¬ Dk (l.filter (fun c => !decide (c = x)) ++ [(l.length : Int) + 1]) := by
  refine no_out (x := (l.length : Int) + 1) (by simp) (Or.inr ?_)
  have := (List.length_filter_lt_length_iff_exists (p := fun c => !decide (c = x)) (l := l)).mpr ⟨x, h, by simp⟩
  rw [List.length_append, List.length_singleton]
  omega
def spNoDeck (K : PySem.W.Frag) : Sp := fun vs H Q _ => ∃ (l a : Addr) (cs ds : List Int) (far : Int), vs = [.ref l, .ref a, .int far] ∧ SqL K H l (cs.map V.int) ∧ At H a ds ∧ Dk ds ∧ 0 ≤ far ∧ ∀ ns : List Int, ¬ Dk ns → ns.length ≤ 1000 → RetL (ns.map V.int) H Q
theorem ep_noDeck {K : PySem.W.Frag} {σ : L2.St} {H : Hp} {l a : Addr} {cs ds : List Int} {far : Int} {ta : TA} {E : XK} (h : EvA ta σ H [.ref l, .ref a, .int far]) (hs : SqL K H l (cs.map V.int)) (ha : At H a ds) (hd : Dk ds) (hf : 0 ≤ far) :
    EvLP (tCall (spNoDeck K) [] E ta) σ H (fun ns => ¬ Dk ns ∧ ns.length ≤ 1000) := fun H1 e Q q =>
  h H1 e _ fun H2 e2 => ⟨l, a, cs, ds, far, rfl, ex_l (e.trans e2) hs, (e.trans e2) _ _ ha, hd, hf, fun ns n1 n2 p H3 np e3 hp => q p ns H3 (fresh_back e2 np) (e2.trans e3) hp ⟨n1, n2⟩⟩
theorem ok_law_no_deck (T : Txt K mg A) : FnOk P w K mg base CX0 2 A.f_law_no_deck A.d_law_no_deck ["script", "deck", "far"] (spNoDeck K) := by
  refine T.F_law_no_deck.ok sc_law_no_deck (fun vs H Q E h => ?_) (fun cdv AA outer s H vs Q E hr h => ?_)
  · obtain ⟨l, a, cs, ds, far, rfl, _⟩ := h
    rfl
  · obtain ⟨l, a, cs, ds, far, rfl, hs, ha, hd, hf, q⟩ := h
    refine ⟨_, (pss_cons (ps_set (i := 3) sc_law_no_deck.nd rfl (by first | exact Or.inl rfl | exact Or.inr rfl) (pe_op op_mod (pe_call (ok_law_cell_at T) (hr.mono (by decide)) (by rfl) T.g_law_cell_at T.F_law_cell_at.kp T.b_law_cell_at .nil pass0 (pa_cons (pv 0) (pa_cons pe_int pa_nil))) (pe_callB (r := rLenS K) call_len_seq (by rfl) T.n_len PySem.boot_len (pa_cons (pv 1) pa_nil))))
      (pss_cons (ps_set (i := 4) sc_law_no_deck.nd rfl (by first | exact Or.inl rfl | exact Or.inr rfl) (pe_op op_mod (pe_call (ok_law_cell_at T) (hr.mono (by decide)) (by rfl) T.g_law_cell_at T.F_law_cell_at.kp T.b_law_cell_at .nil pass0 (pa_cons (pv 0) (pa_cons pe_int pa_nil))) pe_int))
      (pss_cons (ps_if (pt_cmpR op_eq (pv 4) pe_int (nomark _))
      (pss_one (ps_ret (pe_op op_cat (pv 1) (pe_lst (pa_cons (pe_ix (r := rIxL K) ix_list (pv 1) (pv 3) (fun _ _ => rfl)) pa_nil)))))
      pss_nil)
      (pss_cons (ps_if (pt_cmpR op_eq (pv 4) pe_int (nomark _))
      (pss_one (ps_ret (pe_op op_cat (pe_op op_cat (pe_slice (r := rSlL K) sl_list (pv 1) po_none (po_some (pv 3))) (pe_lst (pa_cons (pe_op op_add (pe_op op_add (pe_callB (r := rLenS K) call_len_seq (by rfl) T.n_len PySem.boot_len (pa_cons (pv 1) pa_nil)) pe_int) (pv 2)) pa_nil))) (pe_slice (r := rSlL K) sl_list (pv 1) (po_some (pv 3)) po_none))))
      pss_nil)
      (pss_cons (ps_if (pt_cmpR op_eq (pv 4) pe_int (nomark _))
      (pss_one (ps_ret (pe_op op_cat (pe_lc (own := [("card", 5)]) (g := gName 5) rfl sc_law_no_deck.nd (pi_list (pv 1)) (blkOk_by (N := N_law_no_deck) (sc := defScope s_law_no_deck) (by decide +kernel)) (fun _ _ _ _ _ => pg_name (i := 5) sc_law_no_deck.nd rfl (Or.inl rfl)) (fun _ _ _ _ _ => (pts_one (pt_cmpR op_ne (pv 5) (pe_ix (r := rIxL K) ix_list (pv 1) (pv 3) (fun _ _ => rfl)) (nomark _)))) (fun _ _ _ _ _ => (pv 5))) (pe_lst (pa_cons (pe_op op_add (pe_callB (r := rLenS K) call_len_seq (by rfl) T.n_len PySem.boot_len (pa_cons (pv 1) pa_nil)) pe_int) pa_nil)))))
      pss_nil)
      (pss_cons (ps_if (pt_cmpR op_eq (pv 4) pe_int (nomark _))
      (pss_one (ps_ret (pe_op op_cat (pe_op op_cat (pe_slice (r := rSlL K) sl_list (pv 1) po_none (po_some (pv 3))) (pe_lst (pa_cons pe_int pa_nil))) (pe_slice (r := rSlL K) sl_list (pv 1) (po_some (pe_op op_add (pv 3) pe_int)) po_none))))
      pss_nil)
      (pss_cons (ps_if (pt_cmpR op_eq (pv 4) pe_int (nomark _))
      (pss_one (ps_ret (pe_op op_cat (pe_op op_cat (pe_slice (r := rSlL K) sl_list (pv 1) po_none (po_some (pv 3))) (pe_lst (pa_cons (pe_un un_neg (pe_ix (r := rIxL K) ix_list (pv 1) (pv 3) (fun _ _ => rfl))) pa_nil))) (pe_slice (r := rSlL K) sl_list (pv 1) (po_some (pe_op op_add (pv 3) pe_int)) po_none))))
      pss_nil)
      (pss_cons (ps_if (pt_cmpR op_eq (pv 4) pe_int (nomark _))
      (pss_one (ps_ret (pe_op op_cat (pe_op op_cat (pe_slice (r := rSlL K) sl_list (pv 1) po_none (po_some (pv 3))) (pe_lst (pa_cons (pe_op op_sub (pe_un un_neg pe_int) (pv 2)) pa_nil))) (pe_slice (r := rSlL K) sl_list (pv 1) (po_some (pv 3)) po_none))))
      pss_nil)
      (pss_cons (ps_if (pt_cmpR op_eq (pv 4) pe_int (nomark _))
      (pss_one (ps_ret (pe_listRg rfl (by rfl) T.n_list (prg_2 (by rfl) T.n_range pe_int (pe_op op_add pe_int (pe_op op_mod (pv 2) pe_int))))))
      pss_nil)
      (pss_one (ps_ret (pe_lst pa_nil)))))))))))), ?_⟩
    have h1 := hd.lo
    have h2 := hd.hi
    refine q_asgI (ei_mod (ei_cell (ea_cons (ev_var rfl) (ea_cons ev_c ea_nil)) hs (by decide)) (ev_lenI (ev_var rfl) (sq_of ha)) (by omega)) fun z H1 hz e1 => ?_
    obtain ⟨j, rfl⟩ : ∃ n : Nat, z = (n : Int) := ⟨z.toNat, by omega⟩
    have hj : j < ds.length := by omega
    have hx : ds[j]? = some ds[j] := List.getElem?_eq_getElem hj
    have hm := List.mem_of_getElem? hx
    have hxr := hd.dk.at hx
    generalize ds[j] = x at *
    refine q_asgI (ei_mod (ei_cell (ea_cons (ev_var rfl) (ea_cons ev_c ea_nil)) (ex_l e1 hs) (by decide)) ev_c (by decide)) fun way H2 _ e2 => ?_
    have ex2 := e1.trans e2
    refine q_when (b := decide (way = 0)) (et_test (ev_op (ev_var rfl) ev_c rv_eqI)) (fun _ H3 e3 => ?_) (fun _ H3 e3 => ?_)
    · have ex3 := ex2.trans e3
      have ha3 := ex3 _ _ ha
      refine s_retL (xs := (ds ++ [x]).map V.int) (by
        rw [List.map_append]
        exact el_cat (EvR.old (ev_var rfl) ha3) (EvR.new (el_lst (ea_cons (ev_op (ev_var rfl) (ev_var rfl) (rv_ix j (sq_of ha3) rfl hx)) ea_nil) (by simp))) (by simp; omega)) fun p H4 np e4 hp => q _ (no_two hm) (by simp; omega) p H4 (fresh_back ex3 np) (ex3.trans e4) hp
    refine q_when (b := decide (way = 1)) (et_test (ev_op (ev_var rfl) ev_c rv_eqI)) (fun _ H4 e4 => ?_) (fun _ H4 e4 => ?_)
    · have ex4 := (ex2.trans e3).trans e4
      have ha4 := ex4 _ _ ha
      refine s_retL (xs := (ds.take (j : Int).toNat ++ [(ds.length : Int) + 2 + far] ++ ds.drop (j : Int).toNat).map V.int) (by
        rw [List.map_append, List.map_append]
        exact el_cat (EvR.new (el_cat (EvR.new (el_take (EvR.old (ev_var rfl) ha4) (eo_some (ev_var rfl)) (by omega))) (EvR.new (el_lst (ea_cons (ev_op (ev_op (ev_lenI (ev_var rfl) (sq_of ha4)) ev_c rv_I0) (ev_var rfl) rv_I0) ea_nil) (by simp))) (by simp; omega))) (EvR.new (el_drop (EvR.old (ev_var rfl) ha4) (eo_some (ev_var rfl)) (by omega))) (by simp; omega))
        fun p H5 np e5 hp => q _ (no_out (x := (ds.length : Int) + 2 + far) (by simp) (by simp; omega)) (by simp; omega) p H5 (fresh_back ex4 np) (ex4.trans e5) hp
    refine q_when (b := decide (way = 2)) (et_test (ev_op (ev_var rfl) ev_c rv_eqI)) (fun _ H5 e5 => ?_) (fun _ H5 e5 => ?_)
    · have ex5 := ((ex2.trans e3).trans e4).trans e5
      have ha5 := ex5 _ _ ha
      have hcomp := el_lcL (K := K) (σ := [some (.ref l), some (.ref a), some (.int far), some (.int (j : Int)), some (.int way), none]) (H := H5) (tl := tVar 1) (xs := ds.map V.int) (j := 5) (vs := [5]) (t := tTest (tOp rNe (tVar 5) (tOp (rIxL K) (tVar 1) (tVar 3)))) (te := tVar 5) (fun i => !decide (ds.getD i 0 = x)) (fun i => V.int (ds.getD i 0))
        (ev_var rfl) (sq_of ha5) (by rw [List.length_map]; omega) (fun x => rfl)
        (fun i1 y G eG hy => by
          obtain ⟨c, hc, rfl⟩ := int_item hy
          have eg : ds.getD i1 0 = c := by rw [List.getD_eq_getElem?_getD, hc]; rfl
          rw [eg]
          exact et_test (ev_op (ev_var rfl) (ev_op (ev_var rfl) (ev_var rfl) (rv_ix j (sq_of (eG _ _ ha5)) rfl hx)) rv_neI))
        (fun i1 y G eG hy _ => by
          obtain ⟨c, hc, rfl⟩ := int_item hy
          have eg : ds.getD i1 0 = c := by rw [List.getD_eq_getElem?_getD, hc]; rfl
          rw [eg]
          exact ev_var rfl)
      rw [List.length_map, given_filter (fun c => !decide (c = x))] at hcomp
      have hfl : (ds.filter (fun c => !decide (c = x))).length ≤ ds.length := List.length_filter_le _ _
      refine s_retL (xs := (ds.filter (fun c => !decide (c = x)) ++ [(ds.length : Int) + 1]).map V.int) (by
        rw [List.map_append]
        exact el_cat (EvR.new hcomp) (EvR.new (el_lst (ea_cons (ev_op (ev_lenI (ev_var rfl) (sq_of ha5)) ev_c rv_I0) ea_nil) (by simp))) (by simp only [List.length_map, List.length_cons, List.length_nil]; omega))
        fun p H6 np e6 hp => q _ (no_swap hm) (by simp only [List.length_append, List.length_cons, List.length_nil]; omega) p H6 (fresh_back ex5 np) (ex5.trans e6) hp
    refine q_when (b := decide (way = 3)) (et_test (ev_op (ev_var rfl) ev_c rv_eqI)) (fun _ H6 e6 => ?_) (fun _ H6 e6 => ?_)
    · have ex6 := (((ex2.trans e3).trans e4).trans e5).trans e6
      have ha6 := ex6 _ _ ha
      refine s_retL (xs := (ds.take (j : Int).toNat ++ [0] ++ ds.drop ((j : Int) + 1).toNat).map V.int) (by
        rw [List.map_append, List.map_append]
        exact el_cat (EvR.new (el_cat (EvR.new (el_take (EvR.old (ev_var rfl) ha6) (eo_some (ev_var rfl)) (by omega))) (EvR.new (el_lst (ea_cons ev_c ea_nil) (by simp))) (by simp; omega))) (EvR.new (el_drop (EvR.old (ev_var rfl) ha6) (eo_some (ev_op (ev_var rfl) ev_c rv_I0)) (by omega))) (by simp; omega))
        fun p H7 np e7 hp => q _ (no_out (x := 0) (by simp) (Or.inl (by decide))) (by simp; omega) p H7 (fresh_back ex6 np) (ex6.trans e7) hp
    refine q_when (b := decide (way = 4)) (et_test (ev_op (ev_var rfl) ev_c rv_eqI)) (fun _ H7 e7 => ?_) (fun _ H7 e7 => ?_)
    · have ex7 := ((((ex2.trans e3).trans e4).trans e5).trans e6).trans e7
      have ha7 := ex7 _ _ ha
      refine s_retL (xs := (ds.take (j : Int).toNat ++ [-x] ++ ds.drop ((j : Int) + 1).toNat).map V.int) (by
        rw [List.map_append, List.map_append]
        exact el_cat (EvR.new (el_cat (EvR.new (el_take (EvR.old (ev_var rfl) ha7) (eo_some (ev_var rfl)) (by omega))) (EvR.new (el_lst (ea_cons (ev_un (ev_op (ev_var rfl) (ev_var rfl) (rv_ix j (sq_of ha7) rfl hx)) ru_neg) ea_nil) (by simp))) (by simp; omega))) (EvR.new (el_drop (EvR.old (ev_var rfl) ha7) (eo_some (ev_op (ev_var rfl) ev_c rv_I0)) (by omega))) (by simp; omega))
        fun p H8 np e8 hp => q _ (no_out (x := -x) (by simp) (Or.inl (by omega))) (by simp; omega) p H8 (fresh_back ex7 np) (ex7.trans e8) hp
    refine q_when (b := decide (way = 5)) (et_test (ev_op (ev_var rfl) ev_c rv_eqI)) (fun _ H8 e8 => ?_) (fun _ H8 e8 => ?_)
    · have ex8 := (((((ex2.trans e3).trans e4).trans e5).trans e6).trans e7).trans e8
      have ha8 := ex8 _ _ ha
      refine s_retL (xs := (ds.take (j : Int).toNat ++ [-1 - far] ++ ds.drop (j : Int).toNat).map V.int) (by
        rw [List.map_append, List.map_append]
        exact el_cat (EvR.new (el_cat (EvR.new (el_take (EvR.old (ev_var rfl) ha8) (eo_some (ev_var rfl)) (by omega))) (EvR.new (el_lst (ea_cons (ev_op (ev_un ev_c ru_neg) (ev_var rfl) rv_I0) ea_nil) (by simp))) (by simp; omega))) (EvR.new (el_drop (EvR.old (ev_var rfl) ha8) (eo_some (ev_var rfl)) (by omega))) (by simp; omega))
        fun p H9 np e9 hp => q _ (no_out (x := -1 - far) (by simp) (Or.inl (by omega))) (by simp; omega) p H9 (fresh_back ex8 np) (ex8.trans e9) hp
    refine q_when (b := decide (way = 6)) (et_test (ev_op (ev_var rfl) ev_c rv_eqI)) (fun _ H9 e9 => ?_) (fun _ H9 e9 => ?_)
    · have ex9 := ((((((ex2.trans e3).trans e4).trans e5).trans e6).trans e7).trans e8).trans e9
      have hm0 : 0 ≤ far % 14 := Int.emod_nonneg _ (by decide)
      have hm1 : far % 14 < 14 := Int.emod_lt_of_pos _ (by decide)
      refine s_retL (xs := (rng (17 + (far % 14).toNat)).map V.int) (el_rng ev_c (ev_op ev_c (ev_op (ev_var rfl) ev_c (rv_I (by decide))) rv_I0) (by show (18 : Int) + far % 14 = _; omega) (by omega))
        fun p H10 np e10 hp => q _ (no_len (by rw [rng_len]; omega)) (by rw [rng_len]; omega) p H10 (fresh_back ex9 np) (ex9.trans e10) hp
    · have ex9 := ((((((ex2.trans e3).trans e4).trans e5).trans e6).trans e7).trans e8).trans e9
      exact s_retL (xs := ([] : List Int).map V.int) (el_lst ea_nil (by decide)) fun p H10 np e10 hp => q [] (no_len (by simp)) (by simp) p H10 (fresh_back ex9 np) (ex9.trans e10) hp

theorem el_told {K : PySem.W.Frag} {σ : L2.St} {H : Hp} {ta : TA} {E : XK} {way : Int} {a : Addr} {ns : List Int} {number : Int} {C : Addr} {bs : List Bool} (h : EvA ta σ H [.int way, .ref a, .int number]) (ha : At H a ns) (hl : ns.length ≤ 1000) (hR : Refd A way ns number C) (hT : Tells A C bs) : EvL (tCall (spTold A) [] E ta) σ H (bs.map V.bl) :=
  el_call h fun H1 e Q q E => ⟨way, a, ns, number, C, bs, rfl, e _ _ ha, hl, hR, hT, fun p H2 np e2 hp => q p H2 np e2 hp⟩
theorem el_toldN {σ : L2.St} {H : Hp} {tw tl tn : TE} {E : XK} {way number : Int} {P : List Int → Prop} {C : Addr} {bs : List Bool} (hw : Ev tw σ H (.int way)) (hl : EvLP tl σ H P) (hn : Ev tn σ H (.int number)) (h : ∀ ns, P ns → ns.length ≤ 1000 ∧ Refd A way ns number C) (hT : Tells A C bs) :
    EvL (tCall (spTold A) [] E (tCons tw (tCons tl (tCons tn tNil)))) σ H (bs.map V.bl) := fun H1 e Q q => hw H1 e _ fun H2 e2 => hl H2 (e.trans e2) _ fun p ns H3 _ e3 hp pn => hn H3 ((e.trans e2).trans e3) _ fun H4 e4 =>
    ⟨way, p, ns, number, C, bs, rfl, e4 _ _ hp, (h ns pn).1, (h ns pn).2, hT, fun r H5 nr e5 hr => q r H5 (fresh_back ((e2.trans e3).trans e4) nr) (((e2.trans e3).trans e4).trans e5) hr⟩
theorem el_toldW {σ : L2.St} {H : Hp} {tw tl tn : TE} {E : XK} {number : Int} {R : Int → Prop} {a : Addr} {ns : List Int} {C : Addr} {bs : List Bool} (hw : EvI tw σ H R) (hl : Ev tl σ H (.ref a)) (ha : At H a ns) (hn : Ev tn σ H (.int number)) (hz : ns.length ≤ 1000) (h : ∀ z, R z → Refd A z ns number C) (hT : Tells A C bs) :
    EvL (tCall (spTold A) [] E (tCons tw (tCons tl (tCons tn tNil)))) σ H (bs.map V.bl) := fun H1 e Q q => hw H1 e _ fun way H2 e2 rw' => hl H2 (e.trans e2) _ fun H3 e3 => hn H3 ((e.trans e2).trans e3) _ fun H4 e4 =>
    ⟨way, a, ns, number, C, bs, rfl, (((e.trans e2).trans e3).trans e4) _ _ ha, hz, h way rw', hT, fun r H5 nr e5 hr => q r H5 (fresh_back ((e2.trans e3).trans e4) nr) (((e2.trans e3).trans e4).trans e5) hr⟩
theorem ei_one {σ : L2.St} {H : Hp} {ta : TE} {x y : Int} {P : Int → Prop} {tb : TE} {K : PySem.W.Frag} (ha : EvL ta σ H ([x, y].map V.int)) (hb : EvI tb σ H (fun z => 0 ≤ z ∧ z < 2)) (hx : P x) (hy : P y) : EvI (tOp (rIxL K) ta tb) σ H P := fun H1 e Q q =>
  ha H1 e _ fun p H2 _ e2 hp => hb H2 (e.trans e2) _ fun i H3 e3 hi => by
    rcases (show i = 0 ∨ i = 1 by omega) with rfl | rfl
    · exact rv_ix (ns := [x, y]) 0 (sq_of (e3 _ _ hp)) rfl rfl H3 (Ex.refl H3) Q fun H4 e4 => q _ H4 ((e2.trans e3).trans e4) hx
    · exact rv_ix (ns := [x, y]) 1 (sq_of (e3 _ _ hp)) rfl rfl H3 (Ex.refl H3) Q fun H4 e4 => q _ H4 ((e2.trans e3).trans e4) hy
theorem el_rep5 {σ : L2.St} {H : Hp} {b : Bool} : EvL (tOp rRep (tLst (tCons (tC (.bl b)) tNil)) (tC (.int 5))) σ H ([b, b, b, b, b].map V.bl) := fun H1 e Q q =>
  ⟨by show 1 ≤ sizeLine; decide, fun p hp => ⟨p, 5, [.bl b], rfl, rfl, upd_same, by decide, by decide, by show 1 * 5 ≤ sizeLine; decide, fun r hr => q r _ (fresh_back (Ex.new hp) hr) ((Ex.new hp).trans (Ex.new hr)) upd_same⟩⟩
def spLaw (K : PySem.W.Frag) : Sp := fun vs H Q _ => ∃ (a : Addr) (ns : List Int), vs = [.ref a] ∧ SqL K H a (ns.map V.int) ∧ ns.length ≤ 63 ∧ ∀ H', Q (.bl true) H'
theorem ok_law (T : Txt K mg A) : FnOk P w K mg base CX0 7 A.f_law A.d_law ["script"] (spLaw K) := by
  refine T.F_law.ok sc_law (fun vs H Q E h => ?_) (fun cdv AA outer s H vs Q E hr h => ?_)
  · obtain ⟨a, ns, rfl, _⟩ := h
    rfl
  · obtain ⟨l, cs, rfl, hs, hlen, q⟩ := h
    refine ⟨_, (pss_cons (ps_set (i := 1) sc_law.nd rfl (by first | exact Or.inl rfl | exact Or.inr rfl) (pe_call (ok_law_deck T) (hr.mono (by decide)) (by rfl) T.g_law_deck T.F_law_deck.kp T.b_law_deck .nil pass0 (pa_cons (pv 0) (pa_cons pe_int (pa_cons pe_int pa_nil)))))
      (pss_cons (ps_set (i := 2) sc_law.nd rfl (by first | exact Or.inl rfl | exact Or.inr rfl) (pe_op op_mod (pe_call (ok_law_cell_at T) (hr.mono (by decide)) (by rfl) T.g_law_cell_at T.F_law_cell_at.kp T.b_law_cell_at .nil pass0 (pa_cons (pv 0) (pa_cons pe_int pa_nil))) (pe_op op_pow pe_int pe_int)))
      (pss_cons (ps_set (i := 3) sc_law.nd rfl (by first | exact Or.inl rfl | exact Or.inr rfl) (pe_op op_mod (pe_call (ok_law_cell_at T) (hr.mono (by decide)) (by rfl) T.g_law_cell_at T.F_law_cell_at.kp T.b_law_cell_at .nil pass0 (pa_cons (pv 0) (pa_cons pe_int pa_nil))) pe_int))
      (pss_cons (ps_set (i := 4) sc_law.nd rfl (by first | exact Or.inl rfl | exact Or.inr rfl) (pe_op op_mod (pe_call (ok_law_cell_at T) (hr.mono (by decide)) (by rfl) T.g_law_cell_at T.F_law_cell_at.kp T.b_law_cell_at .nil pass0 (pa_cons (pv 0) (pa_cons pe_int pa_nil))) pe_int))
      (pss_cons (ps_set (i := 5) sc_law.nd rfl (by first | exact Or.inl rfl | exact Or.inr rfl) (pe_ix (r := rIxL K) ix_list (pe_lst (pa_cons (pe_op op_sub (pe_un un_neg pe_int) (pv 2)) (pa_cons (pe_op op_add pe_int (pv 2)) (pa_cons pe_int pa_nil)))) (pe_op op_mod (pe_call (ok_law_cell_at T) (hr.mono (by decide)) (by rfl) T.g_law_cell_at T.F_law_cell_at.kp T.b_law_cell_at .nil pass0 (pa_cons (pv 0) (pa_cons pe_int pa_nil))) pe_int) (fun _ _ => rfl)))
      (pss_cons (ps_if (pt_cmpR op_lt (pv 3) pe_int (nomark _))
      (pss_one (ps_ret (pe_cmpR (r := rEqD K) (op_eqD hr.units) (pe_call (ok_law_told T) (hr.mono (by decide)) (by rfl) T.g_law_told T.F_law_told.kp T.b_law_told .nil pass0 (pa_cons (pv 4) (pa_cons (pe_call (ok_law_no_deck T) (hr.mono (by decide)) (by rfl) T.g_law_no_deck T.F_law_no_deck.kp T.b_law_no_deck .nil pass0 (pa_cons (pv 0) (pa_cons (pv 1) (pa_cons (pv 2) pa_nil)))) (pa_cons (pv 5) pa_nil)))) (pe_op op_cat (pe_op op_cat (pe_lst (pa_cons pe_bl pa_nil)) (pe_op op_rep (pe_lst (pa_cons pe_bl pa_nil)) pe_int)) (pe_lst (pa_cons pe_bl pa_nil))) (nomark _))))
      pss_nil)
      (pss_cons (ps_set (i := 6) sc_law.nd rfl (by first | exact Or.inl rfl | exact Or.inr rfl) (pe_lst (pa_cons pe_bl (pa_cons pe_bl (pa_cons pe_bl (pa_cons pe_bl (pa_cons pe_bl (pa_cons pe_bl (pa_cons pe_bl pa_nil)))))))))
      (pss_cons (ps_if (pt_cmpR op_eq (pv 3) pe_int (nomark _))
      (pss_cons (ps_set (i := 5) sc_law.nd rfl (by first | exact Or.inl rfl | exact Or.inr rfl) (pe_ix (r := rIxL K) ix_list (pe_lst (pa_cons (pe_un un_neg (pv 2)) (pa_cons (pe_op op_add pe_int (pv 2)) pa_nil))) (pe_op op_mod (pe_call (ok_law_cell_at T) (hr.mono (by decide)) (by rfl) T.g_law_cell_at T.F_law_cell_at.kp T.b_law_cell_at .nil pass0 (pa_cons (pv 0) (pa_cons pe_int pa_nil))) pe_int) (fun _ _ => rfl)))
        (pss_one (ps_ret (pe_cmpR (r := rEqD K) (op_eqD hr.units) (pe_call (ok_law_told T) (hr.mono (by decide)) (by rfl) T.g_law_told T.F_law_told.kp T.b_law_told .nil pass0 (pa_cons (pe_op op_add pe_int (pe_op op_mod (pe_call (ok_law_cell_at T) (hr.mono (by decide)) (by rfl) T.g_law_cell_at T.F_law_cell_at.kp T.b_law_cell_at .nil pass0 (pa_cons (pv 0) (pa_cons pe_int pa_nil))) pe_int)) (pa_cons (pv 1) (pa_cons (pv 5) pa_nil)))) (pv 6) (nomark _)))))
      pss_nil)
      (pss_cons (ps_if (pt_cmpR op_lt (pe_callB (r := rLenS K) call_len_seq (by rfl) T.n_len PySem.boot_len (pa_cons (pv 1) pa_nil)) pe_int (nomark _))
      (pss_one (ps_set (i := 5) sc_law.nd rfl (by first | exact Or.inl rfl | exact Or.inr rfl) (pe_ix (r := rIxL K) ix_list (pe_lst (pa_cons (pe_op op_sub (pe_un un_neg pe_int) (pv 2)) (pa_cons (pe_op op_add pe_int (pv 2)) pa_nil))) (pe_op op_mod (pe_call (ok_law_cell_at T) (hr.mono (by decide)) (by rfl) T.g_law_cell_at T.F_law_cell_at.kp T.b_law_cell_at .nil pass0 (pa_cons (pv 0) (pa_cons pe_int pa_nil))) pe_int) (fun _ _ => rfl))))
      pss_nil)
      (pss_one (ps_ret (pe_cmpR (r := rEqD K) (op_eqD hr.units) (pe_call (ok_law_told T) (hr.mono (by decide)) (by rfl) T.g_law_told T.F_law_told.kp T.b_law_told .nil pass0 (pa_cons pe_int (pa_cons (pv 1) (pa_cons (pv 5) pa_nil)))) (pv 6) (nomark _))))))))))))), ?_⟩
    refine q_asgLP (ep_deck (ea_cons (ev_var rfl) (ea_cons ev_c (ea_cons ev_c ea_nil))) hs (by decide) (by decide) (by decide)) fun p ds H1 np e1 hp hd => ?_
    obtain ⟨hd, _⟩ := hd
    have h1 := hd.lo
    have h2 := hd.hi
    refine q_asgI (ei_mod (ei_cell (ea_cons (ev_var rfl) (ea_cons ev_c ea_nil)) (ex_l e1 hs) (by decide)) (ev_op ev_c ev_c (rv_I ⟨by decide, by decide, by decide⟩)) (by decide)) fun far H2 hfar e2 => ?_
    have ex2 := e1.trans e2
    refine q_asgI (ei_mod (ei_cell (ea_cons (ev_var rfl) (ea_cons ev_c ea_nil)) (ex_l ex2 hs) (by decide)) ev_c (by decide)) fun kind H3 hkind e3 => ?_
    have ex3 := ex2.trans e3
    refine q_asgI (ei_mod (ei_cell (ea_cons (ev_var rfl) (ea_cons ev_c ea_nil)) (ex_l ex3 hs) (by decide)) ev_c (by decide)) fun way H4 hway e4 => ?_
    have ex4 := ex3.trans e4
    refine q_asgI (ei_ixP (P := fun l => l.length = 3) (EvRP.ofL (elp3 (ei_ev (P := fun _ => True) (ev_op (ev_un ev_c ru_neg) (ev_var rfl) rv_I0) True.intro) (ei_ev (P := fun _ => True) (ev_op ev_c (ev_var rfl) rv_I0) True.intro) (ei_ev (P := fun _ => True) ev_c True.intro)))
      (ei_mod (ei_cell (ea_cons (ev_var rfl) (ea_cons ev_c ea_nil)) (ex_l ex4 hs) (by decide)) ev_c (by decide)) (by
        rintro ns z hn ⟨z0, z1⟩
        rw [hn]
        omega)) fun number H5 _ e5 => ?_
    have ex5 := ex4.trans e5
    have hp5 := (((e2.trans e3).trans e4).trans e5) _ _ hp
    refine q_when (b := decide (kind < 2)) (et_test (ev_op (ev_var rfl) ev_c rv_I0)) (fun _ H6 e6 => ?_) (fun hk2 H6 e6 => ?_)
    · have ex6 := ex5.trans e6
      have hp6 := e6 _ _ hp5
      refine s_ret (ev_eqB (bs := isDk) (cs := isDk) (EvR.new (el_toldN (C := A.c_NoDeck) (ev_var rfl) (ep_noDeck (ea_cons (ev_var rfl) (ea_cons (ev_var rfl) (ea_cons (ev_var rfl) ea_nil))) (ex_l ex6 hs) hp6 hd hfar.1) (ev_var rfl) (fun ns hn => ⟨hn.2, Or.inl ⟨hway.1, hway.2, hn.1, rfl⟩⟩) (Or.inl ⟨rfl, rfl⟩)))
        (EvR.new (el_cat (xs := [V.bl true, V.bl false, V.bl false, V.bl false, V.bl false, V.bl false]) (ys := [V.bl true]) (EvR.new (el_cat (xs := [V.bl true]) (ys := [false, false, false, false, false].map V.bl) (EvR.new (el_lst (ea_cons ev_c ea_nil) (by simp))) (EvR.new el_rep5) (by simp))) (EvR.new (el_lst (ea_cons ev_c ea_nil) (by simp))) (by simp)))) fun H7 _ => ?_
      rw [decide_eq_true rfl]
      exact q _
    have hk2 := of_decide_eq_false hk2
    have ex6 := ex5.trans e6
    have hp6 := e6 _ _ hp5
    refine q_asgL (xs := isTall.map V.bl) (el_lst (ea_cons ev_c (ea_cons ev_c (ea_cons ev_c (ea_cons ev_c (ea_cons ev_c (ea_cons ev_c (ea_cons ev_c ea_nil))))))) (by show 7 ≤ 100000; decide)) fun pt H7 npt e7 hpt => ?_
    have ex7 := ex6.trans e7
    have hp7 := e7 _ _ hp6
    refine q_when (b := decide (kind = 2)) (et_test (ev_op (ev_var rfl) ev_c rv_eqI)) (fun _ H8 e8 => ?_) (fun hk3 H8 e8 => ?_)
    · have ex8 := ex7.trans e8
      refine q_asgI (ei_one (P := fun z => z < 1 ∨ 7 < z) (x := -far) (y := 8 + far) (el_lst (ea_cons (ev_un (ev_var rfl) ru_neg) (ea_cons (ev_op ev_c (ev_var rfl) rv_I0) ea_nil)) (by simp)) (ei_mod (ei_cell (ea_cons (ev_var rfl) (ea_cons ev_c ea_nil)) (ex_l ex8 hs) (by decide)) ev_c (by decide)) (by omega) (by omega)) fun nu H9 hnu e9 => ?_
      have ex9 := ex8.trans e9
      have hp9 := (e8.trans e9) _ _ hp7
      refine s_ret (ev_eqB (bs := isTall) (cs := isTall) (EvR.new (el_toldW (C := A.c_TooTall) (R := fun z => z = 9 ∨ z = 10) (ei_imp (ei_op (ei_ev (P := fun z => z = 9) ev_c rfl) (ei_mod (ei_cell (ea_cons (ev_var rfl) (ea_cons ev_c ea_nil)) (ex_l ex9 hs) (by decide)) ev_c (by decide))) (by
          rintro z ⟨x, y, rfl, hy, rfl⟩
          omega)) (ev_var rfl) hp9 (ev_var rfl) (by omega) (fun z hz => Or.inr (Or.inr ⟨hz, hnu, rfl⟩)) (Or.inr ⟨rfl, rfl⟩)))
        (EvR.old (ev_var rfl) ((e8.trans e9) _ _ hpt))) fun H10 _ => ?_
      rw [decide_eq_true rfl]
      exact q _
    have ex8 := ex7.trans e8
    have hp8 := e8 _ _ hp7
    have hpt8 := e8 _ _ hpt
    have fin : ∀ (nu : Int) (H9 : Hp), Ex H8 H9 → (6 < (ds.length : Int) ∨ nu < 0 ∨ 40 < nu) → tRet (tOp (rEqD K) (tCall (spTold A) [] E0 (tCons (tC (.int 8)) (tCons (tVar 1) (tCons (tVar 5) tNil)))) (tVar 6)) { nx := fun _ H' => Q .non H', rt := Q } [some (.ref l), some (.ref p), some (.int far), some (.int kind), some (.int way), some (.int nu), some (.ref pt)] H9 := fun nu H9 e9 hnu => by
      refine s_ret (ev_eqB (bs := isTall) (cs := isTall) (EvR.new (el_toldW (C := A.c_TooTall) (R := fun z => z = 8) (ei_ev ev_c rfl) (ev_var rfl) (e9 _ _ hp8) (ev_var rfl) (by omega) (fun z hz => Or.inr (Or.inl ⟨hz, hd, hnu, rfl⟩)) (Or.inr ⟨rfl, rfl⟩)))
        (EvR.old (ev_var rfl) (e9 _ _ hpt8))) fun H10 _ => ?_
      rw [decide_eq_true rfl]
      exact q _
    refine q_when (b := decide ((ds.length : Int) < 7)) (et_test (ev_op (ev_lenI (ev_var rfl) (sq_of hp8)) ev_c rv_I0)) (fun _ H9 e9 => ?_) (fun hb H9 e9 => ?_)
    · refine s_asgI (ei_one (P := fun z => z < 0 ∨ 40 < z) (x := -1 - far) (y := 41 + far) (el_lst (ea_cons (ev_op (ev_un ev_c ru_neg) (ev_var rfl) rv_I0) (ea_cons (ev_op ev_c (ev_var rfl) rv_I0) ea_nil)) (by simp)) (ei_mod (ei_cell (ea_cons (ev_var rfl) (ea_cons ev_c ea_nil)) (ex_l (ex8.trans e9) hs) (by decide)) ev_c (by decide)) (by omega) (by omega)) fun nu H10 hnu e10 => ?_
      exact fin nu H10 (e9.trans e10) (Or.inr hnu)
    · have hb := of_decide_eq_false hb
      exact fin number H9 e9 (Or.inl (by omega))

end
theorem all_mk {l : PySem.W.OpenLaw} {w : World} {K : PySem.W.Frag} {h : Heap} {mg : Str → Option Value} {fa : Addr} (X : K.In h) (G : h.Ns mainGlobals mg) (hfa : mg "law" = some (.ref fa))
    {c_Game : Addr}
    {f0 : Addr} {od0 an0 : Option Addr} {sl0 : Array (Option Value)} {oc0 kV0 dc0 pm0 cd0 ct0 : Value}
    {f1 : Addr} {od1 an1 : Option Addr} {sl1 : Array (Option Value)} {oc1 kV1 dc1 pm1 cd1 ct1 : Value}
    {f2 : Addr} {od2 an2 : Option Addr} {sl2 : Array (Option Value)} {oc2 kV2 dc2 pm2 cd2 ct2 : Value}
    {f3 : Addr} {od3 an3 : Option Addr} {sl3 : Array (Option Value)} {oc3 kV3 dc3 pm3 cd3 ct3 : Value}
    {f4 : Addr} {od4 an4 : Option Addr} {sl4 : Array (Option Value)} {oc4 kV4 dc4 pm4 cd4 ct4 : Value}
    {f5 : Addr} {od5 an5 : Option Addr} {sl5 : Array (Option Value)} {oc5 kV5 dc5 pm5 cd5 ct5 : Value}
    {f6 : Addr} {od6 an6 : Option Addr} {sl6 : Array (Option Value)} {oc6 kV6 dc6 pm6 cd6 ct6 : Value}
    {f7 : Addr} {od7 an7 : Option Addr} {sl7 : Array (Option Value)} {oc7 kV7 dc7 pm7 cd7 ct7 : Value}
    {f8 : Addr} {od8 an8 : Option Addr} {sl8 : Array (Option Value)} {oc8 kV8 dc8 pm8 cd8 ct8 : Value}
    {f9 : Addr} {od9 an9 : Option Addr} {sl9 : Array (Option Value)} {oc9 kV9 dc9 pm9 cd9 ct9 : Value}
    {f10 : Addr} {od10 an10 : Option Addr} {sl10 : Array (Option Value)} {oc10 kV10 dc10 pm10 cd10 ct10 : Value}
    {f11 : Addr} {od11 an11 : Option Addr} {sl11 : Array (Option Value)} {oc11 kV11 dc11 pm11 cd11 ct11 : Value}
    {f12 : Addr} {od12 an12 : Option Addr} {sl12 : Array (Option Value)} {oc12 kV12 dc12 pm12 cd12 ct12 : Value}
    {f13 : Addr} {od13 an13 : Option Addr} {sl13 : Array (Option Value)} {oc13 kV13 dc13 pm13 cd13 ct13 : Value}
    {f14 : Addr} {od14 an14 : Option Addr} {sl14 : Array (Option Value)} {oc14 kV14 dc14 pm14 cd14 ct14 : Value}
    {f15 : Addr} {od15 an15 : Option Addr} {sl15 : Array (Option Value)} {oc15 kV15 dc15 pm15 cd15 ct15 : Value}
    {f16 : Addr} {od16 an16 : Option Addr} {sl16 : Array (Option Value)} {oc16 kV16 dc16 pm16 cd16 ct16 : Value}
    {f17 : Addr} {od17 an17 : Option Addr} {sl17 : Array (Option Value)} {oc17 kV17 dc17 pm17 cd17 ct17 : Value}
    {f18 : Addr} {od18 an18 : Option Addr} {sl18 : Array (Option Value)} {oc18 kV18 dc18 pm18 cd18 ct18 : Value}
    {f19 : Addr} {od19 an19 : Option Addr} {sl19 : Array (Option Value)} {oc19 kV19 dc19 pm19 cd19 ct19 : Value}
    {t_MOST : Tok}
    {t_MOST_BACK : Tok}
    {t_MOST_COUNTED : Tok}
    {c_CardError : Addr}
    {c_NoDeck : Addr}
    {c_NoTurn : Addr}
    {c_NoGame : Addr}
    {c_TooTall : Addr}
    {c_NoBack : Addr}
    {c_BadLine : Addr}
    (gG_Game : PySem.W.nsIn K mainGlobals "Game" = some (some (.ref c_Game)))
    (a0 : PySem.W.nsIn K mainGlobals "ask" = some (some (.ref f0)))
    (l0 : K.lookup f0 = some ⟨oc0, od0, .func (PySem.W.fnOf "ask" "ask" (defArgs s_ask) (defBody s_ask) (defScope s_ask) .none kV0 dc0 pm0 an0 cd0 ct0), sl0⟩)
    (c0 : PySem.W.codeIn K cd0 "ask" = true)
    (k0 : PySem.W.keepIn K (.ref f0) = true)
    (a1 : PySem.W.nsIn K mainGlobals "turned" = some (some (.ref f1)))
    (l1 : K.lookup f1 = some ⟨oc1, od1, .func (PySem.W.fnOf "turned" "turned" (defArgs s_turned) (defBody s_turned) (defScope s_turned) .none kV1 dc1 pm1 an1 cd1 ct1), sl1⟩)
    (c1 : PySem.W.codeIn K cd1 "turned" = true)
    (k1 : PySem.W.keepIn K (.ref f1) = true)
    (a2 : PySem.W.nsIn K mainGlobals "tops" = some (some (.ref f2)))
    (l2 : K.lookup f2 = some ⟨oc2, od2, .func (PySem.W.fnOf "tops" "tops" (defArgs s_tops) (defBody s_tops) (defScope s_tops) .none kV2 dc2 pm2 an2 cd2 ct2), sl2⟩)
    (c2 : PySem.W.codeIn K cd2 "tops" = true)
    (k2 : PySem.W.keepIn K (.ref f2) = true)
    (a3 : PySem.W.nsIn K mainGlobals "end" = some (some (.ref f3)))
    (l3 : K.lookup f3 = some ⟨oc3, od3, .func (PySem.W.fnOf "end" "end" (defArgs s_end) (defBody s_end) (defScope s_end) .none kV3 dc3 pm3 an3 cd3 ct3), sl3⟩)
    (c3 : PySem.W.codeIn K cd3 "end" = true)
    (k3 : PySem.W.keepIn K (.ref f3) = true)
    (a4 : PySem.W.nsIn K mainGlobals "weight" = some (some (.ref f4)))
    (l4 : K.lookup f4 = some ⟨oc4, od4, .func (PySem.W.fnOf "weight" "weight" (defArgs s_weight) (defBody s_weight) (defScope s_weight) .none kV4 dc4 pm4 an4 cd4 ct4), sl4⟩)
    (c4 : PySem.W.codeIn K cd4 "weight" = true)
    (k4 : PySem.W.keepIn K (.ref f4) = true)
    (a5 : PySem.W.nsIn K mainGlobals "aheads" = some (some (.ref f5)))
    (l5 : K.lookup f5 = some ⟨oc5, od5, .func (PySem.W.fnOf "aheads" "aheads" (defArgs s_aheads) (defBody s_aheads) (defScope s_aheads) .none kV5 dc5 pm5 an5 cd5 ct5), sl5⟩)
    (c5 : PySem.W.codeIn K cd5 "aheads" = true)
    (k5 : PySem.W.keepIn K (.ref f5) = true)
    (a6 : PySem.W.nsIn K mainGlobals "shown" = some (some (.ref f6)))
    (l6 : K.lookup f6 = some ⟨oc6, od6, .func (PySem.W.fnOf "shown" "shown" (defArgs s_shown) (defBody s_shown) (defScope s_shown) .none kV6 dc6 pm6 an6 cd6 ct6), sl6⟩)
    (c6 : PySem.W.codeIn K cd6 "shown" = true)
    (k6 : PySem.W.keepIn K (.ref f6) = true)
    (a7 : PySem.W.nsIn K mainGlobals "undone" = some (some (.ref f7)))
    (l7 : K.lookup f7 = some ⟨oc7, od7, .func (PySem.W.fnOf "undone" "undone" (defArgs s_undone) (defBody s_undone) (defScope s_undone) .none kV7 dc7 pm7 an7 cd7 ct7), sl7⟩)
    (c7 : PySem.W.codeIn K cd7 "undone" = true)
    (k7 : PySem.W.keepIn K (.ref f7) = true)
    (a8 : PySem.W.nsIn K mainGlobals "sources" = some (some (.ref f8)))
    (l8 : K.lookup f8 = some ⟨oc8, od8, .func (PySem.W.fnOf "sources" "sources" (defArgs s_sources) (defBody s_sources) (defScope s_sources) .none kV8 dc8 pm8 an8 cd8 ct8), sl8⟩)
    (c8 : PySem.W.codeIn K cd8 "sources" = true)
    (k8 : PySem.W.keepIn K (.ref f8) = true)
    (a9 : PySem.W.nsIn K mainGlobals "layers" = some (some (.ref f9)))
    (l9 : K.lookup f9 = some ⟨oc9, od9, .func (PySem.W.fnOf "layers" "layers" (defArgs s_layers) (defBody s_layers) (defScope s_layers) .none kV9 dc9 pm9 an9 cd9 ct9), sl9⟩)
    (c9 : PySem.W.codeIn K cd9 "layers" = true)
    (k9 : PySem.W.keepIn K (.ref f9) = true)
    (a10 : PySem.W.nsIn K mainGlobals "counts" = some (some (.ref f10)))
    (l10 : K.lookup f10 = some ⟨oc10, od10, .func (PySem.W.fnOf "counts" "counts" (defArgs s_counts) (defBody s_counts) (defScope s_counts) .none kV10 dc10 pm10 an10 cd10 ct10), sl10⟩)
    (c10 : PySem.W.codeIn K cd10 "counts" = true)
    (k10 : PySem.W.keepIn K (.ref f10) = true)
    (a11 : PySem.W.nsIn K mainGlobals "longest" = some (some (.ref f11)))
    (l11 : K.lookup f11 = some ⟨oc11, od11, .func (PySem.W.fnOf "longest" "longest" (defArgs s_longest) (defBody s_longest) (defScope s_longest) .none kV11 dc11 pm11 an11 cd11 ct11), sl11⟩)
    (c11 : PySem.W.codeIn K cd11 "longest" = true)
    (k11 : PySem.W.keepIn K (.ref f11) = true)
    (a12 : PySem.W.findIn K (.ref c_Game) "__init__" = some (some (.ref f12)))
    (i12 : PySem.W.isFn K (.ref f12) = true)
    (l12 : K.lookup f12 = some ⟨oc12, od12, .func (PySem.W.fnOf "__init__" "Game.__init__" (defArgs s_Game___init__) (defBody s_Game___init__) (defScope s_Game___init__) .none kV12 dc12 pm12 an12 cd12 ct12), sl12⟩)
    (c12 : PySem.W.codeIn K cd12 "Game.__init__" = true)
    (k12 : PySem.W.keepIn K (.ref f12) = true)
    (a13 : PySem.W.nsIn K mainGlobals "_law_cell_at" = some (some (.ref f13)))
    (l13 : K.lookup f13 = some ⟨oc13, od13, .func (PySem.W.fnOf "_law_cell_at" "_law_cell_at" (defArgs s_law_cell_at) (defBody s_law_cell_at) (defScope s_law_cell_at) .none kV13 dc13 pm13 an13 cd13 ct13), sl13⟩)
    (c13 : PySem.W.codeIn K cd13 "_law_cell_at" = true)
    (k13 : PySem.W.keepIn K (.ref f13) = true)
    (a14 : PySem.W.nsIn K mainGlobals "_law_deck" = some (some (.ref f14)))
    (l14 : K.lookup f14 = some ⟨oc14, od14, .func (PySem.W.fnOf "_law_deck" "_law_deck" (defArgs s_law_deck) (defBody s_law_deck) (defScope s_law_deck) .none kV14 dc14 pm14 an14 cd14 ct14), sl14⟩)
    (c14 : PySem.W.codeIn K cd14 "_law_deck" = true)
    (k14 : PySem.W.keepIn K (.ref f14) = true)
    (a15 : PySem.W.nsIn K mainGlobals "_law_which" = some (some (.ref f15)))
    (l15 : K.lookup f15 = some ⟨oc15, od15, .func (PySem.W.fnOf "_law_which" "_law_which" (defArgs s_law_which) (defBody s_law_which) (defScope s_law_which) .none kV15 dc15 pm15 an15 cd15 ct15), sl15⟩)
    (c15 : PySem.W.codeIn K cd15 "_law_which" = true)
    (k15 : PySem.W.keepIn K (.ref f15) = true)
    (a16 : PySem.W.nsIn K mainGlobals "_law_asked" = some (some (.ref f16)))
    (l16 : K.lookup f16 = some ⟨oc16, od16, .func (PySem.W.fnOf "_law_asked" "_law_asked" (defArgs s_law_asked) (defBody s_law_asked) (defScope s_law_asked) .none kV16 dc16 pm16 an16 cd16 ct16), sl16⟩)
    (c16 : PySem.W.codeIn K cd16 "_law_asked" = true)
    (k16 : PySem.W.keepIn K (.ref f16) = true)
    (a17 : PySem.W.nsIn K mainGlobals "_law_told" = some (some (.ref f17)))
    (l17 : K.lookup f17 = some ⟨oc17, od17, .func (PySem.W.fnOf "_law_told" "_law_told" (defArgs s_law_told) (defBody s_law_told) (defScope s_law_told) .none kV17 dc17 pm17 an17 cd17 ct17), sl17⟩)
    (c17 : PySem.W.codeIn K cd17 "_law_told" = true)
    (k17 : PySem.W.keepIn K (.ref f17) = true)
    (a18 : PySem.W.nsIn K mainGlobals "_law_no_deck" = some (some (.ref f18)))
    (l18 : K.lookup f18 = some ⟨oc18, od18, .func (PySem.W.fnOf "_law_no_deck" "_law_no_deck" (defArgs s_law_no_deck) (defBody s_law_no_deck) (defScope s_law_no_deck) .none kV18 dc18 pm18 an18 cd18 ct18), sl18⟩)
    (c18 : PySem.W.codeIn K cd18 "_law_no_deck" = true)
    (k18 : PySem.W.keepIn K (.ref f18) = true)
    (a19 : PySem.W.nsIn K mainGlobals "law" = some (some (.ref f19)))
    (l19 : K.lookup f19 = some ⟨oc19, od19, .func (PySem.W.fnOf "law" "law" (defArgs s_law) (defBody s_law) (defScope s_law) .none kV19 dc19 pm19 an19 cd19 ct19), sl19⟩)
    (c19 : PySem.W.codeIn K cd19 "law" = true)
    (k19 : PySem.W.keepIn K (.ref f19) = true)
    (z_len : PySem.W.nsIn K mainGlobals "len" = some none)
    (z_sorted : PySem.W.nsIn K mainGlobals "sorted" = some none)
    (z_list : PySem.W.nsIn K mainGlobals "list" = some none)
    (z_range : PySem.W.nsIn K mainGlobals "range" = some none)
    (z_reversed : PySem.W.nsIn K mainGlobals "reversed" = some none)
    (z_isinstance : PySem.W.nsIn K mainGlobals "isinstance" = some none)
    (z_str : PySem.W.nsIn K mainGlobals "str" = some none)
    (z_ValueError : PySem.W.nsIn K mainGlobals "ValueError" = some none)
    (y_MOST : PySem.W.nsIn K mainGlobals "MOST" = some (some (.int 16 t_MOST)))
    (y_MOST_BACK : PySem.W.nsIn K mainGlobals "MOST_BACK" = some (some (.int 6 t_MOST_BACK)))
    (y_MOST_COUNTED : PySem.W.nsIn K mainGlobals "MOST_COUNTED" = some (some (.int 7 t_MOST_COUNTED)))
    (pg_Game : PySem.W.plainGet K c_Game Str.empty = true)
    (hd_Game : PySem.W.hasDictIn K c_Game = true)
    (po_Game : PySem.W.plainOver K c_Game = true)
    (sa_Game : PySem.W.findIn K (.ref c_Game) "__setattr__" = some (some (.builtin "object.__setattr__")))
    (mk_Game : PySem.W.makesIn K c_Game = true)
    (kc_Game : PySem.W.keepIn K (.ref c_Game) = true)
    (nf_Game_cards : PySem.W.findIn K (.ref c_Game) "cards" = some none)
    (nf_Game_done : PySem.W.findIn K (.ref c_Game) "done" = some none)
    (cg_CardError : PySem.W.nsIn K mainGlobals "CardError" = some (some (.ref c_CardError)))
    (ci_CardError : PySem.W.isClsIn K c_CardError = true)
    (ct_CardError : PySem.W.typeIn K (.ref c_CardError) = some (.type "type"))
    (cg_NoDeck : PySem.W.nsIn K mainGlobals "NoDeck" = some (some (.ref c_NoDeck)))
    (ci_NoDeck : PySem.W.isClsIn K c_NoDeck = true)
    (ct_NoDeck : PySem.W.typeIn K (.ref c_NoDeck) = some (.type "type"))
    (cg_NoTurn : PySem.W.nsIn K mainGlobals "NoTurn" = some (some (.ref c_NoTurn)))
    (ci_NoTurn : PySem.W.isClsIn K c_NoTurn = true)
    (ct_NoTurn : PySem.W.typeIn K (.ref c_NoTurn) = some (.type "type"))
    (cg_NoGame : PySem.W.nsIn K mainGlobals "NoGame" = some (some (.ref c_NoGame)))
    (ci_NoGame : PySem.W.isClsIn K c_NoGame = true)
    (ct_NoGame : PySem.W.typeIn K (.ref c_NoGame) = some (.type "type"))
    (cg_TooTall : PySem.W.nsIn K mainGlobals "TooTall" = some (some (.ref c_TooTall)))
    (ci_TooTall : PySem.W.isClsIn K c_TooTall = true)
    (ct_TooTall : PySem.W.typeIn K (.ref c_TooTall) = some (.type "type"))
    (cg_NoBack : PySem.W.nsIn K mainGlobals "NoBack" = some (some (.ref c_NoBack)))
    (ci_NoBack : PySem.W.isClsIn K c_NoBack = true)
    (ct_NoBack : PySem.W.typeIn K (.ref c_NoBack) = some (.type "type"))
    (cg_BadLine : PySem.W.nsIn K mainGlobals "BadLine" = some (some (.ref c_BadLine)))
    (ci_BadLine : PySem.W.isClsIn K c_BadLine = true)
    (ct_BadLine : PySem.W.typeIn K (.ref c_BadLine) = some (.type "type"))
    (ek_NoDeck : PySem.W.keepIn K (.ref c_NoDeck) = true)
    (ex_NoDeck : PySem.W.excIn K c_NoDeck [.type "ValueError", .type "Exception", .type "BaseException", .type "object"] "ValueError.__new__" = true)
    (eb_NoDeck : PySem.W.subIn K (.ref c_NoDeck) (.type "BaseException") = some true)
    (ev_NoDeck : PySem.W.subIn K (.ref c_NoDeck) (.type "ValueError") = some true)
    (es_NoDeck : PySem.W.subIn K (.ref c_NoDeck) (.ref c_NoDeck) = some true)
    (ehg_NoDeck : PySem.W.findIn K (.ref c_NoDeck) "__getattribute__" = some (some (.builtin "BaseException.__getattribute__")))
    (ehk_NoDeck : PySem.W.findIn K (.ref c_NoDeck) "__getattr__" = some none)
    (ehd_NoDeck : PySem.W.hasDictIn K c_NoDeck = true)
    (eha_NoDeck : PySem.W.findIn K (.ref c_NoDeck) "__class__" = some (some (.builtin "object.__class__")))
    (ehm_NoDeck : PySem.W.mroIn K c_NoDeck (.type "object") = some true)
    (es_NoDeck_CardError : PySem.W.subIn K (.ref c_NoDeck) (.ref c_CardError) = some true)
    (es_NoDeck_NoTurn : PySem.W.subIn K (.ref c_NoDeck) (.ref c_NoTurn) = some false)
    (es_NoDeck_NoGame : PySem.W.subIn K (.ref c_NoDeck) (.ref c_NoGame) = some false)
    (es_NoDeck_TooTall : PySem.W.subIn K (.ref c_NoDeck) (.ref c_TooTall) = some false)
    (es_NoDeck_NoBack : PySem.W.subIn K (.ref c_NoDeck) (.ref c_NoBack) = some false)
    (es_NoDeck_BadLine : PySem.W.subIn K (.ref c_NoDeck) (.ref c_BadLine) = some false)
    (ek_TooTall : PySem.W.keepIn K (.ref c_TooTall) = true)
    (ex_TooTall : PySem.W.excIn K c_TooTall [.type "ValueError", .type "Exception", .type "BaseException", .type "object"] "ValueError.__new__" = true)
    (eb_TooTall : PySem.W.subIn K (.ref c_TooTall) (.type "BaseException") = some true)
    (ev_TooTall : PySem.W.subIn K (.ref c_TooTall) (.type "ValueError") = some true)
    (es_TooTall : PySem.W.subIn K (.ref c_TooTall) (.ref c_TooTall) = some true)
    (ehg_TooTall : PySem.W.findIn K (.ref c_TooTall) "__getattribute__" = some (some (.builtin "BaseException.__getattribute__")))
    (ehk_TooTall : PySem.W.findIn K (.ref c_TooTall) "__getattr__" = some none)
    (ehd_TooTall : PySem.W.hasDictIn K c_TooTall = true)
    (eha_TooTall : PySem.W.findIn K (.ref c_TooTall) "__class__" = some (some (.builtin "object.__class__")))
    (ehm_TooTall : PySem.W.mroIn K c_TooTall (.type "object") = some true)
    (es_TooTall_CardError : PySem.W.subIn K (.ref c_TooTall) (.ref c_CardError) = some true)
    (es_TooTall_NoDeck : PySem.W.subIn K (.ref c_TooTall) (.ref c_NoDeck) = some false)
    (es_TooTall_NoTurn : PySem.W.subIn K (.ref c_TooTall) (.ref c_NoTurn) = some false)
    (es_TooTall_NoGame : PySem.W.subIn K (.ref c_TooTall) (.ref c_NoGame) = some false)
    (es_TooTall_NoBack : PySem.W.subIn K (.ref c_TooTall) (.ref c_NoBack) = some false)
    (es_TooTall_BadLine : PySem.W.subIn K (.ref c_TooTall) (.ref c_BadLine) = some false)
    (q_n : PySem.W.specialIn K (.builtin "object.__class__") "__get__" = some (some (.builtin "getset_descriptor.__get__")))
    (q_t : PySem.W.takesIn K (.builtin "object.__class__") = some true)
    (kb_CardError : PySem.W.subIn K (.ref c_CardError) (.type "BaseException") = some true)
    (kd_CardError : PySem.W.hasDictIn K c_CardError = true) :
    ∃ fd : FuncData, (∀ (s : Shared) (v : Value), BindsTo s fd ⟨[v], []⟩ [("script", v)]) ∧ ∀ base : Heap, K.In base → base.Ns mainGlobals mg → FnOk l.prog w K mg base CX0 7 fa fd ["script"] (spLaw K) := by
  have e := hfa.symm.trans (PySem.W.mg_of X G a19)
  cases e
  have F0 := fun_mk (st := s_ask) l0 c0 k0
  have b0 := F0.binds (ps := ["deck"]) fun _ _ _ _ _ _ us hl => match us, hl with | [_], _ => rfl
  have F1 := fun_mk (st := s_turned) l1 c1 k1
  have b1 := F1.binds (ps := ["deck"]) fun _ _ _ _ _ _ us hl => match us, hl with | [_], _ => rfl
  have F2 := fun_mk (st := s_tops) l2 c2 k2
  have b2 := F2.binds (ps := ["deck"]) fun _ _ _ _ _ _ us hl => match us, hl with | [_], _ => rfl
  have F3 := fun_mk (st := s_end) l3 c3 k3
  have b3 := F3.binds (ps := ["deck"]) fun _ _ _ _ _ _ us hl => match us, hl with | [_], _ => rfl
  have F4 := fun_mk (st := s_weight) l4 c4 k4
  have b4 := F4.binds (ps := ["deck"]) fun _ _ _ _ _ _ us hl => match us, hl with | [_], _ => rfl
  have F5 := fun_mk (st := s_aheads) l5 c5 k5
  have b5 := F5.binds (ps := ["deck"]) fun _ _ _ _ _ _ us hl => match us, hl with | [_], _ => rfl
  have F6 := fun_mk (st := s_shown) l6 c6 k6
  have b6 := F6.binds (ps := ["deck"]) fun _ _ _ _ _ _ us hl => match us, hl with | [_], _ => rfl
  have F7 := fun_mk (st := s_undone) l7 c7 k7
  have b7 := F7.binds (ps := ["last", "row"]) fun _ _ _ _ _ _ us hl => match us, hl with | [_, _], _ => rfl
  have F8 := fun_mk (st := s_sources) l8 c8 k8
  have b8 := F8.binds (ps := ["deck", "turns"]) fun _ _ _ _ _ _ us hl => match us, hl with | [_, _], _ => rfl
  have F9 := fun_mk (st := s_layers) l9 c9 k9
  have b9 := F9.binds (ps := ["size"]) fun _ _ _ _ _ _ us hl => match us, hl with | [_], _ => rfl
  have F10 := fun_mk (st := s_counts) l10 c10 k10
  have b10 := F10.binds (ps := ["size"]) fun _ _ _ _ _ _ us hl => match us, hl with | [_], _ => rfl
  have F11 := fun_mk (st := s_longest) l11 c11 k11
  have b11 := F11.binds (ps := ["size"]) fun _ _ _ _ _ _ us hl => match us, hl with | [_], _ => rfl
  have F12 := fun_mk (st := s_Game___init__) l12 c12 k12
  have b12 := F12.binds (ps := ["self", "deck"]) fun _ _ _ _ _ _ us hl => match us, hl with | [_, _], _ => rfl
  have F13 := fun_mk (st := s_law_cell_at) l13 c13 k13
  have b13 := F13.binds (ps := ["script", "k"]) fun _ _ _ _ _ _ us hl => match us, hl with | [_, _], _ => rfl
  have F14 := fun_mk (st := s_law_deck) l14 c14 k14
  have b14 := F14.binds (ps := ["script", "at", "most"]) fun _ _ _ _ _ _ us hl => match us, hl with | [_, _, _], _ => rfl
  have F15 := fun_mk (st := s_law_which) l15 c15 k15
  have b15 := F15.binds (ps := ["e"]) fun _ _ _ _ _ _ us hl => match us, hl with | [_], _ => rfl
  have F16 := fun_mk (st := s_law_asked) l16 c16 k16
  have b16 := F16.binds (ps := ["way", "deck", "number"]) fun _ _ _ _ _ _ us hl => match us, hl with | [_, _, _], _ => rfl
  have F17 := fun_mk (st := s_law_told) l17 c17 k17
  have b17 := F17.binds (ps := ["way", "deck", "number"]) fun _ _ _ _ _ _ us hl => match us, hl with | [_, _, _], _ => rfl
  have F18 := fun_mk (st := s_law_no_deck) l18 c18 k18
  have b18 := F18.binds (ps := ["script", "deck", "far"]) fun _ _ _ _ _ _ us hl => match us, hl with | [_, _, _], _ => rfl
  have F19 := fun_mk (st := s_law) l19 c19 k19
  have b19 := F19.binds (ps := ["script"]) fun _ _ _ _ _ _ us hl => match us, hl with | [_], _ => rfl
  have T : Txt K mg { f_ask := f0, d_ask := PySem.W.fnOf "ask" "ask" (defArgs s_ask) (defBody s_ask) (defScope s_ask) .none kV0 dc0 pm0 an0 cd0 ct0, f_turned := f1, d_turned := PySem.W.fnOf "turned" "turned" (defArgs s_turned) (defBody s_turned) (defScope s_turned) .none kV1 dc1 pm1 an1 cd1 ct1, f_tops := f2, d_tops := PySem.W.fnOf "tops" "tops" (defArgs s_tops) (defBody s_tops) (defScope s_tops) .none kV2 dc2 pm2 an2 cd2 ct2, f_end := f3, d_end := PySem.W.fnOf "end" "end" (defArgs s_end) (defBody s_end) (defScope s_end) .none kV3 dc3 pm3 an3 cd3 ct3, f_weight := f4, d_weight := PySem.W.fnOf "weight" "weight" (defArgs s_weight) (defBody s_weight) (defScope s_weight) .none kV4 dc4 pm4 an4 cd4 ct4, f_aheads := f5, d_aheads := PySem.W.fnOf "aheads" "aheads" (defArgs s_aheads) (defBody s_aheads) (defScope s_aheads) .none kV5 dc5 pm5 an5 cd5 ct5, f_shown := f6, d_shown := PySem.W.fnOf "shown" "shown" (defArgs s_shown) (defBody s_shown) (defScope s_shown) .none kV6 dc6 pm6 an6 cd6 ct6, f_undone := f7, d_undone := PySem.W.fnOf "undone" "undone" (defArgs s_undone) (defBody s_undone) (defScope s_undone) .none kV7 dc7 pm7 an7 cd7 ct7, f_sources := f8, d_sources := PySem.W.fnOf "sources" "sources" (defArgs s_sources) (defBody s_sources) (defScope s_sources) .none kV8 dc8 pm8 an8 cd8 ct8, f_layers := f9, d_layers := PySem.W.fnOf "layers" "layers" (defArgs s_layers) (defBody s_layers) (defScope s_layers) .none kV9 dc9 pm9 an9 cd9 ct9, f_counts := f10, d_counts := PySem.W.fnOf "counts" "counts" (defArgs s_counts) (defBody s_counts) (defScope s_counts) .none kV10 dc10 pm10 an10 cd10 ct10, f_longest := f11, d_longest := PySem.W.fnOf "longest" "longest" (defArgs s_longest) (defBody s_longest) (defScope s_longest) .none kV11 dc11 pm11 an11 cd11 ct11, f_Game___init__ := f12, d_Game___init__ := PySem.W.fnOf "__init__" "Game.__init__" (defArgs s_Game___init__) (defBody s_Game___init__) (defScope s_Game___init__) .none kV12 dc12 pm12 an12 cd12 ct12, f_law_cell_at := f13, d_law_cell_at := PySem.W.fnOf "_law_cell_at" "_law_cell_at" (defArgs s_law_cell_at) (defBody s_law_cell_at) (defScope s_law_cell_at) .none kV13 dc13 pm13 an13 cd13 ct13, f_law_deck := f14, d_law_deck := PySem.W.fnOf "_law_deck" "_law_deck" (defArgs s_law_deck) (defBody s_law_deck) (defScope s_law_deck) .none kV14 dc14 pm14 an14 cd14 ct14, f_law_which := f15, d_law_which := PySem.W.fnOf "_law_which" "_law_which" (defArgs s_law_which) (defBody s_law_which) (defScope s_law_which) .none kV15 dc15 pm15 an15 cd15 ct15, f_law_asked := f16, d_law_asked := PySem.W.fnOf "_law_asked" "_law_asked" (defArgs s_law_asked) (defBody s_law_asked) (defScope s_law_asked) .none kV16 dc16 pm16 an16 cd16 ct16, f_law_told := f17, d_law_told := PySem.W.fnOf "_law_told" "_law_told" (defArgs s_law_told) (defBody s_law_told) (defScope s_law_told) .none kV17 dc17 pm17 an17 cd17 ct17, f_law_no_deck := f18, d_law_no_deck := PySem.W.fnOf "_law_no_deck" "_law_no_deck" (defArgs s_law_no_deck) (defBody s_law_no_deck) (defScope s_law_no_deck) .none kV18 dc18 pm18 an18 cd18 ct18, f_law := fa, d_law := PySem.W.fnOf "law" "law" (defArgs s_law) (defBody s_law) (defScope s_law) .none kV19 dc19 pm19 an19 cd19 ct19, t_MOST := t_MOST, t_MOST_BACK := t_MOST_BACK, t_MOST_COUNTED := t_MOST_COUNTED, c_CardError := c_CardError, c_NoDeck := c_NoDeck, c_NoTurn := c_NoTurn, c_NoGame := c_NoGame, c_TooTall := c_TooTall, c_NoBack := c_NoBack, c_BadLine := c_BadLine, c_Game := c_Game } :=
    { n_len := PySem.W.mg_none_of X G z_len, n_sorted := PySem.W.mg_none_of X G z_sorted, n_list := PySem.W.mg_none_of X G z_list, n_range := PySem.W.mg_none_of X G z_range, n_reversed := PySem.W.mg_none_of X G z_reversed, n_isinstance := PySem.W.mg_none_of X G z_isinstance, n_str := PySem.W.mg_none_of X G z_str, n_ValueError := PySem.W.mg_none_of X G z_ValueError, g_MOST := PySem.W.mg_of X G y_MOST, g_MOST_BACK := PySem.W.mg_of X G y_MOST_BACK, g_MOST_COUNTED := PySem.W.mg_of X G y_MOST_COUNTED, F_ask := F0, g_ask := PySem.W.mg_of X G a0, b_ask := b0, F_turned := F1, g_turned := PySem.W.mg_of X G a1, b_turned := b1, F_tops := F2, g_tops := PySem.W.mg_of X G a2, b_tops := b2, F_end := F3, g_end := PySem.W.mg_of X G a3, b_end := b3, F_weight := F4, g_weight := PySem.W.mg_of X G a4, b_weight := b4, F_aheads := F5, g_aheads := PySem.W.mg_of X G a5, b_aheads := b5, F_shown := F6, g_shown := PySem.W.mg_of X G a6, b_shown := b6, F_undone := F7, g_undone := PySem.W.mg_of X G a7, b_undone := b7, F_sources := F8, g_sources := PySem.W.mg_of X G a8, b_sources := b8, F_layers := F9, g_layers := PySem.W.mg_of X G a9, b_layers := b9, F_counts := F10, g_counts := PySem.W.mg_of X G a10, b_counts := b10, F_longest := F11, g_longest := PySem.W.mg_of X G a11, b_longest := b11, F_Game___init__ := F12, m_Game___init__ := ⟨a12, i12, k12⟩, b_Game___init__ := b12, F_law_cell_at := F13, g_law_cell_at := PySem.W.mg_of X G a13, b_law_cell_at := b13, F_law_deck := F14, g_law_deck := PySem.W.mg_of X G a14, b_law_deck := b14, F_law_which := F15, g_law_which := PySem.W.mg_of X G a15, b_law_which := b15, F_law_asked := F16, g_law_asked := PySem.W.mg_of X G a16, b_law_asked := b16, F_law_told := F17, g_law_told := PySem.W.mg_of X G a17, b_law_told := b17, F_law_no_deck := F18, g_law_no_deck := PySem.W.mg_of X G a18, b_law_no_deck := b18, F_law := F19, g_law := PySem.W.mg_of X G a19, b_law := b19, C_Game := ⟨pg_Game, hd_Game, po_Game, sa_Game⟩, k_Game := ⟨mk_Game, a12, i12, kc_Game⟩, G_Game := PySem.W.mg_of X G gG_Game, N_Game_cards := nf_Game_cards, N_Game_done := nf_Game_done, K_CardError := ⟨PySem.W.mg_of X G cg_CardError, ci_CardError, ct_CardError⟩, K_NoDeck := ⟨PySem.W.mg_of X G cg_NoDeck, ci_NoDeck, ct_NoDeck⟩, K_NoTurn := ⟨PySem.W.mg_of X G cg_NoTurn, ci_NoTurn, ct_NoTurn⟩, K_NoGame := ⟨PySem.W.mg_of X G cg_NoGame, ci_NoGame, ct_NoGame⟩, K_TooTall := ⟨PySem.W.mg_of X G cg_TooTall, ci_TooTall, ct_TooTall⟩, K_NoBack := ⟨PySem.W.mg_of X G cg_NoBack, ci_NoBack, ct_NoBack⟩, K_BadLine := ⟨PySem.W.mg_of X G cg_BadLine, ci_BadLine, ct_BadLine⟩, E_NoDeck := ⟨PySem.W.mg_of X G cg_NoDeck, ek_NoDeck, ex_NoDeck, eb_NoDeck, ev_NoDeck, ct_NoDeck, ci_NoDeck, es_NoDeck, ⟨ehg_NoDeck, ehk_NoDeck, eb_NoDeck, ehd_NoDeck, eha_NoDeck, q_n, q_t, ehm_NoDeck⟩⟩, s_NoDeck_CardError := es_NoDeck_CardError, s_NoDeck_NoTurn := es_NoDeck_NoTurn, s_NoDeck_NoGame := es_NoDeck_NoGame, s_NoDeck_TooTall := es_NoDeck_TooTall, s_NoDeck_NoBack := es_NoDeck_NoBack, s_NoDeck_BadLine := es_NoDeck_BadLine, E_TooTall := ⟨PySem.W.mg_of X G cg_TooTall, ek_TooTall, ex_TooTall, eb_TooTall, ev_TooTall, ct_TooTall, ci_TooTall, es_TooTall, ⟨ehg_TooTall, ehk_TooTall, eb_TooTall, ehd_TooTall, eha_TooTall, q_n, q_t, ehm_TooTall⟩⟩, s_TooTall_CardError := es_TooTall_CardError, s_TooTall_NoDeck := es_TooTall_NoDeck, s_TooTall_NoTurn := es_TooTall_NoTurn, s_TooTall_NoGame := es_TooTall_NoGame, s_TooTall_NoBack := es_TooTall_NoBack, s_TooTall_BadLine := es_TooTall_BadLine, cb_CardError := kb_CardError, cd_CardError := kd_CardError }
  exact ⟨_, fun s v => .of_eq rfl, fun base _ _ => ok_law T⟩
end Tt
open PySem PySem.W PyProof.Rows
set_option maxHeartbeats 0 in
theorem PySem.Challenge.cw_topturn_k15_each_refusal_its_own_holds : PySem.Challenge.rw_topturn_k15_each_refusal_its_own.Holds := by
  w_on; o_law; k_head; (case hw => w_witness2)
  k_fill
  refine L2.walk_of (l := PySem.Challenge.rw_topturn_k15_each_refusal_its_own) (n := 63) (k := 7) (x := "script") (CX := fun _ => L2.CX0) (sp := fun w => Tt.spLaw _) rfl (by decide) rfl ⟨rfl, by decide, by decide⟩ (fun w h Y => PySem.W.kIn_of Y) ?F (fun _ _ a ns hl _ hS => ⟨a, ns, rfl, hS, hl, fun _ => rfl⟩) (fun _ _ _ _ _ h => h)
  case F =>
    intro w mg fa h KX G hmg
    refine' Tt.all_mk KX G hmg ?gG_Game ?a0 ?l0 ?c0 ?k0 ?a1 ?l1 ?c1 ?k1 ?a2 ?l2 ?c2 ?k2 ?a3 ?l3 ?c3 ?k3 ?a4 ?l4 ?c4 ?k4 ?a5 ?l5 ?c5 ?k5 ?a6 ?l6 ?c6 ?k6 ?a7 ?l7 ?c7 ?k7 ?a8 ?l8 ?c8 ?k8 ?a9 ?l9 ?c9 ?k9 ?a10 ?l10 ?c10 ?k10 ?a11 ?l11 ?c11 ?k11 ?a12 ?i12 ?l12 ?c12 ?k12 ?a13 ?l13 ?c13 ?k13 ?a14 ?l14 ?c14 ?k14 ?a15 ?l15 ?c15 ?k15 ?a16 ?l16 ?c16 ?k16 ?a17 ?l17 ?c17 ?k17 ?a18 ?l18 ?c18 ?k18 ?a19 ?l19 ?c19 ?k19 ?z_len ?z_sorted ?z_list ?z_range ?z_reversed ?z_isinstance ?z_str ?z_ValueError ?y_MOST ?y_MOST_BACK ?y_MOST_COUNTED ?pg_Game ?hd_Game ?po_Game ?sa_Game ?mk_Game ?kc_Game ?nf_Game_cards ?nf_Game_done ?cg_CardError ?ci_CardError ?ct_CardError ?cg_NoDeck ?ci_NoDeck ?ct_NoDeck ?cg_NoTurn ?ci_NoTurn ?ct_NoTurn ?cg_NoGame ?ci_NoGame ?ct_NoGame ?cg_TooTall ?ci_TooTall ?ct_TooTall ?cg_NoBack ?ci_NoBack ?ct_NoBack ?cg_BadLine ?ci_BadLine ?ct_BadLine ?ek_NoDeck ?ex_NoDeck ?eb_NoDeck ?ev_NoDeck ?es_NoDeck ?ehg_NoDeck ?ehk_NoDeck ?ehd_NoDeck ?eha_NoDeck ?ehm_NoDeck ?es_NoDeck_CardError ?es_NoDeck_NoTurn ?es_NoDeck_NoGame ?es_NoDeck_TooTall ?es_NoDeck_NoBack ?es_NoDeck_BadLine ?ek_TooTall ?ex_TooTall ?eb_TooTall ?ev_TooTall ?es_TooTall ?ehg_TooTall ?ehk_TooTall ?ehd_TooTall ?eha_TooTall ?ehm_TooTall ?es_TooTall_CardError ?es_TooTall_NoDeck ?es_TooTall_NoTurn ?es_TooTall_NoGame ?es_TooTall_NoBack ?es_TooTall_BadLine ?q_n ?q_t ?kb_CardError ?kd_CardError
    (case gG_Game => k_is)
    (case a0 => k_is)
    (case l0 => k_is)
    (case c0 => k_is)
    (case k0 => k_is)
    (case a1 => k_is)
    (case l1 => k_is)
    (case c1 => k_is)
    (case k1 => k_is)
    (case a2 => k_is)
    (case l2 => k_is)
    (case c2 => k_is)
    (case k2 => k_is)
    (case a3 => k_is)
    (case l3 => k_is)
    (case c3 => k_is)
    (case k3 => k_is)
    (case a4 => k_is)
    (case l4 => k_is)
    (case c4 => k_is)
    (case k4 => k_is)
    (case a5 => k_is)
    (case l5 => k_is)
    (case c5 => k_is)
    (case k5 => k_is)
    (case a6 => k_is)
    (case l6 => k_is)
    (case c6 => k_is)
    (case k6 => k_is)
    (case a7 => k_is)
    (case l7 => k_is)
    (case c7 => k_is)
    (case k7 => k_is)
    (case a8 => k_is)
    (case l8 => k_is)
    (case c8 => k_is)
    (case k8 => k_is)
    (case a9 => k_is)
    (case l9 => k_is)
    (case c9 => k_is)
    (case k9 => k_is)
    (case a10 => k_is)
    (case l10 => k_is)
    (case c10 => k_is)
    (case k10 => k_is)
    (case a11 => k_is)
    (case l11 => k_is)
    (case c11 => k_is)
    (case k11 => k_is)
    (case a12 => k_is)
    (case i12 => k_is)
    (case l12 => k_is)
    (case c12 => k_is)
    (case k12 => k_is)
    (case a13 => k_is)
    (case l13 => k_is)
    (case c13 => k_is)
    (case k13 => k_is)
    (case a14 => k_is)
    (case l14 => k_is)
    (case c14 => k_is)
    (case k14 => k_is)
    (case a15 => k_is)
    (case l15 => k_is)
    (case c15 => k_is)
    (case k15 => k_is)
    (case a16 => k_is)
    (case l16 => k_is)
    (case c16 => k_is)
    (case k16 => k_is)
    (case a17 => k_is)
    (case l17 => k_is)
    (case c17 => k_is)
    (case k17 => k_is)
    (case a18 => k_is)
    (case l18 => k_is)
    (case c18 => k_is)
    (case k18 => k_is)
    (case a19 => k_is)
    (case l19 => k_is)
    (case c19 => k_is)
    (case k19 => k_is)
    (case z_len => k_is)
    (case z_sorted => k_is)
    (case z_list => k_is)
    (case z_range => k_is)
    (case z_reversed => k_is)
    (case z_isinstance => k_is)
    (case z_str => k_is)
    (case z_ValueError => k_is)
    (case y_MOST => k_is)
    (case y_MOST_BACK => k_is)
    (case y_MOST_COUNTED => k_is)
    (case pg_Game => k_is)
    (case hd_Game => k_is)
    (case po_Game => k_is)
    (case sa_Game => k_is)
    (case mk_Game => k_is)
    (case kc_Game => k_is)
    (case nf_Game_cards => k_is)
    (case nf_Game_done => k_is)
    (case cg_CardError => k_is)
    (case ci_CardError => k_is)
    (case ct_CardError => k_is)
    (case cg_NoDeck => k_is)
    (case ci_NoDeck => k_is)
    (case ct_NoDeck => k_is)
    (case cg_NoTurn => k_is)
    (case ci_NoTurn => k_is)
    (case ct_NoTurn => k_is)
    (case cg_NoGame => k_is)
    (case ci_NoGame => k_is)
    (case ct_NoGame => k_is)
    (case cg_TooTall => k_is)
    (case ci_TooTall => k_is)
    (case ct_TooTall => k_is)
    (case cg_NoBack => k_is)
    (case ci_NoBack => k_is)
    (case ct_NoBack => k_is)
    (case cg_BadLine => k_is)
    (case ci_BadLine => k_is)
    (case ct_BadLine => k_is)
    (case ek_NoDeck => k_is)
    (case ex_NoDeck => k_exc)
    (case eb_NoDeck => k_is)
    (case ev_NoDeck => k_is)
    (case es_NoDeck => first | rfl | k_is)
    (case ehg_NoDeck => k_is)
    (case ehk_NoDeck => k_is)
    (case ehd_NoDeck => k_is)
    (case eha_NoDeck => k_is)
    (case ehm_NoDeck => k_is)
    (case es_NoDeck_CardError => k_is)
    (case es_NoDeck_NoTurn => k_is)
    (case es_NoDeck_NoGame => k_is)
    (case es_NoDeck_TooTall => k_is)
    (case es_NoDeck_NoBack => k_is)
    (case es_NoDeck_BadLine => k_is)
    (case ek_TooTall => k_is)
    (case ex_TooTall => k_exc)
    (case eb_TooTall => k_is)
    (case ev_TooTall => k_is)
    (case es_TooTall => first | rfl | k_is)
    (case ehg_TooTall => k_is)
    (case ehk_TooTall => k_is)
    (case ehd_TooTall => k_is)
    (case eha_TooTall => k_is)
    (case ehm_TooTall => k_is)
    (case es_TooTall_CardError => k_is)
    (case es_TooTall_NoDeck => k_is)
    (case es_TooTall_NoTurn => k_is)
    (case es_TooTall_NoGame => k_is)
    (case es_TooTall_NoBack => k_is)
    (case es_TooTall_BadLine => k_is)
    (case q_n => k_is)
    (case q_t => k_is)
    (case kb_CardError => k_is)
    (case kd_CardError => k_is)
