import PyProof.Rows.All
import Wide.All
import OpenK.AllK
import Wide.FinOn
import PyProof.EqAt
import PyProof.EqKinds
import PyProof.TupleCall
import PyProof.Rows.FactsT2
import KE.KRevIter
import HandS.ForMost
import HandS.ForExc
import HandS.Evl
import HandS.Conv
import HandS.SortInts
import HandS.IsInst
import HandS.SetFor
import HandS.Rev
import HandS.ExcCtx
import HandS.HotCalls
import HandS.ExcIs
import HandS.Text
import HandS.Iter
import HandS.TryOnly
import KE.IntTextLaws
import KE.KIntText
import PyProof.StrLawsTight
import PyProof.StrLawsChain
import PySem.Challenge.RW_topturn_k13_written_and_read
set_option Elab.async false
set_option linter.all false
set_option maxRecDepth 100000
set_option maxHeartbeats 4000000

/-! The mathematics of the turned cards, in plain Lean. -/
namespace Tt
/-- the cards 1 .. n -/
def rng (n : Nat) : List Int := (List.range n).map fun i => (1 : Int) + (i : Nat)
theorem rng_len (n : Nat) : (rng n).length = n := by simp [rng]
theorem rng_get {n i : Nat} (h : i < n) : (rng n)[i]? = some ((1 : Int) + (i : Nat)) := by
  unfold rng
  rw [List.getElem?_map, List.getElem?_range h]
  rfl
theorem mem_rng {n : Nat} {x : Int} : x ∈ rng n ↔ 1 ≤ x ∧ x ≤ n := by
  unfold rng
  rw [List.mem_map]
  constructor
  · rintro ⟨i, hi, rfl⟩
    have := List.mem_range.mp hi
    omega
  · intro h
    exact ⟨(x - 1).toNat, List.mem_range.mpr (by omega), by omega⟩
theorem rng_lt (n : Nat) : (rng n).Pairwise (· < ·) := by
  unfold rng
  rw [List.pairwise_map]
  refine List.Pairwise.imp ?_ List.pairwise_lt_range
  intro a b h
  omega
theorem rng_le (n : Nat) : (rng n).Pairwise (· ≤ ·) := (rng_lt n).imp fun h => Int.le_of_lt h
theorem rng_nodup (n : Nat) : (rng n).Nodup := (rng_lt n).imp fun h => Int.ne_of_lt h
theorem rng_succ (n : Nat) : rng (n + 1) = rng n ++ [(1 : Int) + (n : Nat)] := by
  unfold rng
  rw [List.range_succ, List.map_append]
  rfl

/-- a deck, of whatever size -/
def IsDk (d : List Int) : Prop := d.Perm (rng d.length)
theorem IsDk.nodup {d : List Int} (h : IsDk d) : d.Nodup := h.symm.nodup (rng_nodup _)
theorem IsDk.mem {d : List Int} (h : IsDk d) {x : Int} : x ∈ d ↔ 1 ≤ x ∧ x ≤ d.length := by
  rw [h.mem_iff, mem_rng]
theorem IsDk.at {d : List Int} (h : IsDk d) {i : Nat} {x : Int} (e : d[i]? = some x) : 1 ≤ x ∧ x ≤ d.length := h.mem.mp (List.mem_of_getElem? e)
theorem IsDk.perm {d e : List Int} (h : IsDk d) (p : e.Perm d) : IsDk e := by
  unfold IsDk
  rw [p.length_eq]
  exact p.trans h
/-- sorted and alike -/
theorem sorted_rng {l : List Int} {n : Nat} (p : l.Perm (rng n)) (s : l.Pairwise (· ≤ ·)) : l = rng n :=
  p.eq_of_pairwise (fun a b _ _ h1 h2 => Int.le_antisymm h1 h2) s (rng_le n)
theorem isDk_iff {d l : List Int} (p : l.Perm d) (s : l.Pairwise (· ≤ ·)) : l = rng d.length ↔ IsDk d :=
  ⟨fun e => by unfold IsDk; rw [← e]; exact p.symm, fun h => sorted_rng (p.trans h) s⟩
theorem two_at {d : List Int} (h : d.Nodup) {i j : Nat} {x : Int} (a : d[i]? = some x) (b : d[j]? = some x) : i = j := by
  obtain ⟨h1, e1⟩ := List.getElem?_eq_some_iff.mp a
  obtain ⟨h2, e2⟩ := List.getElem?_eq_some_iff.mp b
  exact (List.getElem_inj h).mp (e1.trans e2.symm)

/-- the first k turned over -/
def ov (d : List Int) (k : Int) : List Int := (d.take k.toNat).reverse ++ d.drop k.toNat
theorem ov_perm (d : List Int) (k : Int) : (ov d k).Perm d := by
  unfold ov
  exact ((List.reverse_perm _).append_right _).trans (List.Perm.of_eq (List.take_append_drop _ _))
theorem ov_len (d : List Int) (k : Int) : (ov d k).length = d.length := (ov_perm d k).length_eq
theorem IsDk.ov {d : List Int} (h : IsDk d) (k : Int) : IsDk (ov d k) := h.perm (ov_perm d k)
theorem ov_ov (d : List Int) {k : Int} (h : k ≤ d.length) : ov (ov d k) k = d := by
  have e : ((d.take k.toNat).reverse).length = k.toNat := by rw [List.length_reverse, List.length_take]; omega
  unfold ov
  rw [List.take_append_of_le_length (by omega), List.take_of_length_le (by omega), List.reverse_reverse, List.drop_append_of_le_length (by omega), List.drop_of_length_le (by omega), List.nil_append, List.take_append_drop]
theorem ov_lo {d : List Int} {k : Int} {i : Nat} (h : k ≤ d.length) (hi : (i : Int) < k) : (ov d k)[i]? = d[k.toNat - 1 - i]? := by
  have e : ((d.take k.toNat).reverse).length = k.toNat := by rw [List.length_reverse, List.length_take]; omega
  have e2 : (d.take k.toNat).length = k.toNat := by rw [List.length_take]; omega
  unfold ov
  rw [List.getElem?_append_left (by omega), List.getElem?_reverse (by omega), List.getElem?_take_of_lt (by omega), e2]
theorem ov_hi {d : List Int} {k : Int} {i : Nat} (h0 : 0 ≤ k) (h : k ≤ d.length) (hi : k ≤ i) : (ov d k)[i]? = d[i]? := by
  have e : ((d.take k.toNat).reverse).length = k.toNat := by rw [List.length_reverse, List.length_take]; omega
  unfold ov
  rw [List.getElem?_append_right (by omega), List.getElem?_drop, e]
  congr 1
  omega
theorem ov_top {d : List Int} {k : Int} (h1 : 1 ≤ k) (h : k ≤ d.length) : (ov d k)[0]? = d[k.toNat - 1]? := ov_lo h (by omega)
theorem ov_end {d : List Int} {k : Int} (h1 : 1 ≤ k) (h : k ≤ d.length) : (ov d k)[k.toNat - 1]? = d[0]? := by
  rw [ov_lo h (by omega)]
  congr 1
  omega
/-- the law's own way to turn over -/
def lov (d : List Int) (k : Int) : List Int := (List.range k.toNat).map (fun i : Nat => d.getD (k - 1 - (i : Int)).toNat 0) ++ d.drop k.toNat
theorem lov_eq {d : List Int} {k : Int} (h : k ≤ d.length) : lov d k = ov d k := by
  unfold lov ov
  congr 1
  refine List.ext_getElem? fun i => ?_
  by_cases hi : i < k.toNat
  · have e2 : (d.take k.toNat).length = k.toNat := by rw [List.length_take]; omega
    rw [List.getElem?_map, List.getElem?_range hi, List.getElem?_reverse (by omega), e2, List.getElem?_take_of_lt (by omega)]
    have e3 : (k - 1 - (i : Int)).toNat = k.toNat - 1 - i := by omega
    simp only [Option.map_some, e3]
    rw [List.getD_eq_getElem?_getD, List.getElem?_eq_getElem (by omega)]
    rfl
  · rw [List.getElem?_eq_none (by simp; omega), List.getElem?_eq_none (by simp; omega)]

/-! ### games -/
inductive Gm : List Int → List Int → List Int → Prop where
  | stop {d : List Int} : d[0]? = some 1 → Gm d [] d
  | turn {d ts e : List Int} {k : Int} : d[0]? = some k → k ≠ 1 → Gm (ov d k) ts e → Gm d (k :: ts) e
theorem Gm.det {d ts e : List Int} (g : Gm d ts e) : ∀ {ts' e' : List Int}, Gm d ts' e' → ts' = ts ∧ e' = e := by
  induction g with
  | stop h =>
    intro ts' e' g'
    cases g' with
    | stop _ => exact ⟨rfl, rfl⟩
    | turn h' n _ => rw [h] at h'; exact absurd (Option.some.inj h').symm n
  | turn h n _ ih =>
    intro ts' e' g'
    cases g' with
    | stop h' => rw [h] at h'; exact absurd (Option.some.inj h') n
    | turn h' n' g2 =>
      rw [h] at h'
      cases Option.some.inj h'
      obtain ⟨e1, e2⟩ := ih g2
      exact ⟨by rw [e1], e2⟩
/-- a deck that is won by k's place -/
def inPl (d : List Int) (k : Nat) : Bool := decide (d[k + 1]? = some ((k : Int) + 2))
/-- worths below m -/
def W (f : Nat → Bool) : Nat → Nat
  | 0 => 0
  | m + 1 => W f m + if f m = true then 2 ^ m else 0
theorem W_lt (f : Nat → Bool) : ∀ m, W f m < 2 ^ m
  | 0 => Nat.one_pos
  | m + 1 => by
    have h := W_lt f m
    unfold W
    have e : 2 ^ (m + 1) = 2 ^ m + 2 ^ m := by rw [Nat.pow_succ]; omega
    split <;> omega
theorem W_congr {f g : Nat → Bool} : ∀ {m : Nat}, (∀ i, i < m → f i = g i) → W f m = W g m
  | 0, _ => rfl
  | m + 1, h => by
    unfold W
    rw [W_congr fun i hi => h i (by omega), h m (by omega)]
theorem W_rise {f g : Nat → Bool} {j : Nat} (hj : f j = false) (hg : g j = true) : ∀ {m : Nat}, j < m → (∀ i, j < i → i < m → f i = g i) → W f m < W g m
  | 0, h, _ => by omega
  | m + 1, h, a => by
    unfold W
    by_cases e : j = m
    · subst e
      have := W_lt f j
      rw [hj, hg]
      simp
      omega
    · have ih := W_rise hj hg (m := m) (by omega) fun i h1 h2 => a i h1 (by omega)
      rw [a m (by omega) (by omega)]
      split <;> omega
def wt (d : List Int) : Nat := W (inPl d) (d.length - 1)
theorem wt_lt (d : List Int) : wt d < 2 ^ (d.length - 1) := W_lt _ _
theorem wt_rise {d : List Int} {k : Int} (h : IsDk d) (h0 : d[0]? = some k) (hk : k ≠ 1) : wt d < wt (ov d k) := by
  obtain ⟨k1, k2⟩ := h.at h0
  have ek : k.toNat - 2 + 1 = k.toNat - 1 := by omega
  unfold wt
  rw [ov_len]
  refine W_rise (j := k.toNat - 2) ?_ ?_ (by omega) fun i h1 h2 => ?_
  · unfold inPl
    refine decide_eq_false fun e => ?_
    have e3 : ((k.toNat - 2 : Nat) : Int) + 2 = k := by omega
    rw [e3] at e
    have := two_at h.nodup h0 e
    omega
  · unfold inPl
    refine decide_eq_true ?_
    rw [ek, ov_end k1 k2, h0]
    congr 1
    omega
  · unfold inPl
    rw [ov_hi (by omega) k2 (by omega)]
/-- each game ends; as many turns at most as the weight grows -/
theorem Gm.ends : ∀ (m : Nat) (d : List Int), IsDk d → 0 < d.length → 2 ^ (d.length - 1) - wt d ≤ m → ∃ ts e, Gm d ts e
  | m, d, h, h0, hm => by
    obtain ⟨k, hk⟩ : ∃ k, d[0]? = some k := ⟨d[0], List.getElem?_eq_getElem h0⟩
    by_cases h1 : k = 1
    · subst h1
      exact ⟨[], d, .stop hk⟩
    · have r := wt_rise h hk h1
      have l := wt_lt (ov d k)
      rw [ov_len] at l
      cases m with
      | zero => omega
      | succ m =>
        obtain ⟨ts, e, g⟩ := Gm.ends m (ov d k) (h.ov k) (by rw [ov_len]; exact h0) (by rw [ov_len]; omega)
        exact ⟨k :: ts, e, .turn hk h1 g⟩
theorem Gm.all {d : List Int} (h : IsDk d) (h0 : 0 < d.length) : ∃ ts e, Gm d ts e := Gm.ends _ d h h0 (Nat.le_refl _)
theorem Gm.perm {d ts e : List Int} (g : Gm d ts e) : e.Perm d := by
  induction g with
  | stop _ => exact .refl _
  | turn _ _ _ ih => exact ih.trans (ov_perm _ _)
theorem Gm.one {d ts e : List Int} (g : Gm d ts e) : e[0]? = some 1 := by
  induction g with
  | stop h => exact h
  | turn _ _ _ ih => exact ih
theorem Gm.wt {d ts e : List Int} (g : Gm d ts e) : IsDk d → ts.length + wt d ≤ wt e := by
  induction g with
  | stop _ => intro _; simp
  | turn h n _ ih =>
    intro hd
    have := ih (hd.ov _)
    have := wt_rise hd h n
    simp only [List.length_cons]
    omega
theorem Gm.short {d ts e : List Int} (g : Gm d ts e) (h : IsDk d) : ts.length < 2 ^ (d.length - 1) := by
  have h1 := g.wt h
  have h2 := wt_lt e
  rw [g.perm.length_eq] at h2
  omega

/-! ### backwards -/
def bk (d : List Int) (t : Int) : Option (List Int) := if 2 ≤ t ∧ t ≤ d.length ∧ d[t.toNat - 1]? = some t then some (ov d t) else none
def bks : List Int → List Int → Option (List Int)
  | d, [] => some d
  | d, t :: r => (bk d t).bind fun x => bks x r
theorem bks_append : ∀ (d l r : List Int), bks d (l ++ r) = (bks d l).bind fun x => bks x r
  | d, [], r => rfl
  | d, t :: l, r => by
    show (bk d t).bind (fun x => bks x (l ++ r)) = ((bk d t).bind fun x => bks x l).bind fun x => bks x r
    cases e : bk d t with
    | none => rfl
    | some x => exact bks_append x l r
theorem bk_len {d x : List Int} {t : Int} (h : bk d t = some x) : x.length = d.length := by
  unfold bk at h
  split at h
  · rw [← Option.some.inj h, ov_len]
  · cases h
theorem bk_perm {d x : List Int} {t : Int} (h : bk d t = some x) : x.Perm d := by
  unfold bk at h
  split at h
  · rw [← Option.some.inj h]
    exact ov_perm _ _
  · cases h
theorem bk_some {d x : List Int} {t : Int} (h : bk d t = some x) : 2 ≤ t ∧ t ≤ d.length ∧ d[t.toNat - 1]? = some t ∧ x = ov d t := by
  unfold bk at h
  split at h
  · rename_i c
    exact ⟨c.1, c.2.1, c.2.2, (Option.some.inj h).symm⟩
  · cases h
theorem bk_turn {d : List Int} {k : Int} (h : IsDk d) (h0 : d[0]? = some k) (hk : k ≠ 1) : bk (ov d k) k = some d := by
  obtain ⟨k1, k2⟩ := h.at h0
  unfold bk
  rw [if_pos ⟨by omega, by rw [ov_len]; exact k2, by rw [ov_end (by omega) k2, h0]⟩, ov_ov d k2]
theorem Gm.back {d ts e : List Int} (g : Gm d ts e) : IsDk d → bks e ts.reverse = some d := by
  induction g with
  | stop _ => intro _; rfl
  | turn h n _ ih =>
    intro hd
    rw [List.reverse_cons, bks_append, ih (hd.ov _)]
    show (bk _ _).bind (fun x => bks x []) = _
    rw [bk_turn hd h n]
    rfl
/-- the test that a top fails -/
def bkT (d : List Int) (t : Int) : Bool := decide (t < 2) || (decide ((d.length : Int) < t) || !decide (d.getD (t.toNat - 1) 0 = t))
theorem bkT_yes {d : List Int} {t : Int} (h : bkT d t = true) : bk d t = none := by
  unfold bk
  rw [if_neg]
  rintro ⟨h1, h2, h3⟩
  unfold bkT at h
  rw [List.getD_eq_getElem?_getD, h3] at h
  simp at h
  omega
theorem bkT_no {d : List Int} {t : Int} (h : bkT d t = false) : 2 ≤ t ∧ t ≤ d.length ∧ bk d t = some (ov d t) := by
  unfold bkT at h
  simp only [Bool.or_eq_false_iff, decide_eq_false_iff_not, Bool.not_eq_false', decide_eq_true_eq] at h
  obtain ⟨h1, h2, h3⟩ := h
  have hlt : t.toNat - 1 < d.length := by omega
  rw [List.getD_eq_getElem?_getD, List.getElem?_eq_getElem hlt] at h3
  have e3 : d[t.toNat - 1]? = some t := (List.getElem?_eq_getElem hlt).trans (congrArg some h3)
  exact ⟨by omega, by omega, if_pos ⟨by omega, by omega, e3⟩⟩
/-- the deck whose game has this end and these tops, if any -/
def bksO (e ts : List Int) : Option (List Int) := if e[0]? = some 1 then bks e ts.reverse else none
end Tt

/-! Own rules: a list made of the reversed items of a list. -/
namespace RvL
open PySem PySem.Spec PyProof.Rows RT
section
variable {prog : Program} {w : World} {A : Around} {E : Value → Shared → Prop} {s : Shared}
theorem ext_rev {R : Result → Shared → Prop} {it l S : Addr} {items : Array Value} (hh : A.handled = none) (hit : s.heap.IsRevIter it l ((items.size : Int) - 1)) (hl : s.heap.IsList l items) (hne : l ≠ it) (hn : items.size ≤ sizeLine)
    (hSi : S ≠ it) (hSl : S ≠ l) (res : Value) (c₀ : Nat) (hS : s.heap.get? S = some { cls := .type "list", data := .seq #[] c₀ })
    (hR : ∀ h' tk acc' c', (∀ b o, b ≠ S → b ≠ it → s.heap.get? b = some o → h'.get? b = some o) → h'.get? S = some { cls := .type "list", dict := none, data := .seq acc' c', slots := #[] } →
      ItemsOf (fun i v => items[items.size - 1 - i]? = some v) acc' items.size → R (.ok (.ret res)) { s with heap := h', toks := tk }) :
    wpAny (model prog w) A.in1 (Builtin.List.listExtendWith (.ref S) (.ref it) res)
      (fun fin s' => match fin with | .done f => R (.ok f) s' | .again c' => c'.quiet = true ∧ codeAny (model prog w) A c' R s') (fun e s' => R (.error e) s') s := by
  have W := (Walks.listRev (prog := prog) (w := w) (A := A.in1) hh it l hne items).toS
  have hSf : S ∉ [it, l] := by simp only [List.mem_cons, List.not_mem_nil, or_false, not_or]; exact ⟨hSi, hSl⟩
  have hT : s.TypeIs (.ref it) "list_reverseiterator" := hit.typeIs
  have h1 : Builtin.List.listSameRef (.ref S) (.ref it) = false := by simp [Builtin.List.listSameRef, hSi]
  unfold Builtin.List.listExtendWith
  refine wpAny_bind (wpAny_typeOf hT ?_)
  rw [if_neg (by rw [h1]; decide)]
  refine wpAny_bind (wpAny_pyIter_revIter hit ?_)
  refine wpAny_bind (wpAny_holding ?_)
  unfold Builtin.List.listLengthHint
  refine wpAny_bind (wpAny_specialOf hT nolen_lri ?_)
  show wpAny _ A.in1 (specialOf (Value.ref it) (Str.ofString "__length_hint__") >>= _) _ _ _
  refine wpAny_bind (wpAny_specialOf hT hint_lri ?_)
  generalize hid : ("list_reverseiterator.__length_hint__" : String) = id0
  wp_delta
  rw [show splitId id0 = some ("list_reverseiterator", "__length_hint__") from by subst hid; decide +kernel]
  subst hid
  refine wpAny_bind (wpAny_isInstance (b := true) hT (by rw [isSubtype_type]; kernel_rfl) ?_)
  refine wpAny_pure ?_
  rw [if_neg (by decide)]
  have e0 : ((items.size : Nat) : Int) - 1 - ((0 : Nat) : Int) = (items.size : Int) - 1 := by omega
  refine wpAny_pure ⟨plainId_quiet F.plain_extend_loop _, codeAny_extend_loopS W hn _ hSf _ items.size 0 _ _ _ rfl (Nat.zero_le _) ⟨Nat.zero_le _, by rw [e0]; exact hit, hl⟩ hS (ItemsOf.nil _) fun s' acc' c' hm hS' hacc => ?_⟩
  rw [Moved.eq_with hm]
  refine hR s'.heap s'.toks acc' c' (fun b o hb hbi e => hm.heap b o (fun hmem => ?_) e) hS' hacc
  rcases List.mem_cons.mp hmem with e' | hmem
  · exact hb e'
  · exact hbi (List.mem_singleton.mp hmem)
theorem init_rev {R : Result → Shared → Prop} {it l S : Addr} {items : Array Value} (hh : A.handled = none) (hit : s.heap.IsRevIter it l ((items.size : Int) - 1)) (hl : s.heap.IsList l items) (hne : l ≠ it) (hn : items.size ≤ sizeLine)
    (hSi : S ≠ it) (hSl : S ≠ l) (hS : s.heap.get? S = some { cls := .type "list", data := .seq #[] })
    (hR : ∀ h' tk acc' c', (∀ b o, b ≠ S → b ≠ it → s.heap.get? b = some o → h'.get? b = some o) → h'.get? S = some { cls := .type "list", dict := none, data := .seq acc' c', slots := #[] } →
      ItemsOf (fun i v => items[items.size - 1 - i]? = some v) acc' items.size → R (.ok (.ret .none)) { s with heap := h', toks := tk }) :
    wpAny (model prog w) A.in1 (Builtin.«list.__init__» ⟨[.ref S, .ref it], []⟩)
      (fun fin s' => match fin with | .done f => R (.ok f) s' | .again c' => c'.quiet = true ∧ codeAny (model prog w) A c' R s') (fun e s' => R (.error e) s') s := by
  show wpAny _ _ (do let old ← Builtin.List.listItems (.ref S); Builtin.List.listUpdate (.ref S) (fun _ => #[]); letGo old.toList.reverse; Builtin.List.listExtendWith (.ref S) (.ref it) .none) _ _ s
  refine wpAny_bind ?_
  unfold Builtin.List.listItems
  refine wpAny_bind (wpAny_seqItems hS rfl (wpAny_pure ?_))
  show wpAny _ _ (updateSeq S (fun _ => #[]) >>= fun _ => letGo (#[] : Array Value).toList.reverse >>= fun _ => Builtin.List.listExtendWith (.ref S) (.ref it) .none) _ _ s
  refine wpAny_bind (wpAny_updateSeq hS rfl ?_)
  have hS₂ := Heap.get?_update_self (Obj.mapSeq (fun _ => (#[] : Array Value))) hS rfl
  have oth : ∀ b o, b ≠ S → s.heap.get? b = some o → (s.heap.update S (Obj.mapSeq (fun _ => (#[] : Array Value)))).get? b = some o :=
    fun b o hb e => (Heap.get?_update_other _ _ (Ne.symm hb)).trans e
  refine wpAny_bind (wpAny_letGo ?_)
  refine ext_rev (s := { s with heap := s.heap.update S (Obj.mapSeq (fun _ => (#[] : Array Value))) }) hh (hit.at fun o e => oth _ _ (Ne.symm hSi) e) (hl.at fun o e => oth _ _ (Ne.symm hSl) e) hne hn hSi hSl .none _ hS₂ fun h' tk acc' c' hk hS' hacc => ?_
  exact hR h' tk acc' c' (fun b o hb hbi e => hk b o hb hbi (oth b o hb e)) hS' hacc
theorem call_list_rev {Q : Value → Shared → Prop} {it l : Addr} {items : Array Value} (hh : A.handled = none) (hit : s.heap.IsRevIter it l ((items.size : Int) - 1)) (hl : s.heap.IsList l items) (hne : l ≠ it) (hn : items.size ≤ sizeLine)
    (hQ : ∀ h' tk acc' c', (∀ b o, b ≠ it → s.heap.get? b = some o → h'.get? b = some o) →
      h'.get? s.heap.objs.size = some { cls := .type "list", dict := none, data := .seq acc' c', slots := #[] } → ItemsOf (fun i v => items[items.size - 1 - i]? = some v) acc' items.size → Q (.ref s.heap.objs.size) { s with heap := h', toks := tk }) :
    wpAny (model prog w) A (call (.type "list") [.ref it]) Q E s := by
  obtain ⟨oi, hoi, _⟩ := id hit
  obtain ⟨ol, hol, _⟩ := id hl
  refine callType_codes (Q₁ := fun obj s₁ => obj = .ref s.heap.objs.size ∧ s₁ = { s with heap := s.heap.push { cls := .type "list", data := .seq #[] } }) F.called_list (F.typeCall_list_1 _) F.entry_list_init
    (code_list_new _ ⟨rfl, rfl⟩) fun obj s₁ h₁ => ?_
  obtain ⟨rfl, rfl⟩ := h₁
  have hS : (s.heap.push { cls := .type "list", data := .seq #[] }).get? s.heap.objs.size = some { cls := .type "list", data := .seq #[] } := Heap.get?_push_size _ rfl
  refine ⟨⟨_, hS, rfl⟩, F.args_list_init_2 _ _, init_rev (A := A.in1) (s := { s with heap := s.heap.push { cls := .type "list", data := .seq #[] } }) hh (hit.at fun o e => Heap.get?_push_of_some _ e) (hl.push _) hne hn (Nat.ne_of_gt (Heap.lt_size hoi)) (Nat.ne_of_gt (Heap.lt_size hol)) hS fun h' tk acc' c' hk hS' hacc => ?_⟩
  exact ⟨rfl, hQ h' tk acc' c' (fun b o hb e => hk b o (Nat.ne_of_lt (Heap.lt_size e)) hb (Heap.get?_push_of_some _ e)) hS' hacc⟩
end
end RvL
namespace L2
open PySem PySem.Spec PyProof.Rows RT RvL
/-- an untracked new object is tracked from here on -/
theorem Inv.track {X : Cx} {pins : List (Addr × Obj)} {σ : St} {H : Hp} {s : Shared} {S : Addr} {o : HO} (I : Inv X pins σ H s) (fp : FpOk X pins H S) (new : ObjOk X.prog X.w (upd H S o) s.heap S o) : Inv X pins σ (upd H S o) s := by
  obtain ⟨f0, f1, f2, f3, f4, f5⟩ := fp
  refine I.step (h' := s.heap) (t' := s.toks) (g' := s.gens) (d' := s.drawn) (ch := [S]) (fun b hb => ?_) (fun b o _ _ _ e _ => e) (fun b o _ _ _ e _ => ⟨o.slots, e⟩) (fun b o hc _ n => ?_) (fun b o _ e => ⟨o, e⟩)
    (fun b xs e => by rw [upd_ne (ne_of_none e f0)]; exact e) (fun b ob u e => by rw [upd_ne (ne_of_none e f0)]; exact e) (fun b ps e => ⟨#[], by rw [upd_ne (ne_of_none e f0), e]; simp⟩) (fun m hm => hm) (fun b u e => ?_) I.bare
  · have e : b = S := by simpa using hb
    subst e
    exact ⟨f3, f1, f4, f5⟩
  · rw [upd_ne (fun z => hc (by simp [z]))]
    exact n
  · by_cases hb : b = S
    · subst hb
      rw [upd_same] at e
      cases e
      exact new
    · rw [upd_ne hb] at e
      exact (I.hok b u e).stay (fun c v _ q => q) (fun c q => by rw [upd_ne (ne_of_none q f0)]; exact q) fun c xs q => by rw [upd_ne (ne_of_none q f0)]; exact q
def tLstRev (K : PySem.W.Frag) (te : TE) : TE := fun σ H Q => te σ H fun v H1 => ∃ (a : Addr) (xs : List V), v = .ref a ∧ SqL K H1 a xs ∧ ∀ q, H1 q = none → Q (.ref q) (upd H1 q (.lst xs.reverse))
section
variable {X : Cx}
theorem pe_listRev {e : Expr} {te : TE} {p p2 pos pos2 : Pos} (hc : X.calm = true) (hg : Gl X "list") (hm : X.mg "list" = none) (hg2 : Gl X "reversed") (hm2 : X.mg "reversed" = none) (he : PE X e te)
    (hs : starEach [e] X.env = (false, eval e X.env) :: starEach [] X.env := by rfl)
    (hs2 : starEach [.Call (.Name "reversed" p2) [e] [] pos2] X.env = (false, eval (.Call (.Name "reversed" p2) [e] [] pos2) X.env) :: starEach [] X.env := by rfl) :
    PE X (.Call (.Name "list" p) [.Call (.Name "reversed" p2) [e] [] pos2] [] pos) (tLstRev X.K te) := by
  refine ⟨fun pins s σ H Q I h => ?_⟩
  refine Call_ (ld_blt I hg hm boot_list (PyProof.Rows.callWith_type1 (args_cons (Call_ (ld_blt I hg2 hm2 PyProof.Rows.boot_reversed (PyProof.Rows.callWith_type1 (args_cons (thn (he.run pins s σ H _ I h) fun u s1 ⟨v, H1, I1, r1, q1⟩ => args_nil ?_) hs) hs rfl))) hs2) hs2 rfl))
  obtain ⟨a, xs, ev, hq, q⟩ := q1
  subst ev
  obtain rfl : u = Value.ref a := r1
  obtain ⟨its, rv, p', hz⟩ := I1.list hq
  refine call_reversed_list p'.isList (args_nil ?_)
  have k0 : ∀ b o, s1.heap.get? b = some o → (s1.heap.push (revObj a ((its.toArray.size : Int) - 1))).get? b = some o := fun b o e => Heap.get?_push_of_some _ e
  have I2 : Inv X pins σ H1 { s1 with heap := s1.heap.push (revObj a ((its.toArray.size : Int) - 1)) } := I1.kept (t' := s1.toks) k0
  obtain ⟨f0, f1, f2, f3, f4, f5⟩ := I1.fpOk (H' := H1) (b := s1.heap.objs.size) (Nat.le_refl _) (I1.hok.fresh (Nat.le_refl _))
  have hl := p'.isList
  obtain ⟨ol, hol, _⟩ := id hl
  have hne : a ≠ s1.heap.objs.size := Nat.ne_of_lt (Heap.lt_size hol)
  have hn : its.toArray.size ≤ sizeLine := by rw [List.size_toArray, ← rv.length]; exact hz
  refine call_list_rev (s := { s1 with heap := s1.heap.push (revObj a ((its.toArray.size : Int) - 1)) }) (I1.ok.hd hc) ⟨_, Heap.get?_push_size _ rfl, rfl, rfl⟩ (hl.push _) hne hn fun h' tk acc c' hk e' hi => ?_
  have hsz : (s1.heap.push (revObj a ((its.toArray.size : Int) - 1))).objs.size = s1.heap.objs.size + 1 := Heap.size_push ..
  have hfr : H1 (s1.heap.objs.size + 1) = none := I1.hok.fresh (Nat.le_succ _)
  rw [hsz] at e'
  have I3 : Inv X pins σ H1 { s1 with heap := h', toks := tk } := I2.turned (t' := tk) (fun b o hb e => hk b o hb e) f0 f1 f3 f4 f5
  have hz2 : (s1.heap.push (revObj a ((its.toArray.size : Int) - 1))).objs.size ≤ s1.heap.objs.size + 1 := Nat.le_of_eq hsz
  refine ⟨.ref (s1.heap.objs.size + 1), upd H1 (s1.heap.objs.size + 1) (.lst xs.reverse), ?_, by rw [hsz]; rfl, q _ hfr⟩
  exact I3.track (I2.fpOk (H' := H1) (b := s1.heap.objs.size + 1) hz2 hfr) (show ObjOk X.prog X.w _ _ _ (.lst xs.reverse) from ⟨by rw [List.length_reverse]; exact hz, acc.toList, c', vals_rev rv hi, by rw [Array.toArray_toList]; exact e'⟩)
end
end L2

/-! What the readings come to: lists of ints. -/
namespace Tt
open PySem PySem.Spec PyProof.Rows L2 Evl

/-! ### data that is compared -/
structure Dat {α : Type} [DecidableEq α] (f : α → PyData) (n : Nat) : Prop where
  eq : ∀ a b, PyData.eqv (f a) (f b) = decide (a = b)
  can : ∀ a, (f a).canLay0 = true
  dep : ∀ a, (f a).depth ≤ n
theorem Dat.int : Dat PyData.int 0 := ⟨fun a b => by simp [PyData.eqv, BEq.beq], fun _ => rfl, fun _ => by simp [PyData.depth]⟩
theorem Dat.bool : Dat PyData.bool 0 := ⟨fun a b => by cases a <;> cases b <;> rfl, fun _ => rfl, fun _ => by simp [PyData.depth]⟩
theorem Dat.list {α : Type} [DecidableEq α] {f : α → PyData} {n : Nat} (d : Dat f n) : Dat (fun l : List α => PyData.list (l.map f)) (n + 1) where
  eq := fun a b => by
    show PyData.eqvAll (a.map f) (b.map f) = _
    induction a generalizing b with
    | nil => cases b <;> simp [PyData.eqvAll]
    | cons x a ih =>
      cases b with
      | nil => simp [PyData.eqvAll]
      | cons y b =>
        rw [List.map_cons, List.map_cons, PyData.eqvAll, d.eq, ih]
        by_cases h : x = y <;> by_cases h2 : a = b <;> simp [h, h2]
  can := fun a => by
    show PyData.canLayAll0 (a.map f) = true
    induction a with
    | nil => rfl
    | cons x a ih => rw [List.map_cons, PyData.canLayAll0, d.can, ih]; rfl
  dep := fun a => by
    have h : PyData.depthAll (a.map f) ≤ n := by
      induction a with
      | nil => simp [PyData.depthAll]
      | cons x a ih =>
        have := d.dep x
        simp only [List.map_cons, PyData.depthAll]
        omega
    simp only [PyData.depth]
    omega
theorem Dat.shaped {α : Type} [DecidableEq α] {f : α → PyData} {n : Nat} (d : Dat f n) (hn : n ≤ 64) (a : α) : SeqAt.shaped (f a) = true := by
  unfold SeqAt.shaped
  rw [d.can a]
  have := d.dep a
  simp only [Bool.true_and, decide_eq_true_eq]
  omega
abbrev dI (ns : List Int) : PyData := .list (ns.map PyData.int)
abbrev dB (ns : List Bool) : PyData := .list (ns.map PyData.bool)
abbrev dII (ns : List (List Int)) : PyData := .list (ns.map dI)
theorem dpAll {K : PySem.W.Frag} {H : Hp} {α : Type} {g : α → V} {f : α → PyData} (h : ∀ a, Dp K H (g a) (f a)) : ∀ l : List α, DpAll K H (l.map g) (l.map f)
  | [] => .nil
  | a :: l => .cons (h a) (dpAll h l)

/-! ### lists of ints in the heap -/
abbrev At (H : Hp) (a : Addr) (ns : List Int) : Prop := H a = some (.lst (ns.map V.int))
section
variable {K : PySem.W.Frag} {σ : L2.St} {H H' : Hp} {ta tb te tx : TE} {t u : TT} {x y z v : V} {r : R2} {a b p q l : Addr} {ns ms : List Int} {xs ys : List V}
theorem Dp.ints (h : SqL K H a (ns.map V.int)) : Dp K H (.ref a) (dI ns) := .lst h (dpAll (fun i => .int i) ns)
theorem Dp.bools {bs : List Bool} (h : SqL K H a (bs.map V.bl)) : Dp K H (.ref a) (dB bs) := .lst h (dpAll (fun i => .bl i) bs)
/-- a list, new or not -/
def EvR (te : TE) (σ : L2.St) (H : Hp) (xs : List V) : Prop := ∀ H1, Ex H H1 → ∀ Q : VK, (∀ p H2, Ex H1 H2 → H2 p = some (.lst xs) → Q (.ref p) H2) → te σ H1 Q
theorem EvR.new (h : EvL te σ H xs) : EvR te σ H xs := fun H1 e Q q => h H1 e Q fun p H2 _ e2 h2 => q p H2 e2 h2
theorem EvR.old (h : Ev te σ H (.ref a)) (ha : H a = some (.lst xs)) : EvR te σ H xs := fun H1 e Q q => h H1 e Q fun H2 e2 => q a H2 e2 (e2 _ _ (e _ _ ha))
theorem EvR.mono (e : Ex H H') (h : EvR te σ H xs) : EvR te σ H' xs := fun H1 a Q q => h H1 (e.trans a) Q q
theorem ev_eqR (ha : EvR ta σ H (ns.map V.int)) (hb : EvR tb σ H (ms.map V.int)) : Ev (tOp (rEqD K) ta tb) σ H (.bl (decide (ns = ms))) := fun H1 e Q q =>
  ha H1 e _ fun p H2 e2 hp => hb H2 (e.trans e2) _ fun r H3 e3 hr =>
    ⟨dI ns, dI ms, Dp.ints (sq_of (e3 _ _ hp)), Dp.ints (sq_of hr), Dat.int.list.shaped (by decide) ns, Dat.int.list.shaped (by decide) ms, by rw [Dat.int.list.eq]; exact q H3 (e2.trans e3)⟩
theorem ev_neR (ha : EvR ta σ H (ns.map V.int)) (hb : EvR tb σ H (ms.map V.int)) : Ev (tOp (rNeD K) ta tb) σ H (.bl (!decide (ns = ms))) := fun H1 e Q q =>
  ha H1 e _ fun p H2 e2 hp => hb H2 (e.trans e2) _ fun r H3 e3 hr =>
    ⟨dI ns, dI ms, Dp.ints (sq_of (e3 _ _ hp)), Dp.ints (sq_of hr), Dat.int.list.shaped (by decide) ns, Dat.int.list.shaped (by decide) ms, by rw [Dat.int.list.eq]; exact q H3 (e2.trans e3)⟩
theorem el_cat (ha : EvR ta σ H xs) (hb : EvR tb σ H ys) (hz : xs.length + ys.length ≤ 100000) : EvL (tOp rCat ta tb) σ H (xs ++ ys) := fun H1 e Q q =>
  ha H1 e _ fun p H2 e2 hp => hb H2 (e.trans e2) _ fun r H3 e3 hr =>
    ⟨p, r, xs, ys, rfl, rfl, e3 _ _ hp, hr, sz_of hz, fun s hs => q s _ (fresh_back (e2.trans e3) hs) ((e2.trans e3).trans (Ex.new hs)) upd_same⟩
theorem rv_ix {i : Int} {x : Int} (j : Nat) (h : SqL K H a (ns.map V.int)) (ej : i = (j : Int)) (e : ns[j]? = some x) : RV (rIxL K) (.ref a) (.int i) H (.int x) :=
  rv_ixL h (at_of ej (by rw [List.getElem?_map, e]; rfl))
/-- an item of a list that is read -/
theorem ev_ixR {i : Int} {x : Int} (j : Nat) (ha : EvR ta σ H (ns.map V.int)) (hb : Ev tb σ H (.int i)) (ej : i = (j : Int)) (e : ns[j]? = some x) : Ev (tOp (rIxL K) ta tb) σ H (.int x) := fun H1 e1 Q q =>
  ha H1 e1 _ fun p H2 e2 hp => hb H2 (e1.trans e2) _ fun H3 e3 => rv_ix j (sq_of (e3 _ _ hp)) ej e H3 (Ex.refl H3) Q fun H4 e4 => q H4 ((e2.trans e3).trans e4)
theorem ev_lenI (ha : Ev ta σ H (.ref a)) (h : SqL K H a (ns.map V.int)) : Ev (tCB (rLenS K) (tCons ta tNil)) σ H (.int (ns.length : Int)) := by
  have := ev_len (K := K) ha h
  rwa [List.length_map] at this
theorem ev_lenR (ha : EvR ta σ H (ns.map V.int)) : Ev (tCB (rLenS K) (tCons ta tNil)) σ H (.int (ns.length : Int)) := fun H1 e Q q =>
  ha H1 e _ fun p H2 e2 h2 => ⟨p, ns.map V.int, rfl, Or.inl (sq_of h2), by rw [List.length_map]; exact q H2 e2⟩
theorem el_listR (ha : EvR ta σ H xs) : EvL (tCB (rListS K) (tCons ta tNil)) σ H xs := fun H1 e Q q =>
  ha H1 e _ fun p H2 e2 h2 => ⟨p, xs, rfl, Or.inl (sq_of h2), fun l hl => q l _ (fresh_back e2 hl) (e2.trans (Ex.new hl)) upd_same⟩
theorem rgV_rng (n : Nat) : rgV 1 ((n : Int) + 1) = (rng n).map V.int := by
  unfold rgV rng
  rw [List.map_map]
  have e : ((n : Int) + 1 - 1).toNat = n := by omega
  rw [e]
  rfl
theorem el_rng {n : Nat} {m : Int} (ha : Ev ta σ H (.int 1)) (hb : Ev tb σ H (.int m)) (em : m = (n : Int) + 1) (hn : n ≤ 100000) : EvL (tLstRg (tRg2 ta tb)) σ H ((rng n).map V.int) := fun H1 e Q q =>
  ha H1 e _ fun H2 e2 => hb H2 (e.trans e2) _ fun H3 e3 => ⟨1, m, rfl, rfl, RgOk.of_le (by omega) (by omega) (by omega) (by omega), fun p hp => q p _ (fresh_back (e2.trans e3) hp) ((e2.trans e3).trans (Ex.new hp)) (by rw [upd_same, em, rgV_rng])⟩
theorem el_rev (ha : EvR te σ H xs) : EvL (tLstRev K te) σ H xs.reverse := fun H1 e Q q =>
  ha H1 e _ fun p H2 e2 hp => ⟨p, xs, rfl, sq_of hp, fun s hs => q s _ (fresh_back e2 hs) (e2.trans (Ex.new hs)) upd_same⟩
theorem cut_to (xs : List V) {k : Int} (h : 0 ≤ k) : cutV xs none (some k) = xs.take k.toNat := by
  obtain ⟨j, rfl⟩ : ∃ j : Nat, k = (j : Int) := ⟨k.toNat, by omega⟩
  unfold cutV
  rw [HT.sIx_nat, HT.sIx_none]
  rw [List.drop_zero, Nat.sub_zero]
  show xs.take (min j xs.length) = xs.take j
  by_cases hj : j ≤ xs.length
  · rw [Nat.min_eq_left hj]
  · rw [List.take_of_length_le (by omega), List.take_of_length_le (by omega)]
theorem cut_from (xs : List V) {k : Int} (h : 0 ≤ k) : cutV xs (some k) none = xs.drop k.toNat := by
  obtain ⟨j, rfl⟩ : ∃ j : Nat, k = (j : Int) := ⟨k.toNat, by omega⟩
  unfold cutV
  rw [HT.sIx_nat, HT.sIx_none]
  show List.take (xs.length - min j xs.length) (List.drop (min j xs.length) xs) = xs.drop j
  by_cases hj : j ≤ xs.length
  · rw [Nat.min_eq_left hj, List.take_of_length_le (by rw [List.length_drop]; omega)]
  · rw [List.drop_of_length_le (by omega), List.drop_of_length_le (by omega), List.take_nil]
theorem el_sl2 {tl th : TO} {lo hi : Option Int} (h : EvR te σ H xs) (h1 : EvO tl σ H lo) (h2 : EvO th σ H hi) : EvL (tSl (rSlL K) te tl th) σ H (cutV xs lo hi) := fun H1 e _ q =>
  h H1 e _ fun a H2 e2 ha => h1 H2 (e.trans e2) _ fun H3 e3 => h2 H3 ((e.trans e2).trans e3) _ fun H4 e4 =>
    ⟨a, xs, rfl, sq_of (e4 _ _ (e3 _ _ ha)), fun p hp => q p _ (fresh_back ((e2.trans e3).trans e4) hp) (((e2.trans e3).trans e4).trans (Ex.new hp)) upd_same⟩
theorem el_take {th : TO} {k : Int} (h : EvR te σ H (ns.map V.int)) (h2 : EvO th σ H (some k)) (hk : 0 ≤ k) : EvL (tSl (rSlL K) te tNoPart th) σ H ((ns.take k.toNat).map V.int) := by
  rw [List.map_take, ← cut_to _ hk]
  exact el_sl2 h eo_none h2
theorem el_drop {tl : TO} {k : Int} (h : EvR te σ H (ns.map V.int)) (h2 : EvO tl σ H (some k)) (hk : 0 ≤ k) : EvL (tSl (rSlL K) te tl tNoPart) σ H ((ns.drop k.toNat).map V.int) := by
  rw [List.map_drop, ← cut_from _ hk]
  exact el_sl2 h h2 eo_none
/-- the one rising list of these ints -/
def srt (ns : List Int) : List Int := ns.mergeSort (fun a b => decide (a ≤ b))
theorem srt_perm (ns : List Int) : (srt ns).Perm ns := List.mergeSort_perm ns _
theorem srt_le (ns : List Int) : (srt ns).Pairwise (· ≤ ·) := by
  have h := List.pairwise_mergeSort (le := fun a b : Int => decide (a ≤ b)) (fun a b c h1 h2 => by simp at *; omega) (fun a b => by simp; omega) ns
  exact h.imp fun h => by simpa using h
theorem srt_one {ns l : List Int} (hp : l.Perm ns) (hs : l.Pairwise (· ≤ ·)) : l = srt ns :=
  (hp.trans (srt_perm ns).symm).eq_of_pairwise (fun a b _ _ h1 h2 => Int.le_antisymm h1 h2) hs (srt_le ns)
theorem srt_rng (ns : List Int) : srt ns = rng ns.length ↔ IsDk ns := isDk_iff (srt_perm ns) (srt_le ns)
theorem el_sorted (ha : EvR ta σ H (ns.map V.int)) : EvL (tCB (rSortedI K) (tCons ta tNil)) σ H ((srt ns).map V.int) := fun H1 e Q q =>
  ha H1 e _ fun a H2 e2 h2 => ⟨a, ns, rfl, sq_of h2, fun ns' p hp hs hn => q p _ (fresh_back e2 hn) (e2.trans (Ex.new hn)) (by rw [upd_same, srt_one hp hs])⟩
/-- isinstance(x, c), c built in -/
theorem ev_isi {T : String} {c : String} {bb : Bool} (ha : Ev ta σ H x) (ty : ∀ H1, Ex H H1 → TyX K H1 x (.type T)) (hk : kitB T c = some bb) : Ev (tCB (rIsi K) (tCons ta (tCons (tC (.ty c)) tNil))) σ H (.bl bb) := fun H1 e Q q =>
  ha H1 e _ fun H2 e2 => ⟨x, .ty c, .type T, .type c, bb, rfl, .ty c, ty H2 (e.trans e2), kit_ty hk, q H2 e2⟩
variable {D : Ends} {tz : TS}
/-- l.append(p.pop(i)) -/
theorem s_appPop {j : Nat} {i : Int} (hl : H l = some (.lst xs)) (hp : H p = some (.lst ys)) (ne : l ≠ p) (ha : Ev ta σ H (.ref l)) (hb : Ev tb σ H (.ref p)) (hi : Ev te σ H (.int i)) (ei : i = (j : Int)) (hj : ys[j]? = some y) (hy : ys.length ≤ 1000) (hz : xs.length < 100000)
    (k : ∀ H1, Ex H H1 → D.nx σ (upd (upd H1 p (.lst (ys.eraseIdx j))) l (.lst (xs ++ [y])))) :
    tDrop (tBM K "list" rAppend ta (tCons (tBM K "list" rPopAt tb (tCons te tNil)) tNil)) D σ H := ha H (Ex.refl H) _ fun H1 e1 =>
  ⟨Or.inl ⟨rfl, xs, sq_of (e1 l _ hl)⟩, hb H1 e1 _ fun H2 e2 => ⟨Or.inl ⟨rfl, ys, sq_of (e2 _ _ (e1 _ _ hp))⟩, hi H2 (e1.trans e2) _ fun H3 e3 => by
    have hlt : j < ys.length := (List.getElem?_eq_some_iff.mp hj).1
    refine ⟨p, ys, i, j, y, rfl, rfl, e3 _ _ (e2 _ _ (e1 _ _ hp)), by omega, by omega, by rw [ei]; exact seqIndex_of (by omega) (by omega), hj, ?_⟩
    exact ⟨l, xs, y, rfl, rfl, by rw [upd_ne ne]; exact e3 _ _ (e2 _ _ (e1 _ _ hl)), sz_lt hz, k H3 ((e1.trans e2).trans e3)⟩⟩⟩
/-- l.remove(k) -/
theorem q_remove {k : Int} {j : Nat} (hl : At H l ns) (ha : Ev ta σ H (.ref l)) (hi : Ev te σ H (.int k)) (hj : ns[j]? = some k) (hno : ∀ m : Nat, m < j → ns[m]? ≠ some k) (c : ∀ H1, Ex H H1 → tz D σ (upd H1 l (.lst ((ns.eraseIdx j).map V.int)))) :
    tSeq (tDrop (tBM K "list" rRemI ta (tCons te tNil))) tz D σ H := ha H (Ex.refl H) _ fun H1 e1 =>
  ⟨Or.inl ⟨rfl, _, sq_of (e1 l _ hl)⟩, hi H1 e1 _ fun H2 e2 => ⟨l, ns, k, j, rfl, rfl, e2 _ _ (e1 _ _ hl), hj, hno, c H2 (e1.trans e2)⟩⟩
end
end Tt
namespace Tt
open PySem PySem.Spec PyProof.Rows L2 Evl
/-! ### an int of which something is known -/
def EvI (te : TE) (σ : L2.St) (H : Hp) (P : Int → Prop) : Prop := ∀ H1, Ex H H1 → ∀ Q : VK, (∀ z H2, Ex H1 H2 → P z → Q (.int z) H2) → te σ H1 Q
section
variable {K : PySem.W.Frag} {σ : L2.St} {H H' : Hp} {ta tb te : TE} {P R : Int → Prop} {i j : Int}
theorem ei_ev (h : Ev te σ H (.int i)) (p : P i) : EvI te σ H P := fun H1 e Q q => h H1 e Q fun H2 e2 => q i H2 e2 p
theorem ei_imp (h : EvI te σ H P) (c : ∀ z, P z → R z) : EvI te σ H R := fun H1 e Q q => h H1 e Q fun z H2 e2 p => q z H2 e2 (c z p)
theorem EvI.mono (e : Ex H H') (h : EvI te σ H P) : EvI te σ H' P := fun H1 a Q q => h H1 (e.trans a) Q q
theorem ei_mod (ha : EvI ta σ H P) (hb : Ev tb σ H (.int j)) (hj : 0 < j) : EvI (tOp (rI (fun _ j => 0 < j) fun i j => .int (i % j)) ta tb) σ H (fun z => 0 ≤ z ∧ z < j) := fun H1 e Q q =>
  ha H1 e _ fun i H2 e2 _ => hb H2 (e.trans e2) _ fun H3 e3 => ⟨i, j, rfl, rfl, hj, q _ H3 (e2.trans e3) ⟨Int.emod_nonneg _ (by omega), Int.emod_lt_of_pos _ hj⟩⟩
theorem ei_fdiv (ha : EvI ta σ H P) (hb : Ev tb σ H (.int j)) (hj : 0 < j) (h2 : j < 1073741824) : EvI (tOp (rI CDivN fun i j => .int (i.fdiv j)) ta tb) σ H (fun _ => True) := fun H1 e Q q =>
  ha H1 e _ fun i H2 e2 _ => hb H2 (e.trans e2) _ fun H3 e3 => ⟨i, j, rfl, rfl, ⟨by omega, by omega⟩, q _ H3 (e2.trans e3) True.intro⟩
theorem ei_op {f : Int → Int → Int} (ha : EvI ta σ H P) (hb : EvI tb σ H R) : EvI (tOp (rI0 fun i j => .int (f i j)) ta tb) σ H (fun z => ∃ x y, P x ∧ R y ∧ z = f x y) := fun H1 e Q q =>
  ha H1 e _ fun i H2 e2 pi => hb H2 (e.trans e2) _ fun j H3 e3 rj => ⟨i, j, rfl, rfl, q _ H3 (e2.trans e3) ⟨i, j, pi, rj, rfl⟩⟩
variable {D : Ends} {tu tw tz : TS}
theorem q_asgI {k : Nat} (h : EvI te σ H P) (c : ∀ z H1, P z → Ex H H1 → tz D (σ.set k (some (.int z))) H1) : tSeq (tAsg te (gName k)) tz D σ H := h H (Ex.refl _) _ fun z H1 e p => c z H1 p e
theorem s_asgI {k : Nat} (h : EvI te σ H P) (c : ∀ z H1, P z → Ex H H1 → D.nx (σ.set k (some (.int z))) H1) : tAsg te (gName k) D σ H := h H (Ex.refl _) _ fun z H1 e p => c z H1 p e
/-- a test of which the answer is either -/
def EvTP (t : TT) (σ : L2.St) (H : Hp) : Prop := ∀ H1, Ex H H1 → ∀ Q : Bool → Hp → Prop, (∀ b H2, Ex H1 H2 → Q b H2) → t σ H1 Q
theorem ep_eq (ha : EvI ta σ H P) (hb : EvI tb σ H R) : EvTP (tTest (tOp rEq ta tb)) σ H := fun H1 e Q q =>
  ha H1 e _ fun i H2 e2 _ => hb H2 (e.trans e2) _ fun j H3 e3 _ => ⟨rfl, _, rfl, q _ H3 (e2.trans e3)⟩
theorem ep_gt (ha : EvI ta σ H P) (hb : EvI tb σ H R) : EvTP (tTest (tOp (rI0 fun i j => .bl (decide (j < i))) ta tb)) σ H := fun H1 e Q q =>
  ha H1 e _ fun i H2 e2 _ => hb H2 (e.trans e2) _ fun j H3 e3 _ => ⟨i, j, rfl, rfl, _, rfl, q _ H3 (e2.trans e3)⟩
theorem q_any {t : TT} (h : EvTP t σ H) (h1 : ∀ H1, Ex H H1 → tu { D with nx := tz D } σ H1) (h2 : ∀ H1, Ex H H1 → tz D σ H1) : tSeq (tIfS t tu tNext) tz D σ H := h H (Ex.refl _) _ fun b H1 e => by
  cases b with
  | true => exact h1 H1 e
  | false => exact h2 H1 e
theorem given_filter (p : Int → Bool) (ms : List Int) : given ms.length (fun i => p (ms.getD i 0)) (fun i => V.int (ms.getD i 0)) = (ms.filter p).map V.int := by
  have e : (List.range ms.length).map (fun i => ms.getD i 0) = ms := by
    refine List.ext_getElem? fun i => ?_
    by_cases hi : i < ms.length
    · rw [List.getElem?_map, List.getElem?_range hi, List.getElem?_eq_getElem hi]
      simp [List.getD_eq_getElem?_getD, List.getElem?_eq_getElem hi]
    · rw [List.getElem?_eq_none (by simp; omega), List.getElem?_eq_none (by omega)]
  unfold given
  have h2 : (ms.filter p) = ((List.range ms.length).filter (p ∘ fun i => ms.getD i 0)).map (fun i => ms.getD i 0) := by
    rw [← List.filter_map, e]
  rw [h2, List.map_map]
  rfl
theorem rv_eqI {i j : Int} : RV rEq (.int i) (.int j) H (.bl (decide (i = j))) := fun H1 _ _ q => ⟨rfl, by
  have e : decide (V.int i = V.int j) = decide (i = j) := by simp
  rw [e]
  exact q H1 (Ex.refl H1)⟩
theorem rv_neI {i j : Int} : RV rNe (.int i) (.int j) H (.bl (!decide (i = j))) := fun H1 _ _ q => ⟨rfl, by
  have e : decide (V.int i = V.int j) = decide (i = j) := by simp
  rw [e]
  exact q H1 (Ex.refl H1)⟩
theorem ei_ix {ns : List Int} (ha : EvR ta σ H (ns.map V.int)) (hb : EvI tb σ H (fun z => 0 ≤ z ∧ z < (ns.length : Int))) : EvI (tOp (rIxL K) ta tb) σ H (fun x => x ∈ ns) := fun H1 e Q q =>
  ha H1 e _ fun p H2 e2 hp => hb H2 (e.trans e2) _ fun i H3 e3 hi => by
    have hlt : i.toNat < ns.length := by omega
    have ei : ns[i.toNat]? = some ns[i.toNat] := List.getElem?_eq_getElem hlt
    exact rv_ix i.toNat (sq_of (e3 _ _ hp)) (by omega) ei H3 (Ex.refl H3) Q fun H4 e4 => q _ H4 ((e2.trans e3).trans e4) (List.mem_of_getElem? ei)
/-- a new list of ints of which something is known -/
def EvLP (te : TE) (σ : L2.St) (H : Hp) (P : List Int → Prop) : Prop := ∀ H1, Ex H H1 → ∀ Q : VK, (∀ p ns H2, H1 p = none → Ex H1 H2 → At H2 p ns → P ns → Q (.ref p) H2) → te σ H1 Q
theorem q_asgLP {k : Nat} {P : List Int → Prop} (h : EvLP te σ H P) (c : ∀ p ns H1, H p = none → Ex H H1 → At H1 p ns → P ns → tz D (σ.set k (some (.ref p))) H1) : tSeq (tAsg te (gName k)) tz D σ H := h H (Ex.refl _) _ fun p ns H1 n e hp pn => c p ns H1 n e hp pn
theorem s_asgLP {k : Nat} {P : List Int → Prop} (h : EvLP te σ H P) (c : ∀ p ns H1, H p = none → Ex H H1 → At H1 p ns → P ns → D.nx (σ.set k (some (.ref p))) H1) : tAsg te (gName k) D σ H := h H (Ex.refl _) _ fun p ns H1 n e hp pn => c p ns H1 n e hp pn
/-- for i in range(n), n not known; the word does not speak of the turn -/
theorem q_forRI {j : Nat} {m : Int} (h : EvI te σ H (fun z => 0 ≤ z ∧ z < m)) (hm : m ≤ 100000) (Pv : L2.St → Hp → Prop) (h0 : ∀ H1, Ex H H1 → Pv σ H1)
    (hs : ∀ (i : Nat) σ' H', (i : Int) < m → Pv σ' H' → tu { D with nx := Pv, ct := Pv, bk := tz D } (σ'.set j (some (.int (i : Int)))) H') (hd : ∀ σ' H', Pv σ' H' → tz D σ' H') : tSeq (tFor (iRng1 (tCons te tNil)) (gName j) tu) tz D σ H :=
  h H (Ex.refl H) _ fun z H1 e hz => ⟨z, rfl, by omega, by omega, for_range (lo := 0) (n := z.toNat) (fun _ => Pv) (h0 H1 e) (fun i σ' H' hi p => by
    have e0 : (0 : Int) + (i : Int) = (i : Int) := Int.zero_add _
    show tu { D with nx := Pv, ct := Pv, bk := tz D } (σ'.set j (some (.int ((0 : Int) + (i : Int))))) H'
    rw [e0]
    exact hs i σ' H' (by omega) p) fun σ' H' p => hd σ' H' p⟩
/-- a list is stored anew, perhaps -/
theorem q_maybe {k : Nat} {P : List Int → Prop} {t : TT} {p0 : Addr} {ns0 : List Int} (h : EvTP t σ H) (h1 : EvLP te σ H P) (hσ : σ.set k (some (.ref p0)) = σ) (h0 : At H p0 ns0) (hP : P ns0) (c : ∀ p ns H1, Ex H H1 → At H1 p ns → P ns → tz D (σ.set k (some (.ref p))) H1) :
    tSeq (tIfS t (tAsg te (gName k)) tNext) tz D σ H :=
  q_any h (fun H1 e1 => s_asgLP (D := { D with nx := tz D }) (fun H2 e2 Q q => h1 H2 (e1.trans e2) Q q) fun p ns H2 _ e2 hp pn => c p ns H2 (e1.trans e2) hp pn) (fun H1 e1 => by
    have g := c p0 ns0 H1 e1 (e1 _ _ h0) hP
    rw [hσ] at g
    exact g)
theorem ei_c {i : Int} : EvI (tC (.int i)) σ H (fun z => z = i) := ei_ev ev_c rfl
theorem EvLP.imp {P R : List Int → Prop} (h : EvLP te σ H P) (c : ∀ z, P z → R z) : EvLP te σ H R := fun H1 e Q q => h H1 e Q fun p ns H2 n e2 hp pn => q p ns H2 n e2 hp (c ns pn)
/-- an item of a list is an int -/
theorem int_item {ns : List Int} {i : Nat} {y : V} (h : (ns.map V.int)[i]? = some y) : ∃ c, ns[i]? = some c ∧ y = V.int c := by
  rw [List.getElem?_map] at h
  cases e : ns[i]? with
  | none => rw [e] at h; cases h
  | some c => rw [e] at h; exact ⟨c, rfl, (Option.some.inj h).symm⟩
theorem upd_at {p b : Addr} {o u : HO} (h : H b = some u) (ne : b ≠ p) : (upd H p o) b = some u := by
  rw [upd_ne ne]
  exact h
/-- a call of one argument that is a list, new or not -/
theorem el_call1R {sp : Sp} {E : XK} {xs ys : List V} (h : EvR te σ H xs) (hs : ∀ p H1, Ex H H1 → H1 p = some (.lst xs) → SpL sp [.ref p] H1 ys) : EvL (tCall sp [] E (tCons te tNil)) σ H ys := fun H1 e Q q =>
  h H1 e _ fun p H2 e2 hp => hs p H2 (e.trans e2) hp H2 (Ex.refl _) Q (fun r H3 nr e3 hr => q r H3 (fresh_back e2 nr) (e2.trans e3) hr) E
theorem ev_call1R {sp : Sp} {E : XK} {xs : List V} {z : V} (h : EvR te σ H xs) (hs : ∀ p H1, Ex H H1 → H1 p = some (.lst xs) → SpV sp [.ref p] H1 z) : Ev (tCall sp [] E (tCons te tNil)) σ H z := fun H1 e Q q =>
  h H1 e _ fun p H2 e2 hp => hs p H2 (e.trans e2) hp H2 (Ex.refl _) Q (fun H3 e3 => q H3 (e2.trans e3)) E
theorem el_call2R {sp : Sp} {E : XK} {xs ys zs : List V} (h : EvR ta σ H xs) (h2 : EvR tb σ H ys) (hs : ∀ p q H1, Ex H H1 → H1 p = some (.lst xs) → H1 q = some (.lst ys) → SpL sp [.ref p, .ref q] H1 zs) : EvL (tCall sp [] E (tCons ta (tCons tb tNil))) σ H zs := fun H1 e Q q =>
  h H1 e _ fun p H2 e2 hp => h2 H2 (e.trans e2) _ fun r H3 e3 hr => hs p r H3 ((e.trans e2).trans e3) (e3 _ _ hp) hr H3 (Ex.refl _) Q (fun x H4 nx e4 hx => q x H4 (fresh_back (e2.trans e3) nx) ((e2.trans e3).trans e4) hx) E
/-- for x in reversed(xs) -/
theorem q_forRev {a : Addr} {xs : List V} {j : Nat} (h : Ev ta σ H (.ref a)) (hx : SqL K H a xs) (Pv : Nat → L2.St → Hp → Prop) (h0 : ∀ H1, Ex H H1 → Pv 0 σ H1) (hl : ∀ i σ' H', Pv i σ' H' → SqL K H' a xs)
    (hs : ∀ i x σ' H', i < xs.length → xs[xs.length - 1 - i]? = some x → Pv i σ' H' → tu { D with nx := Pv (i + 1), ct := Pv (i + 1), bk := tz D } (σ'.set j (some x)) H') (hd : ∀ σ' H', Pv xs.length σ' H' → tz D σ' H') : tSeq (tFor (iRev K (tCons ta tNil)) (gName j) tu) tz D σ H :=
  h H (Ex.refl H) _ fun H1 e => ⟨a, xs, rfl, ex_l e hx, RT.for_Itv (D := { D with nx := tz D }) Pv (h0 H1 e) hl hs hd⟩
theorem et_yes {σ : L2.St} {H : Hp} : EvT tYes σ H true := fun H1 _ Q q => q H1 (Ex.refl H1)
theorem given_int (n : Nat) (g : Nat → Int) : given n (fun _ => true) (fun i => V.int (g i)) = ((List.range n).map g).map V.int := by
  unfold given
  rw [List.filter_eq_self.mpr (fun _ _ => rfl), List.map_map]
  rfl
theorem range_getD {α : Type} (l : List α) (d : α) : (List.range l.length).map (fun i => l.getD i d) = l := by
  refine List.ext_getElem? fun i => ?_
  by_cases hi : i < l.length
  · rw [List.getElem?_map, List.getElem?_range hi, List.getElem?_eq_getElem hi]
    simp [List.getD_eq_getElem?_getD, List.getElem?_eq_getElem hi]
  · rw [List.getElem?_eq_none (by simp; omega), List.getElem?_eq_none (by omega)]
theorem at_nat {α : Type} {xs : List α} {j : Nat} {x : α} (h : xs[j]? = some x) : atI xs (j : Int) = some x := by
  have hj := (List.getElem?_eq_some_iff.mp h).1
  unfold atI
  rw [ixN_nat hj]
  exact h
/-- a list of ints of which something is known, new or not -/
def EvRP (te : TE) (σ : L2.St) (H : Hp) (P : List Int → Prop) : Prop := ∀ H1, Ex H H1 → ∀ Q : VK, (∀ p ns H2, Ex H1 H2 → At H2 p ns → P ns → Q (.ref p) H2) → te σ H1 Q
theorem EvRP.ofR {ns : List Int} (h : EvR te σ H (ns.map V.int)) : EvRP te σ H (fun l => l = ns) := fun H1 e Q q => h H1 e Q fun p H2 e2 hp => q p ns H2 e2 hp rfl
theorem EvRP.ofL {P : List Int → Prop} (h : EvLP te σ H P) : EvRP te σ H P := fun H1 e Q q => h H1 e Q fun p ns H2 _ e2 hp pn => q p ns H2 e2 hp pn
theorem EvLP.ofL {P : List Int → Prop} {ns : List Int} (h : EvL te σ H (ns.map V.int)) (hP : P ns) : EvLP te σ H P := fun H1 e Q q => h H1 e Q fun p H2 np e2 hp => q p ns H2 np e2 hp hP
theorem elp_cat {P R : List Int → Prop} (ha : EvRP ta σ H P) (hb : EvRP tb σ H R) (hz : ∀ ns ms, P ns → R ms → ns.length + ms.length ≤ 100000) : EvLP (tOp rCat ta tb) σ H (fun l => ∃ ns ms, P ns ∧ R ms ∧ l = ns ++ ms) := fun H1 e Q q =>
  ha H1 e _ fun p ns H2 e2 hp pn => hb H2 (e.trans e2) _ fun r ms H3 e3 hr pm => by
    refine ⟨p, r, ns.map V.int, ms.map V.int, rfl, rfl, e3 _ _ hp, hr, sz_of (by rw [List.length_map, List.length_map]; exact hz ns ms pn pm), fun s hs => ?_⟩
    rw [← List.map_append]
    exact q s (ns ++ ms) _ (fresh_back (e2.trans e3) hs) ((e2.trans e3).trans (Ex.new hs)) upd_same ⟨ns, ms, pn, pm, rfl⟩
theorem elp3 {tc : TE} {P R S : Int → Prop} (ha : EvI ta σ H P) (hb : EvI tb σ H R) (hc : EvI tc σ H S) : EvLP (tLst (tCons ta (tCons tb (tCons tc tNil)))) σ H (fun l => l.length = 3) := fun H1 e Q q =>
  ha H1 e _ fun i H2 e2 _ => hb H2 (e.trans e2) _ fun j H3 e3 _ => hc H3 ((e.trans e2).trans e3) _ fun k H4 e4 _ => ⟨by show 3 ≤ sizeLine; decide, fun p hp => q p [i, j, k] _ (fresh_back ((e2.trans e3).trans e4) hp) (((e2.trans e3).trans e4).trans (Ex.new hp)) upd_same rfl⟩
theorem ei_ixP {P : List Int → Prop} {R : Int → Prop} (ha : EvRP ta σ H P) (hb : EvI tb σ H R) (hi : ∀ ns z, P ns → R z → 0 ≤ z ∧ z < (ns.length : Int)) : EvI (tOp (rIxL K) ta tb) σ H (fun _ => True) := fun H1 e Q q =>
  ha H1 e _ fun p ns H2 e2 hp pn => hb H2 (e.trans e2) _ fun i H3 e3 ri => by
    obtain ⟨i0, i1⟩ := hi ns i pn ri
    have hlt : i.toNat < ns.length := by omega
    have ei : ns[i.toNat]? = some ns[i.toNat] := List.getElem?_eq_getElem hlt
    exact rv_ix i.toNat (sq_of (e3 _ _ hp)) (by omega) ei H3 (Ex.refl H3) Q fun H4 e4 => q _ H4 ((e2.trans e3).trans e4) True.intro
theorem ei_fdivP {P : Int → Prop} {j : Int} (ha : EvI ta σ H P) (hb : Ev tb σ H (.int j)) (hj : 0 < j) (h2 : j < 1073741824) : EvI (tOp (rI CDivN fun i j => .int (i.fdiv j)) ta tb) σ H (fun z => ∃ x, P x ∧ z = x.fdiv j) := fun H1 e Q q =>
  ha H1 e _ fun i H2 e2 pi => hb H2 (e.trans e2) _ fun H3 e3 => ⟨i, j, rfl, rfl, ⟨by omega, by omega⟩, q _ H3 (e2.trans e3) ⟨i, pi, rfl⟩⟩
/-- a list times a number of which something is known -/
theorem elp_rep {x : Int} {R : Int → Prop} (ha : Ev ta σ H (.int x)) (hb : EvI tb σ H R) (hR : ∀ z, R z → 0 ≤ z ∧ z ≤ 100) : EvLP (tOp rRep (tLst (tCons ta tNil)) tb) σ H (fun l => l.length ≤ 100) := fun H1 e Q q =>
  ha H1 e _ fun H2 e2 => ⟨by show 1 ≤ sizeLine; decide, fun p hp => hb _ ((e.trans e2).trans (Ex.new hp)) _ fun k H3 e3 rk => by
    obtain ⟨k0, k1⟩ := hR k rk
    have ex : Ex H1 H3 := (e2.trans (Ex.new hp)).trans e3
    refine ⟨p, k, [.int x], rfl, rfl, e3 _ _ upd_same, by omega, by omega, sz_of (by rw [List.length_singleton]; omega), fun r hr => ?_⟩
    have e0 : (List.replicate k.toNat [V.int x]).flatten = (List.replicate k.toNat x).map V.int := by
      generalize k.toNat = n
      induction n with
      | zero => rfl
      | succ n ih => rw [List.replicate_succ, List.replicate_succ, List.flatten_cons, ih]; rfl
    refine q r (List.replicate k.toNat x) _ (fresh_back ex hr) (ex.trans (Ex.new hr)) ?_ (by show (List.replicate k.toNat x).length ≤ 100; rw [List.length_replicate]; omega)
    show upd _ _ _ _ = _
    rw [upd_same, e0]⟩
/-- an if without else, both ways coming to Inv -/
theorem q_two {D : Ends} {tu tz : TS} {t : TT} (M : L2.St → Hp → Prop) (h : EvTP t σ H) (h1 : ∀ N : L2.St → Hp → Prop, (∀ σ' H', M σ' H' → N σ' H') → ∀ H1, Ex H H1 → tu { D with nx := N } σ H1) (h2 : ∀ H1, Ex H H1 → M σ H1) (k : ∀ σ' H', M σ' H' → tz D σ' H') :
    tSeq (tIfS t tu tNext) tz D σ H := q_any h (fun H1 e1 => h1 (tz D) k H1 e1) (fun H1 e1 => k _ _ (h2 H1 e1))
theorem rv_isN {x : V} : RV (fun x y H Q => y = .non ∧ Q (.bl (decide (x = .non))) H) x .non H (.bl (decide (x = .non))) := fun H1 _ _ q => ⟨rfl, q H1 (Ex.refl H1)⟩
end
end Tt

/-! Errors: a def that may raise; a def that is asked of the caught error. -/
namespace Tt
open PySem PySem.Spec PyProof.Rows L2 L2H Evl
/-- nothing is let out -/
theorem passN {X : Cx} : Passes (L2N.CX X.prog X.w) X E0 := fun _ _ _ _ _ _ _ c => by
  obtain ⟨_, _, _, _, _, _, _, _, _, _, _, _, f⟩ := c
  cases f
theorem takes0 {X : Cx} : L2.Takes X (fun _ _ _ _ => False) := fun _ _ x => by
  obtain ⟨_, _, _, _, _, _, _, _, _, _, _, _, _, _, _, _, f⟩ := x
  cases f
theorem takesN0 {X : Cx} : L2N.Takes X (fun _ _ _ _ => False) := fun _ _ x => by
  obtain ⟨_, _, _, _, _, _, _, _, _, _, _, _, _, _, _, _, f⟩ := x
  cases f
section
variable {P : Program} {w : World} {K : PySem.W.Frag} {mg : Str → Option Value} {base : Heap}
/-- a def of the text that may raise -/
theorem okN {x qual : Str} {st : Stmt} {f : Addr} {fd : FuncData} {N ps : List Str} {k : Nat} {sp : Sp} (F : Fun K x qual st f fd) (S : FnScope N ps (defScope st)) (len : ∀ vs H Q E, sp vs H Q E → vs.length = ps.length)
    (body : ∀ (cdv : Value) (AA : Around) (outer : List Env) (s : Shared) (H : Hp) (vs : List V) (Q : VK) (E : XK), Room k (AA.deeper (envOfC qual (defScope st) s.heap.objs.size f cdv)) → sp vs H Q E →
      ∃ t, PSs (cxOf (L2N.CX P w) P w K mg base N qual (defScope st) f cdv AA outer s H E) (defBody st) t ∧ t { nx := fun _ H' => Q .non H', rt := Q } (start N vs) H) : FnOk P w K mg base (L2N.CX P w) (k + 1) f fd ps sp := by
  obtain ⟨oc, od, kV, doc, pm, an, cdv, ct, osl, rfl, lk, hcd⟩ := F.ex
  exact fn_of lk hcd S len fun AA outer s H vs Q E hr hsp => body cdv AA outer s H vs Q E hr hsp

/-! ### a def that is handed the caught error: its promise may speak of it -/
abbrev SpE := Addr → Value → Option Addr → Sp
structure FnE (P : Program) (w : World) (K : PySem.W.Frag) (mg : Str → Option Value) (base : Heap) (k : Nat) (f : Addr) (fd : FuncData) (ps : List Str) (sp : SpE) : Prop where
  len : ∀ a c d vs H Q E, sp a c d vs H Q E → vs.length = ps.length
  run : ∀ (AA : Around) (outer : List Env) (s : Shared) (H : Hp) (args : Args) (us : List Value) (vs : List V) (Q : VK) (E : XK) (p : Addr × Obj) (c : Value) (d : Option Addr), RoomH k AA → Hot1 AA p → L2N.Zn c d p.2 → PinOk outer H s p → Env0 P w K mg base AA outer s H →
    BindsTo s fd args (ps.zip us) → Vals vs us → sp p.1 c d vs H Q E → codeAny (model P w) AA (.call (.ref f) args) (CR CX0 outer P w H s Q E) s
/-- such a def, by its body -/
theorem okE {x qual : Str} {st : Stmt} {f : Addr} {fd : FuncData} {N ps : List Str} {k : Nat} {sp : SpE} (F : Fun K x qual st f fd) (S : FnScope N ps (defScope st)) (len : ∀ a c d vs H Q E, sp a c d vs H Q E → vs.length = ps.length)
    (body : ∀ (cdv : Value) (AA : Around) (outer : List Env) (s : Shared) (H : Hp) (vs : List V) (Q : VK) (E : XK) (p : Addr × Obj) (c : Value) (d : Option Addr), Hot1 AA p → L2N.Zn c d p.2 → RoomH k (AA.deeper (envOfC qual (defScope st) s.heap.objs.size f cdv)) → sp p.1 c d vs H Q E →
      ∃ t, PSs (cxH CX0 P w K mg base N qual (defScope st) f cdv AA outer s H E p) (defBody st) t ∧ t { nx := fun _ H' => Q .non H', rt := Q } (start N vs) H) : FnE P w K mg base (k + 1) f fd ps sp := by
  obtain ⟨oc, od, kV, doc, pm, an, cdv, ct, osl, rfl, lk, hcd⟩ := F.ex
  refine ⟨len, fun AA outer s H args us vs Q E p c d hr hot hz hpin e0 hb r hsp => ?_⟩
  -- the promise at this very error, as a promise of the layer's own kind
  let sp1 : Sp := fun vs H Q E => sp p.1 c d vs H Q E
  refine (fn_ofP lk hcd S (sp := sp1) (p := p) (fun vs H Q E h => len _ _ _ vs H Q E h) fun AA outer s H vs Q E hot hr h => body cdv AA outer s H vs Q E p c d hot hz hr h) AA outer s H args us vs Q E hr hot hpin e0 hb r hsp
where
  fn_ofP {name qual : Str} {params : Arguments} {body : List Stmt} {scope : Scope} {dV kV doc pm cdv ct oc : Value} {an od : Option Addr} {f : Addr} {k : Nat} {osl : Array (Option Value)} {N ps : List Str} {sp : Sp} {p : Addr × Obj} (lk : K.lookup f = some ⟨oc, od, .func (PySem.W.fnOf name qual params body scope dV kV doc pm an cdv ct), osl⟩) (hcd : PySem.W.codeIn K cdv qual = true) (S : FnScope N ps scope)
    (len : ∀ vs H Q E, sp vs H Q E → vs.length = ps.length)
    (hbody : ∀ (AA : Around) (outer : List Env) (s : Shared) (H : Hp) (vs : List V) (Q : VK) (E : XK), Hot1 AA p → RoomH k (AA.deeper (envOfC qual scope s.heap.objs.size f cdv)) → sp vs H Q E →
      ∃ t, PSs (cxH CX0 P w K mg base N qual scope f cdv AA outer s H E p) body t ∧ t { nx := fun _ H' => Q .non H', rt := Q } (start N vs) H) :
    ∀ (AA : Around) (outer : List Env) (s : Shared) (H : Hp) (args : Args) (us : List Value) (vs : List V) (Q : VK) (E : XK), RoomH (k + 1) AA → Hot1 AA p → PinOk outer H s p → Env0 P w K mg base AA outer s H → BindsTo s (PySem.W.fnOf name qual params body scope dV kV doc pm an cdv ct) args (ps.zip us) → Vals vs us → sp vs H Q E →
      codeAny (model P w) AA (.call (.ref f) args) (CR CX0 outer P w H s Q E) s := by
    intro AA outer s H args us vs Q E hr hot hpin e0 hb r hsp
    have hl := len _ _ _ _ hsp
    have KX : K.In s.heap := e0.mod.kin.keeps fun b o e => (e0.bs b o e).1
    have lim : s.heap.NoLimit := e0.mod.nolimit.keeps fun b o e => (e0.bs b o e).1
    have kinds : ∀ y ∈ ps.zip us, scope.names.lookup y.1 = some .local ∨ (scope.names.lookup y.1 = some .cell ∧ ((cellsFrom (s.heap.objs.size + 1) scope.names []).lookup y.1).isSome = true) := by
      intro y hy
      obtain ⟨n, v⟩ := y
      rcases S.par n (List.of_mem_zip hy).1 with h | h
      · exact Or.inl h
      · exact Or.inr ⟨h, PySem.W.cellsFrom_some _ _ _ (Or.inl h)⟩
    refine codeAny_call_function hr.depth (KX _ _ lk) rfl S.co S.gen rfl (PySem.W.codeRec_of KX hcd) (hb _ _ _ _ ?_)
    refine wpAny_newFunctionEnv_cells S.kind kinds fun env he s1 x => ?_
    subst he
    refine ⟨lim.keeps x.toInCall.keep, codeAny_func ?_⟩
    obtain ⟨t, ht, hq⟩ := hbody AA outer s H vs Q E hot (hr.deeper _) hsp
    have I := inv_startH (CX := CX0) (E := E) (qual := qual) (f := f) (cd := cdv) S hpin e0 hl r x
    refine wpAny_mono (ht.run [] s1 _ H _ I hq) (fun fl s' hs => ?_) fun e s' hs => hs
    match fl, hs with
    | .ret u, ⟨v, σ', H', J, rv, q⟩ => exact ⟨v, H', J.os, J.bare, J.base, J.hok, rv, q⟩
    | .next, ⟨σ', H', J, q⟩ => exact ⟨V.non, H', J.os, J.bare, J.base, J.hok, rfl, q⟩
    | .brk, ⟨_, _, _, q⟩ => exact q.elim
    | .cont, ⟨_, _, _, q⟩ => exact q.elim
end
/-- its call in the suite that holds the error -/
def tCallE (sp : SpE) (a : Addr) (c : Value) (d : Option Addr) (t : TA) : TE := fun σ H Q => t σ H fun vs H1 => sp a c d vs H1 Q E0
theorem pe_callE {X : Cx} {k : Nat} {f : Addr} {fd : FuncData} {ps : List Str} {sp : SpE} {x : Str} {q pos : Pos} {e : Expr} {es : List Expr} {t : TA} {a : Addr} {oe : Obj} {c : Value} {d : Option Addr} (F : FnE X.prog X.w X.K X.mg X.base k f fd ps sp) (hr : RoomH k X.A) (hot : Hot1 X.A (a, oe)) (hp : (a, oe) ∈ X.pn) (hz : L2N.Zn c d oe)
    (hg : Gl X x) (hm : X.mg x = some (.ref f)) (hk : PySem.W.keepIn X.K (.ref f) = true) (hb : Binds X.K fd ps []) (ha : PA X (e :: es) t)
    (hdb : (x == ("__debug__" : Str)) = false := by decide) (he : starEach (e :: es) X.env = (false, eval e X.env) :: starEach es X.env := by rfl) (hpl : (backTo pos (starEach es X.env)).any (·.1) = false := by rfl) :
    PE X (.Call (.Name x q) (e :: es) [] pos) (tCallE sp a c d t) := by
  refine ⟨fun pins s σ H Q I h => ?_⟩
  refine wpAny_Call_Name_kw (ld_glob I hg hm ?_ hdb)
  refine PySem.W.callWith_K (h₀ := X.base) I.ok.mod.kin hk (thn (ha.run pos pins s σ H _ I h) fun us s1 ⟨vs, H1, I1, r, hsp⟩ => ⟨I1.kIn, ?_⟩) he hpl
  have hl : us.length = ps.length := by rw [← r.length]; exact F.len _ _ _ _ _ _ _ hsp
  have b := hb s1 us I1.kIn (by rw [List.append_nil]; exact hl)
  rw [List.append_nil] at b
  have P1 := I1.pin (a, oe) (List.mem_append_left _ hp)
  have hpin : PinOk X.stack H1 s1 (a, oe) := ⟨P1.1, P1.2.1, fun hm => (List.mem_cons.mp (I1.stkSub a hm)).elim P1.2.2.1 P1.2.2.2.1, P1.2.2.2.2⟩
  refine wpAny_call (codeAny_mono (F.run X.A X.stack s1 H1 ⟨us, []⟩ us vs Q E0 (a, oe) c d hr hot hz hpin I1.env0 b r hsp) fun r s' hq => ?_)
  match r, hq with
  | .error e, hq => exact hq.elim
  | .ok (.ret u), hq => exact I1.after hq
  | .ok .next, hq => exact hq.elim
  | .ok .brk, hq => exact hq.elim
  | .ok .cont, hq => exact hq.elim
/-- isinstance of the error that the context holds -/
theorem call_isP {X : Cx} {D : Addr} {p : Addr × Obj} (hp : p ∈ X.pn) (C : ExcC X.K D) (hz : L2N.Zn (.ref D) none p.2) (hf : ∃ vs, p.2.data = .fields vs) : CallR X (.builtin "isinstance") (rIsE X.K D p.1) := by
  intro pins s σ H xs us Q I r h
  obtain ⟨c, cv, b, rfl, hcv, e, q⟩ := h
  match us, r with
  | [u1, u2], .cons rx (.cons rt .nil) =>
    cases rx
    cases hcv _ rt
    have hget := (I.pin p (List.mem_append_left _ hp)).1
    obtain ⟨vs, hv⟩ := hf
    have J : PySem.W.InstAt s.heap p.1 p.2 D none := by
      obtain ⟨a, oc, od, oda, osl⟩ := p
      obtain ⟨h1, h2, _⟩ := hz
      dsimp only at h1 h2 hv hget
      subst h1 h2 hv
      exact ⟨hget, rfl, rfl, trivial⟩
    exact PySem.W.kia_one (PySem.W.handS_kitx_exc C.hg C.hk C.hs C.hd C.ha C.hn C.ht C.hm) I.kIn J e (fun z => nomatch z) fun tk => ⟨.bl b, H, I.kept (t' := tk) fun _ _ z => z, rfl, q⟩
/-! ### which errors an error is -/
theorem kit_own {K : PySem.W.Frag} {D C : Addr} {b : Bool} (i : PySem.W.isClsIn K C = true) (t : PySem.W.typeIn K (.ref C) = some (.type "type")) (s : PySem.W.subIn K (.ref D) (.ref C) = some b) (ne : D ≠ C) : PySem.W.kitOne K (.ref D) (.ref C) = some b := by
  have e0 : ¬ (Value.ref D == Value.ref C) = true := fun z => ne (Value.ref.inj (beq_iff_eq.mp z))
  have e2 : ((PySem.W.clsIn K C).isSome && PySem.W.typeIn K (.ref C) == some (.type "type")) = true := by
    have i' : (PySem.W.clsIn K C).isSome = true := i
    rw [i', t]
    rfl
  unfold PySem.W.kitOne
  rw [if_neg e0]
  show (if ((PySem.W.clsIn K C).isSome && PySem.W.typeIn K (.ref C) == some (.type "type")) = true then PySem.W.subIn K (.ref D) (.ref C) else none) = some b
  rw [if_pos e2]
  exact s
theorem kit_self {K : PySem.W.Frag} {D : Addr} : PySem.W.kitOne K (.ref D) (.ref D) = some true := by
  unfold PySem.W.kitOne
  rw [if_pos (beq_self_eq_true _)]
theorem kit_blt {K : PySem.W.Frag} {D : Addr} {T : String} {b : Bool} (m : PySem.W.kitMeta T = true) (s : PySem.W.subIn K (.ref D) (.type T) = some b) : PySem.W.kitOne K (.ref D) (.type T) = some b := by
  unfold PySem.W.kitOne
  rw [if_neg (fun z => by have := beq_iff_eq.mp z; cases this)]
  show (if PySem.W.kitMeta T = true then PySem.W.subIn K (.ref D) (.type T) else none) = some b
  rw [if_pos m]
  exact s
theorem ne_by_sub {K : PySem.W.Frag} {D C : Addr} (s : PySem.W.subIn K (.ref D) (.ref C) = some false) (t : PySem.W.subIn K (.ref D) (.ref D) = some true) : D ≠ C := fun z => by
  rw [← z, t] at s
  cases s
theorem kit_not {K : PySem.W.Frag} {D C : Addr} (i : PySem.W.isClsIn K C = true) (t : PySem.W.typeIn K (.ref C) = some (.type "type")) (s : PySem.W.subIn K (.ref D) (.ref C) = some false) (r : PySem.W.subIn K (.ref D) (.ref D) = some true) : PySem.W.kitOne K (.ref D) (.ref C) = some false := kit_own i t s (ne_by_sub s r)
/-- what the top says of a class of errors -/
structure ErrF (K : PySem.W.Frag) (mg : Str → Option Value) (x : Str) (C : Addr) : Prop where
  g : mg x = some (.ref C)
  k : PySem.W.keepIn K (.ref C) = true
  x : PySem.W.excIn K C [.type "ValueError", .type "Exception", .type "BaseException", .type "object"] "ValueError.__new__" = true
  b : PySem.W.subIn K (.ref C) (.type "BaseException") = some true
  v : PySem.W.subIn K (.ref C) (.type "ValueError") = some true
  t : PySem.W.typeIn K (.ref C) = some (.type "type")
  i : PySem.W.isClsIn K C = true
  s : PySem.W.subIn K (.ref C) (.ref C) = some true
  e : ExcC K C
theorem ErrF.raises {K : PySem.W.Frag} {mg : Str → Option Value} {x : Str} {C : Addr} {X : Cx} (F : ErrF K mg x C) (h : X.K = K) : Raises X (.ref C) := raises_own (by rw [h]; exact F.b) (by rw [h]; exact F.t)
structure ClsF (K : PySem.W.Frag) (mg : Str → Option Value) (x : Str) (C : Addr) : Prop where
  g : mg x = some (.ref C)
  i : PySem.W.isClsIn K C = true
  t : PySem.W.typeIn K (.ref C) = some (.type "type")
theorem roomH_at {k : Nat} {A B : Around} (r : Room k A) (e1 : B.depth = A.depth) (e2 : B.units = A.units) : RoomH k B := ⟨by rw [e1]; exact r.dp, by rw [e2]; exact r.un⟩
theorem hot_at {A : Around} {a : Addr} {oe : Obj} {c : Value} {d : Option Addr} (h : A.handled = some (.ref a)) (hz : L2N.Zn c d oe) (hf : ∃ vs, oe.data = .fields vs) : Hot1 A (a, oe) :=
  ⟨h, let ⟨vs, e⟩ := hf; ⟨vs, e, hz.2.2 vs e⟩⟩
/-- a list of bools, new -/
theorem ev_neB {K : PySem.W.Frag} {σ : L2.St} {H : Hp} {ta tb : TE} {bs cs : List Bool} (ha : EvR ta σ H (bs.map V.bl)) (hb : EvR tb σ H (cs.map V.bl)) : Ev (tOp (rNeD K) ta tb) σ H (.bl (!decide (bs = cs))) := fun H1 e Q q =>
  ha H1 e _ fun p H2 e2 hp => hb H2 (e.trans e2) _ fun r H3 e3 hr =>
    ⟨dB bs, dB cs, Dp.bools (sq_of (e3 _ _ hp)), Dp.bools (sq_of hr), Dat.bool.list.shaped (by decide) bs, Dat.bool.list.shaped (by decide) cs, by rw [Dat.bool.list.eq]; exact q H3 (e2.trans e3)⟩
theorem ev_eqB {K : PySem.W.Frag} {σ : L2.St} {H : Hp} {ta tb : TE} {bs cs : List Bool} (ha : EvR ta σ H (bs.map V.bl)) (hb : EvR tb σ H (cs.map V.bl)) : Ev (tOp (rEqD K) ta tb) σ H (.bl (decide (bs = cs))) := fun H1 e Q q =>
  ha H1 e _ fun p H2 e2 hp => hb H2 (e.trans e2) _ fun r H3 e3 hr =>
    ⟨dB bs, dB cs, Dp.bools (sq_of (e3 _ _ hp)), Dp.bools (sq_of hr), Dat.bool.list.shaped (by decide) bs, Dat.bool.list.shaped (by decide) cs, by rw [Dat.bool.list.eq]; exact q H3 (e2.trans e3)⟩
/-- isinstance(e, C), as a value -/
theorem ev_isE {K : PySem.W.Frag} {σ : L2.St} {H : Hp} {ta : TE} {D a : Addr} {c : V} {cv : Value} {b : Bool} (ha : Ev ta σ H (.ref a)) (hc : ∀ u, RelV c u → u = cv) (k : PySem.W.kitOne K (.ref D) cv = some b) : Ev (tCB (rIsE K D a) (tCons ta (tCons (tC c) tNil))) σ H (.bl b) := fun H1 e Q q =>
  ha H1 e _ fun H2 e2 => ⟨c, cv, b, rfl, hc, k, q H2 e2⟩
end Tt

/-! Texts: cut at a sign, joined, the cards' numerals. -/
namespace Tt
open PySem PySem.Spec PyProof.Rows L2 Evl
/-! ### codes -/
abbrev cod (z : Str) : List Nat := z.cps.toList
theorem cod_inj {a b : Str} (h : cod a = cod b) : a = b := by
  cases a; cases b
  exact congrArg Str.mk (Array.toList_inj.mp h)
theorem cods_inj : ∀ {l m : List Str}, l.map cod = m.map cod → l = m
  | [], [], _ => rfl
  | [], _ :: _, h => by simp at h
  | _ :: _, [], h => by simp at h
  | a :: l, b :: m, h => by
    obtain ⟨h1, h2⟩ := List.cons.inj h
    rw [cod_inj h1, cods_inj h2]
theorem cod_append (a b : Str) : cod (a ++ b) = cod a ++ cod b := by
  show (a.cps ++ b.cps).toList = _
  rw [Array.toList_append]
theorem cod_len (a : Str) : (cod a).length = a.length := Array.length_toList
/-- pieces with a sign between -/
def jn (c : Nat) : List (List Nat) → List Nat
  | [] => []
  | [p] => p
  | p :: q :: r => p ++ c :: jn c (q :: r)
theorem cod_join (c : Nat) : ∀ l : List Str, cod (Str.join ⟨#[c]⟩ l) = jn c (l.map cod)
  | [] => rfl
  | [x] => rfl
  | x :: y :: r => by
    show cod (x ++ ⟨#[c]⟩ ++ Str.join ⟨#[c]⟩ (y :: r)) = cod x ++ c :: jn c ((y :: r).map cod)
    rw [cod_append, cod_append, cod_join c (y :: r), List.append_assoc]
    rfl
theorem cut_first {c : Nat} : ∀ {p q X Y : List Nat}, c ∉ p → c ∉ q → p ++ c :: X = q ++ c :: Y → p = q ∧ X = Y
  | [], [], X, Y, _, _, e => ⟨rfl, by simpa using e⟩
  | [], b :: q, X, Y, _, hq, e => by
    have := (List.cons.inj e).1
    exact absurd (by rw [this]; exact List.mem_cons_self) hq
  | a :: p, [], X, Y, hp, _, e => by
    have := (List.cons.inj e).1
    exact absurd (by rw [← this]; exact List.mem_cons_self) hp
  | a :: p, b :: q, X, Y, hp, hq, e => by
    obtain ⟨e1, e2⟩ := List.cons.inj e
    obtain ⟨e3, e4⟩ := cut_first (fun h => hp (List.mem_cons_of_mem _ h)) (fun h => hq (List.mem_cons_of_mem _ h)) e2
    exact ⟨by rw [e1, e3], e4⟩
theorem jn_one {c : Nat} : ∀ {ps qs : List (List Nat)}, ps ≠ [] → qs ≠ [] → (∀ p ∈ ps, c ∉ p) → (∀ q ∈ qs, c ∉ q) → jn c ps = jn c qs → ps = qs
  | [], _, h, _, _, _, _ => absurd rfl h
  | _ :: _, [], _, h, _, _, _ => absurd rfl h
  | [p], [q], _, _, _, _, e => by
    have e : p = q := e
    rw [e]
  | [p], q :: q2 :: r, _, _, hp, _, e => by
    have e : p = q ++ c :: jn c (q2 :: r) := e
    exact absurd (by rw [e]; simp) (hp p List.mem_cons_self)
  | p :: p2 :: r, [q], _, _, _, hq, e => by
    have e : p ++ c :: jn c (p2 :: r) = q := e
    exact absurd (by rw [← e]; simp) (hq q List.mem_cons_self)
  | p :: p2 :: r, q :: q2 :: s, _, _, hp, hq, e => by
    have e : p ++ c :: jn c (p2 :: r) = q ++ c :: jn c (q2 :: s) := e
    obtain ⟨e1, e2⟩ := cut_first (hp p List.mem_cons_self) (hq q List.mem_cons_self) e
    have e3 := jn_one (ps := p2 :: r) (qs := q2 :: s) (by simp) (by simp) (fun x hx => hp x (List.mem_cons_of_mem _ hx)) (fun x hx => hq x (List.mem_cons_of_mem _ hx)) e2
    rw [e1, e3]
theorem split_ne (x y : Str) : Txt.split x y ≠ [] := by
  unfold Txt.split
  split
  · simp
  · split
    · simp
    · rw [StrLaws.partsBetween_eq]
      obtain ⟨p, r, e⟩ := StrLaws.partsFrom_ne x y.length 0 (Builtin.Str.occurrences x y 0 x.length (x.length + 1))
      rw [e]
      simp
theorem mem_cods {c : Nat} {l : List Str} (h : ∀ p ∈ l, c ∉ cod p) : ∀ q ∈ l.map cod, c ∉ q := by
  intro q hq
  obtain ⟨p, hp, rfl⟩ := List.mem_map.mp hq
  exact h p hp
/-- a text of pieces without the sign, cut at it -/
theorem split_of {c : Nat} {x : Str} {ws : List Str} (h : ws ≠ []) (hf : ∀ p ∈ ws, c ∉ cod p) (e : jn c (ws.map cod) = cod x) : Txt.split x ⟨#[c]⟩ = ws := by
  have e1 := StrLaws.join_split x ⟨#[c]⟩
  have e2 : jn c ((Txt.split x ⟨#[c]⟩).map cod) = cod x := by rw [← cod_join, e1]
  have e3 := jn_one (c := c) (ps := (Txt.split x ⟨#[c]⟩).map cod) (qs := ws.map cod) (by simpa using split_ne x _) (by simpa using h) (mem_cods (StrLaws.split_free x c)) (mem_cods hf) (e2.trans e.symm)
  exact cods_inj e3
theorem join_jn (c : Nat) (l : List Str) : cod (Txt.join ⟨#[c]⟩ l) = jn c (l.map cod) := by
  show cod (Builtin.Str.glued _ _) = _
  rw [StrLaws.glued_eq_join, cod_join]

/-! ### the numerals of the cards -/
def num (k : Int) : Str := Str.ofString (toString k)
/-- a word that writes the card k -/
structure Cd (w : Str) (k : Int) : Prop where
  l1 : 1 ≤ w.length
  l2 : w.length ≤ 2
  h0 : (cod w)[0]? ≠ some 48
  dg : ∀ c ∈ cod w, 48 ≤ c ∧ c ≤ 57
  val : intText? w = some k
theorem Cd.free {w : Str} {k : Int} (h : Cd w k) : 44 ∉ cod w := fun hm => by have := h.dg 44 hm; omega
theorem cd_small : ∀ n : Fin 17, 1 ≤ n.val → (1 ≤ (num (n.val : Int)).length ∧ (num (n.val : Int)).length ≤ 2 ∧ (cod (num (n.val : Int)))[0]? ≠ some 48 ∧ (∀ c ∈ cod (num (n.val : Int)), 48 ≤ c ∧ c ≤ 57) ∧ intText? (num (n.val : Int)) = some (n.val : Int)) := by decide +kernel
theorem cd_num {k : Int} (h1 : 1 ≤ k) (h2 : k ≤ 16) : Cd (num k) k := by
  obtain ⟨n, rfl⟩ : ∃ n : Nat, k = (n : Int) := ⟨k.toNat, by omega⟩
  obtain ⟨a, b, c, d, e⟩ := cd_small ⟨n, by omega⟩ (by show 1 ≤ n; omega)
  exact ⟨a, b, c, d, e⟩
/-- each card behind a comma -/
def txC (ds : List Int) : List Nat := ds.flatMap fun k => 44 :: cod (num k)
theorem txC_snoc (ds : List Int) (k : Int) : txC (ds ++ [k]) = txC ds ++ 44 :: cod (num k) := by simp [txC]
theorem jn_txC : ∀ {ds : List Int}, ds ≠ [] → 44 :: jn 44 ((ds.map num).map cod) = txC ds
  | [], h => absurd rfl h
  | [d], _ => by simp [txC, jn]
  | d :: d2 :: r, _ => by
    have ih := jn_txC (ds := d2 :: r) (by simp)
    show 44 :: (cod (num d) ++ 44 :: jn 44 (((d2 :: r).map num).map cod)) = txC ([d] ++ d2 :: r)
    rw [ih]
    simp [txC]
theorem txC_len {ds : List Int} (h : ∀ k ∈ ds, 1 ≤ k ∧ k ≤ 16) : (txC ds).length ≤ 3 * ds.length := by
  induction ds with
  | nil => simp [txC]
  | cons d r ih =>
    have e : txC (d :: r) = 44 :: cod (num d) ++ txC r := by simp [txC]
    have h1 := ih fun k hk => h k (List.mem_cons_of_mem _ hk)
    have h2 := (cd_num (h d List.mem_cons_self).1 (h d List.mem_cons_self).2).l2
    rw [e, List.length_append, List.length_cons, List.length_cons, cod_len]
    omega

/-! ### readings -/
section
variable {K : PySem.W.Frag} {σ : L2.St} {H H' : Hp} {ta tb te tx to : TE} {t : TT} {a b p q l : Addr} {v z : V} {xs : List V}
abbrev tS (z : Str) : V := .str z
theorem rv_addS {i j : Str} (h : i.length + j.length ≤ 100000) : RV (fun x y H Q => ∃ i j, x = .str i ∧ y = .str j ∧ i.length + j.length ≤ sizeLine ∧ Q (.str (i ++ j)) H) (.str i) (.str j) H (.str (i ++ j)) := fun H1 _ _ q => ⟨i, j, rfl, rfl, sz_of h, q H1 (Ex.refl H1)⟩
theorem rv_niS {c : Nat} {z : Str} : RV (fun x y H Q => ∃ (c : Nat) (z : Str), x = .str ⟨#[c]⟩ ∧ y = .str z ∧ Q (.bl (!decide (c ∈ z.cps.toList))) H) (.str ⟨#[c]⟩) (.str z) H (.bl (!decide (c ∈ cod z))) := fun H1 _ _ q => ⟨c, z, rfl, rfl, q H1 (Ex.refl H1)⟩
theorem ev_slS {tl th : TO} {lo hi : Option Int} {z : Str} (h : Ev te σ H (.str z)) (h1 : EvO tl σ H lo) (h2 : EvO th σ H hi) (hz : z.length ≤ 100000) : Ev (tSl rSlS te tl th) σ H (.str (cutS z lo hi)) := fun H1 e _ q =>
  h H1 e _ fun H2 e2 => h1 H2 (e.trans e2) _ fun H3 e3 => h2 H3 ((e.trans e2).trans e3) _ fun H4 e4 => ⟨z, rfl, sz_of hz, q H4 ((e2.trans e3).trans e4)⟩
theorem ev_lenS {z : Str} (h : Ev te σ H (.str z)) (hz : z.length ≤ 100000) : Ev (tCB (fun xs H Q => ∃ z, xs = [.str z] ∧ z.length ≤ sizeLine ∧ Q (.int z.length) H) (tCons te tNil)) σ H (.int (z.length : Int)) := fun H1 e _ q =>
  h H1 e _ fun H2 e2 => ⟨z, rfl, sz_of hz, q H2 e2⟩
theorem ev_strI {i : Int} (h : Ev te σ H (.int i)) (hi : i.natAbs < 1920) : Ev (tCB (fun xs H Q => ∃ i, xs = [.int i] ∧ i.natAbs.log2 < 1920 ∧ Q (.str (toString i)) H) (tCons te tNil)) σ H (.str (num i)) := fun H1 e _ q =>
  h H1 e _ fun H2 e2 => ⟨i, rfl, Nat.lt_of_le_of_lt (Nat.log2_le_self _) hi, q H2 e2⟩
theorem ev_intS {z : Str} {n : Int} (h : Ev te σ H (.str z)) (hn : intText? z = some n) (hz : z.length ≤ 640) : Ev (tCB (fun xs H Q => ∃ a n, xs = [.str a] ∧ PySem.intText? a = some n ∧ a.length ≤ 640 ∧ Q (.int n) H) (tCons te tNil)) σ H (.int n) := fun H1 e _ q =>
  h H1 e _ fun H2 e2 => ⟨z, n, rfl, hn, hz, q H2 e2⟩
theorem el_m1 {r : V → List V → Hp → VK → Prop} {z y : Str} (ho : Ev to σ H (.str z)) (he : Ev te σ H (.str y)) (hr : ∀ H1, ∀ Q : VK, (∀ p, H1 p = none → Q (.ref p) (upd H1 p (.lst xs))) → r (.str z) [.str y] H1 Q) : EvL (tM1 r to te) σ H xs := fun H1 e Q q =>
  ho H1 e _ fun H2 e2 => ⟨⟨z, rfl⟩, he H2 (e.trans e2) _ fun H3 e3 => hr H3 Q fun p hp => q p _ (fresh_back (e2.trans e3) hp) ((e2.trans e3).trans (Ex.new hp)) upd_same⟩
theorem ev_m1R {r : V → List V → Hp → VK → Prop} {z : Str} {v : V} (ho : Ev to σ H (.str z)) (he : EvR te σ H xs) (hr : ∀ p H1, H1 p = some (.lst xs) → ∀ Q : VK, Q v H1 → r (.str z) [.ref p] H1 Q) : Ev (tM1 r to te) σ H v := fun H1 e Q q =>
  ho H1 e _ fun H2 e2 => ⟨⟨z, rfl⟩, he H2 (e.trans e2) _ fun p H3 e3 hp => hr p H3 hp Q (q H3 (e2.trans e3))⟩
variable {D : Ends} {tu tz : TS}
/-- for c in z -/
theorem for_Its {z : Str} {g : TG} {tb : TS} {D : Ends} {σ : L2.St} {H : Hp} (Pv : Nat → L2.St → Hp → Prop) (h0 : Pv 0 σ H) (hs : ∀ (i c : Nat) (σ : L2.St) (H : Hp), (cod z)[i]? = some c → Pv i σ H → g (.str ⟨#[c]⟩) σ H fun σ2 H2 => tb { D with nx := Pv (i + 1), ct := Pv (i + 1), bk := D.nx } σ2 H2) (hd : ∀ σ H, Pv z.cps.size σ H → D.nx σ H) :
    ∃ W : Nat → Nat → L2.St → Hp → Prop, (∃ m, W 0 m σ H) ∧ ∀ i m σ H, W i m σ H → ((Its z).stop i H ∧ D.nx σ H) ∨ ((Its z).go i H ∧ ∃ N : L2.St → Hp → Prop, (∀ σ' H', N σ' H' → ∃ m', m' < m ∧ W (i + 1) m' σ' H') ∧ ∀ v H', (Its z).yld i H v H' → g v σ H' fun σ2 H2 => tb { D with nx := N, ct := N, bk := D.nx } σ2 H2) := by
  refine ⟨fun i m σ H => m = z.cps.size - i ∧ i ≤ z.cps.size ∧ Pv i σ H, ⟨z.cps.size, rfl, Nat.zero_le _, h0⟩, ?_⟩
  rintro i m σ H ⟨rfl, hi, p⟩
  by_cases hlt : i < z.cps.size
  · refine Or.inr ⟨hlt, Pv (i + 1), fun σ' H' p' => ⟨z.cps.size - (i + 1), by omega, rfl, hlt, p'⟩, ?_⟩
    rintro v H' ⟨rfl, c, hc, rfl⟩
    exact hs i c σ H' (by rw [Array.getElem?_toList]; exact hc) p
  · have e : i = z.cps.size := by omega
    subst e
    exact Or.inl ⟨Nat.le_refl _, hd σ H p⟩
theorem q_forS {z : Str} {j : Nat} (h : Ev te σ H (.str z)) (Pv : Nat → L2.St → Hp → Prop) (h0 : ∀ H1, Ex H H1 → Pv 0 σ H1)
    (hs : ∀ (i c : Nat) σ' H', (cod z)[i]? = some c → Pv i σ' H' → tu { D with nx := Pv (i + 1), ct := Pv (i + 1), bk := tz D } (σ'.set j (some (.str ⟨#[c]⟩))) H') (hd : ∀ σ' H', Pv z.cps.size σ' H' → tz D σ' H') : tSeq (tFor (iStr te) (gName j) tu) tz D σ H :=
  h H (Ex.refl H) _ fun H1 e => ⟨z, rfl, for_Its (D := { D with nx := tz D }) Pv (h0 H1 e) hs hd⟩
end
end Tt

namespace Tt
open PySem PySem.Spec PyProof.Rows L2 Evl L2H
/-! ### the text by places -/
def topS (i : Nat) : Stmt := PySem.Challenge.pw_topturn_k13_written_and_read.main.body.getD i (.Pass ⟨0, 0, 0, 0⟩)
abbrev s_ask : Stmt := topS 6
abbrev N_ask : List Str := ["deck"]
theorem sc_ask : FnScope N_ask ["deck"] (defScope s_ask) := ⟨rfl, rfl, rfl, by decide +kernel, rfl, by decide +kernel, by decide +kernel⟩
abbrev s_shown : Stmt := topS 9
abbrev N_shown : List Str := ["deck", "card"]
theorem sc_shown : FnScope N_shown ["deck"] (defScope s_shown) := ⟨rfl, rfl, rfl, by decide +kernel, rfl, by decide +kernel, by decide +kernel⟩
abbrev s_card_of : Stmt := topS 10
abbrev N_card_of : List Str := ["word", "sign"]
theorem sc_card_of : FnScope N_card_of ["word"] (defScope s_card_of) := ⟨rfl, rfl, rfl, by decide +kernel, rfl, by decide +kernel, by decide +kernel⟩
abbrev s_read : Stmt := topS 11
abbrev N_read : List Str := ["text", "deck", "word"]
theorem sc_read : FnScope N_read ["text"] (defScope s_read) := ⟨rfl, rfl, rfl, by decide +kernel, rfl, by decide +kernel, by decide +kernel⟩
abbrev s_law_cell_at : Stmt := topS 13
abbrev N_law_cell_at : List Str := ["script", "k"]
theorem sc_law_cell_at : FnScope N_law_cell_at ["script", "k"] (defScope s_law_cell_at) := ⟨rfl, rfl, rfl, by decide +kernel, rfl, by decide +kernel, by decide +kernel⟩
abbrev s_law_whole : Stmt := topS 14
abbrev N_law_whole : List Str := ["found"]
theorem sc_law_whole : FnScope N_law_whole ["found"] (defScope s_law_whole) := ⟨rfl, rfl, rfl, by decide +kernel, rfl, by decide +kernel, by decide +kernel⟩
abbrev s_law_deck : Stmt := topS 15
abbrev N_law_deck : List Str := ["script", "at", "most", "size", "left", "deck", "k"]
theorem sc_law_deck : FnScope N_law_deck ["script", "at", "most"] (defScope s_law_deck) := ⟨rfl, rfl, rfl, by decide +kernel, rfl, by decide +kernel, by decide +kernel⟩
abbrev s_law_is_deck : Stmt := topS 16
abbrev N_law_is_deck : List Str := ["found", "size", "card"]
theorem sc_law_is_deck : FnScope N_law_is_deck ["found", "size"] (defScope s_law_is_deck) := ⟨rfl, rfl, rfl, by decide +kernel, rfl, by decide +kernel, by decide +kernel⟩
abbrev s_law : Stmt := topS 17
abbrev N_law : List Str := ["script", "deck", "text", "card", "handed", "found", "again", "told"]
theorem sc_law : FnScope N_law ["script"] (defScope s_law) := ⟨rfl, rfl, rfl, by decide +kernel, rfl, by decide +kernel, by decide +kernel⟩
/-- where things stand -/
structure Ads where
  (f_ask : Addr) (d_ask : FuncData)
  (f_shown : Addr) (d_shown : FuncData)
  (f_card_of : Addr) (d_card_of : FuncData)
  (f_read : Addr) (d_read : FuncData)
  (f_law_cell_at : Addr) (d_law_cell_at : FuncData)
  (f_law_whole : Addr) (d_law_whole : FuncData)
  (f_law_deck : Addr) (d_law_deck : FuncData)
  (f_law_is_deck : Addr) (d_law_is_deck : FuncData)
  (f_law : Addr) (d_law : FuncData)
  t_MOST : Tok
  t_FIGURES : Tok
  c_CardError : Addr
  c_NoDeck : Addr
  c_BadLine : Addr
/-- what the top has written -/
structure Txt (K : PySem.W.Frag) (mg : Str → Option Value) (A : Ads) : Prop where
  n_len : mg "len" = none
  n_sorted : mg "sorted" = none
  n_list : mg "list" = none
  n_range : mg "range" = none
  n_isinstance : mg "isinstance" = none
  n_int : mg "int" = none
  n_bool : mg "bool" = none
  n_str : mg "str" = none
  n_ValueError : mg "ValueError" = none
  g_MOST : mg "MOST" = some (.int 16 A.t_MOST)
  g_FIGURES : mg "FIGURES" = some (.str "0123456789" A.t_FIGURES)
  F_ask : Fun K "ask" "ask" s_ask A.f_ask A.d_ask
  g_ask : mg "ask" = some (.ref A.f_ask)
  b_ask : Binds K A.d_ask ["deck"] []
  F_shown : Fun K "shown" "shown" s_shown A.f_shown A.d_shown
  g_shown : mg "shown" = some (.ref A.f_shown)
  b_shown : Binds K A.d_shown ["deck"] []
  F_card_of : Fun K "card_of" "card_of" s_card_of A.f_card_of A.d_card_of
  g_card_of : mg "card_of" = some (.ref A.f_card_of)
  b_card_of : Binds K A.d_card_of ["word"] []
  F_read : Fun K "read" "read" s_read A.f_read A.d_read
  g_read : mg "read" = some (.ref A.f_read)
  b_read : Binds K A.d_read ["text"] []
  F_law_cell_at : Fun K "_law_cell_at" "_law_cell_at" s_law_cell_at A.f_law_cell_at A.d_law_cell_at
  g_law_cell_at : mg "_law_cell_at" = some (.ref A.f_law_cell_at)
  b_law_cell_at : Binds K A.d_law_cell_at ["script", "k"] []
  F_law_whole : Fun K "_law_whole" "_law_whole" s_law_whole A.f_law_whole A.d_law_whole
  g_law_whole : mg "_law_whole" = some (.ref A.f_law_whole)
  b_law_whole : Binds K A.d_law_whole ["found"] []
  F_law_deck : Fun K "_law_deck" "_law_deck" s_law_deck A.f_law_deck A.d_law_deck
  g_law_deck : mg "_law_deck" = some (.ref A.f_law_deck)
  b_law_deck : Binds K A.d_law_deck ["script", "at", "most"] []
  F_law_is_deck : Fun K "_law_is_deck" "_law_is_deck" s_law_is_deck A.f_law_is_deck A.d_law_is_deck
  g_law_is_deck : mg "_law_is_deck" = some (.ref A.f_law_is_deck)
  b_law_is_deck : Binds K A.d_law_is_deck ["found", "size"] []
  F_law : Fun K "law" "law" s_law A.f_law A.d_law
  g_law : mg "law" = some (.ref A.f_law)
  b_law : Binds K A.d_law ["script"] []
  K_CardError : ClsF K mg "CardError" A.c_CardError
  K_NoDeck : ClsF K mg "NoDeck" A.c_NoDeck
  K_BadLine : ClsF K mg "BadLine" A.c_BadLine
section
variable {P : Program} {w : World} {K : PySem.W.Frag} {mg : Str → Option Value} {base : Heap} {A : Ads}
/-- a deck of 1 to 16 cards -/
structure Dk (ns : List Int) : Prop where
  dk : IsDk ns
  lo : 1 ≤ ns.length
  hi : ns.length ≤ 16
theorem Dk.ov {ns : List Int} (h : Dk ns) (k : Int) : Dk (ov ns k) := ⟨h.dk.ov k, by rw [ov_len]; exact h.lo, by rw [ov_len]; exact h.hi⟩
theorem Dk.top {ns : List Int} (h : Dk ns) : ∃ k : Int, ns[0]? = some k ∧ 1 ≤ k ∧ k ≤ ns.length := by
  have h0 : 0 < ns.length := h.lo
  have e : ns[0]? = some ns[0] := List.getElem?_eq_getElem h0
  exact ⟨_, e, h.dk.at e⟩
theorem Gm.short16 {d ts e : List Int} (g : Gm d ts e) (h : Dk d) : ts.length < 32768 := by
  have h1 := g.short h.dk
  have h2 : 2 ^ (d.length - 1) ≤ 2 ^ 15 := Nat.pow_le_pow_right (by decide) (by have := h.hi; omega)
  omega
def spAsk : Sp := fun vs H Q _ => ∃ (a : Addr) (ns : List Int), vs = [.ref a] ∧ At H a ns ∧ Dk ns ∧ RetV .non H Q
theorem spAsk_V {H : Hp} {a : Addr} {ns : List Int} (h : At H a ns) (d : Dk ns) : SpV spAsk [.ref a] H .non := fun H1 e Q q E => ⟨a, ns, rfl, e _ _ h, d, fun H2 e2 => q H2 e2⟩
theorem ok_ask (T : Txt K mg A) : FnOk P w K mg base CX0 1 A.f_ask A.d_ask ["deck"] spAsk := by
  refine T.F_ask.ok sc_ask (fun vs H Q E h => ?_) (fun cdv AA outer s H vs Q E hr h => ?_)
  · obtain ⟨a, ns, rfl, _⟩ := h
    rfl
  · obtain ⟨a, ns, rfl, ha, hd, q⟩ := h
    refine ⟨_, (pss_one (ps_if (PW.pt (pw_or (pt_cmpR op_lt (pe_callB (r := rLenS K) call_len_seq (by rfl) T.n_len PySem.boot_len (pa_cons (pv 0) pa_nil)) pe_int (nomark _)) (pw_or (pt_cmpR op_gt (pe_callB (r := rLenS K) call_len_seq (by rfl) T.n_len PySem.boot_len (pa_cons (pv 0) pa_nil)) (pe_glob (v := .int 16) rfl T.g_MOST ⟨_, rfl⟩) (nomark _)) (pw_or1 (pt_cmpR (r := rNeD K) (op_neD hr.units) (pe_callB (r := rSortedI K) cr_sortedI (by rfl) T.n_sorted (by decide +kernel) (pa_cons (pv 0) pa_nil)) (pe_listRg rfl (by rfl) T.n_list (prg_2 (by rfl) T.n_range pe_int (pe_op op_add (pe_callB (r := rLenS K) call_len_seq (by rfl) T.n_len PySem.boot_len (pa_cons (pv 0) pa_nil)) pe_int))) (nomark _))))))
      (pss_one ps_never)
      pss_nil)), ?_⟩
    have e1 : (decide ((ns.length : Int) < 1) || (decide ((16 : Int) < (ns.length : Int)) || !decide (srt ns = rng ns.length))) = false := by
      have h1 := hd.lo
      have h2 := hd.hi
      have h3 := (srt_rng ns).mpr hd.dk
      simp [h3]
      omega
    refine s_when (et_is (et_or (et_test (ev_op (ev_lenI (ev_var rfl) (sq_of ha)) ev_c rv_I0)) fun _ => et_or (et_test (ev_op (ev_lenI (ev_var rfl) (sq_of ha)) ev_c rv_I0)) fun _ => et_test (ev_neR (EvR.new (el_sorted (EvR.old (ev_var rfl) ha))) (EvR.new (el_rng ev_c (ev_op (ev_lenI (ev_var rfl) (sq_of ha)) ev_c rv_I0) rfl (by have := hd.hi; omega))))) e1) (fun z => nomatch z) fun _ H1 e => q.go e

theorem given_str (n : Nat) (g : Nat → Str) : given n (fun _ => true) (fun i => V.str (g i)) = ((List.range n).map g).map V.str := by
  unfold given
  rw [List.filter_eq_self.mpr (fun _ _ => rfl), List.map_map]
  rfl
/-- the text of a deck -/
def txt (ds : List Int) : Str := Txt.join ⟨#[44]⟩ (ds.map num)
theorem txt_cod {ds : List Int} (h : ds ≠ []) : 44 :: cod (txt ds) = txC ds := by
  unfold txt
  rw [join_jn, jn_txC h]
theorem sum_num {ds : List Int} (h : ∀ k ∈ ds, 1 ≤ k ∧ k ≤ 16) : ((ds.map num).map (·.length)).sum ≤ 2 * ds.length := by
  induction ds with
  | nil => simp
  | cons d r ih =>
    have h1 := ih fun k hk => h k (List.mem_cons_of_mem _ hk)
    have h2 := (cd_num (h d List.mem_cons_self).1 (h d List.mem_cons_self).2).l2
    simp only [List.map_cons, List.sum_cons, List.length_cons] at *
    omega
theorem Dk.cards {ds : List Int} (h : Dk ds) : ∀ k ∈ ds, 1 ≤ k ∧ k ≤ 16 := fun k hk => by
  have := h.dk.mem.mp hk
  have := h.hi
  omega
def spShown : Sp := fun vs H Q _ => ∃ (a : Addr) (ns : List Int), vs = [.ref a] ∧ At H a ns ∧ Dk ns ∧ RetV (.str (txt ns)) H Q
theorem spShown_V {H : Hp} {a : Addr} {ns : List Int} (h : At H a ns) (d : Dk ns) : SpV spShown [.ref a] H (.str (txt ns)) := fun H1 e Q q E => ⟨a, ns, rfl, e _ _ h, d, fun H2 e2 => q H2 e2⟩
theorem ok_shown (T : Txt K mg A) : FnOk P w K mg base CX0 2 A.f_shown A.d_shown ["deck"] spShown := by
  refine T.F_shown.ok sc_shown (fun vs H Q E h => ?_) (fun cdv AA outer s H vs Q E hr h => ?_)
  · obtain ⟨a, ns, rfl, _⟩ := h
    rfl
  · obtain ⟨a, ns, rfl, ha, hd, q⟩ := h
    refine ⟨_, (pss_cons (ps_expr (pe_call (ok_ask T) (hr.mono (by decide)) (by rfl) T.g_ask T.F_ask.kp T.b_ask .nil pass0 (pa_cons (pv 0) pa_nil)))
      (pss_one (ps_ret (pe_join pe_str (pe_lc (own := [("card", 1)]) (g := gName 1) (tt := tYes) rfl sc_shown.nd (pi_list (pv 0)) (blkOk_by (N := N_shown) (sc := defScope s_shown) (by decide +kernel)) (fun _ _ _ _ _ => pg_name (i := 1) sc_shown.nd rfl (Or.inl rfl)) (fun _ _ _ _ _ => pts_nil) (fun _ _ _ _ _ => (pe_callTy call_str_int (by rfl) T.n_str (by decide +kernel) (pa_cons (pv 1) pa_nil)))))))), ?_⟩
    have h2 := hd.hi
    refine q_drop (ev_call (ea_cons (ev_var rfl) ea_nil) (spAsk_V ha hd)) fun H1 e1 => ?_
    have ha1 := e1 _ _ ha
    have hxs : given (ns.map V.int).length (fun _ => true) (fun i => V.str (num (ns.getD i 0))) = (ns.map num).map V.str := by
      rw [given_str, List.length_map]
      have := range_getD ns 0
      congr 1
      conv => rhs; rw [← this]
      rw [List.map_map]
      rfl
    refine s_ret (ev_m1R (z := ⟨#[44]⟩) (xs := (ns.map num).map V.str) ev_c (EvR.new (by
      rw [← hxs]
      exact el_lcL (fun _ => true) (fun i => V.str (num (ns.getD i 0))) (ev_var rfl) (sq_of ha1) (by rw [List.length_map]; omega) (fun x => rfl) (fun i x G _ _ => et_yes) (fun i x G eG hx _ => by
        obtain ⟨c, hc, rfl⟩ := int_item hx
        have hcd := hd.cards c (List.mem_of_getElem? hc)
        have eg : ns.getD i 0 = c := by rw [List.getD_eq_getElem?_getD, hc]; rfl
        rw [eg]
        exact ev_strI (ev_var rfl) (by omega)))) (fun p H2 hp Q q => ⟨⟨#[44]⟩, p, ns.map num, rfl, rfl, Or.inl (sq_of hp), ?_, q⟩)) fun H2 e2 => q H2 (e1.trans e2)
    have := sum_num hd.cards
    have e3 : (⟨#[44]⟩ : Str).length = 1 := rfl
    rw [e3, List.length_map]
    omega

def spCard : Sp := fun vs H Q _ => ∃ (w : Str) (k : Int), vs = [.str w] ∧ Cd w k ∧ RetV (.int k) H Q
theorem spCard_V {H : Hp} {w : Str} {k : Int} (h : Cd w k) : SpV spCard [.str w] H (.int k) := fun H1 e Q q E => ⟨w, k, rfl, h, fun H2 e2 => q H2 e2⟩
theorem figs : cod (Str.ofString "0123456789") = [48, 49, 50, 51, 52, 53, 54, 55, 56, 57] := by decide +kernel
theorem in_figs {c : Nat} : c ∈ cod (Str.ofString "0123456789") ↔ 48 ≤ c ∧ c ≤ 57 := by
  rw [figs]
  simp
  omega
theorem ok_card_of (T : Txt K mg A) : FnOk P w K mg base CX0 1 A.f_card_of A.d_card_of ["word"] spCard := by
  refine T.F_card_of.ok sc_card_of (fun vs H Q E h => ?_) (fun cdv AA outer s H vs Q E hr h => ?_)
  · obtain ⟨a, ns, rfl, _⟩ := h
    rfl
  · obtain ⟨a, k, rfl, hc, q⟩ := h
    refine ⟨_, (pss_cons (ps_if (PW.pt (pw_or (pt_cmpR op_eq (pv 0) pe_str (nomark _)) (pw_or (pt_cmpR op_gt (pe_callB call_len_str (by rfl) T.n_len PySem.boot_len (pa_cons (pv 0) pa_nil)) pe_int (nomark _)) (pw_or1 (pt_cmpR op_eq (pe_ix ix_str (pv 0) pe_int (fun _ _ => rfl)) pe_str (nomark _))))))
      (pss_one ps_never)
      pss_nil)
      (pss_cons (ps_for PassesOwn.never rfl (pi_str (pv 0)) (pg_name (i := 1) sc_card_of.nd rfl (by first | exact Or.inl rfl | exact Or.inr rfl))
      (pss_one (ps_if (pt_cmpR op_notIn_sign (pv 1) (pe_glob (v := .str "0123456789") rfl T.g_FIGURES ⟨_, rfl⟩) rfl)
        (pss_one ps_never)
        pss_nil)))
      (pss_one (ps_ret (pe_callTy call_int_str (by rfl) T.n_int (by decide +kernel) (pa_cons (pv 0) pa_nil)))))), ?_⟩
    have h1 := hc.l1
    have h2 := hc.l2
    have hlen := cod_len a
    have e0 : (cod a)[0]? = some (cod a)[0] := List.getElem?_eq_getElem (by omega)
    have hn0 := hc.h0
    generalize (cod a)[0] = c0 at e0
    have hc0 : c0 ≠ 48 := fun z => hn0 (by rw [e0, z])
    refine q_when (b := false) (et_is (et_or (et_test (ev_op (ev_var rfl) ev_c (rv_eq rfl))) fun _ => et_or (et_test (ev_op (ev_lenS (ev_var rfl) (by omega)) ev_c rv_I0)) fun _ => et_test (ev_op (ev_op (ev_var rfl) ev_c (rv_ixS (c := c0) (by omega) (at_nat (j := 0) e0))) ev_c (rv_eq rfl))) ?_) (fun z => nomatch z) fun _ H1 e1 => ?_
    · have x1 : ¬ (V.str a = V.str (Str.ofString "")) := fun z => by
        have := congrArg Str.length (V.str.inj z)
        have e3 : (Str.ofString "").length = 0 := by decide +kernel
        omega
      have x2 : ¬ ((2 : Int) < (a.length : Int)) := by omega
      have x3 : ¬ (V.str ⟨#[c0]⟩ = V.str (Str.ofString "0")) := fun z => by
        have := congrArg cod (V.str.inj z)
        have e3 : cod (Str.ofString "0") = [48] := by decide +kernel
        rw [e3] at this
        exact hc0 (by simpa [cod] using this)
      rw [decide_eq_false x1, decide_eq_false x2, decide_eq_false x3]
      rfl
    · refine q_forS (ev_var rfl) (fun i σ' H' => ∃ x, σ' = [some (.str a), x] ∧ Ex H H') (fun H2 e2 => ⟨none, rfl, e1.trans e2⟩) ?_ ?_
      · rintro i c σ' H' hi ⟨x, rfl, ex⟩
        refine s_when (b := false) (et_is (et_test (ev_op (ev_var rfl) ev_c rv_niS)) ?_) (fun z => nomatch z) fun _ H2 e2 => ⟨_, rfl, ex.trans e2⟩
        rw [decide_eq_true (in_figs.mpr (hc.dg c (List.mem_of_getElem? hi)))]
        rfl
      · rintro σ' H' ⟨x, rfl, ex⟩
        exact s_ret (ev_intS (ev_var rfl) hc.val (by omega)) fun H2 e2 => q.go (ex.trans e2)

def spRead : Sp := fun vs H Q _ => ∃ (ns : List Int), vs = [.str (txt ns)] ∧ Dk ns ∧ RetL (ns.map V.int) H Q
theorem spRead_L {H : Hp} {ns : List Int} (d : Dk ns) : SpL spRead [.str (txt ns)] H (ns.map V.int) := fun H1 e Q q E => ⟨ns, rfl, d, fun p H2 hp e2 h2 => q p H2 hp e2 h2⟩
theorem Dk.ne {ns : List Int} (h : Dk ns) : ns ≠ [] := fun z => by have := h.lo; rw [z] at this; simp at this
theorem txt_len {ns : List Int} (h : Dk ns) : (txt ns).length ≤ 48 := by
  have h1 := txC_len h.cards
  have h2 := congrArg List.length (txt_cod h.ne)
  have h3 := h.hi
  rw [List.length_cons, cod_len] at h2
  omega
theorem txt_split {ns : List Int} (h : Dk ns) : Txt.split (txt ns) ⟨#[44]⟩ = ns.map num := by
  refine split_of (by simpa using h.ne) (fun p hp => ?_) (by rw [← join_jn]; rfl)
  obtain ⟨k, hk, rfl⟩ := List.mem_map.mp hp
  have := h.cards k hk
  exact (cd_num this.1 this.2).free
theorem ok_read (T : Txt K mg A) : FnOk P w K mg base CX0 2 A.f_read A.d_read ["text"] spRead := by
  refine T.F_read.ok sc_read (fun vs H Q E h => ?_) (fun cdv AA outer s H vs Q E hr h => ?_)
  · obtain ⟨a, rfl, _⟩ := h
    rfl
  · obtain ⟨ns, rfl, hd, q⟩ := h
    refine ⟨_, (pss_cons (ps_setLc (i := 1) (own := [("word", 2)]) (g := gName 2) (tt := tYes) rfl sc_read.nd rfl rfl (sw_true rfl rfl rfl (by decide +kernel)) (pi_list (pe_split (pv 0) pe_str)) (blkOk_by (N := N_read) (sc := defScope s_read) (by decide +kernel)) (fun _ _ _ _ _ => pg_name (i := 2) sc_read.nd rfl (Or.inl rfl)) (fun _ _ _ _ _ => pts_nil) (fun _ _ _ _ _ => (pe_call (ok_card_of T) (hr.mono (by decide)) (by rfl) T.g_card_of T.F_card_of.kp T.b_card_of .nil pass0 (pa_cons (pv 2) pa_nil))))
      (pss_cons (ps_try_only rfl rfl ⟨rfl, by decide, .inl T.K_NoDeck.g⟩ takes0 (fun W pn xe tk _ =>
      (pss_one (ps_expr (pe_call (ok_ask T) (hr.mono (by decide)) (by rfl) T.g_ask T.F_ask.kp T.b_ask .nil pass0 (pa_cons (pv 1) pa_nil)))))
      (fun a oe cls d pn hz hf =>
      (pss_one ps_never)))
      (pss_one (ps_ret (pv 1))))), ?_⟩
    have h2 := hd.hi
    have hxs : given ((ns.map num).map V.str).length (fun _ => true) (fun i => V.int (ns.getD i 0)) = ns.map V.int := by
      rw [given_int, List.length_map, List.length_map, range_getD]
    refine q_asgL (xs := ns.map V.int) (by
      rw [← hxs]
      exact el_lcNL (fun _ => true) (fun i => V.int (ns.getD i 0)) (el_m1 (ev_var rfl) ev_c (fun H1 Q q => ⟨_, _, rfl, rfl, rfl, by have := txt_len hd; exact sz_of (by omega), fun p hp => by
        have e3 : Txt.split (txt ns) (Str.ofString ",") = ns.map num := txt_split hd
        rw [e3]
        exact q p hp⟩)) (by simp; omega) (fun x => rfl) (fun i x G _ _ => et_yes) (fun i x G eG hx _ => by
        rw [List.map_map, List.getElem?_map] at hx
        cases hc : ns[i]? with
        | none => rw [hc] at hx; cases hx
        | some c =>
          rw [hc] at hx
          cases Option.some.inj hx
          have hcd := hd.cards c (List.mem_of_getElem? hc)
          have eg : ns.getD i 0 = c := by rw [List.getD_eq_getElem?_getD, hc]; rfl
          rw [eg]
          exact ev_call (ea_cons (ev_var rfl) ea_nil) (spCard_V (cd_num hcd.1 hcd.2)))) fun p H1 np e1 hp => ?_
    refine q_drop (ev_call (ea_cons (ev_var rfl) ea_nil) (spAsk_V hp hd)) fun H2 e2 => ?_
    exact ⟨_, rfl, q p H2 np (e1.trans e2) (e2 _ _ hp)⟩

/-- a cell of the script, whatever number it holds -/
def spCellA (K : PySem.W.Frag) : Sp := fun vs H Q _ => ∃ (l : Addr) (ns : List Int) (k : Int), vs = [.ref l, .int k] ∧ SqL K H l (ns.map V.int) ∧ 0 ≤ k ∧ ∀ z : Int, RetV (.int z) H Q
theorem ok_law_cell_at (T : Txt K mg A) : FnOk P w K mg base CX0 1 A.f_law_cell_at A.d_law_cell_at ["script", "k"] (spCellA K) := by
  refine T.F_law_cell_at.ok sc_law_cell_at (fun vs H Q E h => ?_) (fun cdv AA outer s H vs Q E hr h => ?_)
  · obtain ⟨a, ns, k, rfl, _⟩ := h
    rfl
  · obtain ⟨a, ns, k, rfl, ha, hk, q⟩ := h
    refine ⟨_, (pss_cons (ps_if (pt_cmpR op_lt (pv 1) (pe_callB (r := rLenS K) call_len_seq (by rfl) T.n_len PySem.boot_len (pa_cons (pv 0) pa_nil)) (nomark _))
      (pss_one (ps_ret (pe_ix (r := rIxL K) ix_list (pv 0) (pv 1) (fun _ _ => rfl))))
      pss_nil)
      (pss_one (ps_ret pe_int))), ?_⟩
    refine q_when (et_test (ev_op (ev_var rfl) (ev_lenI (ev_var rfl) ha) rv_I0)) (fun hb H1 e1 => ?_) fun hb H1 e1 => ?_
    · have hlt : k < (ns.length : Int) := of_decide_eq_true hb
      have hi : ns[k.toNat]? = some ns[k.toNat] := List.getElem?_eq_getElem (by omega)
      exact s_ret (ev_op (ev_var rfl) (ev_var rfl) (rv_ix k.toNat (ex_l e1 ha) (by omega) hi)) fun H2 e2 => (q _).go (e1.trans e2)
    · exact s_ret ev_c fun H2 e2 => (q _).go (e1.trans e2)
theorem ei_cell {K : PySem.W.Frag} {σ : L2.St} {H : Hp} {l : Addr} {ns : List Int} {k : Int} {ta : TA} {E : XK} (h : EvA ta σ H [.ref l, .int k]) (hs : SqL K H l (ns.map V.int)) (hk : 0 ≤ k) : EvI (tCall (spCellA K) [] E ta) σ H (fun _ => True) := fun H1 e Q q =>
  h H1 e _ fun H2 e2 => ⟨l, ns, k, rfl, ex_l (e.trans e2) hs, hk, fun z H3 e3 => q z H3 (e2.trans e3) True.intro⟩

def spWhole : Sp := fun vs H Q _ => ∃ (i : Int), vs = [.int i] ∧ RetV (.bl true) H Q
theorem spWhole_V {H : Hp} {i : Int} : SpV spWhole [.int i] H (.bl true) := fun H1 e Q q E => ⟨i, rfl, fun H2 e2 => q H2 e2⟩
theorem ok_law_whole (T : Txt K mg A) : FnOk P w K mg base CX0 1 A.f_law_whole A.d_law_whole ["found"] spWhole := by
  refine T.F_law_whole.ok sc_law_whole (fun vs H Q E h => ?_) (fun cdv AA outer s H vs Q E hr h => ?_)
  · obtain ⟨i, rfl, _⟩ := h
    rfl
  · obtain ⟨i, rfl, q⟩ := h
    refine ⟨_, (pss_one (ps_ret (pe_and (pe_callB call_isi (by rfl) T.n_isinstance (by decide +kernel) (pa_cons (pv 0) (pa_cons (pe_bltn (v := .ty "int") (u := .type "int") (by rfl) T.n_int (by decide +kernel) rfl) pa_nil))) (pe_one (pe_not (pe_callB call_isi (by rfl) T.n_isinstance (by decide +kernel) (pa_cons (pv 0) (pa_cons (pe_bltn (v := .ty "bool") (u := .type "bool") (by rfl) T.n_bool (by decide +kernel) rfl) pa_nil)))))))), ?_⟩
    exact s_ret (ev_andV (ev_isi (T := "int") (bb := true) (ev_var rfl) (fun _ _ => .base (.int i)) (by decide +kernel)) fun _ => ev_notV (ev_isi (T := "int") (bb := false) (ev_var rfl) (fun _ _ => .base (.int i)) (by decide +kernel))) fun H1 e1 => q.go e1

theorem erase_perm {l : List Int} {j : Nat} {y : Int} (h : l[j]? = some y) (r : List Int) : (l.eraseIdx j ++ (r ++ [y])).Perm (l ++ r) := by
  obtain ⟨hj, e⟩ := List.getElem?_eq_some_iff.mp h
  have e1 : l.take j ++ y :: l.drop (j + 1) = l := by
    rw [← e]
    simp
  have e2 : l.eraseIdx j = l.take j ++ l.drop (j + 1) := List.eraseIdx_eq_take_drop_succ ..
  have p1 : (y :: (l.take j ++ l.drop (j + 1))).Perm l := by
    refine List.perm_middle.symm.trans ?_
    rw [e1]
  rw [e2, ← List.append_assoc]
  refine (List.perm_append_comm).trans ?_
  show (y :: (l.take j ++ l.drop (j + 1) ++ r)).Perm (l ++ r)
  rw [← List.cons_append]
  exact p1.append_right r
/-- any deck of at most so many cards -/
def spDeck (K : PySem.W.Frag) : Sp := fun vs H Q _ => ∃ (l : Addr) (cs : List Int) (at' most : Int), vs = [.ref l, .int at', .int most] ∧ SqL K H l (cs.map V.int) ∧ 0 ≤ at' ∧ 1 ≤ most ∧ most ≤ 16 ∧ ∀ ds : List Int, Dk ds → (ds.length : Int) ≤ most → RetL (ds.map V.int) H Q
theorem ok_law_deck (T : Txt K mg A) : FnOk P w K mg base CX0 2 A.f_law_deck A.d_law_deck ["script", "at", "most"] (spDeck K) := by
  refine T.F_law_deck.ok sc_law_deck (fun vs H Q E h => ?_) (fun cdv AA outer s H vs Q E hr h => ?_)
  · obtain ⟨a, ns, i, j, rfl, _⟩ := h
    rfl
  · obtain ⟨l, cs, i, j, rfl, hs, hi, hj, hj2, q⟩ := h
    refine ⟨_, (pss_cons (ps_set (i := 3) sc_law_deck.nd rfl (by first | exact Or.inl rfl | exact Or.inr rfl) (pe_op op_add pe_int (pe_op op_mod (pe_call (ok_law_cell_at T) (hr.mono (by decide)) (by rfl) T.g_law_cell_at T.F_law_cell_at.kp T.b_law_cell_at .nil pass0 (pa_cons (pv 0) (pa_cons (pv 1) pa_nil))) (pv 2))))
      (pss_cons (ps_set (i := 4) sc_law_deck.nd rfl (by first | exact Or.inl rfl | exact Or.inr rfl) (pe_listRg rfl (by rfl) T.n_list (prg_2 (by rfl) T.n_range pe_int (pe_op op_add (pv 3) pe_int))))
      (pss_cons (ps_set (i := 5) sc_law_deck.nd rfl (by first | exact Or.inl rfl | exact Or.inr rfl) (pe_lst pa_nil))
      (pss_cons (ps_for PassesOwn.never rfl (pi_range1 (by rfl) T.n_range (pa_cons (pv 3) pa_nil)) (pg_name (i := 6) sc_law_deck.nd rfl (by first | exact Or.inl rfl | exact Or.inr rfl))
      (pss_one (ps_expr (pe_bm PySem.F.plainAttrs_list PySem.F.slot_list_append PySem.F.type_list_append mt_append (pv 5) (pa_cons (pe_bm PySem.F.plainAttrs_list PySem.F.slot_list_pop PySem.F.type_list_pop mt_popAt (pv 4) (pa_cons (pe_op op_mod (pe_call (ok_law_cell_at T) (hr.mono (by decide)) (by rfl) T.g_law_cell_at T.F_law_cell_at.kp T.b_law_cell_at .nil pass0 (pa_cons (pv 0) (pa_cons (pe_op op_add (pe_op op_add (pv 1) pe_int) (pv 6)) pa_nil))) (pe_callB (r := rLenS K) call_len_seq (by rfl) T.n_len PySem.boot_len (pa_cons (pv 4) pa_nil))) pa_nil)) pa_nil)))))
      (pss_one (ps_ret (pv 5))))))), ?_⟩
    -- the size
    refine q_asgI (ei_op (ei_ev (P := fun z => z = 1) ev_c rfl) (ei_mod (ei_cell (ea_cons (ev_var rfl) (ea_cons (ev_var rfl) ea_nil)) hs hi) (ev_var rfl) (by omega))) fun z H1 hz e1 => ?_
    obtain ⟨_, y, rfl, ⟨z0, z1⟩, ez⟩ := hz
    have ez : z = 1 + y := ez
    obtain ⟨n, rfl⟩ : ∃ n : Nat, z = (n : Int) := ⟨z.toNat, by omega⟩
    -- the cards
    refine q_asgL (el_rng (n := n) ev_c (ev_op (ev_var rfl) ev_c rv_I0) rfl (by omega)) fun p H2 np e2 hp => ?_
    refine q_asgL (el_lst ea_nil (by decide)) fun r H3 nr e3 hr3 => ?_
    have npr : r ≠ p := fun e => by
      rw [e, hp] at nr
      cases nr
    have e12 := e1.trans e2
    refine q_forR1 (ea_cons (ev_var rfl) ea_nil) (by omega) (fun i' σ' H' => ∃ lf dk x, σ' = [some (.ref l), some (.int i), some (.int j), some (.int (n : Int)), some (.ref p), some (.ref r), x] ∧ Ex H H' ∧ At H' p lf ∧ At H' r dk ∧ (lf ++ dk).Perm (rng n) ∧ dk.length = i')
      (fun H4 e4 => ⟨rng n, [], none, rfl, (e12.trans e3).trans e4, e4 _ _ (e3 _ _ hp), e4 _ _ hr3, by rw [List.append_nil], rfl⟩) ?_ ?_
    · rintro i' σ' H' hi' ⟨lf, dk, x, rfl, ex, hlf, hdk, pm, hlen⟩
      have hl2 := pm.length_eq
      rw [List.length_append, rng_len] at hl2
      refine ⟨_, rfl, Or.inl ⟨rfl, _, sq_of hdk⟩, ?_⟩
      refine ⟨_, rfl, Or.inl ⟨rfl, _, sq_of hlf⟩, ?_⟩
      refine ei_mod (ei_cell (ea_cons (ev_var rfl) (ea_cons (ev_op (ev_op (ev_var rfl) ev_c rv_I0) (ev_var rfl) rv_I0) ea_nil)) (ex_l ex hs) (by omega)) (ev_lenI (ev_var rfl) (sq_of hlf)) (by omega) H' (Ex.refl _) _ fun c H5 e5 hc => ?_
      obtain ⟨c0, c1⟩ := hc
      have hj3 : c.toNat < lf.length := by omega
      have ey : lf[c.toNat]? = some lf[c.toNat] := List.getElem?_eq_getElem hj3
      refine ⟨p, _, _, c.toNat, .int lf[c.toNat], rfl, rfl, e5 _ _ hlf, by omega, by omega, by rw [List.length_map]; exact seqIndex_of c0 (by omega), by rw [List.getElem?_map, ey]; rfl, ?_⟩
      refine ⟨r, _, _, rfl, rfl, by rw [upd_ne npr]; exact e5 _ _ hdk, by rw [List.length_map]; exact sz_lt (by omega), ?_⟩
      refine ⟨lf.eraseIdx c.toNat, dk ++ [lf[c.toNat]], some (.int (i' : Int)), rfl, ?_, ?_, ?_, (erase_perm ey dk).trans pm, by rw [List.length_append, hlen]; rfl⟩
      · exact Ex.mut (Ex.mut (ex.trans e5) (fresh_back e1 np)) (fresh_back e12 nr)
      · show upd _ _ _ _ = _
        rw [upd_ne npr.symm, upd_same, erase_mapI]
      · show upd _ _ _ _ = _
        rw [upd_same, List.map_append]
        rfl
    · rintro σ' H' ⟨lf, dk, x, rfl, ex, hlf, hdk, pm, hlen⟩
      have hl2 := pm.length_eq
      rw [List.length_append, rng_len] at hl2
      have hlf0 : lf = [] := List.eq_nil_of_length_eq_zero (by omega)
      subst hlf0
      have hk : Dk dk := ⟨by unfold IsDk; rw [show dk.length = n by omega]; exact pm, by omega, by omega⟩
      exact ⟨_, rfl, q dk hk (by omega) r H' (fresh_back e12 nr) ex hdk⟩
theorem ep_deck {K : PySem.W.Frag} {σ : L2.St} {H : Hp} {l : Addr} {cs : List Int} {i j : Int} {ta : TA} {E : XK} (h : EvA ta σ H [.ref l, .int i, .int j]) (hs : SqL K H l (cs.map V.int)) (hi : 0 ≤ i) (h1 : 1 ≤ j) (h2 : j ≤ 16) :
    EvLP (tCall (spDeck K) [] E ta) σ H (fun ds => Dk ds ∧ (ds.length : Int) ≤ j) := fun H1 e Q q =>
  h H1 e _ fun H2 e2 => ⟨l, cs, i, j, rfl, ex_l (e.trans e2) hs, hi, h1, h2, fun ds d hl p H3 np e3 hp => q p ds H3 (fresh_back e2 np) (e2.trans e3) hp ⟨d, hl⟩⟩

def spIsDeck : Sp := fun vs H Q _ => ∃ (a : Addr) (ns : List Int), vs = [.ref a, .int (ns.length : Int)] ∧ At H a ns ∧ Dk ns ∧ RetV (.bl true) H Q
theorem spIsDeck_V {H : Hp} {a : Addr} {ns : List Int} {n : Int} (h : At H a ns) (d : Dk ns) (e : n = (ns.length : Int)) : SpV spIsDeck [.ref a, .int n] H (.bl true) := fun H1 e1 Q q E => ⟨a, ns, by rw [e], e1 _ _ h, d, fun H2 e2 => q H2 e2⟩
theorem ok_law_is_deck (T : Txt K mg A) : FnOk P w K mg base CX0 2 A.f_law_is_deck A.d_law_is_deck ["found", "size"] spIsDeck := by
  refine T.F_law_is_deck.ok sc_law_is_deck (fun vs H Q E h => ?_) (fun cdv AA outer s H vs Q E hr h => ?_)
  · obtain ⟨a, ns, rfl, _⟩ := h
    rfl
  · obtain ⟨a, ns, rfl, ha, hd, q⟩ := h
    refine ⟨_, (pss_cons (ps_if (PW.pt (pw_or (pt_not (pt_val (pe_callB call_isi (by rfl) T.n_isinstance (by decide +kernel) (pa_cons (pv 0) (pa_cons (pe_bltn (v := .ty "list") (u := .type "list") (by rfl) T.n_list (by decide +kernel) rfl) pa_nil))))) (pw_or1 (pt_cmpR op_ne (pe_callB (r := rLenS K) call_len_seq (by rfl) T.n_len PySem.boot_len (pa_cons (pv 0) pa_nil)) (pv 1) (nomark _)))))
      (pss_one (ps_ret pe_bl))
      pss_nil)
      (pss_cons (ps_for PassesOwn.never rfl (pi_list (pv 0)) (pg_name (i := 2) sc_law_is_deck.nd rfl (by first | exact Or.inl rfl | exact Or.inr rfl))
      (pss_one (ps_if (pt_not (pt_val (pe_call (ok_law_whole T) (hr.mono (by decide)) (by rfl) T.g_law_whole T.F_law_whole.kp T.b_law_whole .nil pass0 (pa_cons (pv 2) pa_nil))))
        (pss_one (ps_ret pe_bl))
        pss_nil)))
      (pss_one (ps_ret (pe_cmpR (r := rEqD K) (op_eqD hr.units) (pe_callB (r := rSortedI K) cr_sortedI (by rfl) T.n_sorted (by decide +kernel) (pa_cons (pv 0) pa_nil)) (pe_listRg rfl (by rfl) T.n_list (prg_2 (by rfl) T.n_range pe_int (pe_op op_add (pv 1) pe_int))) (nomark _)))))), ?_⟩
    refine q_when (b := false) (et_or (a := false) (et_not (et_B (ev_isi (T := "list") (bb := true) (ev_var rfl) (fun H1 e1 => .base (.lst (e1 _ _ ha))) (by decide +kernel)))) fun _ => et_is (et_test (ev_op (ev_lenI (ev_var rfl) (sq_of ha)) (ev_var rfl) rv_neI)) (by simp)) (fun z => nomatch z) fun _ H1 e1 => ?_
    refine q_forLn (ev_var rfl) (sq_of (e1 _ _ ha)) (fun i σ' H' => ∃ x, σ' = [some (.ref a), some (.int (ns.length : Int)), x] ∧ Ex H H') (fun H2 e2 => ⟨none, rfl, e1.trans e2⟩) (fun i σ' H' _ ⟨x, _, ex⟩ => sq_of (ex _ _ ha)) ?_ ?_
    · rintro i y σ' H' hy ⟨x, rfl, ex⟩
      obtain ⟨c, rfl⟩ : ∃ c, y = V.int c := by
        rw [List.getElem?_map] at hy
        cases e : ns[i]? with
        | none => rw [e] at hy; cases hy
        | some c => rw [e] at hy; exact ⟨c, (Option.some.inj hy).symm⟩
      refine s_when (b := false) (et_not (et_B (ev_call (ea_cons (ev_var rfl) ea_nil) spWhole_V))) (fun z => nomatch z) fun _ H2 e2 => ?_
      exact ⟨_, rfl, ex.trans e2⟩
    · rintro σ' H' ⟨x, rfl, ex⟩
      refine s_ret (ev_eqR (EvR.new (el_sorted (EvR.old (ev_var rfl) (ex _ _ ha)))) (EvR.new (el_rng ev_c (ev_op (ev_var rfl) ev_c rv_I0) rfl (by have := hd.hi; omega)))) fun H2 e2 => ?_
      rw [decide_eq_true ((srt_rng ns).mpr hd.dk)]
      exact q.go (ex.trans e2)

theorem cut1 (z : Str) : cod (cutS z (some 1) none) = (cod z).drop 1 := by
  unfold cutS
  have e1 : HT.sIx z.length 0 (some 1) = min 1 z.length := HT.sIx_nat _ _ 1
  rw [e1, HT.sIx_none]
  show (List.take (z.length - min 1 z.length) (List.drop (min 1 z.length) (cod z))).toArray.toList = _
  rw [List.toList_toArray, ← cod_len]
  cases cod z with
  | nil => rfl
  | cons c r => simp
theorem empty_cod {ds : List Int} : cod (Str.ofString "") = txC (ds.take 0) := by
  have e : cod (Str.ofString "") = [] := by decide +kernel
  rw [e]
  rfl
theorem one_comma : cod (Str.ofString ",") = [44] := by decide +kernel
def spLaw (K : PySem.W.Frag) : Sp := fun vs H Q _ => ∃ (a : Addr) (ns : List Int), vs = [.ref a] ∧ SqL K H a (ns.map V.int) ∧ ns.length ≤ 63 ∧ ∀ H', Q (.bl true) H'
theorem ok_law (T : Txt K mg A) : FnOk P w K mg base CX0 3 A.f_law A.d_law ["script"] (spLaw K) := by
  refine T.F_law.ok sc_law (fun vs H Q E h => ?_) (fun cdv AA outer s H vs Q E hr h => ?_)
  · obtain ⟨a, ns, rfl, _⟩ := h
    rfl
  · obtain ⟨l, cs, rfl, hs, hlen, q⟩ := h
    refine ⟨_, (pss_cons (ps_set (i := 1) sc_law.nd rfl (by first | exact Or.inl rfl | exact Or.inr rfl) (pe_call (ok_law_deck T) (hr.mono (by decide)) (by rfl) T.g_law_deck T.F_law_deck.kp T.b_law_deck .nil pass0 (pa_cons (pv 0) (pa_cons pe_int (pa_cons pe_int pa_nil)))))
      (pss_cons (ps_set (i := 2) sc_law.nd rfl (by first | exact Or.inl rfl | exact Or.inr rfl) pe_str)
      (pss_cons (ps_for PassesOwn.never rfl (pi_list (pv 1)) (pg_name (i := 3) sc_law.nd rfl (by first | exact Or.inl rfl | exact Or.inr rfl))
      (pss_one (ps_set (i := 2) sc_law.nd rfl (by first | exact Or.inl rfl | exact Or.inr rfl) (pe_op op_add_str (pe_op op_add_str (pv 2) pe_str) (pe_callTy call_str_int (by rfl) T.n_str (by decide +kernel) (pa_cons (pv 3) pa_nil))))))
      (pss_cons (ps_set (i := 4) sc_law.nd rfl (by first | exact Or.inl rfl | exact Or.inr rfl) (pe_callTy (r := rListS K) call_list_of (by rfl) T.n_list (by decide +kernel) (pa_cons (pv 1) pa_nil)))
      (pss_cons (ps_set (i := 5) sc_law.nd rfl (by first | exact Or.inl rfl | exact Or.inr rfl) (pe_call (ok_shown T) (hr.mono (by decide)) (by rfl) T.g_shown T.F_shown.kp T.b_shown .nil pass0 (pa_cons (pv 4) pa_nil)))
      (pss_cons (ps_if (PW.pt (pw_or (pt_not (pt_val (pe_callB call_isi (by rfl) T.n_isinstance (by decide +kernel) (pa_cons (pv 5) (pa_cons (pe_bltn (v := .ty "str") (u := .type "str") (by rfl) T.n_str (by decide +kernel) rfl) pa_nil))))) (pw_or (pt_cmpR op_ne (pv 5) (pe_slice sl_str (pv 2) (po_some pe_int) po_none) (nomark _)) (pw_or1 (pt_cmpR (r := rNeD K) (op_neD hr.units) (pv 4) (pv 1) (nomark _))))))
      (pss_one (ps_ret pe_bl))
      pss_nil)
      (pss_cons (ps_for PassesOwn.never rfl (pi_range1 (by rfl) T.n_range (pa_cons pe_int pa_nil)) (pg_name (i := 6) sc_law.nd rfl (by first | exact Or.inl rfl | exact Or.inr rfl))
      (pss_cons (ps_set (i := 7) sc_law.nd rfl (by first | exact Or.inl rfl | exact Or.inr rfl) (pe_call (ok_read T) (hr.mono (by decide)) (by rfl) T.g_read T.F_read.kp T.b_read .nil pass0 (pa_cons (pe_slice sl_str (pv 2) (po_some pe_int) po_none) pa_nil)))
        (pss_cons (ps_if (PW.pt (pw_or (pt_not (pt_val (pe_call (ok_law_is_deck T) (hr.mono (by decide)) (by rfl) T.g_law_is_deck T.F_law_is_deck.kp T.b_law_is_deck .nil pass0 (pa_cons (pv 7) (pa_cons (pe_callB (r := rLenS K) call_len_seq (by rfl) T.n_len PySem.boot_len (pa_cons (pv 1) pa_nil)) pa_nil))))) (pw_or1 (pt_cmpR (r := rNeD K) (op_neD hr.units) (pv 7) (pv 1) (nomark _)))))
        (pss_one (ps_ret pe_bl))
        pss_nil)
        (pss_one (ps_expr (pe_bm PySem.F.plainAttrs_list PySem.F.slot_list_append PySem.F.type_list_append mt_append (pv 7) (pa_cons pe_int pa_nil)))))))
      (pss_one (ps_ret pe_bl))))))))), ?_⟩
    refine q_asgLP (ep_deck (ea_cons (ev_var rfl) (ea_cons ev_c (ea_cons ev_c ea_nil))) hs (by decide) (by decide) (by decide)) fun p ds H1 np e1 hp hd => ?_
    obtain ⟨hd, _⟩ := hd
    have h2 := hd.hi
    refine q_asg ev_c fun H2 e2 => ?_
    have hp2 := e2 _ _ hp
    refine q_forLn (ev_var rfl) (sq_of hp2) (fun i σ' H' => ∃ z x, σ' = [some (.ref l), some (.ref p), some (.str z), x, none, none, none, none] ∧ cod z = txC (ds.take i) ∧ Ex H2 H') (fun H3 e3 => ⟨Str.ofString "", none, rfl, empty_cod, e3⟩) (fun i σ' H' _ ⟨_, _, _, _, ex⟩ => sq_of (ex _ _ hp2)) ?_ ?_
    · rintro i y σ' H' hy ⟨z, x, rfl, hz, ex⟩
      obtain ⟨c, hc, rfl⟩ := int_item hy
      have hcd := hd.cards c (List.mem_of_getElem? hc)
      have hil : i < ds.length := (List.getElem?_eq_some_iff.mp hc).1
      have hzl : z.length ≤ 48 := by
        rw [← cod_len, hz]
        have := txC_len (ds := ds.take i) fun k hk => hd.cards k (List.mem_of_mem_take hk)
        rw [List.length_take] at this
        omega
      have hnl := (cd_num hcd.1 hcd.2).l2
      have e1l : (Str.ofString ",").length = 1 := by decide +kernel
      refine s_asg (ev_op (ev_op (ev_var rfl) ev_c (rv_addS (by omega))) (ev_strI (ev_var rfl) (by omega)) (rv_addS (by rw [PySem.Str.length_append]; omega))) fun H3 e3 => ?_
      refine ⟨_, _, rfl, ?_, ex.trans e3⟩
      rw [cod_append, cod_append, one_comma, hz, List.take_add_one, hc]
      show txC (ds.take i) ++ [44] ++ cod (num c) = txC (ds.take i ++ [c])
      rw [txC_snoc]
      simp
    · rintro σ' H3 ⟨z, x, rfl, hz, ex⟩
      rw [List.length_map, List.take_length] at hz
      have hp3 := ex _ _ hp2
      have hzl : z.length ≤ 48 := by
        rw [← cod_len, hz]
        have := txC_len hd.cards
        omega
      have hcut : cutS z (some 1) none = txt ds := cod_inj (by rw [cut1, hz, ← txt_cod hd.ne]; rfl)
      refine q_asgL (el_listR (EvR.old (ev_var rfl) hp3)) fun h1 H4 nh1 e4 hh1 => ?_
      refine q_asg (ev_call (ea_cons (ev_var rfl) ea_nil) (spShown_V hh1 hd)) fun H5 e5 => ?_
      have ecut : ∀ {G : Hp} {x4 x5 x6 x7 x3 : Option V}, Ev (tSl rSlS (tVar 2) (tPart (tC (.int 1))) tNoPart) [some (.ref l), some (.ref p), some (.str z), x3, x4, x5, x6, x7] G (.str (txt ds)) := fun {G} => by
        rw [← hcut]
        exact ev_slS (ev_var rfl) (eo_some ev_c) eo_none (by omega)
      refine q_when (b := false) (et_is (et_or (a := false) (et_not (et_B (ev_isi (T := "str") (bb := true) (ev_var rfl) (fun _ _ => .base (.str _)) (by decide +kernel)))) fun _ => et_or (et_test (ev_op (ev_var rfl) ecut (rv_ne rfl))) fun _ => et_test (ev_neR (EvR.old (ev_var rfl) (e5 _ _ hh1)) (EvR.old (ev_var rfl) ((e4.trans e5) _ _ hp3)))) (by simp)) (fun z => nomatch z) fun _ H6 e6 => ?_
      have hp6 := e6 _ _ (e5 _ _ (e4 _ _ hp3))
      refine q_forR1 (ea_cons ev_c ea_nil) (by decide) (fun i σ' H' => ∃ x6 x7, σ' = [some (.ref l), some (.ref p), some (.str z), x, some (.ref h1), some (.str (txt ds)), x6, x7] ∧ Ex H6 H') (fun H7 e7 => ⟨none, none, rfl, e7⟩) ?_ ?_
      · rintro i σ' H' _ ⟨x6, x7, rfl, ex'⟩
        refine q_asgL (el_call (ea_cons ecut ea_nil) (spRead_L hd)) fun f H7 nf e7 hf => ?_
        have hp7 := (ex'.trans e7) _ _ hp6
        refine q_when (b := false) (et_is (et_or (a := false) (et_not (et_B (ev_call (ea_cons (ev_var rfl) (ea_cons (ev_lenI (ev_var rfl) (sq_of hp7)) ea_nil)) (spIsDeck_V hf hd rfl)))) fun _ => et_test (ev_neR (EvR.old (ev_var rfl) hf) (EvR.old (ev_var rfl) hp7))) (by simp)) (fun z => nomatch z) fun _ H8 e8 => ?_
        refine s_app (e8 _ _ hf) (ev_var rfl) ev_c (by rw [List.length_map]; omega) fun H9 e9 => ?_
        exact ⟨_, _, rfl, Ex.mut (((ex'.trans e7).trans e8).trans e9) (fresh_back ex' nf)⟩
      · rintro σ' H' ⟨x6, x7, rfl, _⟩
        exact s_ret ev_c fun H7 _ => q H7

end
theorem all_mk {l : PySem.W.OpenLaw} {w : World} {K : PySem.W.Frag} {h : Heap} {mg : Str → Option Value} {fa : Addr} (X : K.In h) (G : h.Ns mainGlobals mg) (hfa : mg "law" = some (.ref fa))
    {f0 : Addr} {od0 an0 : Option Addr} {sl0 : Array (Option Value)} {oc0 kV0 dc0 pm0 cd0 ct0 : Value}
    {f1 : Addr} {od1 an1 : Option Addr} {sl1 : Array (Option Value)} {oc1 kV1 dc1 pm1 cd1 ct1 : Value}
    {f2 : Addr} {od2 an2 : Option Addr} {sl2 : Array (Option Value)} {oc2 kV2 dc2 pm2 cd2 ct2 : Value}
    {f3 : Addr} {od3 an3 : Option Addr} {sl3 : Array (Option Value)} {oc3 kV3 dc3 pm3 cd3 ct3 : Value}
    {f4 : Addr} {od4 an4 : Option Addr} {sl4 : Array (Option Value)} {oc4 kV4 dc4 pm4 cd4 ct4 : Value}
    {f5 : Addr} {od5 an5 : Option Addr} {sl5 : Array (Option Value)} {oc5 kV5 dc5 pm5 cd5 ct5 : Value}
    {f6 : Addr} {od6 an6 : Option Addr} {sl6 : Array (Option Value)} {oc6 kV6 dc6 pm6 cd6 ct6 : Value}
    {f7 : Addr} {od7 an7 : Option Addr} {sl7 : Array (Option Value)} {oc7 kV7 dc7 pm7 cd7 ct7 : Value}
    {f8 : Addr} {od8 an8 : Option Addr} {sl8 : Array (Option Value)} {oc8 kV8 dc8 pm8 cd8 ct8 : Value}
    {t_MOST : Tok}
    {t_FIGURES : Tok}
    {c_CardError : Addr}
    {c_NoDeck : Addr}
    {c_BadLine : Addr}
    (a0 : PySem.W.nsIn K mainGlobals "ask" = some (some (.ref f0)))
    (l0 : K.lookup f0 = some ⟨oc0, od0, .func (PySem.W.fnOf "ask" "ask" (defArgs s_ask) (defBody s_ask) (defScope s_ask) .none kV0 dc0 pm0 an0 cd0 ct0), sl0⟩)
    (c0 : PySem.W.codeIn K cd0 "ask" = true)
    (k0 : PySem.W.keepIn K (.ref f0) = true)
    (a1 : PySem.W.nsIn K mainGlobals "shown" = some (some (.ref f1)))
    (l1 : K.lookup f1 = some ⟨oc1, od1, .func (PySem.W.fnOf "shown" "shown" (defArgs s_shown) (defBody s_shown) (defScope s_shown) .none kV1 dc1 pm1 an1 cd1 ct1), sl1⟩)
    (c1 : PySem.W.codeIn K cd1 "shown" = true)
    (k1 : PySem.W.keepIn K (.ref f1) = true)
    (a2 : PySem.W.nsIn K mainGlobals "card_of" = some (some (.ref f2)))
    (l2 : K.lookup f2 = some ⟨oc2, od2, .func (PySem.W.fnOf "card_of" "card_of" (defArgs s_card_of) (defBody s_card_of) (defScope s_card_of) .none kV2 dc2 pm2 an2 cd2 ct2), sl2⟩)
    (c2 : PySem.W.codeIn K cd2 "card_of" = true)
    (k2 : PySem.W.keepIn K (.ref f2) = true)
    (a3 : PySem.W.nsIn K mainGlobals "read" = some (some (.ref f3)))
    (l3 : K.lookup f3 = some ⟨oc3, od3, .func (PySem.W.fnOf "read" "read" (defArgs s_read) (defBody s_read) (defScope s_read) .none kV3 dc3 pm3 an3 cd3 ct3), sl3⟩)
    (c3 : PySem.W.codeIn K cd3 "read" = true)
    (k3 : PySem.W.keepIn K (.ref f3) = true)
    (a4 : PySem.W.nsIn K mainGlobals "_law_cell_at" = some (some (.ref f4)))
    (l4 : K.lookup f4 = some ⟨oc4, od4, .func (PySem.W.fnOf "_law_cell_at" "_law_cell_at" (defArgs s_law_cell_at) (defBody s_law_cell_at) (defScope s_law_cell_at) .none kV4 dc4 pm4 an4 cd4 ct4), sl4⟩)
    (c4 : PySem.W.codeIn K cd4 "_law_cell_at" = true)
    (k4 : PySem.W.keepIn K (.ref f4) = true)
    (a5 : PySem.W.nsIn K mainGlobals "_law_whole" = some (some (.ref f5)))
    (l5 : K.lookup f5 = some ⟨oc5, od5, .func (PySem.W.fnOf "_law_whole" "_law_whole" (defArgs s_law_whole) (defBody s_law_whole) (defScope s_law_whole) .none kV5 dc5 pm5 an5 cd5 ct5), sl5⟩)
    (c5 : PySem.W.codeIn K cd5 "_law_whole" = true)
    (k5 : PySem.W.keepIn K (.ref f5) = true)
    (a6 : PySem.W.nsIn K mainGlobals "_law_deck" = some (some (.ref f6)))
    (l6 : K.lookup f6 = some ⟨oc6, od6, .func (PySem.W.fnOf "_law_deck" "_law_deck" (defArgs s_law_deck) (defBody s_law_deck) (defScope s_law_deck) .none kV6 dc6 pm6 an6 cd6 ct6), sl6⟩)
    (c6 : PySem.W.codeIn K cd6 "_law_deck" = true)
    (k6 : PySem.W.keepIn K (.ref f6) = true)
    (a7 : PySem.W.nsIn K mainGlobals "_law_is_deck" = some (some (.ref f7)))
    (l7 : K.lookup f7 = some ⟨oc7, od7, .func (PySem.W.fnOf "_law_is_deck" "_law_is_deck" (defArgs s_law_is_deck) (defBody s_law_is_deck) (defScope s_law_is_deck) .none kV7 dc7 pm7 an7 cd7 ct7), sl7⟩)
    (c7 : PySem.W.codeIn K cd7 "_law_is_deck" = true)
    (k7 : PySem.W.keepIn K (.ref f7) = true)
    (a8 : PySem.W.nsIn K mainGlobals "law" = some (some (.ref f8)))
    (l8 : K.lookup f8 = some ⟨oc8, od8, .func (PySem.W.fnOf "law" "law" (defArgs s_law) (defBody s_law) (defScope s_law) .none kV8 dc8 pm8 an8 cd8 ct8), sl8⟩)
    (c8 : PySem.W.codeIn K cd8 "law" = true)
    (k8 : PySem.W.keepIn K (.ref f8) = true)
    (z_len : PySem.W.nsIn K mainGlobals "len" = some none)
    (z_sorted : PySem.W.nsIn K mainGlobals "sorted" = some none)
    (z_list : PySem.W.nsIn K mainGlobals "list" = some none)
    (z_range : PySem.W.nsIn K mainGlobals "range" = some none)
    (z_isinstance : PySem.W.nsIn K mainGlobals "isinstance" = some none)
    (z_int : PySem.W.nsIn K mainGlobals "int" = some none)
    (z_bool : PySem.W.nsIn K mainGlobals "bool" = some none)
    (z_str : PySem.W.nsIn K mainGlobals "str" = some none)
    (z_ValueError : PySem.W.nsIn K mainGlobals "ValueError" = some none)
    (y_MOST : PySem.W.nsIn K mainGlobals "MOST" = some (some (.int 16 t_MOST)))
    (y_FIGURES : PySem.W.nsIn K mainGlobals "FIGURES" = some (some (.str "0123456789" t_FIGURES)))
    (cg_CardError : PySem.W.nsIn K mainGlobals "CardError" = some (some (.ref c_CardError)))
    (ci_CardError : PySem.W.isClsIn K c_CardError = true)
    (ct_CardError : PySem.W.typeIn K (.ref c_CardError) = some (.type "type"))
    (cg_NoDeck : PySem.W.nsIn K mainGlobals "NoDeck" = some (some (.ref c_NoDeck)))
    (ci_NoDeck : PySem.W.isClsIn K c_NoDeck = true)
    (ct_NoDeck : PySem.W.typeIn K (.ref c_NoDeck) = some (.type "type"))
    (cg_BadLine : PySem.W.nsIn K mainGlobals "BadLine" = some (some (.ref c_BadLine)))
    (ci_BadLine : PySem.W.isClsIn K c_BadLine = true)
    (ct_BadLine : PySem.W.typeIn K (.ref c_BadLine) = some (.type "type")) :
    ∃ fd : FuncData, (∀ (s : Shared) (v : Value), BindsTo s fd ⟨[v], []⟩ [("script", v)]) ∧ ∀ base : Heap, K.In base → base.Ns mainGlobals mg → FnOk l.prog w K mg base CX0 3 fa fd ["script"] (spLaw K) := by
  have e := hfa.symm.trans (PySem.W.mg_of X G a8)
  cases e
  have F0 := fun_mk (st := s_ask) l0 c0 k0
  have b0 := F0.binds (ps := ["deck"]) fun _ _ _ _ _ _ us hl => match us, hl with | [_], _ => rfl
  have F1 := fun_mk (st := s_shown) l1 c1 k1
  have b1 := F1.binds (ps := ["deck"]) fun _ _ _ _ _ _ us hl => match us, hl with | [_], _ => rfl
  have F2 := fun_mk (st := s_card_of) l2 c2 k2
  have b2 := F2.binds (ps := ["word"]) fun _ _ _ _ _ _ us hl => match us, hl with | [_], _ => rfl
  have F3 := fun_mk (st := s_read) l3 c3 k3
  have b3 := F3.binds (ps := ["text"]) fun _ _ _ _ _ _ us hl => match us, hl with | [_], _ => rfl
  have F4 := fun_mk (st := s_law_cell_at) l4 c4 k4
  have b4 := F4.binds (ps := ["script", "k"]) fun _ _ _ _ _ _ us hl => match us, hl with | [_, _], _ => rfl
  have F5 := fun_mk (st := s_law_whole) l5 c5 k5
  have b5 := F5.binds (ps := ["found"]) fun _ _ _ _ _ _ us hl => match us, hl with | [_], _ => rfl
  have F6 := fun_mk (st := s_law_deck) l6 c6 k6
  have b6 := F6.binds (ps := ["script", "at", "most"]) fun _ _ _ _ _ _ us hl => match us, hl with | [_, _, _], _ => rfl
  have F7 := fun_mk (st := s_law_is_deck) l7 c7 k7
  have b7 := F7.binds (ps := ["found", "size"]) fun _ _ _ _ _ _ us hl => match us, hl with | [_, _], _ => rfl
  have F8 := fun_mk (st := s_law) l8 c8 k8
  have b8 := F8.binds (ps := ["script"]) fun _ _ _ _ _ _ us hl => match us, hl with | [_], _ => rfl
  have T : Txt K mg { f_ask := f0, d_ask := PySem.W.fnOf "ask" "ask" (defArgs s_ask) (defBody s_ask) (defScope s_ask) .none kV0 dc0 pm0 an0 cd0 ct0, f_shown := f1, d_shown := PySem.W.fnOf "shown" "shown" (defArgs s_shown) (defBody s_shown) (defScope s_shown) .none kV1 dc1 pm1 an1 cd1 ct1, f_card_of := f2, d_card_of := PySem.W.fnOf "card_of" "card_of" (defArgs s_card_of) (defBody s_card_of) (defScope s_card_of) .none kV2 dc2 pm2 an2 cd2 ct2, f_read := f3, d_read := PySem.W.fnOf "read" "read" (defArgs s_read) (defBody s_read) (defScope s_read) .none kV3 dc3 pm3 an3 cd3 ct3, f_law_cell_at := f4, d_law_cell_at := PySem.W.fnOf "_law_cell_at" "_law_cell_at" (defArgs s_law_cell_at) (defBody s_law_cell_at) (defScope s_law_cell_at) .none kV4 dc4 pm4 an4 cd4 ct4, f_law_whole := f5, d_law_whole := PySem.W.fnOf "_law_whole" "_law_whole" (defArgs s_law_whole) (defBody s_law_whole) (defScope s_law_whole) .none kV5 dc5 pm5 an5 cd5 ct5, f_law_deck := f6, d_law_deck := PySem.W.fnOf "_law_deck" "_law_deck" (defArgs s_law_deck) (defBody s_law_deck) (defScope s_law_deck) .none kV6 dc6 pm6 an6 cd6 ct6, f_law_is_deck := f7, d_law_is_deck := PySem.W.fnOf "_law_is_deck" "_law_is_deck" (defArgs s_law_is_deck) (defBody s_law_is_deck) (defScope s_law_is_deck) .none kV7 dc7 pm7 an7 cd7 ct7, f_law := fa, d_law := PySem.W.fnOf "law" "law" (defArgs s_law) (defBody s_law) (defScope s_law) .none kV8 dc8 pm8 an8 cd8 ct8, t_MOST := t_MOST, t_FIGURES := t_FIGURES, c_CardError := c_CardError, c_NoDeck := c_NoDeck, c_BadLine := c_BadLine } :=
    { n_len := PySem.W.mg_none_of X G z_len, n_sorted := PySem.W.mg_none_of X G z_sorted, n_list := PySem.W.mg_none_of X G z_list, n_range := PySem.W.mg_none_of X G z_range, n_isinstance := PySem.W.mg_none_of X G z_isinstance, n_int := PySem.W.mg_none_of X G z_int, n_bool := PySem.W.mg_none_of X G z_bool, n_str := PySem.W.mg_none_of X G z_str, n_ValueError := PySem.W.mg_none_of X G z_ValueError, g_MOST := PySem.W.mg_of X G y_MOST, g_FIGURES := PySem.W.mg_of X G y_FIGURES, F_ask := F0, g_ask := PySem.W.mg_of X G a0, b_ask := b0, F_shown := F1, g_shown := PySem.W.mg_of X G a1, b_shown := b1, F_card_of := F2, g_card_of := PySem.W.mg_of X G a2, b_card_of := b2, F_read := F3, g_read := PySem.W.mg_of X G a3, b_read := b3, F_law_cell_at := F4, g_law_cell_at := PySem.W.mg_of X G a4, b_law_cell_at := b4, F_law_whole := F5, g_law_whole := PySem.W.mg_of X G a5, b_law_whole := b5, F_law_deck := F6, g_law_deck := PySem.W.mg_of X G a6, b_law_deck := b6, F_law_is_deck := F7, g_law_is_deck := PySem.W.mg_of X G a7, b_law_is_deck := b7, F_law := F8, g_law := PySem.W.mg_of X G a8, b_law := b8, K_CardError := ⟨PySem.W.mg_of X G cg_CardError, ci_CardError, ct_CardError⟩, K_NoDeck := ⟨PySem.W.mg_of X G cg_NoDeck, ci_NoDeck, ct_NoDeck⟩, K_BadLine := ⟨PySem.W.mg_of X G cg_BadLine, ci_BadLine, ct_BadLine⟩ }
  exact ⟨_, fun s v => .of_eq rfl, fun base _ _ => ok_law T⟩
end Tt
open PySem PySem.W PyProof.Rows
set_option maxHeartbeats 0 in
theorem PySem.Challenge.cw_topturn_k13_written_and_read_holds : PySem.Challenge.rw_topturn_k13_written_and_read.Holds := by
  w_on; o_law; k_head; (case hw => w_witness2)
  k_fill
  refine L2.walk_of (l := PySem.Challenge.rw_topturn_k13_written_and_read) (n := 63) (k := 3) (x := "script") (CX := fun _ => L2.CX0) (sp := fun w => Tt.spLaw _) rfl (by decide) rfl ⟨rfl, by decide, by decide⟩ (fun w h Y => PySem.W.kIn_of Y) ?F (fun _ _ a ns hl _ hS => ⟨a, ns, rfl, hS, hl, fun _ => rfl⟩) (fun _ _ _ _ _ h => h)
  case F =>
    intro w mg fa h KX G hmg
    refine' Tt.all_mk KX G hmg ?a0 ?l0 ?c0 ?k0 ?a1 ?l1 ?c1 ?k1 ?a2 ?l2 ?c2 ?k2 ?a3 ?l3 ?c3 ?k3 ?a4 ?l4 ?c4 ?k4 ?a5 ?l5 ?c5 ?k5 ?a6 ?l6 ?c6 ?k6 ?a7 ?l7 ?c7 ?k7 ?a8 ?l8 ?c8 ?k8 ?z_len ?z_sorted ?z_list ?z_range ?z_isinstance ?z_int ?z_bool ?z_str ?z_ValueError ?y_MOST ?y_FIGURES ?cg_CardError ?ci_CardError ?ct_CardError ?cg_NoDeck ?ci_NoDeck ?ct_NoDeck ?cg_BadLine ?ci_BadLine ?ct_BadLine
    (case a0 => k_is)
    (case l0 => k_is)
    (case c0 => k_is)
    (case k0 => k_is)
    (case a1 => k_is)
    (case l1 => k_is)
    (case c1 => k_is)
    (case k1 => k_is)
    (case a2 => k_is)
    (case l2 => k_is)
    (case c2 => k_is)
    (case k2 => k_is)
    (case a3 => k_is)
    (case l3 => k_is)
    (case c3 => k_is)
    (case k3 => k_is)
    (case a4 => k_is)
    (case l4 => k_is)
    (case c4 => k_is)
    (case k4 => k_is)
    (case a5 => k_is)
    (case l5 => k_is)
    (case c5 => k_is)
    (case k5 => k_is)
    (case a6 => k_is)
    (case l6 => k_is)
    (case c6 => k_is)
    (case k6 => k_is)
    (case a7 => k_is)
    (case l7 => k_is)
    (case c7 => k_is)
    (case k7 => k_is)
    (case a8 => k_is)
    (case l8 => k_is)
    (case c8 => k_is)
    (case k8 => k_is)
    (case z_len => k_is)
    (case z_sorted => k_is)
    (case z_list => k_is)
    (case z_range => k_is)
    (case z_isinstance => k_is)
    (case z_int => k_is)
    (case z_bool => k_is)
    (case z_str => k_is)
    (case z_ValueError => k_is)
    (case y_MOST => k_is)
    (case y_FIGURES => k_is)
    (case cg_CardError => k_is)
    (case ci_CardError => k_is)
    (case ct_CardError => k_is)
    (case cg_NoDeck => k_is)
    (case ci_NoDeck => k_is)
    (case ct_NoDeck => k_is)
    (case cg_BadLine => k_is)
    (case ci_BadLine => k_is)
    (case ct_BadLine => k_is)
