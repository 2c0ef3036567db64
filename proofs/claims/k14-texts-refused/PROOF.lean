import PyProof.Rows.All
import Wide.All
import OpenK.AllK
import Wide.FinOn
import PyProof.EqAt
import PyProof.EqKinds
import PyProof.TupleCall
import PyProof.Rows.FactsT2
import KE.KRevIter
import HandS.ForMost
import HandS.ForExc
import HandS.Evl
import HandS.Conv
import HandS.SortInts
import HandS.IsInst
import HandS.SetFor
import HandS.Rev
import HandS.ExcCtx
import HandS.HotCalls
import HandS.ExcIs
import HandS.Text
import HandS.Iter
import HandS.TryOnly
import KE.IntTextLaws
import KE.KIntText
import PyProof.StrLawsTight
import PyProof.StrLawsChain
import KE.GoesRaise
import HandS.SuiteRaise
import PyProof.Rows.StrSplitAre
import PyProof.Rows.StrSplitJoin
import PySem.Challenge.RW_topturn_k14_texts_refused
set_option Elab.async false
set_option linter.all false
set_option maxRecDepth 100000
set_option maxHeartbeats 4000000

/-! The mathematics of the turned cards, in plain Lean. -/
namespace Tt
/-- the cards 1 .. n -/
def rng (n : Nat) : List Int := (List.range n).map fun i => (1 : Int) + (i : Nat)
theorem rng_len (n : Nat) : (rng n).length = n := by simp [rng]
theorem rng_get {n i : Nat} (h : i < n) : (rng n)[i]? = some ((1 : Int) + (i : Nat)) := by
  unfold rng
  rw [List.getElem?_map, List.getElem?_range h]
  rfl
theorem mem_rng {n : Nat} {x : Int} : x ∈ rng n ↔ 1 ≤ x ∧ x ≤ n := by
  unfold rng
  rw [List.mem_map]
  constructor
  · rintro ⟨i, hi, rfl⟩
    have := List.mem_range.mp hi
    omega
  · intro h
    exact ⟨(x - 1).toNat, List.mem_range.mpr (by omega), by omega⟩
theorem rng_lt (n : Nat) : (rng n).Pairwise (· < ·) := by
  unfold rng
  rw [List.pairwise_map]
  refine List.Pairwise.imp ?_ List.pairwise_lt_range
  intro a b h
  omega
theorem rng_le (n : Nat) : (rng n).Pairwise (· ≤ ·) := (rng_lt n).imp fun h => Int.le_of_lt h
theorem rng_nodup (n : Nat) : (rng n).Nodup := (rng_lt n).imp fun h => Int.ne_of_lt h
theorem rng_succ (n : Nat) : rng (n + 1) = rng n ++ [(1 : Int) + (n : Nat)] := by
  unfold rng
  rw [List.range_succ, List.map_append]
  rfl

/-- a deck, of whatever size -/
def IsDk (d : List Int) : Prop := d.Perm (rng d.length)
theorem IsDk.nodup {d : List Int} (h : IsDk d) : d.Nodup := h.symm.nodup (rng_nodup _)
theorem IsDk.mem {d : List Int} (h : IsDk d) {x : Int} : x ∈ d ↔ 1 ≤ x ∧ x ≤ d.length := by
  rw [h.mem_iff, mem_rng]
theorem IsDk.at {d : List Int} (h : IsDk d) {i : Nat} {x : Int} (e : d[i]? = some x) : 1 ≤ x ∧ x ≤ d.length := h.mem.mp (List.mem_of_getElem? e)
theorem IsDk.perm {d e : List Int} (h : IsDk d) (p : e.Perm d) : IsDk e := by
  unfold IsDk
  rw [p.length_eq]
  exact p.trans h
/-- sorted and alike -/
theorem sorted_rng {l : List Int} {n : Nat} (p : l.Perm (rng n)) (s : l.Pairwise (· ≤ ·)) : l = rng n :=
  p.eq_of_pairwise (fun a b _ _ h1 h2 => Int.le_antisymm h1 h2) s (rng_le n)
theorem isDk_iff {d l : List Int} (p : l.Perm d) (s : l.Pairwise (· ≤ ·)) : l = rng d.length ↔ IsDk d :=
  ⟨fun e => by unfold IsDk; rw [← e]; exact p.symm, fun h => sorted_rng (p.trans h) s⟩
theorem two_at {d : List Int} (h : d.Nodup) {i j : Nat} {x : Int} (a : d[i]? = some x) (b : d[j]? = some x) : i = j := by
  obtain ⟨h1, e1⟩ := List.getElem?_eq_some_iff.mp a
  obtain ⟨h2, e2⟩ := List.getElem?_eq_some_iff.mp b
  exact (List.getElem_inj h).mp (e1.trans e2.symm)

/-- the first k turned over -/
def ov (d : List Int) (k : Int) : List Int := (d.take k.toNat).reverse ++ d.drop k.toNat
theorem ov_perm (d : List Int) (k : Int) : (ov d k).Perm d := by
  unfold ov
  exact ((List.reverse_perm _).append_right _).trans (List.Perm.of_eq (List.take_append_drop _ _))
theorem ov_len (d : List Int) (k : Int) : (ov d k).length = d.length := (ov_perm d k).length_eq
theorem IsDk.ov {d : List Int} (h : IsDk d) (k : Int) : IsDk (ov d k) := h.perm (ov_perm d k)
theorem ov_ov (d : List Int) {k : Int} (h : k ≤ d.length) : ov (ov d k) k = d := by
  have e : ((d.take k.toNat).reverse).length = k.toNat := by rw [List.length_reverse, List.length_take]; omega
  unfold ov
  rw [List.take_append_of_le_length (by omega), List.take_of_length_le (by omega), List.reverse_reverse, List.drop_append_of_le_length (by omega), List.drop_of_length_le (by omega), List.nil_append, List.take_append_drop]
theorem ov_lo {d : List Int} {k : Int} {i : Nat} (h : k ≤ d.length) (hi : (i : Int) < k) : (ov d k)[i]? = d[k.toNat - 1 - i]? := by
  have e : ((d.take k.toNat).reverse).length = k.toNat := by rw [List.length_reverse, List.length_take]; omega
  have e2 : (d.take k.toNat).length = k.toNat := by rw [List.length_take]; omega
  unfold ov
  rw [List.getElem?_append_left (by omega), List.getElem?_reverse (by omega), List.getElem?_take_of_lt (by omega), e2]
theorem ov_hi {d : List Int} {k : Int} {i : Nat} (h0 : 0 ≤ k) (h : k ≤ d.length) (hi : k ≤ i) : (ov d k)[i]? = d[i]? := by
  have e : ((d.take k.toNat).reverse).length = k.toNat := by rw [List.length_reverse, List.length_take]; omega
  unfold ov
  rw [List.getElem?_append_right (by omega), List.getElem?_drop, e]
  congr 1
  omega
theorem ov_top {d : List Int} {k : Int} (h1 : 1 ≤ k) (h : k ≤ d.length) : (ov d k)[0]? = d[k.toNat - 1]? := ov_lo h (by omega)
theorem ov_end {d : List Int} {k : Int} (h1 : 1 ≤ k) (h : k ≤ d.length) : (ov d k)[k.toNat - 1]? = d[0]? := by
  rw [ov_lo h (by omega)]
  congr 1
  omega
/-- the law's own way to turn over -/
def lov (d : List Int) (k : Int) : List Int := (List.range k.toNat).map (fun i : Nat => d.getD (k - 1 - (i : Int)).toNat 0) ++ d.drop k.toNat
theorem lov_eq {d : List Int} {k : Int} (h : k ≤ d.length) : lov d k = ov d k := by
  unfold lov ov
  congr 1
  refine List.ext_getElem? fun i => ?_
  by_cases hi : i < k.toNat
  · have e2 : (d.take k.toNat).length = k.toNat := by rw [List.length_take]; omega
    rw [List.getElem?_map, List.getElem?_range hi, List.getElem?_reverse (by omega), e2, List.getElem?_take_of_lt (by omega)]
    have e3 : (k - 1 - (i : Int)).toNat = k.toNat - 1 - i := by omega
    simp only [Option.map_some, e3]
    rw [List.getD_eq_getElem?_getD, List.getElem?_eq_getElem (by omega)]
    rfl
  · rw [List.getElem?_eq_none (by simp; omega), List.getElem?_eq_none (by simp; omega)]

/-! ### games -/
inductive Gm : List Int → List Int → List Int → Prop where
  | stop {d : List Int} : d[0]? = some 1 → Gm d [] d
  | turn {d ts e : List Int} {k : Int} : d[0]? = some k → k ≠ 1 → Gm (ov d k) ts e → Gm d (k :: ts) e
theorem Gm.det {d ts e : List Int} (g : Gm d ts e) : ∀ {ts' e' : List Int}, Gm d ts' e' → ts' = ts ∧ e' = e := by
  induction g with
  | stop h =>
    intro ts' e' g'
    cases g' with
    | stop _ => exact ⟨rfl, rfl⟩
    | turn h' n _ => rw [h] at h'; exact absurd (Option.some.inj h').symm n
  | turn h n _ ih =>
    intro ts' e' g'
    cases g' with
    | stop h' => rw [h] at h'; exact absurd (Option.some.inj h') n
    | turn h' n' g2 =>
      rw [h] at h'
      cases Option.some.inj h'
      obtain ⟨e1, e2⟩ := ih g2
      exact ⟨by rw [e1], e2⟩
/-- a deck that is won by k's place -/
def inPl (d : List Int) (k : Nat) : Bool := decide (d[k + 1]? = some ((k : Int) + 2))
/-- worths below m -/
def W (f : Nat → Bool) : Nat → Nat
  | 0 => 0
  | m + 1 => W f m + if f m = true then 2 ^ m else 0
theorem W_lt (f : Nat → Bool) : ∀ m, W f m < 2 ^ m
  | 0 => Nat.one_pos
  | m + 1 => by
    have h := W_lt f m
    unfold W
    have e : 2 ^ (m + 1) = 2 ^ m + 2 ^ m := by rw [Nat.pow_succ]; omega
    split <;> omega
theorem W_congr {f g : Nat → Bool} : ∀ {m : Nat}, (∀ i, i < m → f i = g i) → W f m = W g m
  | 0, _ => rfl
  | m + 1, h => by
    unfold W
    rw [W_congr fun i hi => h i (by omega), h m (by omega)]
theorem W_rise {f g : Nat → Bool} {j : Nat} (hj : f j = false) (hg : g j = true) : ∀ {m : Nat}, j < m → (∀ i, j < i → i < m → f i = g i) → W f m < W g m
  | 0, h, _ => by omega
  | m + 1, h, a => by
    unfold W
    by_cases e : j = m
    · subst e
      have := W_lt f j
      rw [hj, hg]
      simp
      omega
    · have ih := W_rise hj hg (m := m) (by omega) fun i h1 h2 => a i h1 (by omega)
      rw [a m (by omega) (by omega)]
      split <;> omega
def wt (d : List Int) : Nat := W (inPl d) (d.length - 1)
theorem wt_lt (d : List Int) : wt d < 2 ^ (d.length - 1) := W_lt _ _
theorem wt_rise {d : List Int} {k : Int} (h : IsDk d) (h0 : d[0]? = some k) (hk : k ≠ 1) : wt d < wt (ov d k) := by
  obtain ⟨k1, k2⟩ := h.at h0
  have ek : k.toNat - 2 + 1 = k.toNat - 1 := by omega
  unfold wt
  rw [ov_len]
  refine W_rise (j := k.toNat - 2) ?_ ?_ (by omega) fun i h1 h2 => ?_
  · unfold inPl
    refine decide_eq_false fun e => ?_
    have e3 : ((k.toNat - 2 : Nat) : Int) + 2 = k := by omega
    rw [e3] at e
    have := two_at h.nodup h0 e
    omega
  · unfold inPl
    refine decide_eq_true ?_
    rw [ek, ov_end k1 k2, h0]
    congr 1
    omega
  · unfold inPl
    rw [ov_hi (by omega) k2 (by omega)]
/-- each game ends; as many turns at most as the weight grows -/
theorem Gm.ends : ∀ (m : Nat) (d : List Int), IsDk d → 0 < d.length → 2 ^ (d.length - 1) - wt d ≤ m → ∃ ts e, Gm d ts e
  | m, d, h, h0, hm => by
    obtain ⟨k, hk⟩ : ∃ k, d[0]? = some k := ⟨d[0], List.getElem?_eq_getElem h0⟩
    by_cases h1 : k = 1
    · subst h1
      exact ⟨[], d, .stop hk⟩
    · have r := wt_rise h hk h1
      have l := wt_lt (ov d k)
      rw [ov_len] at l
      cases m with
      | zero => omega
      | succ m =>
        obtain ⟨ts, e, g⟩ := Gm.ends m (ov d k) (h.ov k) (by rw [ov_len]; exact h0) (by rw [ov_len]; omega)
        exact ⟨k :: ts, e, .turn hk h1 g⟩
theorem Gm.all {d : List Int} (h : IsDk d) (h0 : 0 < d.length) : ∃ ts e, Gm d ts e := Gm.ends _ d h h0 (Nat.le_refl _)
theorem Gm.perm {d ts e : List Int} (g : Gm d ts e) : e.Perm d := by
  induction g with
  | stop _ => exact .refl _
  | turn _ _ _ ih => exact ih.trans (ov_perm _ _)
theorem Gm.one {d ts e : List Int} (g : Gm d ts e) : e[0]? = some 1 := by
  induction g with
  | stop h => exact h
  | turn _ _ _ ih => exact ih
theorem Gm.wt {d ts e : List Int} (g : Gm d ts e) : IsDk d → ts.length + wt d ≤ wt e := by
  induction g with
  | stop _ => intro _; simp
  | turn h n _ ih =>
    intro hd
    have := ih (hd.ov _)
    have := wt_rise hd h n
    simp only [List.length_cons]
    omega
theorem Gm.short {d ts e : List Int} (g : Gm d ts e) (h : IsDk d) : ts.length < 2 ^ (d.length - 1) := by
  have h1 := g.wt h
  have h2 := wt_lt e
  rw [g.perm.length_eq] at h2
  omega

/-! ### backwards -/
def bk (d : List Int) (t : Int) : Option (List Int) := if 2 ≤ t ∧ t ≤ d.length ∧ d[t.toNat - 1]? = some t then some (ov d t) else none
def bks : List Int → List Int → Option (List Int)
  | d, [] => some d
  | d, t :: r => (bk d t).bind fun x => bks x r
theorem bks_append : ∀ (d l r : List Int), bks d (l ++ r) = (bks d l).bind fun x => bks x r
  | d, [], r => rfl
  | d, t :: l, r => by
    show (bk d t).bind (fun x => bks x (l ++ r)) = ((bk d t).bind fun x => bks x l).bind fun x => bks x r
    cases e : bk d t with
    | none => rfl
    | some x => exact bks_append x l r
theorem bk_len {d x : List Int} {t : Int} (h : bk d t = some x) : x.length = d.length := by
  unfold bk at h
  split at h
  · rw [← Option.some.inj h, ov_len]
  · cases h
theorem bk_perm {d x : List Int} {t : Int} (h : bk d t = some x) : x.Perm d := by
  unfold bk at h
  split at h
  · rw [← Option.some.inj h]
    exact ov_perm _ _
  · cases h
theorem bk_some {d x : List Int} {t : Int} (h : bk d t = some x) : 2 ≤ t ∧ t ≤ d.length ∧ d[t.toNat - 1]? = some t ∧ x = ov d t := by
  unfold bk at h
  split at h
  · rename_i c
    exact ⟨c.1, c.2.1, c.2.2, (Option.some.inj h).symm⟩
  · cases h
theorem bk_turn {d : List Int} {k : Int} (h : IsDk d) (h0 : d[0]? = some k) (hk : k ≠ 1) : bk (ov d k) k = some d := by
  obtain ⟨k1, k2⟩ := h.at h0
  unfold bk
  rw [if_pos ⟨by omega, by rw [ov_len]; exact k2, by rw [ov_end (by omega) k2, h0]⟩, ov_ov d k2]
theorem Gm.back {d ts e : List Int} (g : Gm d ts e) : IsDk d → bks e ts.reverse = some d := by
  induction g with
  | stop _ => intro _; rfl
  | turn h n _ ih =>
    intro hd
    rw [List.reverse_cons, bks_append, ih (hd.ov _)]
    show (bk _ _).bind (fun x => bks x []) = _
    rw [bk_turn hd h n]
    rfl
/-- the test that a top fails -/
def bkT (d : List Int) (t : Int) : Bool := decide (t < 2) || (decide ((d.length : Int) < t) || !decide (d.getD (t.toNat - 1) 0 = t))
theorem bkT_yes {d : List Int} {t : Int} (h : bkT d t = true) : bk d t = none := by
  unfold bk
  rw [if_neg]
  rintro ⟨h1, h2, h3⟩
  unfold bkT at h
  rw [List.getD_eq_getElem?_getD, h3] at h
  simp at h
  omega
theorem bkT_no {d : List Int} {t : Int} (h : bkT d t = false) : 2 ≤ t ∧ t ≤ d.length ∧ bk d t = some (ov d t) := by
  unfold bkT at h
  simp only [Bool.or_eq_false_iff, decide_eq_false_iff_not, Bool.not_eq_false', decide_eq_true_eq] at h
  obtain ⟨h1, h2, h3⟩ := h
  have hlt : t.toNat - 1 < d.length := by omega
  rw [List.getD_eq_getElem?_getD, List.getElem?_eq_getElem hlt] at h3
  have e3 : d[t.toNat - 1]? = some t := (List.getElem?_eq_getElem hlt).trans (congrArg some h3)
  exact ⟨by omega, by omega, if_pos ⟨by omega, by omega, e3⟩⟩
/-- the deck whose game has this end and these tops, if any -/
def bksO (e ts : List Int) : Option (List Int) := if e[0]? = some 1 then bks e ts.reverse else none
end Tt

/-! Own rules: a list made of the reversed items of a list. -/
namespace RvL
open PySem PySem.Spec PyProof.Rows RT
section
variable {prog : Program} {w : World} {A : Around} {E : Value → Shared → Prop} {s : Shared}
theorem ext_rev {R : Result → Shared → Prop} {it l S : Addr} {items : Array Value} (hh : A.handled = none) (hit : s.heap.IsRevIter it l ((items.size : Int) - 1)) (hl : s.heap.IsList l items) (hne : l ≠ it) (hn : items.size ≤ sizeLine)
    (hSi : S ≠ it) (hSl : S ≠ l) (res : Value) (c₀ : Nat) (hS : s.heap.get? S = some { cls := .type "list", data := .seq #[] c₀ })
    (hR : ∀ h' tk acc' c', (∀ b o, b ≠ S → b ≠ it → s.heap.get? b = some o → h'.get? b = some o) → h'.get? S = some { cls := .type "list", dict := none, data := .seq acc' c', slots := #[] } →
      ItemsOf (fun i v => items[items.size - 1 - i]? = some v) acc' items.size → R (.ok (.ret res)) { s with heap := h', toks := tk }) :
    wpAny (model prog w) A.in1 (Builtin.List.listExtendWith (.ref S) (.ref it) res)
      (fun fin s' => match fin with | .done f => R (.ok f) s' | .again c' => c'.quiet = true ∧ codeAny (model prog w) A c' R s') (fun e s' => R (.error e) s') s := by
  have W := (Walks.listRev (prog := prog) (w := w) (A := A.in1) hh it l hne items).toS
  have hSf : S ∉ [it, l] := by simp only [List.mem_cons, List.not_mem_nil, or_false, not_or]; exact ⟨hSi, hSl⟩
  have hT : s.TypeIs (.ref it) "list_reverseiterator" := hit.typeIs
  have h1 : Builtin.List.listSameRef (.ref S) (.ref it) = false := by simp [Builtin.List.listSameRef, hSi]
  unfold Builtin.List.listExtendWith
  refine wpAny_bind (wpAny_typeOf hT ?_)
  rw [if_neg (by rw [h1]; decide)]
  refine wpAny_bind (wpAny_pyIter_revIter hit ?_)
  refine wpAny_bind (wpAny_holding ?_)
  unfold Builtin.List.listLengthHint
  refine wpAny_bind (wpAny_specialOf hT nolen_lri ?_)
  show wpAny _ A.in1 (specialOf (Value.ref it) (Str.ofString "__length_hint__") >>= _) _ _ _
  refine wpAny_bind (wpAny_specialOf hT hint_lri ?_)
  generalize hid : ("list_reverseiterator.__length_hint__" : String) = id0
  wp_delta
  rw [show splitId id0 = some ("list_reverseiterator", "__length_hint__") from by subst hid; decide +kernel]
  subst hid
  refine wpAny_bind (wpAny_isInstance (b := true) hT (by rw [isSubtype_type]; kernel_rfl) ?_)
  refine wpAny_pure ?_
  rw [if_neg (by decide)]
  have e0 : ((items.size : Nat) : Int) - 1 - ((0 : Nat) : Int) = (items.size : Int) - 1 := by omega
  refine wpAny_pure ⟨plainId_quiet F.plain_extend_loop _, codeAny_extend_loopS W hn _ hSf _ items.size 0 _ _ _ rfl (Nat.zero_le _) ⟨Nat.zero_le _, by rw [e0]; exact hit, hl⟩ hS (ItemsOf.nil _) fun s' acc' c' hm hS' hacc => ?_⟩
  rw [Moved.eq_with hm]
  refine hR s'.heap s'.toks acc' c' (fun b o hb hbi e => hm.heap b o (fun hmem => ?_) e) hS' hacc
  rcases List.mem_cons.mp hmem with e' | hmem
  · exact hb e'
  · exact hbi (List.mem_singleton.mp hmem)
theorem init_rev {R : Result → Shared → Prop} {it l S : Addr} {items : Array Value} (hh : A.handled = none) (hit : s.heap.IsRevIter it l ((items.size : Int) - 1)) (hl : s.heap.IsList l items) (hne : l ≠ it) (hn : items.size ≤ sizeLine)
    (hSi : S ≠ it) (hSl : S ≠ l) (hS : s.heap.get? S = some { cls := .type "list", data := .seq #[] })
    (hR : ∀ h' tk acc' c', (∀ b o, b ≠ S → b ≠ it → s.heap.get? b = some o → h'.get? b = some o) → h'.get? S = some { cls := .type "list", dict := none, data := .seq acc' c', slots := #[] } →
      ItemsOf (fun i v => items[items.size - 1 - i]? = some v) acc' items.size → R (.ok (.ret .none)) { s with heap := h', toks := tk }) :
    wpAny (model prog w) A.in1 (Builtin.«list.__init__» ⟨[.ref S, .ref it], []⟩)
      (fun fin s' => match fin with | .done f => R (.ok f) s' | .again c' => c'.quiet = true ∧ codeAny (model prog w) A c' R s') (fun e s' => R (.error e) s') s := by
  show wpAny _ _ (do let old ← Builtin.List.listItems (.ref S); Builtin.List.listUpdate (.ref S) (fun _ => #[]); letGo old.toList.reverse; Builtin.List.listExtendWith (.ref S) (.ref it) .none) _ _ s
  refine wpAny_bind ?_
  unfold Builtin.List.listItems
  refine wpAny_bind (wpAny_seqItems hS rfl (wpAny_pure ?_))
  show wpAny _ _ (updateSeq S (fun _ => #[]) >>= fun _ => letGo (#[] : Array Value).toList.reverse >>= fun _ => Builtin.List.listExtendWith (.ref S) (.ref it) .none) _ _ s
  refine wpAny_bind (wpAny_updateSeq hS rfl ?_)
  have hS₂ := Heap.get?_update_self (Obj.mapSeq (fun _ => (#[] : Array Value))) hS rfl
  have oth : ∀ b o, b ≠ S → s.heap.get? b = some o → (s.heap.update S (Obj.mapSeq (fun _ => (#[] : Array Value)))).get? b = some o :=
    fun b o hb e => (Heap.get?_update_other _ _ (Ne.symm hb)).trans e
  refine wpAny_bind (wpAny_letGo ?_)
  refine ext_rev (s := { s with heap := s.heap.update S (Obj.mapSeq (fun _ => (#[] : Array Value))) }) hh (hit.at fun o e => oth _ _ (Ne.symm hSi) e) (hl.at fun o e => oth _ _ (Ne.symm hSl) e) hne hn hSi hSl .none _ hS₂ fun h' tk acc' c' hk hS' hacc => ?_
  exact hR h' tk acc' c' (fun b o hb hbi e => hk b o hb hbi (oth b o hb e)) hS' hacc
theorem call_list_rev {Q : Value → Shared → Prop} {it l : Addr} {items : Array Value} (hh : A.handled = none) (hit : s.heap.IsRevIter it l ((items.size : Int) - 1)) (hl : s.heap.IsList l items) (hne : l ≠ it) (hn : items.size ≤ sizeLine)
    (hQ : ∀ h' tk acc' c', (∀ b o, b ≠ it → s.heap.get? b = some o → h'.get? b = some o) →
      h'.get? s.heap.objs.size = some { cls := .type "list", dict := none, data := .seq acc' c', slots := #[] } → ItemsOf (fun i v => items[items.size - 1 - i]? = some v) acc' items.size → Q (.ref s.heap.objs.size) { s with heap := h', toks := tk }) :
    wpAny (model prog w) A (call (.type "list") [.ref it]) Q E s := by
  obtain ⟨oi, hoi, _⟩ := id hit
  obtain ⟨ol, hol, _⟩ := id hl
  refine callType_codes (Q₁ := fun obj s₁ => obj = .ref s.heap.objs.size ∧ s₁ = { s with heap := s.heap.push { cls := .type "list", data := .seq #[] } }) F.called_list (F.typeCall_list_1 _) F.entry_list_init
    (code_list_new _ ⟨rfl, rfl⟩) fun obj s₁ h₁ => ?_
  obtain ⟨rfl, rfl⟩ := h₁
  have hS : (s.heap.push { cls := .type "list", data := .seq #[] }).get? s.heap.objs.size = some { cls := .type "list", data := .seq #[] } := Heap.get?_push_size _ rfl
  refine ⟨⟨_, hS, rfl⟩, F.args_list_init_2 _ _, init_rev (A := A.in1) (s := { s with heap := s.heap.push { cls := .type "list", data := .seq #[] } }) hh (hit.at fun o e => Heap.get?_push_of_some _ e) (hl.push _) hne hn (Nat.ne_of_gt (Heap.lt_size hoi)) (Nat.ne_of_gt (Heap.lt_size hol)) hS fun h' tk acc' c' hk hS' hacc => ?_⟩
  exact ⟨rfl, hQ h' tk acc' c' (fun b o hb e => hk b o (Nat.ne_of_lt (Heap.lt_size e)) hb (Heap.get?_push_of_some _ e)) hS' hacc⟩
end
end RvL
namespace L2
open PySem PySem.Spec PyProof.Rows RT RvL
/-- an untracked new object is tracked from here on -/
theorem Inv.track {X : Cx} {pins : List (Addr × Obj)} {σ : St} {H : Hp} {s : Shared} {S : Addr} {o : HO} (I : Inv X pins σ H s) (fp : FpOk X pins H S) (new : ObjOk X.prog X.w (upd H S o) s.heap S o) : Inv X pins σ (upd H S o) s := by
  obtain ⟨f0, f1, f2, f3, f4, f5⟩ := fp
  refine I.step (h' := s.heap) (t' := s.toks) (g' := s.gens) (d' := s.drawn) (ch := [S]) (fun b hb => ?_) (fun b o _ _ _ e _ => e) (fun b o _ _ _ e _ => ⟨o.slots, e⟩) (fun b o hc _ n => ?_) (fun b o _ e => ⟨o, e⟩)
    (fun b xs e => by rw [upd_ne (ne_of_none e f0)]; exact e) (fun b ob u e => by rw [upd_ne (ne_of_none e f0)]; exact e) (fun b ps e => ⟨#[], by rw [upd_ne (ne_of_none e f0), e]; simp⟩) (fun m hm => hm) (fun b u e => ?_) I.bare
  · have e : b = S := by simpa using hb
    subst e
    exact ⟨f3, f1, f4, f5⟩
  · rw [upd_ne (fun z => hc (by simp [z]))]
    exact n
  · by_cases hb : b = S
    · subst hb
      rw [upd_same] at e
      cases e
      exact new
    · rw [upd_ne hb] at e
      exact (I.hok b u e).stay (fun c v _ q => q) (fun c q => by rw [upd_ne (ne_of_none q f0)]; exact q) fun c xs q => by rw [upd_ne (ne_of_none q f0)]; exact q
def tLstRev (K : PySem.W.Frag) (te : TE) : TE := fun σ H Q => te σ H fun v H1 => ∃ (a : Addr) (xs : List V), v = .ref a ∧ SqL K H1 a xs ∧ ∀ q, H1 q = none → Q (.ref q) (upd H1 q (.lst xs.reverse))
section
variable {X : Cx}
theorem pe_listRev {e : Expr} {te : TE} {p p2 pos pos2 : Pos} (hc : X.calm = true) (hg : Gl X "list") (hm : X.mg "list" = none) (hg2 : Gl X "reversed") (hm2 : X.mg "reversed" = none) (he : PE X e te)
    (hs : starEach [e] X.env = (false, eval e X.env) :: starEach [] X.env := by rfl)
    (hs2 : starEach [.Call (.Name "reversed" p2) [e] [] pos2] X.env = (false, eval (.Call (.Name "reversed" p2) [e] [] pos2) X.env) :: starEach [] X.env := by rfl) :
    PE X (.Call (.Name "list" p) [.Call (.Name "reversed" p2) [e] [] pos2] [] pos) (tLstRev X.K te) := by
  refine ⟨fun pins s σ H Q I h => ?_⟩
  refine Call_ (ld_blt I hg hm boot_list (PyProof.Rows.callWith_type1 (args_cons (Call_ (ld_blt I hg2 hm2 PyProof.Rows.boot_reversed (PyProof.Rows.callWith_type1 (args_cons (thn (he.run pins s σ H _ I h) fun u s1 ⟨v, H1, I1, r1, q1⟩ => args_nil ?_) hs) hs rfl))) hs2) hs2 rfl))
  obtain ⟨a, xs, ev, hq, q⟩ := q1
  subst ev
  obtain rfl : u = Value.ref a := r1
  obtain ⟨its, rv, p', hz⟩ := I1.list hq
  refine call_reversed_list p'.isList (args_nil ?_)
  have k0 : ∀ b o, s1.heap.get? b = some o → (s1.heap.push (revObj a ((its.toArray.size : Int) - 1))).get? b = some o := fun b o e => Heap.get?_push_of_some _ e
  have I2 : Inv X pins σ H1 { s1 with heap := s1.heap.push (revObj a ((its.toArray.size : Int) - 1)) } := I1.kept (t' := s1.toks) k0
  obtain ⟨f0, f1, f2, f3, f4, f5⟩ := I1.fpOk (H' := H1) (b := s1.heap.objs.size) (Nat.le_refl _) (I1.hok.fresh (Nat.le_refl _))
  have hl := p'.isList
  obtain ⟨ol, hol, _⟩ := id hl
  have hne : a ≠ s1.heap.objs.size := Nat.ne_of_lt (Heap.lt_size hol)
  have hn : its.toArray.size ≤ sizeLine := by rw [List.size_toArray, ← rv.length]; exact hz
  refine call_list_rev (s := { s1 with heap := s1.heap.push (revObj a ((its.toArray.size : Int) - 1)) }) (I1.ok.hd hc) ⟨_, Heap.get?_push_size _ rfl, rfl, rfl⟩ (hl.push _) hne hn fun h' tk acc c' hk e' hi => ?_
  have hsz : (s1.heap.push (revObj a ((its.toArray.size : Int) - 1))).objs.size = s1.heap.objs.size + 1 := Heap.size_push ..
  have hfr : H1 (s1.heap.objs.size + 1) = none := I1.hok.fresh (Nat.le_succ _)
  rw [hsz] at e'
  have I3 : Inv X pins σ H1 { s1 with heap := h', toks := tk } := I2.turned (t' := tk) (fun b o hb e => hk b o hb e) f0 f1 f3 f4 f5
  have hz2 : (s1.heap.push (revObj a ((its.toArray.size : Int) - 1))).objs.size ≤ s1.heap.objs.size + 1 := Nat.le_of_eq hsz
  refine ⟨.ref (s1.heap.objs.size + 1), upd H1 (s1.heap.objs.size + 1) (.lst xs.reverse), ?_, by rw [hsz]; rfl, q _ hfr⟩
  exact I3.track (I2.fpOk (H' := H1) (b := s1.heap.objs.size + 1) hz2 hfr) (show ObjOk X.prog X.w _ _ _ (.lst xs.reverse) from ⟨by rw [List.length_reverse]; exact hz, acc.toList, c', vals_rev rv hi, by rw [Array.toArray_toList]; exact e'⟩)
end
end L2

/-! What the readings come to: lists of ints. -/
namespace Tt
open PySem PySem.Spec PyProof.Rows L2 Evl

/-! ### data that is compared -/
structure Dat {α : Type} [DecidableEq α] (f : α → PyData) (n : Nat) : Prop where
  eq : ∀ a b, PyData.eqv (f a) (f b) = decide (a = b)
  can : ∀ a, (f a).canLay0 = true
  dep : ∀ a, (f a).depth ≤ n
theorem Dat.int : Dat PyData.int 0 := ⟨fun a b => by simp [PyData.eqv, BEq.beq], fun _ => rfl, fun _ => by simp [PyData.depth]⟩
theorem Dat.bool : Dat PyData.bool 0 := ⟨fun a b => by cases a <;> cases b <;> rfl, fun _ => rfl, fun _ => by simp [PyData.depth]⟩
theorem Dat.list {α : Type} [DecidableEq α] {f : α → PyData} {n : Nat} (d : Dat f n) : Dat (fun l : List α => PyData.list (l.map f)) (n + 1) where
  eq := fun a b => by
    show PyData.eqvAll (a.map f) (b.map f) = _
    induction a generalizing b with
    | nil => cases b <;> simp [PyData.eqvAll]
    | cons x a ih =>
      cases b with
      | nil => simp [PyData.eqvAll]
      | cons y b =>
        rw [List.map_cons, List.map_cons, PyData.eqvAll, d.eq, ih]
        by_cases h : x = y <;> by_cases h2 : a = b <;> simp [h, h2]
  can := fun a => by
    show PyData.canLayAll0 (a.map f) = true
    induction a with
    | nil => rfl
    | cons x a ih => rw [List.map_cons, PyData.canLayAll0, d.can, ih]; rfl
  dep := fun a => by
    have h : PyData.depthAll (a.map f) ≤ n := by
      induction a with
      | nil => simp [PyData.depthAll]
      | cons x a ih =>
        have := d.dep x
        simp only [List.map_cons, PyData.depthAll]
        omega
    simp only [PyData.depth]
    omega
theorem Dat.shaped {α : Type} [DecidableEq α] {f : α → PyData} {n : Nat} (d : Dat f n) (hn : n ≤ 64) (a : α) : SeqAt.shaped (f a) = true := by
  unfold SeqAt.shaped
  rw [d.can a]
  have := d.dep a
  simp only [Bool.true_and, decide_eq_true_eq]
  omega
abbrev dI (ns : List Int) : PyData := .list (ns.map PyData.int)
abbrev dB (ns : List Bool) : PyData := .list (ns.map PyData.bool)
abbrev dII (ns : List (List Int)) : PyData := .list (ns.map dI)
theorem dpAll {K : PySem.W.Frag} {H : Hp} {α : Type} {g : α → V} {f : α → PyData} (h : ∀ a, Dp K H (g a) (f a)) : ∀ l : List α, DpAll K H (l.map g) (l.map f)
  | [] => .nil
  | a :: l => .cons (h a) (dpAll h l)

/-! ### lists of ints in the heap -/
abbrev At (H : Hp) (a : Addr) (ns : List Int) : Prop := H a = some (.lst (ns.map V.int))
section
variable {K : PySem.W.Frag} {σ : L2.St} {H H' : Hp} {ta tb te tx : TE} {t u : TT} {x y z v : V} {r : R2} {a b p q l : Addr} {ns ms : List Int} {xs ys : List V}
theorem Dp.ints (h : SqL K H a (ns.map V.int)) : Dp K H (.ref a) (dI ns) := .lst h (dpAll (fun i => .int i) ns)
theorem Dp.bools {bs : List Bool} (h : SqL K H a (bs.map V.bl)) : Dp K H (.ref a) (dB bs) := .lst h (dpAll (fun i => .bl i) bs)
/-- a list, new or not -/
def EvR (te : TE) (σ : L2.St) (H : Hp) (xs : List V) : Prop := ∀ H1, Ex H H1 → ∀ Q : VK, (∀ p H2, Ex H1 H2 → H2 p = some (.lst xs) → Q (.ref p) H2) → te σ H1 Q
theorem EvR.new (h : EvL te σ H xs) : EvR te σ H xs := fun H1 e Q q => h H1 e Q fun p H2 _ e2 h2 => q p H2 e2 h2
theorem EvR.old (h : Ev te σ H (.ref a)) (ha : H a = some (.lst xs)) : EvR te σ H xs := fun H1 e Q q => h H1 e Q fun H2 e2 => q a H2 e2 (e2 _ _ (e _ _ ha))
theorem EvR.mono (e : Ex H H') (h : EvR te σ H xs) : EvR te σ H' xs := fun H1 a Q q => h H1 (e.trans a) Q q
theorem ev_eqR (ha : EvR ta σ H (ns.map V.int)) (hb : EvR tb σ H (ms.map V.int)) : Ev (tOp (rEqD K) ta tb) σ H (.bl (decide (ns = ms))) := fun H1 e Q q =>
  ha H1 e _ fun p H2 e2 hp => hb H2 (e.trans e2) _ fun r H3 e3 hr =>
    ⟨dI ns, dI ms, Dp.ints (sq_of (e3 _ _ hp)), Dp.ints (sq_of hr), Dat.int.list.shaped (by decide) ns, Dat.int.list.shaped (by decide) ms, by rw [Dat.int.list.eq]; exact q H3 (e2.trans e3)⟩
theorem ev_neR (ha : EvR ta σ H (ns.map V.int)) (hb : EvR tb σ H (ms.map V.int)) : Ev (tOp (rNeD K) ta tb) σ H (.bl (!decide (ns = ms))) := fun H1 e Q q =>
  ha H1 e _ fun p H2 e2 hp => hb H2 (e.trans e2) _ fun r H3 e3 hr =>
    ⟨dI ns, dI ms, Dp.ints (sq_of (e3 _ _ hp)), Dp.ints (sq_of hr), Dat.int.list.shaped (by decide) ns, Dat.int.list.shaped (by decide) ms, by rw [Dat.int.list.eq]; exact q H3 (e2.trans e3)⟩
theorem el_cat (ha : EvR ta σ H xs) (hb : EvR tb σ H ys) (hz : xs.length + ys.length ≤ 100000) : EvL (tOp rCat ta tb) σ H (xs ++ ys) := fun H1 e Q q =>
  ha H1 e _ fun p H2 e2 hp => hb H2 (e.trans e2) _ fun r H3 e3 hr =>
    ⟨p, r, xs, ys, rfl, rfl, e3 _ _ hp, hr, sz_of hz, fun s hs => q s _ (fresh_back (e2.trans e3) hs) ((e2.trans e3).trans (Ex.new hs)) upd_same⟩
theorem rv_ix {i : Int} {x : Int} (j : Nat) (h : SqL K H a (ns.map V.int)) (ej : i = (j : Int)) (e : ns[j]? = some x) : RV (rIxL K) (.ref a) (.int i) H (.int x) :=
  rv_ixL h (at_of ej (by rw [List.getElem?_map, e]; rfl))
/-- an item of a list that is read -/
theorem ev_ixR {i : Int} {x : Int} (j : Nat) (ha : EvR ta σ H (ns.map V.int)) (hb : Ev tb σ H (.int i)) (ej : i = (j : Int)) (e : ns[j]? = some x) : Ev (tOp (rIxL K) ta tb) σ H (.int x) := fun H1 e1 Q q =>
  ha H1 e1 _ fun p H2 e2 hp => hb H2 (e1.trans e2) _ fun H3 e3 => rv_ix j (sq_of (e3 _ _ hp)) ej e H3 (Ex.refl H3) Q fun H4 e4 => q H4 ((e2.trans e3).trans e4)
theorem ev_lenI (ha : Ev ta σ H (.ref a)) (h : SqL K H a (ns.map V.int)) : Ev (tCB (rLenS K) (tCons ta tNil)) σ H (.int (ns.length : Int)) := by
  have := ev_len (K := K) ha h
  rwa [List.length_map] at this
theorem ev_lenR (ha : EvR ta σ H (ns.map V.int)) : Ev (tCB (rLenS K) (tCons ta tNil)) σ H (.int (ns.length : Int)) := fun H1 e Q q =>
  ha H1 e _ fun p H2 e2 h2 => ⟨p, ns.map V.int, rfl, Or.inl (sq_of h2), by rw [List.length_map]; exact q H2 e2⟩
theorem el_listR (ha : EvR ta σ H xs) : EvL (tCB (rListS K) (tCons ta tNil)) σ H xs := fun H1 e Q q =>
  ha H1 e _ fun p H2 e2 h2 => ⟨p, xs, rfl, Or.inl (sq_of h2), fun l hl => q l _ (fresh_back e2 hl) (e2.trans (Ex.new hl)) upd_same⟩
theorem rgV_rng (n : Nat) : rgV 1 ((n : Int) + 1) = (rng n).map V.int := by
  unfold rgV rng
  rw [List.map_map]
  have e : ((n : Int) + 1 - 1).toNat = n := by omega
  rw [e]
  rfl
theorem el_rng {n : Nat} {m : Int} (ha : Ev ta σ H (.int 1)) (hb : Ev tb σ H (.int m)) (em : m = (n : Int) + 1) (hn : n ≤ 100000) : EvL (tLstRg (tRg2 ta tb)) σ H ((rng n).map V.int) := fun H1 e Q q =>
  ha H1 e _ fun H2 e2 => hb H2 (e.trans e2) _ fun H3 e3 => ⟨1, m, rfl, rfl, RgOk.of_le (by omega) (by omega) (by omega) (by omega), fun p hp => q p _ (fresh_back (e2.trans e3) hp) ((e2.trans e3).trans (Ex.new hp)) (by rw [upd_same, em, rgV_rng])⟩
theorem el_rev (ha : EvR te σ H xs) : EvL (tLstRev K te) σ H xs.reverse := fun H1 e Q q =>
  ha H1 e _ fun p H2 e2 hp => ⟨p, xs, rfl, sq_of hp, fun s hs => q s _ (fresh_back e2 hs) (e2.trans (Ex.new hs)) upd_same⟩
theorem cut_to (xs : List V) {k : Int} (h : 0 ≤ k) : cutV xs none (some k) = xs.take k.toNat := by
  obtain ⟨j, rfl⟩ : ∃ j : Nat, k = (j : Int) := ⟨k.toNat, by omega⟩
  unfold cutV
  rw [HT.sIx_nat, HT.sIx_none]
  rw [List.drop_zero, Nat.sub_zero]
  show xs.take (min j xs.length) = xs.take j
  by_cases hj : j ≤ xs.length
  · rw [Nat.min_eq_left hj]
  · rw [List.take_of_length_le (by omega), List.take_of_length_le (by omega)]
theorem cut_from (xs : List V) {k : Int} (h : 0 ≤ k) : cutV xs (some k) none = xs.drop k.toNat := by
  obtain ⟨j, rfl⟩ : ∃ j : Nat, k = (j : Int) := ⟨k.toNat, by omega⟩
  unfold cutV
  rw [HT.sIx_nat, HT.sIx_none]
  show List.take (xs.length - min j xs.length) (List.drop (min j xs.length) xs) = xs.drop j
  by_cases hj : j ≤ xs.length
  · rw [Nat.min_eq_left hj, List.take_of_length_le (by rw [List.length_drop]; omega)]
  · rw [List.drop_of_length_le (by omega), List.drop_of_length_le (by omega), List.take_nil]
theorem el_sl2 {tl th : TO} {lo hi : Option Int} (h : EvR te σ H xs) (h1 : EvO tl σ H lo) (h2 : EvO th σ H hi) : EvL (tSl (rSlL K) te tl th) σ H (cutV xs lo hi) := fun H1 e _ q =>
  h H1 e _ fun a H2 e2 ha => h1 H2 (e.trans e2) _ fun H3 e3 => h2 H3 ((e.trans e2).trans e3) _ fun H4 e4 =>
    ⟨a, xs, rfl, sq_of (e4 _ _ (e3 _ _ ha)), fun p hp => q p _ (fresh_back ((e2.trans e3).trans e4) hp) (((e2.trans e3).trans e4).trans (Ex.new hp)) upd_same⟩
theorem el_take {th : TO} {k : Int} (h : EvR te σ H (ns.map V.int)) (h2 : EvO th σ H (some k)) (hk : 0 ≤ k) : EvL (tSl (rSlL K) te tNoPart th) σ H ((ns.take k.toNat).map V.int) := by
  rw [List.map_take, ← cut_to _ hk]
  exact el_sl2 h eo_none h2
theorem el_drop {tl : TO} {k : Int} (h : EvR te σ H (ns.map V.int)) (h2 : EvO tl σ H (some k)) (hk : 0 ≤ k) : EvL (tSl (rSlL K) te tl tNoPart) σ H ((ns.drop k.toNat).map V.int) := by
  rw [List.map_drop, ← cut_from _ hk]
  exact el_sl2 h h2 eo_none
/-- the one rising list of these ints -/
def srt (ns : List Int) : List Int := ns.mergeSort (fun a b => decide (a ≤ b))
theorem srt_perm (ns : List Int) : (srt ns).Perm ns := List.mergeSort_perm ns _
theorem srt_le (ns : List Int) : (srt ns).Pairwise (· ≤ ·) := by
  have h := List.pairwise_mergeSort (le := fun a b : Int => decide (a ≤ b)) (fun a b c h1 h2 => by simp at *; omega) (fun a b => by simp; omega) ns
  exact h.imp fun h => by simpa using h
theorem srt_one {ns l : List Int} (hp : l.Perm ns) (hs : l.Pairwise (· ≤ ·)) : l = srt ns :=
  (hp.trans (srt_perm ns).symm).eq_of_pairwise (fun a b _ _ h1 h2 => Int.le_antisymm h1 h2) hs (srt_le ns)
theorem srt_rng (ns : List Int) : srt ns = rng ns.length ↔ IsDk ns := isDk_iff (srt_perm ns) (srt_le ns)
theorem el_sorted (ha : EvR ta σ H (ns.map V.int)) : EvL (tCB (rSortedI K) (tCons ta tNil)) σ H ((srt ns).map V.int) := fun H1 e Q q =>
  ha H1 e _ fun a H2 e2 h2 => ⟨a, ns, rfl, sq_of h2, fun ns' p hp hs hn => q p _ (fresh_back e2 hn) (e2.trans (Ex.new hn)) (by rw [upd_same, srt_one hp hs])⟩
/-- isinstance(x, c), c built in -/
theorem ev_isi {T : String} {c : String} {bb : Bool} (ha : Ev ta σ H x) (ty : ∀ H1, Ex H H1 → TyX K H1 x (.type T)) (hk : kitB T c = some bb) : Ev (tCB (rIsi K) (tCons ta (tCons (tC (.ty c)) tNil))) σ H (.bl bb) := fun H1 e Q q =>
  ha H1 e _ fun H2 e2 => ⟨x, .ty c, .type T, .type c, bb, rfl, .ty c, ty H2 (e.trans e2), kit_ty hk, q H2 e2⟩
variable {D : Ends} {tz : TS}
/-- l.append(p.pop(i)) -/
theorem s_appPop {j : Nat} {i : Int} (hl : H l = some (.lst xs)) (hp : H p = some (.lst ys)) (ne : l ≠ p) (ha : Ev ta σ H (.ref l)) (hb : Ev tb σ H (.ref p)) (hi : Ev te σ H (.int i)) (ei : i = (j : Int)) (hj : ys[j]? = some y) (hy : ys.length ≤ 1000) (hz : xs.length < 100000)
    (k : ∀ H1, Ex H H1 → D.nx σ (upd (upd H1 p (.lst (ys.eraseIdx j))) l (.lst (xs ++ [y])))) :
    tDrop (tBM K "list" rAppend ta (tCons (tBM K "list" rPopAt tb (tCons te tNil)) tNil)) D σ H := ha H (Ex.refl H) _ fun H1 e1 =>
  ⟨Or.inl ⟨rfl, xs, sq_of (e1 l _ hl)⟩, hb H1 e1 _ fun H2 e2 => ⟨Or.inl ⟨rfl, ys, sq_of (e2 _ _ (e1 _ _ hp))⟩, hi H2 (e1.trans e2) _ fun H3 e3 => by
    have hlt : j < ys.length := (List.getElem?_eq_some_iff.mp hj).1
    refine ⟨p, ys, i, j, y, rfl, rfl, e3 _ _ (e2 _ _ (e1 _ _ hp)), by omega, by omega, by rw [ei]; exact seqIndex_of (by omega) (by omega), hj, ?_⟩
    exact ⟨l, xs, y, rfl, rfl, by rw [upd_ne ne]; exact e3 _ _ (e2 _ _ (e1 _ _ hl)), sz_lt hz, k H3 ((e1.trans e2).trans e3)⟩⟩⟩
/-- l.remove(k) -/
theorem q_remove {k : Int} {j : Nat} (hl : At H l ns) (ha : Ev ta σ H (.ref l)) (hi : Ev te σ H (.int k)) (hj : ns[j]? = some k) (hno : ∀ m : Nat, m < j → ns[m]? ≠ some k) (c : ∀ H1, Ex H H1 → tz D σ (upd H1 l (.lst ((ns.eraseIdx j).map V.int)))) :
    tSeq (tDrop (tBM K "list" rRemI ta (tCons te tNil))) tz D σ H := ha H (Ex.refl H) _ fun H1 e1 =>
  ⟨Or.inl ⟨rfl, _, sq_of (e1 l _ hl)⟩, hi H1 e1 _ fun H2 e2 => ⟨l, ns, k, j, rfl, rfl, e2 _ _ (e1 _ _ hl), hj, hno, c H2 (e1.trans e2)⟩⟩
end
end Tt
namespace Tt
open PySem PySem.Spec PyProof.Rows L2 Evl
/-! ### an int of which something is known -/
def EvI (te : TE) (σ : L2.St) (H : Hp) (P : Int → Prop) : Prop := ∀ H1, Ex H H1 → ∀ Q : VK, (∀ z H2, Ex H1 H2 → P z → Q (.int z) H2) → te σ H1 Q
section
variable {K : PySem.W.Frag} {σ : L2.St} {H H' : Hp} {ta tb te : TE} {P R : Int → Prop} {i j : Int}
theorem ei_ev (h : Ev te σ H (.int i)) (p : P i) : EvI te σ H P := fun H1 e Q q => h H1 e Q fun H2 e2 => q i H2 e2 p
theorem ei_imp (h : EvI te σ H P) (c : ∀ z, P z → R z) : EvI te σ H R := fun H1 e Q q => h H1 e Q fun z H2 e2 p => q z H2 e2 (c z p)
theorem EvI.mono (e : Ex H H') (h : EvI te σ H P) : EvI te σ H' P := fun H1 a Q q => h H1 (e.trans a) Q q
theorem ei_mod (ha : EvI ta σ H P) (hb : Ev tb σ H (.int j)) (hj : 0 < j) : EvI (tOp (rI (fun _ j => 0 < j) fun i j => .int (i % j)) ta tb) σ H (fun z => 0 ≤ z ∧ z < j) := fun H1 e Q q =>
  ha H1 e _ fun i H2 e2 _ => hb H2 (e.trans e2) _ fun H3 e3 => ⟨i, j, rfl, rfl, hj, q _ H3 (e2.trans e3) ⟨Int.emod_nonneg _ (by omega), Int.emod_lt_of_pos _ hj⟩⟩
theorem ei_fdiv (ha : EvI ta σ H P) (hb : Ev tb σ H (.int j)) (hj : 0 < j) (h2 : j < 1073741824) : EvI (tOp (rI CDivN fun i j => .int (i.fdiv j)) ta tb) σ H (fun _ => True) := fun H1 e Q q =>
  ha H1 e _ fun i H2 e2 _ => hb H2 (e.trans e2) _ fun H3 e3 => ⟨i, j, rfl, rfl, ⟨by omega, by omega⟩, q _ H3 (e2.trans e3) True.intro⟩
theorem ei_op {f : Int → Int → Int} (ha : EvI ta σ H P) (hb : EvI tb σ H R) : EvI (tOp (rI0 fun i j => .int (f i j)) ta tb) σ H (fun z => ∃ x y, P x ∧ R y ∧ z = f x y) := fun H1 e Q q =>
  ha H1 e _ fun i H2 e2 pi => hb H2 (e.trans e2) _ fun j H3 e3 rj => ⟨i, j, rfl, rfl, q _ H3 (e2.trans e3) ⟨i, j, pi, rj, rfl⟩⟩
variable {D : Ends} {tu tw tz : TS}
theorem q_asgI {k : Nat} (h : EvI te σ H P) (c : ∀ z H1, P z → Ex H H1 → tz D (σ.set k (some (.int z))) H1) : tSeq (tAsg te (gName k)) tz D σ H := h H (Ex.refl _) _ fun z H1 e p => c z H1 p e
theorem s_asgI {k : Nat} (h : EvI te σ H P) (c : ∀ z H1, P z → Ex H H1 → D.nx (σ.set k (some (.int z))) H1) : tAsg te (gName k) D σ H := h H (Ex.refl _) _ fun z H1 e p => c z H1 p e
/-- a test of which the answer is either -/
def EvTP (t : TT) (σ : L2.St) (H : Hp) : Prop := ∀ H1, Ex H H1 → ∀ Q : Bool → Hp → Prop, (∀ b H2, Ex H1 H2 → Q b H2) → t σ H1 Q
theorem ep_eq (ha : EvI ta σ H P) (hb : EvI tb σ H R) : EvTP (tTest (tOp rEq ta tb)) σ H := fun H1 e Q q =>
  ha H1 e _ fun i H2 e2 _ => hb H2 (e.trans e2) _ fun j H3 e3 _ => ⟨rfl, _, rfl, q _ H3 (e2.trans e3)⟩
theorem ep_gt (ha : EvI ta σ H P) (hb : EvI tb σ H R) : EvTP (tTest (tOp (rI0 fun i j => .bl (decide (j < i))) ta tb)) σ H := fun H1 e Q q =>
  ha H1 e _ fun i H2 e2 _ => hb H2 (e.trans e2) _ fun j H3 e3 _ => ⟨i, j, rfl, rfl, _, rfl, q _ H3 (e2.trans e3)⟩
theorem q_any {t : TT} (h : EvTP t σ H) (h1 : ∀ H1, Ex H H1 → tu { D with nx := tz D } σ H1) (h2 : ∀ H1, Ex H H1 → tz D σ H1) : tSeq (tIfS t tu tNext) tz D σ H := h H (Ex.refl _) _ fun b H1 e => by
  cases b with
  | true => exact h1 H1 e
  | false => exact h2 H1 e
theorem given_filter (p : Int → Bool) (ms : List Int) : given ms.length (fun i => p (ms.getD i 0)) (fun i => V.int (ms.getD i 0)) = (ms.filter p).map V.int := by
  have e : (List.range ms.length).map (fun i => ms.getD i 0) = ms := by
    refine List.ext_getElem? fun i => ?_
    by_cases hi : i < ms.length
    · rw [List.getElem?_map, List.getElem?_range hi, List.getElem?_eq_getElem hi]
      simp [List.getD_eq_getElem?_getD, List.getElem?_eq_getElem hi]
    · rw [List.getElem?_eq_none (by simp; omega), List.getElem?_eq_none (by omega)]
  unfold given
  have h2 : (ms.filter p) = ((List.range ms.length).filter (p ∘ fun i => ms.getD i 0)).map (fun i => ms.getD i 0) := by
    rw [← List.filter_map, e]
  rw [h2, List.map_map]
  rfl
theorem rv_eqI {i j : Int} : RV rEq (.int i) (.int j) H (.bl (decide (i = j))) := fun H1 _ _ q => ⟨rfl, by
  have e : decide (V.int i = V.int j) = decide (i = j) := by simp
  rw [e]
  exact q H1 (Ex.refl H1)⟩
theorem rv_neI {i j : Int} : RV rNe (.int i) (.int j) H (.bl (!decide (i = j))) := fun H1 _ _ q => ⟨rfl, by
  have e : decide (V.int i = V.int j) = decide (i = j) := by simp
  rw [e]
  exact q H1 (Ex.refl H1)⟩
theorem ei_ix {ns : List Int} (ha : EvR ta σ H (ns.map V.int)) (hb : EvI tb σ H (fun z => 0 ≤ z ∧ z < (ns.length : Int))) : EvI (tOp (rIxL K) ta tb) σ H (fun x => x ∈ ns) := fun H1 e Q q =>
  ha H1 e _ fun p H2 e2 hp => hb H2 (e.trans e2) _ fun i H3 e3 hi => by
    have hlt : i.toNat < ns.length := by omega
    have ei : ns[i.toNat]? = some ns[i.toNat] := List.getElem?_eq_getElem hlt
    exact rv_ix i.toNat (sq_of (e3 _ _ hp)) (by omega) ei H3 (Ex.refl H3) Q fun H4 e4 => q _ H4 ((e2.trans e3).trans e4) (List.mem_of_getElem? ei)
/-- a new list of ints of which something is known -/
def EvLP (te : TE) (σ : L2.St) (H : Hp) (P : List Int → Prop) : Prop := ∀ H1, Ex H H1 → ∀ Q : VK, (∀ p ns H2, H1 p = none → Ex H1 H2 → At H2 p ns → P ns → Q (.ref p) H2) → te σ H1 Q
theorem q_asgLP {k : Nat} {P : List Int → Prop} (h : EvLP te σ H P) (c : ∀ p ns H1, H p = none → Ex H H1 → At H1 p ns → P ns → tz D (σ.set k (some (.ref p))) H1) : tSeq (tAsg te (gName k)) tz D σ H := h H (Ex.refl _) _ fun p ns H1 n e hp pn => c p ns H1 n e hp pn
theorem s_asgLP {k : Nat} {P : List Int → Prop} (h : EvLP te σ H P) (c : ∀ p ns H1, H p = none → Ex H H1 → At H1 p ns → P ns → D.nx (σ.set k (some (.ref p))) H1) : tAsg te (gName k) D σ H := h H (Ex.refl _) _ fun p ns H1 n e hp pn => c p ns H1 n e hp pn
/-- for i in range(n), n not known; the word does not speak of the turn -/
theorem q_forRI {j : Nat} {m : Int} (h : EvI te σ H (fun z => 0 ≤ z ∧ z < m)) (hm : m ≤ 100000) (Pv : L2.St → Hp → Prop) (h0 : ∀ H1, Ex H H1 → Pv σ H1)
    (hs : ∀ (i : Nat) σ' H', (i : Int) < m → Pv σ' H' → tu { D with nx := Pv, ct := Pv, bk := tz D } (σ'.set j (some (.int (i : Int)))) H') (hd : ∀ σ' H', Pv σ' H' → tz D σ' H') : tSeq (tFor (iRng1 (tCons te tNil)) (gName j) tu) tz D σ H :=
  h H (Ex.refl H) _ fun z H1 e hz => ⟨z, rfl, by omega, by omega, for_range (lo := 0) (n := z.toNat) (fun _ => Pv) (h0 H1 e) (fun i σ' H' hi p => by
    have e0 : (0 : Int) + (i : Int) = (i : Int) := Int.zero_add _
    show tu { D with nx := Pv, ct := Pv, bk := tz D } (σ'.set j (some (.int ((0 : Int) + (i : Int))))) H'
    rw [e0]
    exact hs i σ' H' (by omega) p) fun σ' H' p => hd σ' H' p⟩
/-- a list is stored anew, perhaps -/
theorem q_maybe {k : Nat} {P : List Int → Prop} {t : TT} {p0 : Addr} {ns0 : List Int} (h : EvTP t σ H) (h1 : EvLP te σ H P) (hσ : σ.set k (some (.ref p0)) = σ) (h0 : At H p0 ns0) (hP : P ns0) (c : ∀ p ns H1, Ex H H1 → At H1 p ns → P ns → tz D (σ.set k (some (.ref p))) H1) :
    tSeq (tIfS t (tAsg te (gName k)) tNext) tz D σ H :=
  q_any h (fun H1 e1 => s_asgLP (D := { D with nx := tz D }) (fun H2 e2 Q q => h1 H2 (e1.trans e2) Q q) fun p ns H2 _ e2 hp pn => c p ns H2 (e1.trans e2) hp pn) (fun H1 e1 => by
    have g := c p0 ns0 H1 e1 (e1 _ _ h0) hP
    rw [hσ] at g
    exact g)
theorem ei_c {i : Int} : EvI (tC (.int i)) σ H (fun z => z = i) := ei_ev ev_c rfl
theorem EvLP.imp {P R : List Int → Prop} (h : EvLP te σ H P) (c : ∀ z, P z → R z) : EvLP te σ H R := fun H1 e Q q => h H1 e Q fun p ns H2 n e2 hp pn => q p ns H2 n e2 hp (c ns pn)
/-- an item of a list is an int -/
theorem int_item {ns : List Int} {i : Nat} {y : V} (h : (ns.map V.int)[i]? = some y) : ∃ c, ns[i]? = some c ∧ y = V.int c := by
  rw [List.getElem?_map] at h
  cases e : ns[i]? with
  | none => rw [e] at h; cases h
  | some c => rw [e] at h; exact ⟨c, rfl, (Option.some.inj h).symm⟩
theorem upd_at {p b : Addr} {o u : HO} (h : H b = some u) (ne : b ≠ p) : (upd H p o) b = some u := by
  rw [upd_ne ne]
  exact h
/-- a call of one argument that is a list, new or not -/
theorem el_call1R {sp : Sp} {E : XK} {xs ys : List V} (h : EvR te σ H xs) (hs : ∀ p H1, Ex H H1 → H1 p = some (.lst xs) → SpL sp [.ref p] H1 ys) : EvL (tCall sp [] E (tCons te tNil)) σ H ys := fun H1 e Q q =>
  h H1 e _ fun p H2 e2 hp => hs p H2 (e.trans e2) hp H2 (Ex.refl _) Q (fun r H3 nr e3 hr => q r H3 (fresh_back e2 nr) (e2.trans e3) hr) E
theorem ev_call1R {sp : Sp} {E : XK} {xs : List V} {z : V} (h : EvR te σ H xs) (hs : ∀ p H1, Ex H H1 → H1 p = some (.lst xs) → SpV sp [.ref p] H1 z) : Ev (tCall sp [] E (tCons te tNil)) σ H z := fun H1 e Q q =>
  h H1 e _ fun p H2 e2 hp => hs p H2 (e.trans e2) hp H2 (Ex.refl _) Q (fun H3 e3 => q H3 (e2.trans e3)) E
theorem el_call2R {sp : Sp} {E : XK} {xs ys zs : List V} (h : EvR ta σ H xs) (h2 : EvR tb σ H ys) (hs : ∀ p q H1, Ex H H1 → H1 p = some (.lst xs) → H1 q = some (.lst ys) → SpL sp [.ref p, .ref q] H1 zs) : EvL (tCall sp [] E (tCons ta (tCons tb tNil))) σ H zs := fun H1 e Q q =>
  h H1 e _ fun p H2 e2 hp => h2 H2 (e.trans e2) _ fun r H3 e3 hr => hs p r H3 ((e.trans e2).trans e3) (e3 _ _ hp) hr H3 (Ex.refl _) Q (fun x H4 nx e4 hx => q x H4 (fresh_back (e2.trans e3) nx) ((e2.trans e3).trans e4) hx) E
/-- for x in reversed(xs) -/
theorem q_forRev {a : Addr} {xs : List V} {j : Nat} (h : Ev ta σ H (.ref a)) (hx : SqL K H a xs) (Pv : Nat → L2.St → Hp → Prop) (h0 : ∀ H1, Ex H H1 → Pv 0 σ H1) (hl : ∀ i σ' H', Pv i σ' H' → SqL K H' a xs)
    (hs : ∀ i x σ' H', i < xs.length → xs[xs.length - 1 - i]? = some x → Pv i σ' H' → tu { D with nx := Pv (i + 1), ct := Pv (i + 1), bk := tz D } (σ'.set j (some x)) H') (hd : ∀ σ' H', Pv xs.length σ' H' → tz D σ' H') : tSeq (tFor (iRev K (tCons ta tNil)) (gName j) tu) tz D σ H :=
  h H (Ex.refl H) _ fun H1 e => ⟨a, xs, rfl, ex_l e hx, RT.for_Itv (D := { D with nx := tz D }) Pv (h0 H1 e) hl hs hd⟩
theorem et_yes {σ : L2.St} {H : Hp} : EvT tYes σ H true := fun H1 _ Q q => q H1 (Ex.refl H1)
theorem given_int (n : Nat) (g : Nat → Int) : given n (fun _ => true) (fun i => V.int (g i)) = ((List.range n).map g).map V.int := by
  unfold given
  rw [List.filter_eq_self.mpr (fun _ _ => rfl), List.map_map]
  rfl
theorem range_getD {α : Type} (l : List α) (d : α) : (List.range l.length).map (fun i => l.getD i d) = l := by
  refine List.ext_getElem? fun i => ?_
  by_cases hi : i < l.length
  · rw [List.getElem?_map, List.getElem?_range hi, List.getElem?_eq_getElem hi]
    simp [List.getD_eq_getElem?_getD, List.getElem?_eq_getElem hi]
  · rw [List.getElem?_eq_none (by simp; omega), List.getElem?_eq_none (by omega)]
theorem at_nat {α : Type} {xs : List α} {j : Nat} {x : α} (h : xs[j]? = some x) : atI xs (j : Int) = some x := by
  have hj := (List.getElem?_eq_some_iff.mp h).1
  unfold atI
  rw [ixN_nat hj]
  exact h
/-- a list of ints of which something is known, new or not -/
def EvRP (te : TE) (σ : L2.St) (H : Hp) (P : List Int → Prop) : Prop := ∀ H1, Ex H H1 → ∀ Q : VK, (∀ p ns H2, Ex H1 H2 → At H2 p ns → P ns → Q (.ref p) H2) → te σ H1 Q
theorem EvRP.ofR {ns : List Int} (h : EvR te σ H (ns.map V.int)) : EvRP te σ H (fun l => l = ns) := fun H1 e Q q => h H1 e Q fun p H2 e2 hp => q p ns H2 e2 hp rfl
theorem EvRP.ofL {P : List Int → Prop} (h : EvLP te σ H P) : EvRP te σ H P := fun H1 e Q q => h H1 e Q fun p ns H2 _ e2 hp pn => q p ns H2 e2 hp pn
theorem EvLP.ofL {P : List Int → Prop} {ns : List Int} (h : EvL te σ H (ns.map V.int)) (hP : P ns) : EvLP te σ H P := fun H1 e Q q => h H1 e Q fun p H2 np e2 hp => q p ns H2 np e2 hp hP
theorem elp_cat {P R : List Int → Prop} (ha : EvRP ta σ H P) (hb : EvRP tb σ H R) (hz : ∀ ns ms, P ns → R ms → ns.length + ms.length ≤ 100000) : EvLP (tOp rCat ta tb) σ H (fun l => ∃ ns ms, P ns ∧ R ms ∧ l = ns ++ ms) := fun H1 e Q q =>
  ha H1 e _ fun p ns H2 e2 hp pn => hb H2 (e.trans e2) _ fun r ms H3 e3 hr pm => by
    refine ⟨p, r, ns.map V.int, ms.map V.int, rfl, rfl, e3 _ _ hp, hr, sz_of (by rw [List.length_map, List.length_map]; exact hz ns ms pn pm), fun s hs => ?_⟩
    rw [← List.map_append]
    exact q s (ns ++ ms) _ (fresh_back (e2.trans e3) hs) ((e2.trans e3).trans (Ex.new hs)) upd_same ⟨ns, ms, pn, pm, rfl⟩
theorem elp3 {tc : TE} {P R S : Int → Prop} (ha : EvI ta σ H P) (hb : EvI tb σ H R) (hc : EvI tc σ H S) : EvLP (tLst (tCons ta (tCons tb (tCons tc tNil)))) σ H (fun l => l.length = 3) := fun H1 e Q q =>
  ha H1 e _ fun i H2 e2 _ => hb H2 (e.trans e2) _ fun j H3 e3 _ => hc H3 ((e.trans e2).trans e3) _ fun k H4 e4 _ => ⟨by show 3 ≤ sizeLine; decide, fun p hp => q p [i, j, k] _ (fresh_back ((e2.trans e3).trans e4) hp) (((e2.trans e3).trans e4).trans (Ex.new hp)) upd_same rfl⟩
theorem ei_ixP {P : List Int → Prop} {R : Int → Prop} (ha : EvRP ta σ H P) (hb : EvI tb σ H R) (hi : ∀ ns z, P ns → R z → 0 ≤ z ∧ z < (ns.length : Int)) : EvI (tOp (rIxL K) ta tb) σ H (fun _ => True) := fun H1 e Q q =>
  ha H1 e _ fun p ns H2 e2 hp pn => hb H2 (e.trans e2) _ fun i H3 e3 ri => by
    obtain ⟨i0, i1⟩ := hi ns i pn ri
    have hlt : i.toNat < ns.length := by omega
    have ei : ns[i.toNat]? = some ns[i.toNat] := List.getElem?_eq_getElem hlt
    exact rv_ix i.toNat (sq_of (e3 _ _ hp)) (by omega) ei H3 (Ex.refl H3) Q fun H4 e4 => q _ H4 ((e2.trans e3).trans e4) True.intro
theorem ei_fdivP {P : Int → Prop} {j : Int} (ha : EvI ta σ H P) (hb : Ev tb σ H (.int j)) (hj : 0 < j) (h2 : j < 1073741824) : EvI (tOp (rI CDivN fun i j => .int (i.fdiv j)) ta tb) σ H (fun z => ∃ x, P x ∧ z = x.fdiv j) := fun H1 e Q q =>
  ha H1 e _ fun i H2 e2 pi => hb H2 (e.trans e2) _ fun H3 e3 => ⟨i, j, rfl, rfl, ⟨by omega, by omega⟩, q _ H3 (e2.trans e3) ⟨i, pi, rfl⟩⟩
/-- a list times a number of which something is known -/
theorem elp_rep {x : Int} {R : Int → Prop} (ha : Ev ta σ H (.int x)) (hb : EvI tb σ H R) (hR : ∀ z, R z → 0 ≤ z ∧ z ≤ 100) : EvLP (tOp rRep (tLst (tCons ta tNil)) tb) σ H (fun l => l.length ≤ 100) := fun H1 e Q q =>
  ha H1 e _ fun H2 e2 => ⟨by show 1 ≤ sizeLine; decide, fun p hp => hb _ ((e.trans e2).trans (Ex.new hp)) _ fun k H3 e3 rk => by
    obtain ⟨k0, k1⟩ := hR k rk
    have ex : Ex H1 H3 := (e2.trans (Ex.new hp)).trans e3
    refine ⟨p, k, [.int x], rfl, rfl, e3 _ _ upd_same, by omega, by omega, sz_of (by rw [List.length_singleton]; omega), fun r hr => ?_⟩
    have e0 : (List.replicate k.toNat [V.int x]).flatten = (List.replicate k.toNat x).map V.int := by
      generalize k.toNat = n
      induction n with
      | zero => rfl
      | succ n ih => rw [List.replicate_succ, List.replicate_succ, List.flatten_cons, ih]; rfl
    refine q r (List.replicate k.toNat x) _ (fresh_back ex hr) (ex.trans (Ex.new hr)) ?_ (by show (List.replicate k.toNat x).length ≤ 100; rw [List.length_replicate]; omega)
    show upd _ _ _ _ = _
    rw [upd_same, e0]⟩
/-- an if without else, both ways coming to Inv -/
theorem q_two {D : Ends} {tu tz : TS} {t : TT} (M : L2.St → Hp → Prop) (h : EvTP t σ H) (h1 : ∀ N : L2.St → Hp → Prop, (∀ σ' H', M σ' H' → N σ' H') → ∀ H1, Ex H H1 → tu { D with nx := N } σ H1) (h2 : ∀ H1, Ex H H1 → M σ H1) (k : ∀ σ' H', M σ' H' → tz D σ' H') :
    tSeq (tIfS t tu tNext) tz D σ H := q_any h (fun H1 e1 => h1 (tz D) k H1 e1) (fun H1 e1 => k _ _ (h2 H1 e1))
theorem rv_isN {x : V} : RV (fun x y H Q => y = .non ∧ Q (.bl (decide (x = .non))) H) x .non H (.bl (decide (x = .non))) := fun H1 _ _ q => ⟨rfl, q H1 (Ex.refl H1)⟩
theorem q_maybeF {D : Ends} {tz : TS} {k : Nat} {P : List Int → Prop} {t : TT} {p0 : Addr} {ns0 : List Int} (h : EvTP t σ H) (h1 : EvLP te σ H P) (hσ : σ.set k (some (.ref p0)) = σ) (h0 : At H p0 ns0) (hP : P ns0) (c : ∀ p ns H1, Ex H H1 → At H1 p ns → P ns → (p = p0 ∨ H p = none) → tz D (σ.set k (some (.ref p))) H1) :
    tSeq (tIfS t (tAsg te (gName k)) tNext) tz D σ H :=
  q_any h (fun H1 e1 => s_asgLP (D := { D with nx := tz D }) (fun H2 e2 Q q => h1 H2 (e1.trans e2) Q q) fun p ns H2 np e2 hp pn => c p ns H2 (e1.trans e2) hp pn (Or.inr (fresh_back e1 np))) (fun H1 e1 => by
    have g := c p0 ns0 H1 e1 (e1 _ _ h0) hP (Or.inl rfl)
    rw [hσ] at g
    exact g)
end
end Tt

/-! Errors: a def that may raise; a def that is asked of the caught error. -/
namespace Tt
open PySem PySem.Spec PyProof.Rows L2 L2H Evl
/-- nothing is let out -/
theorem passN {X : Cx} : Passes (L2N.CX X.prog X.w) X E0 := fun _ _ _ _ _ _ _ c => by
  obtain ⟨_, _, _, _, _, _, _, _, _, _, _, _, f⟩ := c
  cases f
theorem takes0 {X : Cx} : L2.Takes X (fun _ _ _ _ => False) := fun _ _ x => by
  obtain ⟨_, _, _, _, _, _, _, _, _, _, _, _, _, _, _, _, f⟩ := x
  cases f
theorem takesN0 {X : Cx} : L2N.Takes X (fun _ _ _ _ => False) := fun _ _ x => by
  obtain ⟨_, _, _, _, _, _, _, _, _, _, _, _, _, _, _, _, f⟩ := x
  cases f
section
variable {P : Program} {w : World} {K : PySem.W.Frag} {mg : Str → Option Value} {base : Heap}
/-- a def of the text that may raise -/
theorem okN {x qual : Str} {st : Stmt} {f : Addr} {fd : FuncData} {N ps : List Str} {k : Nat} {sp : Sp} (F : Fun K x qual st f fd) (S : FnScope N ps (defScope st)) (len : ∀ vs H Q E, sp vs H Q E → vs.length = ps.length)
    (body : ∀ (cdv : Value) (AA : Around) (outer : List Env) (s : Shared) (H : Hp) (vs : List V) (Q : VK) (E : XK), Room k (AA.deeper (envOfC qual (defScope st) s.heap.objs.size f cdv)) → sp vs H Q E →
      ∃ t, PSs (cxOf (L2N.CX P w) P w K mg base N qual (defScope st) f cdv AA outer s H E) (defBody st) t ∧ t { nx := fun _ H' => Q .non H', rt := Q } (start N vs) H) : FnOk P w K mg base (L2N.CX P w) (k + 1) f fd ps sp := by
  obtain ⟨oc, od, kV, doc, pm, an, cdv, ct, osl, rfl, lk, hcd⟩ := F.ex
  exact fn_of lk hcd S len fun AA outer s H vs Q E hr hsp => body cdv AA outer s H vs Q E hr hsp

/-! ### a def that is handed the caught error: its promise may speak of it -/
abbrev SpE := Addr → Value → Option Addr → Sp
structure FnE (P : Program) (w : World) (K : PySem.W.Frag) (mg : Str → Option Value) (base : Heap) (k : Nat) (f : Addr) (fd : FuncData) (ps : List Str) (sp : SpE) : Prop where
  len : ∀ a c d vs H Q E, sp a c d vs H Q E → vs.length = ps.length
  run : ∀ (AA : Around) (outer : List Env) (s : Shared) (H : Hp) (args : Args) (us : List Value) (vs : List V) (Q : VK) (E : XK) (p : Addr × Obj) (c : Value) (d : Option Addr), RoomH k AA → Hot1 AA p → L2N.Zn c d p.2 → PinOk outer H s p → Env0 P w K mg base AA outer s H →
    BindsTo s fd args (ps.zip us) → Vals vs us → sp p.1 c d vs H Q E → codeAny (model P w) AA (.call (.ref f) args) (CR CX0 outer P w H s Q E) s
/-- such a def, by its body -/
theorem okE {x qual : Str} {st : Stmt} {f : Addr} {fd : FuncData} {N ps : List Str} {k : Nat} {sp : SpE} (F : Fun K x qual st f fd) (S : FnScope N ps (defScope st)) (len : ∀ a c d vs H Q E, sp a c d vs H Q E → vs.length = ps.length)
    (body : ∀ (cdv : Value) (AA : Around) (outer : List Env) (s : Shared) (H : Hp) (vs : List V) (Q : VK) (E : XK) (p : Addr × Obj) (c : Value) (d : Option Addr), Hot1 AA p → L2N.Zn c d p.2 → RoomH k (AA.deeper (envOfC qual (defScope st) s.heap.objs.size f cdv)) → sp p.1 c d vs H Q E →
      ∃ t, PSs (cxH CX0 P w K mg base N qual (defScope st) f cdv AA outer s H E p) (defBody st) t ∧ t { nx := fun _ H' => Q .non H', rt := Q } (start N vs) H) : FnE P w K mg base (k + 1) f fd ps sp := by
  obtain ⟨oc, od, kV, doc, pm, an, cdv, ct, osl, rfl, lk, hcd⟩ := F.ex
  refine ⟨len, fun AA outer s H args us vs Q E p c d hr hot hz hpin e0 hb r hsp => ?_⟩
  -- the promise at this very error, as a promise of the layer's own kind
  let sp1 : Sp := fun vs H Q E => sp p.1 c d vs H Q E
  refine (fn_ofP lk hcd S (sp := sp1) (p := p) (fun vs H Q E h => len _ _ _ vs H Q E h) fun AA outer s H vs Q E hot hr h => body cdv AA outer s H vs Q E p c d hot hz hr h) AA outer s H args us vs Q E hr hot hpin e0 hb r hsp
where
  fn_ofP {name qual : Str} {params : Arguments} {body : List Stmt} {scope : Scope} {dV kV doc pm cdv ct oc : Value} {an od : Option Addr} {f : Addr} {k : Nat} {osl : Array (Option Value)} {N ps : List Str} {sp : Sp} {p : Addr × Obj} (lk : K.lookup f = some ⟨oc, od, .func (PySem.W.fnOf name qual params body scope dV kV doc pm an cdv ct), osl⟩) (hcd : PySem.W.codeIn K cdv qual = true) (S : FnScope N ps scope)
    (len : ∀ vs H Q E, sp vs H Q E → vs.length = ps.length)
    (hbody : ∀ (AA : Around) (outer : List Env) (s : Shared) (H : Hp) (vs : List V) (Q : VK) (E : XK), Hot1 AA p → RoomH k (AA.deeper (envOfC qual scope s.heap.objs.size f cdv)) → sp vs H Q E →
      ∃ t, PSs (cxH CX0 P w K mg base N qual scope f cdv AA outer s H E p) body t ∧ t { nx := fun _ H' => Q .non H', rt := Q } (start N vs) H) :
    ∀ (AA : Around) (outer : List Env) (s : Shared) (H : Hp) (args : Args) (us : List Value) (vs : List V) (Q : VK) (E : XK), RoomH (k + 1) AA → Hot1 AA p → PinOk outer H s p → Env0 P w K mg base AA outer s H → BindsTo s (PySem.W.fnOf name qual params body scope dV kV doc pm an cdv ct) args (ps.zip us) → Vals vs us → sp vs H Q E →
      codeAny (model P w) AA (.call (.ref f) args) (CR CX0 outer P w H s Q E) s := by
    intro AA outer s H args us vs Q E hr hot hpin e0 hb r hsp
    have hl := len _ _ _ _ hsp
    have KX : K.In s.heap := e0.mod.kin.keeps fun b o e => (e0.bs b o e).1
    have lim : s.heap.NoLimit := e0.mod.nolimit.keeps fun b o e => (e0.bs b o e).1
    have kinds : ∀ y ∈ ps.zip us, scope.names.lookup y.1 = some .local ∨ (scope.names.lookup y.1 = some .cell ∧ ((cellsFrom (s.heap.objs.size + 1) scope.names []).lookup y.1).isSome = true) := by
      intro y hy
      obtain ⟨n, v⟩ := y
      rcases S.par n (List.of_mem_zip hy).1 with h | h
      · exact Or.inl h
      · exact Or.inr ⟨h, PySem.W.cellsFrom_some _ _ _ (Or.inl h)⟩
    refine codeAny_call_function hr.depth (KX _ _ lk) rfl S.co S.gen rfl (PySem.W.codeRec_of KX hcd) (hb _ _ _ _ ?_)
    refine wpAny_newFunctionEnv_cells S.kind kinds fun env he s1 x => ?_
    subst he
    refine ⟨lim.keeps x.toInCall.keep, codeAny_func ?_⟩
    obtain ⟨t, ht, hq⟩ := hbody AA outer s H vs Q E hot (hr.deeper _) hsp
    have I := inv_startH (CX := CX0) (E := E) (qual := qual) (f := f) (cd := cdv) S hpin e0 hl r x
    refine wpAny_mono (ht.run [] s1 _ H _ I hq) (fun fl s' hs => ?_) fun e s' hs => hs
    match fl, hs with
    | .ret u, ⟨v, σ', H', J, rv, q⟩ => exact ⟨v, H', J.os, J.bare, J.base, J.hok, rv, q⟩
    | .next, ⟨σ', H', J, q⟩ => exact ⟨V.non, H', J.os, J.bare, J.base, J.hok, rfl, q⟩
    | .brk, ⟨_, _, _, q⟩ => exact q.elim
    | .cont, ⟨_, _, _, q⟩ => exact q.elim
end
/-- its call in the suite that holds the error -/
def tCallE (sp : SpE) (a : Addr) (c : Value) (d : Option Addr) (t : TA) : TE := fun σ H Q => t σ H fun vs H1 => sp a c d vs H1 Q E0
theorem pe_callE {X : Cx} {k : Nat} {f : Addr} {fd : FuncData} {ps : List Str} {sp : SpE} {x : Str} {q pos : Pos} {e : Expr} {es : List Expr} {t : TA} {a : Addr} {oe : Obj} {c : Value} {d : Option Addr} (F : FnE X.prog X.w X.K X.mg X.base k f fd ps sp) (hr : RoomH k X.A) (hot : Hot1 X.A (a, oe)) (hp : (a, oe) ∈ X.pn) (hz : L2N.Zn c d oe)
    (hg : Gl X x) (hm : X.mg x = some (.ref f)) (hk : PySem.W.keepIn X.K (.ref f) = true) (hb : Binds X.K fd ps []) (ha : PA X (e :: es) t)
    (hdb : (x == ("__debug__" : Str)) = false := by decide) (he : starEach (e :: es) X.env = (false, eval e X.env) :: starEach es X.env := by rfl) (hpl : (backTo pos (starEach es X.env)).any (·.1) = false := by rfl) :
    PE X (.Call (.Name x q) (e :: es) [] pos) (tCallE sp a c d t) := by
  refine ⟨fun pins s σ H Q I h => ?_⟩
  refine wpAny_Call_Name_kw (ld_glob I hg hm ?_ hdb)
  refine PySem.W.callWith_K (h₀ := X.base) I.ok.mod.kin hk (thn (ha.run pos pins s σ H _ I h) fun us s1 ⟨vs, H1, I1, r, hsp⟩ => ⟨I1.kIn, ?_⟩) he hpl
  have hl : us.length = ps.length := by rw [← r.length]; exact F.len _ _ _ _ _ _ _ hsp
  have b := hb s1 us I1.kIn (by rw [List.append_nil]; exact hl)
  rw [List.append_nil] at b
  have P1 := I1.pin (a, oe) (List.mem_append_left _ hp)
  have hpin : PinOk X.stack H1 s1 (a, oe) := ⟨P1.1, P1.2.1, fun hm => (List.mem_cons.mp (I1.stkSub a hm)).elim P1.2.2.1 P1.2.2.2.1, P1.2.2.2.2⟩
  refine wpAny_call (codeAny_mono (F.run X.A X.stack s1 H1 ⟨us, []⟩ us vs Q E0 (a, oe) c d hr hot hz hpin I1.env0 b r hsp) fun r s' hq => ?_)
  match r, hq with
  | .error e, hq => exact hq.elim
  | .ok (.ret u), hq => exact I1.after hq
  | .ok .next, hq => exact hq.elim
  | .ok .brk, hq => exact hq.elim
  | .ok .cont, hq => exact hq.elim
/-- isinstance of the error that the context holds -/
theorem call_isP {X : Cx} {D : Addr} {p : Addr × Obj} (hp : p ∈ X.pn) (C : ExcC X.K D) (hz : L2N.Zn (.ref D) none p.2) (hf : ∃ vs, p.2.data = .fields vs) : CallR X (.builtin "isinstance") (rIsE X.K D p.1) := by
  intro pins s σ H xs us Q I r h
  obtain ⟨c, cv, b, rfl, hcv, e, q⟩ := h
  match us, r with
  | [u1, u2], .cons rx (.cons rt .nil) =>
    cases rx
    cases hcv _ rt
    have hget := (I.pin p (List.mem_append_left _ hp)).1
    obtain ⟨vs, hv⟩ := hf
    have J : PySem.W.InstAt s.heap p.1 p.2 D none := by
      obtain ⟨a, oc, od, oda, osl⟩ := p
      obtain ⟨h1, h2, _⟩ := hz
      dsimp only at h1 h2 hv hget
      subst h1 h2 hv
      exact ⟨hget, rfl, rfl, trivial⟩
    exact PySem.W.kia_one (PySem.W.handS_kitx_exc C.hg C.hk C.hs C.hd C.ha C.hn C.ht C.hm) I.kIn J e (fun z => nomatch z) fun tk => ⟨.bl b, H, I.kept (t' := tk) fun _ _ z => z, rfl, q⟩
/-! ### which errors an error is -/
theorem kit_own {K : PySem.W.Frag} {D C : Addr} {b : Bool} (i : PySem.W.isClsIn K C = true) (t : PySem.W.typeIn K (.ref C) = some (.type "type")) (s : PySem.W.subIn K (.ref D) (.ref C) = some b) (ne : D ≠ C) : PySem.W.kitOne K (.ref D) (.ref C) = some b := by
  have e0 : ¬ (Value.ref D == Value.ref C) = true := fun z => ne (Value.ref.inj (beq_iff_eq.mp z))
  have e2 : ((PySem.W.clsIn K C).isSome && PySem.W.typeIn K (.ref C) == some (.type "type")) = true := by
    have i' : (PySem.W.clsIn K C).isSome = true := i
    rw [i', t]
    rfl
  unfold PySem.W.kitOne
  rw [if_neg e0]
  show (if ((PySem.W.clsIn K C).isSome && PySem.W.typeIn K (.ref C) == some (.type "type")) = true then PySem.W.subIn K (.ref D) (.ref C) else none) = some b
  rw [if_pos e2]
  exact s
theorem kit_self {K : PySem.W.Frag} {D : Addr} : PySem.W.kitOne K (.ref D) (.ref D) = some true := by
  unfold PySem.W.kitOne
  rw [if_pos (beq_self_eq_true _)]
theorem kit_blt {K : PySem.W.Frag} {D : Addr} {T : String} {b : Bool} (m : PySem.W.kitMeta T = true) (s : PySem.W.subIn K (.ref D) (.type T) = some b) : PySem.W.kitOne K (.ref D) (.type T) = some b := by
  unfold PySem.W.kitOne
  rw [if_neg (fun z => by have := beq_iff_eq.mp z; cases this)]
  show (if PySem.W.kitMeta T = true then PySem.W.subIn K (.ref D) (.type T) else none) = some b
  rw [if_pos m]
  exact s
theorem ne_by_sub {K : PySem.W.Frag} {D C : Addr} (s : PySem.W.subIn K (.ref D) (.ref C) = some false) (t : PySem.W.subIn K (.ref D) (.ref D) = some true) : D ≠ C := fun z => by
  rw [← z, t] at s
  cases s
theorem kit_not {K : PySem.W.Frag} {D C : Addr} (i : PySem.W.isClsIn K C = true) (t : PySem.W.typeIn K (.ref C) = some (.type "type")) (s : PySem.W.subIn K (.ref D) (.ref C) = some false) (r : PySem.W.subIn K (.ref D) (.ref D) = some true) : PySem.W.kitOne K (.ref D) (.ref C) = some false := kit_own i t s (ne_by_sub s r)
/-- what the top says of a class of errors -/
structure ErrF (K : PySem.W.Frag) (mg : Str → Option Value) (x : Str) (C : Addr) : Prop where
  g : mg x = some (.ref C)
  k : PySem.W.keepIn K (.ref C) = true
  x : PySem.W.excIn K C [.type "ValueError", .type "Exception", .type "BaseException", .type "object"] "ValueError.__new__" = true
  b : PySem.W.subIn K (.ref C) (.type "BaseException") = some true
  v : PySem.W.subIn K (.ref C) (.type "ValueError") = some true
  t : PySem.W.typeIn K (.ref C) = some (.type "type")
  i : PySem.W.isClsIn K C = true
  s : PySem.W.subIn K (.ref C) (.ref C) = some true
  e : ExcC K C
theorem ErrF.raises {K : PySem.W.Frag} {mg : Str → Option Value} {x : Str} {C : Addr} {X : Cx} (F : ErrF K mg x C) (h : X.K = K) : Raises X (.ref C) := raises_own (by rw [h]; exact F.b) (by rw [h]; exact F.t)
structure ClsF (K : PySem.W.Frag) (mg : Str → Option Value) (x : Str) (C : Addr) : Prop where
  g : mg x = some (.ref C)
  i : PySem.W.isClsIn K C = true
  t : PySem.W.typeIn K (.ref C) = some (.type "type")
theorem roomH_at {k : Nat} {A B : Around} (r : Room k A) (e1 : B.depth = A.depth) (e2 : B.units = A.units) : RoomH k B := ⟨by rw [e1]; exact r.dp, by rw [e2]; exact r.un⟩
theorem hot_at {A : Around} {a : Addr} {oe : Obj} {c : Value} {d : Option Addr} (h : A.handled = some (.ref a)) (hz : L2N.Zn c d oe) (hf : ∃ vs, oe.data = .fields vs) : Hot1 A (a, oe) :=
  ⟨h, let ⟨vs, e⟩ := hf; ⟨vs, e, hz.2.2 vs e⟩⟩
/-- a list of bools, new -/
theorem ev_neB {K : PySem.W.Frag} {σ : L2.St} {H : Hp} {ta tb : TE} {bs cs : List Bool} (ha : EvR ta σ H (bs.map V.bl)) (hb : EvR tb σ H (cs.map V.bl)) : Ev (tOp (rNeD K) ta tb) σ H (.bl (!decide (bs = cs))) := fun H1 e Q q =>
  ha H1 e _ fun p H2 e2 hp => hb H2 (e.trans e2) _ fun r H3 e3 hr =>
    ⟨dB bs, dB cs, Dp.bools (sq_of (e3 _ _ hp)), Dp.bools (sq_of hr), Dat.bool.list.shaped (by decide) bs, Dat.bool.list.shaped (by decide) cs, by rw [Dat.bool.list.eq]; exact q H3 (e2.trans e3)⟩
theorem ev_eqB {K : PySem.W.Frag} {σ : L2.St} {H : Hp} {ta tb : TE} {bs cs : List Bool} (ha : EvR ta σ H (bs.map V.bl)) (hb : EvR tb σ H (cs.map V.bl)) : Ev (tOp (rEqD K) ta tb) σ H (.bl (decide (bs = cs))) := fun H1 e Q q =>
  ha H1 e _ fun p H2 e2 hp => hb H2 (e.trans e2) _ fun r H3 e3 hr =>
    ⟨dB bs, dB cs, Dp.bools (sq_of (e3 _ _ hp)), Dp.bools (sq_of hr), Dat.bool.list.shaped (by decide) bs, Dat.bool.list.shaped (by decide) cs, by rw [Dat.bool.list.eq]; exact q H3 (e2.trans e3)⟩
/-- isinstance(e, C), as a value -/
theorem ev_isE {K : PySem.W.Frag} {σ : L2.St} {H : Hp} {ta : TE} {D a : Addr} {c : V} {cv : Value} {b : Bool} (ha : Ev ta σ H (.ref a)) (hc : ∀ u, RelV c u → u = cv) (k : PySem.W.kitOne K (.ref D) cv = some b) : Ev (tCB (rIsE K D a) (tCons ta (tCons (tC c) tNil))) σ H (.bl b) := fun H1 e Q q =>
  ha H1 e _ fun H2 e2 => ⟨c, cv, b, rfl, hc, k, q H2 e2⟩
end Tt

/-! Texts: cut at a sign, joined, the cards' numerals. -/
namespace Tt
open PySem PySem.Spec PyProof.Rows L2 Evl
/-! ### codes -/
abbrev cod (z : Str) : List Nat := z.cps.toList
theorem cod_inj {a b : Str} (h : cod a = cod b) : a = b := by
  cases a; cases b
  exact congrArg Str.mk (Array.toList_inj.mp h)
theorem cods_inj : ∀ {l m : List Str}, l.map cod = m.map cod → l = m
  | [], [], _ => rfl
  | [], _ :: _, h => by simp at h
  | _ :: _, [], h => by simp at h
  | a :: l, b :: m, h => by
    obtain ⟨h1, h2⟩ := List.cons.inj h
    rw [cod_inj h1, cods_inj h2]
theorem cod_append (a b : Str) : cod (a ++ b) = cod a ++ cod b := by
  show (a.cps ++ b.cps).toList = _
  rw [Array.toList_append]
theorem cod_len (a : Str) : (cod a).length = a.length := Array.length_toList
/-- pieces with a sign between -/
def jn (c : Nat) : List (List Nat) → List Nat
  | [] => []
  | [p] => p
  | p :: q :: r => p ++ c :: jn c (q :: r)
theorem cod_join (c : Nat) : ∀ l : List Str, cod (Str.join ⟨#[c]⟩ l) = jn c (l.map cod)
  | [] => rfl
  | [x] => rfl
  | x :: y :: r => by
    show cod (x ++ ⟨#[c]⟩ ++ Str.join ⟨#[c]⟩ (y :: r)) = cod x ++ c :: jn c ((y :: r).map cod)
    rw [cod_append, cod_append, cod_join c (y :: r), List.append_assoc]
    rfl
theorem cut_first {c : Nat} : ∀ {p q X Y : List Nat}, c ∉ p → c ∉ q → p ++ c :: X = q ++ c :: Y → p = q ∧ X = Y
  | [], [], X, Y, _, _, e => ⟨rfl, by simpa using e⟩
  | [], b :: q, X, Y, _, hq, e => by
    have := (List.cons.inj e).1
    exact absurd (by rw [this]; exact List.mem_cons_self) hq
  | a :: p, [], X, Y, hp, _, e => by
    have := (List.cons.inj e).1
    exact absurd (by rw [← this]; exact List.mem_cons_self) hp
  | a :: p, b :: q, X, Y, hp, hq, e => by
    obtain ⟨e1, e2⟩ := List.cons.inj e
    obtain ⟨e3, e4⟩ := cut_first (fun h => hp (List.mem_cons_of_mem _ h)) (fun h => hq (List.mem_cons_of_mem _ h)) e2
    exact ⟨by rw [e1, e3], e4⟩
theorem jn_one {c : Nat} : ∀ {ps qs : List (List Nat)}, ps ≠ [] → qs ≠ [] → (∀ p ∈ ps, c ∉ p) → (∀ q ∈ qs, c ∉ q) → jn c ps = jn c qs → ps = qs
  | [], _, h, _, _, _, _ => absurd rfl h
  | _ :: _, [], _, h, _, _, _ => absurd rfl h
  | [p], [q], _, _, _, _, e => by
    have e : p = q := e
    rw [e]
  | [p], q :: q2 :: r, _, _, hp, _, e => by
    have e : p = q ++ c :: jn c (q2 :: r) := e
    exact absurd (by rw [e]; simp) (hp p List.mem_cons_self)
  | p :: p2 :: r, [q], _, _, _, hq, e => by
    have e : p ++ c :: jn c (p2 :: r) = q := e
    exact absurd (by rw [← e]; simp) (hq q List.mem_cons_self)
  | p :: p2 :: r, q :: q2 :: s, _, _, hp, hq, e => by
    have e : p ++ c :: jn c (p2 :: r) = q ++ c :: jn c (q2 :: s) := e
    obtain ⟨e1, e2⟩ := cut_first (hp p List.mem_cons_self) (hq q List.mem_cons_self) e
    have e3 := jn_one (ps := p2 :: r) (qs := q2 :: s) (by simp) (by simp) (fun x hx => hp x (List.mem_cons_of_mem _ hx)) (fun x hx => hq x (List.mem_cons_of_mem _ hx)) e2
    rw [e1, e3]
theorem split_ne (x y : Str) : Txt.split x y ≠ [] := by
  unfold Txt.split
  split
  · simp
  · split
    · simp
    · rw [StrLaws.partsBetween_eq]
      obtain ⟨p, r, e⟩ := StrLaws.partsFrom_ne x y.length 0 (Builtin.Str.occurrences x y 0 x.length (x.length + 1))
      rw [e]
      simp
theorem mem_cods {c : Nat} {l : List Str} (h : ∀ p ∈ l, c ∉ cod p) : ∀ q ∈ l.map cod, c ∉ q := by
  intro q hq
  obtain ⟨p, hp, rfl⟩ := List.mem_map.mp hq
  exact h p hp
/-- a text of pieces without the sign, cut at it -/
theorem split_of {c : Nat} {x : Str} {ws : List Str} (h : ws ≠ []) (hf : ∀ p ∈ ws, c ∉ cod p) (e : jn c (ws.map cod) = cod x) : Txt.split x ⟨#[c]⟩ = ws := by
  have e1 := StrLaws.join_split x ⟨#[c]⟩
  have e2 : jn c ((Txt.split x ⟨#[c]⟩).map cod) = cod x := by rw [← cod_join, e1]
  have e3 := jn_one (c := c) (ps := (Txt.split x ⟨#[c]⟩).map cod) (qs := ws.map cod) (by simpa using split_ne x _) (by simpa using h) (mem_cods (StrLaws.split_free x c)) (mem_cods hf) (e2.trans e.symm)
  exact cods_inj e3
theorem join_jn (c : Nat) (l : List Str) : cod (Txt.join ⟨#[c]⟩ l) = jn c (l.map cod) := by
  show cod (Builtin.Str.glued _ _) = _
  rw [StrLaws.glued_eq_join, cod_join]

/-! ### the numerals of the cards -/
def num (k : Int) : Str := Str.ofString (toString k)
/-- a word that writes the card k -/
structure Cd (w : Str) (k : Int) : Prop where
  l1 : 1 ≤ w.length
  l2 : w.length ≤ 2
  h0 : (cod w)[0]? ≠ some 48
  dg : ∀ c ∈ cod w, 48 ≤ c ∧ c ≤ 57
  val : intText? w = some k
theorem Cd.free {w : Str} {k : Int} (h : Cd w k) : 44 ∉ cod w := fun hm => by have := h.dg 44 hm; omega
theorem cd_small : ∀ n : Fin 17, 1 ≤ n.val → (1 ≤ (num (n.val : Int)).length ∧ (num (n.val : Int)).length ≤ 2 ∧ (cod (num (n.val : Int)))[0]? ≠ some 48 ∧ (∀ c ∈ cod (num (n.val : Int)), 48 ≤ c ∧ c ≤ 57) ∧ intText? (num (n.val : Int)) = some (n.val : Int)) := by decide +kernel
theorem cd_num {k : Int} (h1 : 1 ≤ k) (h2 : k ≤ 16) : Cd (num k) k := by
  obtain ⟨n, rfl⟩ : ∃ n : Nat, k = (n : Int) := ⟨k.toNat, by omega⟩
  obtain ⟨a, b, c, d, e⟩ := cd_small ⟨n, by omega⟩ (by show 1 ≤ n; omega)
  exact ⟨a, b, c, d, e⟩
/-- each card behind a comma -/
def txC (ds : List Int) : List Nat := ds.flatMap fun k => 44 :: cod (num k)
theorem txC_snoc (ds : List Int) (k : Int) : txC (ds ++ [k]) = txC ds ++ 44 :: cod (num k) := by simp [txC]
theorem jn_txC : ∀ {ds : List Int}, ds ≠ [] → 44 :: jn 44 ((ds.map num).map cod) = txC ds
  | [], h => absurd rfl h
  | [d], _ => by simp [txC, jn]
  | d :: d2 :: r, _ => by
    have ih := jn_txC (ds := d2 :: r) (by simp)
    show 44 :: (cod (num d) ++ 44 :: jn 44 (((d2 :: r).map num).map cod)) = txC ([d] ++ d2 :: r)
    rw [ih]
    simp [txC]
theorem txC_len {ds : List Int} (h : ∀ k ∈ ds, 1 ≤ k ∧ k ≤ 16) : (txC ds).length ≤ 3 * ds.length := by
  induction ds with
  | nil => simp [txC]
  | cons d r ih =>
    have e : txC (d :: r) = 44 :: cod (num d) ++ txC r := by simp [txC]
    have h1 := ih fun k hk => h k (List.mem_cons_of_mem _ hk)
    have h2 := (cd_num (h d List.mem_cons_self).1 (h d List.mem_cons_self).2).l2
    rw [e, List.length_append, List.length_cons, List.length_cons, cod_len]
    omega

/-! ### readings -/
section
variable {K : PySem.W.Frag} {σ : L2.St} {H H' : Hp} {ta tb te tx to : TE} {t : TT} {a b p q l : Addr} {v z : V} {xs : List V}
abbrev tS (z : Str) : V := .str z
theorem rv_addS {i j : Str} (h : i.length + j.length ≤ 100000) : RV (fun x y H Q => ∃ i j, x = .str i ∧ y = .str j ∧ i.length + j.length ≤ sizeLine ∧ Q (.str (i ++ j)) H) (.str i) (.str j) H (.str (i ++ j)) := fun H1 _ _ q => ⟨i, j, rfl, rfl, sz_of h, q H1 (Ex.refl H1)⟩
theorem rv_niS {c : Nat} {z : Str} : RV (fun x y H Q => ∃ (c : Nat) (z : Str), x = .str ⟨#[c]⟩ ∧ y = .str z ∧ Q (.bl (!decide (c ∈ z.cps.toList))) H) (.str ⟨#[c]⟩) (.str z) H (.bl (!decide (c ∈ cod z))) := fun H1 _ _ q => ⟨c, z, rfl, rfl, q H1 (Ex.refl H1)⟩
theorem ev_slS {tl th : TO} {lo hi : Option Int} {z : Str} (h : Ev te σ H (.str z)) (h1 : EvO tl σ H lo) (h2 : EvO th σ H hi) (hz : z.length ≤ 100000) : Ev (tSl rSlS te tl th) σ H (.str (cutS z lo hi)) := fun H1 e _ q =>
  h H1 e _ fun H2 e2 => h1 H2 (e.trans e2) _ fun H3 e3 => h2 H3 ((e.trans e2).trans e3) _ fun H4 e4 => ⟨z, rfl, sz_of hz, q H4 ((e2.trans e3).trans e4)⟩
theorem ev_lenS {z : Str} (h : Ev te σ H (.str z)) (hz : z.length ≤ 100000) : Ev (tCB (fun xs H Q => ∃ z, xs = [.str z] ∧ z.length ≤ sizeLine ∧ Q (.int z.length) H) (tCons te tNil)) σ H (.int (z.length : Int)) := fun H1 e _ q =>
  h H1 e _ fun H2 e2 => ⟨z, rfl, sz_of hz, q H2 e2⟩
theorem ev_strI {i : Int} (h : Ev te σ H (.int i)) (hi : i.natAbs < 1920) : Ev (tCB (fun xs H Q => ∃ i, xs = [.int i] ∧ i.natAbs.log2 < 1920 ∧ Q (.str (toString i)) H) (tCons te tNil)) σ H (.str (num i)) := fun H1 e _ q =>
  h H1 e _ fun H2 e2 => ⟨i, rfl, Nat.lt_of_le_of_lt (Nat.log2_le_self _) hi, q H2 e2⟩
theorem ev_intS {z : Str} {n : Int} (h : Ev te σ H (.str z)) (hn : intText? z = some n) (hz : z.length ≤ 640) : Ev (tCB (fun xs H Q => ∃ a n, xs = [.str a] ∧ PySem.intText? a = some n ∧ a.length ≤ 640 ∧ Q (.int n) H) (tCons te tNil)) σ H (.int n) := fun H1 e _ q =>
  h H1 e _ fun H2 e2 => ⟨z, n, rfl, hn, hz, q H2 e2⟩
theorem el_m1 {r : V → List V → Hp → VK → Prop} {z y : Str} (ho : Ev to σ H (.str z)) (he : Ev te σ H (.str y)) (hr : ∀ H1, ∀ Q : VK, (∀ p, H1 p = none → Q (.ref p) (upd H1 p (.lst xs))) → r (.str z) [.str y] H1 Q) : EvL (tM1 r to te) σ H xs := fun H1 e Q q =>
  ho H1 e _ fun H2 e2 => ⟨⟨z, rfl⟩, he H2 (e.trans e2) _ fun H3 e3 => hr H3 Q fun p hp => q p _ (fresh_back (e2.trans e3) hp) ((e2.trans e3).trans (Ex.new hp)) upd_same⟩
theorem ev_m1R {r : V → List V → Hp → VK → Prop} {z : Str} {v : V} (ho : Ev to σ H (.str z)) (he : EvR te σ H xs) (hr : ∀ p H1, H1 p = some (.lst xs) → ∀ Q : VK, Q v H1 → r (.str z) [.ref p] H1 Q) : Ev (tM1 r to te) σ H v := fun H1 e Q q =>
  ho H1 e _ fun H2 e2 => ⟨⟨z, rfl⟩, he H2 (e.trans e2) _ fun p H3 e3 hp => hr p H3 hp Q (q H3 (e2.trans e3))⟩
variable {D : Ends} {tu tz : TS}
/-- for c in z -/
theorem for_Its {z : Str} {g : TG} {tb : TS} {D : Ends} {σ : L2.St} {H : Hp} (Pv : Nat → L2.St → Hp → Prop) (h0 : Pv 0 σ H) (hs : ∀ (i c : Nat) (σ : L2.St) (H : Hp), (cod z)[i]? = some c → Pv i σ H → g (.str ⟨#[c]⟩) σ H fun σ2 H2 => tb { D with nx := Pv (i + 1), ct := Pv (i + 1), bk := D.nx } σ2 H2) (hd : ∀ σ H, Pv z.cps.size σ H → D.nx σ H) :
    ∃ W : Nat → Nat → L2.St → Hp → Prop, (∃ m, W 0 m σ H) ∧ ∀ i m σ H, W i m σ H → ((Its z).stop i H ∧ D.nx σ H) ∨ ((Its z).go i H ∧ ∃ N : L2.St → Hp → Prop, (∀ σ' H', N σ' H' → ∃ m', m' < m ∧ W (i + 1) m' σ' H') ∧ ∀ v H', (Its z).yld i H v H' → g v σ H' fun σ2 H2 => tb { D with nx := N, ct := N, bk := D.nx } σ2 H2) := by
  refine ⟨fun i m σ H => m = z.cps.size - i ∧ i ≤ z.cps.size ∧ Pv i σ H, ⟨z.cps.size, rfl, Nat.zero_le _, h0⟩, ?_⟩
  rintro i m σ H ⟨rfl, hi, p⟩
  by_cases hlt : i < z.cps.size
  · refine Or.inr ⟨hlt, Pv (i + 1), fun σ' H' p' => ⟨z.cps.size - (i + 1), by omega, rfl, hlt, p'⟩, ?_⟩
    rintro v H' ⟨rfl, c, hc, rfl⟩
    exact hs i c σ H' (by rw [Array.getElem?_toList]; exact hc) p
  · have e : i = z.cps.size := by omega
    subst e
    exact Or.inl ⟨Nat.le_refl _, hd σ H p⟩
theorem q_forS {z : Str} {j : Nat} (h : Ev te σ H (.str z)) (Pv : Nat → L2.St → Hp → Prop) (h0 : ∀ H1, Ex H H1 → Pv 0 σ H1)
    (hs : ∀ (i c : Nat) σ' H', (cod z)[i]? = some c → Pv i σ' H' → tu { D with nx := Pv (i + 1), ct := Pv (i + 1), bk := tz D } (σ'.set j (some (.str ⟨#[c]⟩))) H') (hd : ∀ σ' H', Pv z.cps.size σ' H' → tz D σ' H') : tSeq (tFor (iStr te) (gName j) tu) tz D σ H :=
  h H (Ex.refl H) _ fun H1 e => ⟨z, rfl, for_Its (D := { D with nx := tz D }) Pv (h0 H1 e) hs hd⟩
end
end Tt

/-! Own rule: y = [f(x) for x in ..], f a def that may raise: the exception goes on in the def's own frame. -/
namespace RcL
open PySem PySem.Spec PyProof.Rows RT L2
section
variable {M : Model} {A : Around} {E : Value → Shared → Prop} {s' : Shared} {base : Heap} {cenv : Env} {l : List Env} {e L : Addr} {Z : Obj → Prop} {m : Str → Option Value}
/-- the block of names is let go, the exception goes on -/
theorem failsZ (hf : cenv.frame = some L) (hbC : base.get? cenv.locals = none) (hn : s'.heap.Ns cenv.locals m) (hh : HandSPX.HeldZ base l e Z L s'.heap)
    (hQ : ∀ h', HandSPX.HeldZ base l e Z L h' → (∀ b o, s'.heap.get? b = some o → b ≠ cenv.locals → (∀ vs, o.data ≠ .fields vs) → ∃ sl, h'.get? b = some { o with slots := sl }) → E (.ref e) { s' with heap := h' }) : CompFails M A E cenv (.ref e) s' := by
  refine ⟨m, hn, fun h2 m2 hn2 hs2 => ?_⟩
  obtain ⟨g1, g2, g3, oe, vs, T, oT, ts, he, hz, hd, h1, hnT, hTe, hT, hdT, h3⟩ := hh
  obtain ⟨oL, es, ep, hoL, hdL, _⟩ := id hn
  have neC : ∀ {b : Addr} {o : Obj} {ws : Array Value}, s'.heap.get? b = some o → o.data = .fields ws → b ≠ cenv.locals := fun hb hd' q => by
    rw [q, hoL] at hb
    cases hb
    rw [hdL] at hd'
    cases hd'
  have same : ∀ b, b ≠ cenv.locals → h2.get? b = s'.heap.get? b := fun b hb => hs2.2 b hb
  have held2 : HandSPX.HeldZ base l e Z L h2 := ⟨fun b o hb => (same b fun q => by rw [q, hbC] at hb; cases hb).trans (g1 b o hb), g2, Heap.FunFrames.sameBut hs2 hn2 g3, oe, vs, T, oT, ts, (same e (neC he hd)).trans he, hz, hd, h1, hnT, hTe, (same T (neC hT hdT)).trans hT, hdT, h3⟩
  unfold PySem.passOn
  refine wpAny_bind (wpAny_field ((same e (neC he hd)).trans he) hd h1 ?_)
  rw [if_neg (show ¬ ((Value.ref T == Value.none) = true) from by simp), hf]
  refine wpAny_bind (HandSPX.setFlight_onZ (s := { s' with heap := h2 }) held2 fun h5 k1 k2 => ?_)
  exact wpAny_throw (hQ h5 k1 fun b o hb hne hnf => k2 b o ((same b hne).trans hb) hnf)
end
/-- out of a call in the element -/
theorem elt_fails {X : Cx} {pins pins9 : List (Addr × Obj)} {σ σ9 : L2.St} {H3 H9 : Hp} {s3 s9 s' : Shared} {scope : Scope} {ce : Env} {fp : List Addr} {E : XK} {W : WX} {u : Value} (I3 : Inv X pins σ H3 s3) (f3 : ∀ b ∈ fp, FpOk X pins H3 b) (I9 : Inv (X.blk s3 H3 scope ce fp) pins9 σ9 H9 s9)
    (cL : ce.locals = s3.heap.objs.size) (cf : ce.frame = X.env.frame) (hs : X.stack = X.env :: X.outer) (hf : X.env.frame = some X.env.locals) (tk : L2.Takes X W) (hW : ∀ cls d σ H, E cls d H → W cls d σ H) (c : L2.CX X.prog X.w X.stack H9 s9 E u s') :
    notedBy (model X.prog X.w) X.A ce (CompFails (model X.prog X.w) X.A X.xe ce) u s' := by
  obtain ⟨a, B, H', cls, d, rfl, fl, hok, ub, na, os, ag, hE⟩ := c
  have hfr : X.A.frames = some (X.env :: X.outer) := by rw [I3.ok.frames, hs]
  obtain ⟨m, hm, _⟩ := I9.loc
  have hm : s9.heap.Ns ce.locals m := hm
  obtain ⟨oC, es, ep, hoC, hdC, rC⟩ := id hm
  have nC9 : H9 ce.locals = none := I9.free
  have nCf : ce.locals ∉ frs X.stack := fun hb => by
    obtain ⟨_, o', e', _⟩ := I3.stack.mem hb
    have := Heap.lt_size e'
    rw [cL] at this
    exact Nat.lt_irrefl _ this
  have bC : B.get? ce.locals = some oC := ub.keep _ _ hoC nC9 nCf
  have nCH : H' ce.locals = none := ub.free _ _ hoC nC9
  have stB : B.StaysIn s'.heap := fl.1
  have fl2 : HandSPX.FlyingZ B (X.env :: X.outer) a (Zc cls d) s'.heap := by rw [← hs]; exact fl
  show wpAny _ _ (noteFrame (.ref a) ce) _ _ s'
  rw [noteFrame_env _ cf]
  refine HandSPX.looks_onZ Zc.steady hfr hf fl2 fun h1 hh1 up1 => ?_
  have B2o : ∀ b o, (PySem.W.hideAll B [ce.locals]).get? b = some o → B.get? b = some o := fun b o => PySem.W.of_hideAll _
  have B2n : ∀ b, B.get? b = none → (PySem.W.hideAll B [ce.locals]).get? b = none := fun b hb => by
    cases q : (PySem.W.hideAll B [ce.locals]).get? b with
    | none => rfl
    | some o => rw [B2o b o q] at hb; cases hb
  have B2k : ∀ b o, B.get? b = some o → b ≠ ce.locals → (PySem.W.hideAll B [ce.locals]).get? b = some o := fun b o hb hne => PySem.W.hideAll_get _ hb (by simpa using hne)
  have B2C : (PySem.W.hideAll B [ce.locals]).get? ce.locals = none := PySem.W.hideAll_none _ (by simp)
  generalize PySem.W.hideAll B [ce.locals] = B2 at B2o B2n B2k B2C
  obtain ⟨p1, p2, p3, oe, vs, T, oT, ts, he, hz, hd, q1, hnT, hTe, hT, hdT, q3⟩ := hh1
  have hn1 : h1.Ns ce.locals m := Heap.Ns.upToSlots ⟨oC, es, ep, stB _ _ bC, hdC, rC⟩ up1
  refine failsZ (base := B2) (l := X.env :: X.outer) (L := X.env.locals) (Z := Zc cls d) (cf.trans hf) B2C hn1 ⟨fun b o h => p1 b o (B2o b o h), B2n _ p2, funFrames_none p3 (fun b hb => B2n b (p3.mem hb).1), oe, vs, T, oT, ts, he, hz, hd, q1, B2n _ hnT, hTe, hT, hdT, q3⟩ fun h2 hh2 up2 => ?_
  obtain ⟨G, g1, g2⟩ := restrict s'.heap fun b => (B2.get? b).isSome || decide (b ∈ frs X.stack)
  have gB : ∀ b o, B2.get? b = some o → G.get? b = some o := fun b o h => by
    rw [g1 b (by simp [h])]
    exact stB b o (B2o b o h)
  have gF : ∀ b, b ∈ frs X.stack → G.get? b = s'.heap.get? b := fun b hb => g1 b (by simp [hb])
  have og : ∀ b o, G.get? b = some o → s'.heap.get? b = some o ∧ ((B2.get? b).isSome = true ∨ b ∈ frs X.stack) := fun b o h => by
    cases q : ((B2.get? b).isSome || decide (b ∈ frs X.stack)) with
    | false => rw [g2 b q] at h; cases h
    | true =>
      rw [g1 b q] at h
      exact ⟨h, by simpa [Bool.or_eq_true] using q⟩
  have ub9 := I9.base
  have neC : ∀ {b : Addr} {o : Obj}, s3.heap.get? b = some o → b ≠ ce.locals := fun h z => by
    have := Heap.lt_size h
    rw [z, cL] at this
    exact Nat.lt_irrefl _ this
  have hok2 : HOk X.prog X.w H' B2 := fun b o q => (hok b o q).stay (fun x v hx r => B2k x v r fun z => by
    rw [z] at hx
    rcases hx with hx | hx
    · rw [← hx, nCH] at q; cases q
    · rw [nCH] at hx; cases hx) (fun _ r => r) fun _ _ r => r
  have IX : Inv X pins σ H' { s3 with heap := G, gens := s'.gens, drawn := s'.drawn, toks := s'.toks } := by
    refine I3.call' (ch := fp) rfl ⟨fun b o h n hb hx => ?_, fun b o h n hb hx => ?_, fun b o h n hx => ?_, fun b o h hx => ?_, fun b xs h => ub.tups _ _ (ub9.tups b xs h), fun b o v h => ub.frzs _ _ _ (ub9.frzs b o v h), fun b ps h => ?_⟩ (hok2.kept gB) ag fun b hb => ⟨(f3 b hb).2.2.2.1, (f3 b hb).2.1, (f3 b hb).2.2.2.2.1, (f3 b hb).2.2.2.2.2⟩
    · exact gB _ _ (B2k _ _ (ub.keep b o (ub9.keep b o h n hb hx) (ub9.free b o h n hx) hb) (neC h))
    · obtain ⟨sl, r⟩ := ub9.slot b o h n hb hx
      obtain ⟨sl2, r2⟩ := ub.slot b _ r hb
      exact ⟨sl2, by rw [gF b hb]; exact r2⟩
    · obtain ⟨o', r⟩ := ub9.there b o h hx
      exact ub.free b o' r (ub9.free b o h n hx)
    · obtain ⟨o', r⟩ := ub9.there b o h hx
      by_cases hb : b ∈ frs X.stack
      · obtain ⟨sl2, r2⟩ := ub.slot b _ r hb
        exact ⟨_, by rw [gF b hb]; exact r2⟩
      · obtain ⟨o2, r2⟩ := ub.there b o' r hb
        exact ⟨o2, gB _ _ (B2k _ _ r2 (neC h))⟩
    · obtain ⟨m1, r1⟩ := ub9.tbls b ps h
      obtain ⟨m2, r2⟩ := ub.tbls b _ r1
      exact ⟨m1 ++ m2, by rw [r2, Array.append_assoc]⟩
  refine tk _ _ ⟨a, B2, _, pins, σ, H', cls, d, rfl, IX, fun b o h hb => ?_, fun b o h hnf => ?_, .inr (.inr (by rw [hs]; exact hh2)), na, os.trans I9.os, ag, hW _ _ _ _ hE⟩
  · obtain ⟨e', h'⟩ := og b o h
    rcases h' with h' | h'
    · obtain ⟨o', q⟩ := Option.isSome_iff_exists.mp h'
      have z := stB b o' (B2o b o' q)
      rw [e'] at z
      cases z
      exact q
    · exact absurd h' hb
  · obtain ⟨e', h'⟩ := og b o h
    have hne : b ≠ ce.locals := fun z => by
      rcases h' with h' | h'
      · rw [z, B2C] at h'
        cases h'
      · exact nCf (by rw [← z]; exact h')
    obtain ⟨sl, r⟩ := up1 b o e' hnf
    obtain ⟨sl2, r2⟩ := up2 b _ r hne hnf
    exact ⟨sl2, r2⟩
/-- the comprehension itself, its list handed on by us; Eo: what the element's call may let out -/
theorem lc_goes {X : Cx} {pins : List (Addr × Obj)} {s : Shared} {σ : L2.St} {H : Hp} {Q : VK} {elt tg iter : Expr} {ifs : List Expr} {scope : Scope} {own : List (Str × Nat)} {pos pos' : Pos} {wi : TI} {g : TG} {tt : TT} {te : TE} {us : Value → Sem Unit} {Qf : Value → Shared → Prop} {Eo : XK} {W : WX}
    (hc : X.calm = true) (hN : X.N.Nodup) (I : Inv X pins σ H s) (hi : PI X tg iter wi) (ok : BlkOk X.N X.env.scope scope own) (hst : X.stack = X.env :: X.outer) (hf : X.env.frame = some X.env.locals) (tk : L2.Takes X W) (hW : ∀ cls d σ H, Eo cls d H → W cls d σ H)
    (hg : ∀ (s : Shared) (H : Hp) (C : Addr) (cl : List (Str × Addr)) (fp : List Addr), PG (X.blk s H scope (compEnvC scope cl C X.env) fp) tg g) (ht : ∀ (s : Shared) (H : Hp) (C : Addr) (cl : List (Str × Addr)) (fp : List Addr), PTs (X.blk s H scope (compEnvC scope cl C X.env) fp) ifs tt)
    (he : ∀ (s : Shared) (H : Hp) (C : Addr) (cl : List (Str × Addr)) (fp : List Addr) (pn : List (Addr × Obj)) (xe : Value → Shared → Prop), (∀ σ, PassesAt (L2.CX X.prog X.w) ((X.blk s H scope (compEnvC scope cl C X.env) fp).tr pn xe) σ Eo) → PE ((X.blk s H scope (compEnvC scope cl C X.env) fp).tr pn xe) elt te)
    (hs : ∀ x, foldedSetIterable iter X.env x = pure x) (h : tLc wi g tt te (own.map (·.2)) σ H Q)
    (hRR : ∀ D C s' m H', Inv X pins σ H' s' → Q (.ref D) H' → s'.heap.Ns C m → FpOk X pins H' C → compPost (model X.prog X.w) X.A X.xe (some us) Qf (.ref D) C (.ok .next) s') :
    wpAny (model X.prog X.w) X.A (comprehension (.ListComp elt [⟨tg, iter, ifs, 0⟩] scope pos) scope X.env pos' (newList []) false (eval iter X.env) (some us)) Qf X.xe s := by
  have hfree : ∀ y ∈ scope.names, y.2 = .free → ∃ c, X.env.cells.lookup y.1 = some c := fun y hy e =>
    (ok.free y hy e).elim (fun k => I.ok.has _ (.inl k)) fun k => I.ok.has _ (.inr k)
  refine comprehension_at (use := some us) rfl hs (closure_ok hfree) ok.kind (fun y hy e => by rw [ok.uniq y hy, e]) (thn (hi.run pins s σ H _ I h) fun xv s1 hx => thn hx fun itv s2 h2 => ?_)
  obtain ⟨it, fp, tn, J, H2, e, I2, T, st2, f2, q⟩ := h2
  subst e
  refine wpAny_newObj_type (newEnv_comp ?_) (by show 0 ≤ sizeLine; decide)
  generalize hD : s2.heap.objs.size = D
  have hDn : H2 D = none := I2.hok.fresh (Nat.le_of_eq hD)
  obtain ⟨Wm, ⟨m0, w0⟩, turn⟩ := q D hDn
  generalize hs3 : ({ s2 with heap := s2.heap.push { cls := .type "list", data := .seq ([] : List Value).toArray } } : Shared) = s3
  have h3 : s3.heap = s2.heap.push { cls := .type "list", data := .seq ([] : List Value).toArray } := by rw [← hs3]
  have up : ∀ b o, s2.heap.get? b = some o → s3.heap.get? b = some o := fun b o e => by
    rw [h3]
    exact Heap.get?_push_of_some _ e
  have I3 : Inv X pins σ (upd H2 D (.lst [])) s3 := by
    rw [← hs3]
    refine I2.laid (t' := s2.toks) (fun b o e => Heap.get?_push_of_some _ e) (Nat.le_of_eq hD) ⟨Nat.zero_le _, [], 0, .nil, ?_⟩
    rw [← hD]
    exact Heap.get?_push_size _ rfl
  have f3 : ∀ b ∈ fp, FpOk X pins (upd H2 D (.lst [])) b ∧ b < s3.heap.objs.size := fun b hb => by
    obtain ⟨o, e, _⟩ := T.obj _ _ st2 b hb
    have hlt : b < s2.heap.objs.size := Heap.lt_size e
    refine ⟨⟨?_, (f2 b hb).2⟩, by rw [h3, Heap.size_push]; exact Nat.lt_succ_of_lt hlt⟩
    rw [upd_ne (by rw [← hD]; exact Nat.ne_of_lt hlt)]
    exact (f2 b hb).1
  have st3 : tn 0 s3.heap := T.keep _ _ _ st2 fun b _ o e => up b o e
  have I4 := block_start I3 ok hN f3
  have pg := hg s3 (upd H2 D (.lst [])) s3.heap.objs.size (cellsFrom (s3.heap.objs.size + 1) scope.names (cloFrom X.env.cells scope.names [])) fp
  have pt := ht s3 (upd H2 D (.lst [])) s3.heap.objs.size (cellsFrom (s3.heap.objs.size + 1) scope.names (cloFrom X.env.cells scope.names [])) fp
  have pe := he s3 (upd H2 D (.lst [])) s3.heap.objs.size (cellsFrom (s3.heap.objs.size + 1) scope.names (cloFrom X.env.cells scope.names [])) fp
  show codeAny _ _ (.compStart (.ListComp elt [⟨tg, iter, ifs, 0⟩] scope pos) 0 (.ref it) (.ref D) (compEnvC scope (cellsFrom (s3.heap.objs.size + 1) scope.names (cloFrom X.env.cells scope.names [])) s3.heap.objs.size X.env))
    (compEnds (model X.prog X.w) X.A X.xe (some us) Qf (.ref D) (compEnvC scope (cellsFrom (s3.heap.objs.size + 1) scope.names (cloFrom X.env.cells scope.names [])) s3.heap.objs.size X.env)) { s3 with heap := pushCells (s3.heap.push { cls := .type "dict", data := .dict #[] }) scope.names }
  have nfp : ∀ b ∈ fp, (upd H2 D (.lst [])) b = none := fun b hb => (f3 b hb).1.1
  generalize hce : compEnvC scope (cellsFrom (s3.heap.objs.size + 1) scope.names (cloFrom X.env.cells scope.names [])) s3.heap.objs.size X.env = ce at I4 pg pt pe ⊢
  have cL : ce.locals = s3.heap.objs.size := by subst hce; rfl
  have cf : ce.frame = X.env.frame := by subst hce; rfl
  generalize hH3 : upd H2 D (.lst []) = H3 at I3 I4 pg pt pe w0 nfp f3
  generalize hs4 : ({ s3 with heap := pushCells (s3.heap.push { cls := .type "dict", data := .dict #[] }) scope.names } : Shared) = s4 at I4 ⊢
  have st4 : tn 0 s4.heap := T.keep _ _ _ st3 fun b _ o e => by
    rw [← hs4]
    exact pushCells_keeps _ _ _ _ (Heap.get?_push_of_some _ e)
  have stat : ∀ {σ' : L2.St} {H' : Hp} {s' : Shared}, Inv (X.blk s3 H3 scope ce fp) [] σ' H' s' → (∀ b ∈ fp, H' b = none) → ∀ b ∈ fp, FpOk (X.blk s3 H3 scope ce fp) [] H' b := fun {σ' H' s'} I' hn b hb =>
    ⟨hn b hb, (I'.ok.exf b hb).1, I'.ok.exfs b hb, .inl hb, fun x c e => (I'.ok.exf b hb).2 x c e, fun p hp => absurd (show p ∈ ([] : List (Addr × Obj)) ++ [] from hp) (by simp)⟩
  have okB : (X.blk s3 H3 scope ce fp).Ok := I4.ok
  have loop : codeAny (model X.prog X.w) X.A (.compLoop (.ListComp elt [⟨tg, iter, ifs, 0⟩] scope pos) 0 (.ref it) (.ref D) ce) (compEnds (model X.prog X.w) X.A X.xe (some us) Qf (.ref D) ce) s4 := by
    refine compLoop_any (fun n s' => ∃ i H', Inv (X.blk s3 H3 scope ce fp) [] (wipe σ (own.map (·.2))) H' s' ∧ tn i s'.heap ∧ (∀ b ∈ fp, H' b = none) ∧ Wm i n H') ?_ m0 ⟨0, H3, I4, st4, nfp, w0⟩
    rintro n s5 ⟨i, H5, I5, st5, n5, w5⟩
    rcases turn i n H5 w5 with ⟨stop, qq⟩ | ⟨go, Nx, hNx, step⟩
    · have td := T.done (X.blk s3 H3 scope ce fp) rfl rfl rfl hc i [] s5 _ H5 (fun _ _ => False) I5 (stat I5 n5) st5 stop
      refine thnF td fun r s6 ⟨hr, I6⟩ => ?_
      subst hr
      have I7 : Inv X pins σ H5 s6 := I3.call' (ch := fp) I6.os I6.base I6.hok I6.bare fun b hb => ⟨(f3 b hb).1.2.2.2.1, (f3 b hb).1.2.1, (f3 b hb).1.2.2.2.2.1, (f3 b hb).1.2.2.2.2.2⟩
      have nC : H5 s3.heap.objs.size = none := by
        have z : H5 ce.locals = none := I6.free
        rwa [cL] at z
      obtain ⟨m, hn, _⟩ := I6.loc
      have hn : s6.heap.Ns ce.locals m := hn
      have r := hRR D s3.heap.objs.size s6 m H5 I7 qq (by rw [← cL]; exact hn) (I3.fpOk (Nat.le_refl _) nC)
      rw [← cL] at r
      exact r
    · have ti := T.item (X.blk s3 H3 scope ce fp) rfl rfl rfl hc i [] s5 _ H5 (fun _ _ => False) I5 (stat I5 n5) st5 go
      refine thnF ti fun r s6 ⟨u, hr, h6⟩ => ?_
      subst hr
      refine thnF h6 fun _ s7 ⟨x, H7, I7, r7, y7, st7, n7⟩ => ?_
      have I7' := I7.pinned (stat I7 n7) (T.obj _ _ st7)
      refine thnF (pg.run _ s7 _ H7 x u _ I7' r7 (step x H7 y7)) fun _ s8 ⟨σ8, H8, I8, hw8, q8⟩ => ?_
      refine thnF (pt.run _ s8 σ8 H8 _ I8 q8) fun b s9 ⟨H9, I9, q9⟩ => ?_
      have fin : ∀ {s' : Shared} {H' : Hp}, Inv (X.blk s3 H3 scope ce fp) ([] ++ pinsAt fp s7.heap) σ8 H' s' → Nx H' → ∃ m, m < n ∧ ∃ i H', Inv (X.blk s3 H3 scope ce fp) [] (wipe σ (own.map (·.2))) H' s' ∧ tn i s'.heap ∧ (∀ b ∈ fp, H' b = none) ∧ Wm i m H' := fun {s' H'} I' nx => by
        obtain ⟨m', hm, w'⟩ := hNx H' nx
        have pin' : ∀ b ∈ fp, ∀ o, s7.heap.get? b = some o → s'.heap.get? b = some o ∧ H' b = none := fun b hb o e =>
          let z := I'.pin (b, o) (List.mem_append_right _ (List.mem_append_right _ (mem_pinsAt hb e)))
          ⟨z.1, z.2.1⟩
        have hl : (wipe σ (own.map (·.2))).length = σ8.length := by rw [← hw8, wipe_length]
        refine ⟨m', hm, i + 1, H', (I'.unpinned (pins := [])).weak hl (fun j v e => ?_), T.keep _ _ _ st7 fun b hb o e => (pin' b hb o e).1, fun b hb => ?_, w'⟩
        · rw [← hw8] at e
          exact (wipe_some e).1
        · obtain ⟨o, e, _⟩ := T.obj _ _ st7 b hb
          exact (pin' b hb o e).2
      cases b with
      | false =>
        simp only [Bool.false_eq_true, if_false] at q9 ⊢
        exact fin I9 q9
      | true =>
        simp only [if_true] at q9 ⊢
        have hx : ∀ σ', PassesAt (L2.CX X.prog X.w) ((X.blk s3 H3 scope ce fp).tr ((X.blk s3 H3 scope ce fp).pn ++ ([] ++ pinsAt fp s7.heap)) (notedBy (model X.prog X.w) X.A ce (CompFails (model X.prog X.w) X.A X.xe ce))) σ' Eo := fun σ' pn' Ha sa ea sb Ia ca =>
          elt_fails I3 (fun b hb => (f3 b hb).1) (Ia.ofTry okB) cL cf hst hf tk hW ca
        refine wpAny_mono ((pe _ _ hx).run [] s9 σ8 H9 _ (I9.toTry _) q9) (fun z s10 hz => ?_) fun _ _ z => z
        obtain ⟨yv, H10, I10, r10, acc, hD10, hz10, nx⟩ := hz
        exact app_ok (X := X.blk s3 H3 scope ce fp) (I10.ofTry okB) hD10 hz10 r10 fun s11 I11 => fin I11 nx
  exact codeAny_compStart_list loop (T.self X.A 0 _ _ _ st4 loop)
/-- name = [f(x) for x in ..] on one line, the name a local, f may raise -/
theorem ps_setLcR {X : Cx} {i : Nat} {y : Str} {py : Pos} {elt tg iter : Expr} {ifs : List Expr} {scope : Scope} {own : List (Str × Nat)} {pos spos : Pos} {wi : TI} {g : TG} {tt : TT} {te : TE} {Eo : XK} {W : WX} (hc : X.calm = true) (hN : X.N.Nodup) (hy : X.N[i]? = some y) (hyl : X.env.scope.names.lookup y = some .local)
    (hsw : swapsWith (.ListComp elt [⟨tg, iter, ifs, 0⟩] scope pos) (some (.Name y py)) spos.line X.env = pure true) (hi : PI X tg iter wi) (ok : BlkOk X.N X.env.scope scope own) (hst : X.stack = X.env :: X.outer) (hf : X.env.frame = some X.env.locals) (tk : L2.Takes X W) (hW : ∀ cls d σ H, Eo cls d H → W cls d σ H)
    (hg : ∀ (s : Shared) (H : Hp) (C : Addr) (cl : List (Str × Addr)) (fp : List Addr), PG (X.blk s H scope (compEnvC scope cl C X.env) fp) tg g) (ht : ∀ (s : Shared) (H : Hp) (C : Addr) (cl : List (Str × Addr)) (fp : List Addr), PTs (X.blk s H scope (compEnvC scope cl C X.env) fp) ifs tt)
    (he : ∀ (s : Shared) (H : Hp) (C : Addr) (cl : List (Str × Addr)) (fp : List Addr) (pn : List (Addr × Obj)) (xe : Value → Shared → Prop), (∀ σ, PassesAt (L2.CX X.prog X.w) ((X.blk s H scope (compEnvC scope cl C X.env) fp).tr pn xe) σ Eo) → PE ((X.blk s H scope (compEnvC scope cl C X.env) fp).tr pn xe) elt te)
    (hs : ∀ x, foldedSetIterable iter X.env x = pure x := by intro _; rfl) :
    PS X (.Assign [.Name y py] (.ListComp elt [⟨tg, iter, ifs, 0⟩] scope pos) spos) (tAsg (tLc wi g tt te (own.map (·.2))) (gName i)) := by
  refine ⟨fun pins s σ H D I h => ?_⟩
  rw [exec_Assign_Name_used _ _ _ _ hsw]
  refine wpAny_bind (wpAny_standAt (wpAny_bind ?_))
  show wpAny _ X.A (do let _ ← comprehension (.ListComp elt [⟨tg, iter, ifs, 0⟩] scope pos) scope X.env (firstIterPos [⟨tg, iter, ifs, 0⟩] pos) (newList []) false (eval iter X.env) (some (assign (.Name y py) X.env))) _ _ s
  have h : tLc wi g tt te (own.map (·.2)) σ H (fun x H1 => gName i x σ H1 D.nx) := h
  refine wpAny_bind (thn (lc_goes (Qf := fun _ s' => SP X pins D .next s') hc hN I hi ok hst hf tk hW hg ht he hs h fun L C s' m H' I' q hn f => ?_) fun _ s' hq => wpAny_pure (wpAny_pure hq))
  show wpAny _ _ (assign (.Name y py) X.env (.ref L)) _ _ _
  refine wpAny_assign_Name (store_ok2 (v := V.ref L) I' hN hy (.inl hyl) rfl (fun s2 I2 ⟨a, sb, ha⟩ => ?_) (.inr hyl))
  obtain ⟨f0, f1, f2, f3, f4, f5⟩ := f
  have haC : C ≠ a := by
    rcases ha with z | z
    · rw [z]
      exact f1
    · exact fun e => f4 y a z e.symm
  refine ⟨m, hn.sameBut sb haC, fun h3 sb3 => ?_⟩
  exact ⟨_, H', I2.turned (t' := s2.toks) (fun b o hb e => (sb3.2 b hb).trans e) f0 f1 f3 f4 f5, q⟩
end RcL
namespace Tt
open PySem PySem.Spec PyProof.Rows L2 L2H Evl RcL
section
variable {P : Program} {w : World} {K : PySem.W.Frag} {mg : Str → Option Value} {base : Heap}
theorem okL {x qual : Str} {st : Stmt} {f : Addr} {fd : FuncData} {N ps : List Str} {k : Nat} {sp : Sp} (F : Fun K x qual st f fd) (S : FnScope N ps (defScope st)) (len : ∀ vs H Q E, sp vs H Q E → vs.length = ps.length)
    (body : ∀ (cdv : Value) (AA : Around) (outer : List Env) (s : Shared) (H : Hp) (vs : List V) (Q : VK) (E : XK), Room k (AA.deeper (envOfC qual (defScope st) s.heap.objs.size f cdv)) → sp vs H Q E →
      ∃ t, PSs (cxOf (L2.CX P w) P w K mg base N qual (defScope st) f cdv AA outer s H E) (defBody st) t ∧ t { nx := fun _ H' => Q .non H', rt := Q } (start N vs) H) : FnOk P w K mg base (L2.CX P w) (k + 1) f fd ps sp := by
  obtain ⟨oc, od, kV, doc, pm, an, cdv, ct, osl, rfl, lk, hcd⟩ := F.ex
  exact fn_of lk hcd S len fun AA outer s H vs Q E hr hsp => body cdv AA outer s H vs Q E hr hsp

structure FnZ (P : Program) (w : World) (K : PySem.W.Frag) (mg : Str → Option Value) (base : Heap) (k : Nat) (f : Addr) (fd : FuncData) (ps : List Str) (sp : SpE) : Prop where
  len : ∀ a c d vs H Q E, sp a c d vs H Q E → vs.length = ps.length
  run : ∀ (AA : Around) (outer : List Env) (s : Shared) (H : Hp) (args : Args) (us : List Value) (vs : List V) (Q : VK) (E : XK) (p : Addr × Obj) (c : Value) (d : Option Addr), RoomH k AA → (∃ vs, p.2.data = .fields vs) → Zc c d p.2 → PinOk outer H s p → Env0 P w K mg base AA outer s H →
    BindsTo s fd args (ps.zip us) → Vals vs us → sp p.1 c d vs H Q E → codeAny (model P w) AA (.call (.ref f) args) (CR CX0 outer P w H s Q E) s
/-- such a def, by its body -/
theorem okZ {x qual : Str} {st : Stmt} {f : Addr} {fd : FuncData} {N ps : List Str} {k : Nat} {sp : SpE} (F : Fun K x qual st f fd) (S : FnScope N ps (defScope st)) (len : ∀ a c d vs H Q E, sp a c d vs H Q E → vs.length = ps.length)
    (body : ∀ (cdv : Value) (AA : Around) (outer : List Env) (s : Shared) (H : Hp) (vs : List V) (Q : VK) (E : XK) (p : Addr × Obj) (c : Value) (d : Option Addr), (∃ vs, p.2.data = .fields vs) → Zc c d p.2 → RoomH k (AA.deeper (envOfC qual (defScope st) s.heap.objs.size f cdv)) → sp p.1 c d vs H Q E →
      ∃ t, PSs (cxH CX0 P w K mg base N qual (defScope st) f cdv AA outer s H E p) (defBody st) t ∧ t { nx := fun _ H' => Q .non H', rt := Q } (start N vs) H) : FnZ P w K mg base (k + 1) f fd ps sp := by
  obtain ⟨oc, od, kV, doc, pm, an, cdv, ct, osl, rfl, lk, hcd⟩ := F.ex
  refine ⟨len, fun AA outer s H args us vs Q E p c d hr hot hz hpin e0 hb r hsp => ?_⟩
  -- the promise at this very error, as a promise of the layer's own kind
  let sp1 : Sp := fun vs H Q E => sp p.1 c d vs H Q E
  refine (fn_ofP lk hcd S (sp := sp1) (p := p) (fun vs H Q E h => len _ _ _ vs H Q E h) fun AA outer s H vs Q E hot hr h => body cdv AA outer s H vs Q E p c d hot hz hr h) AA outer s H args us vs Q E hr hot hpin e0 hb r hsp
where
  fn_ofP {name qual : Str} {params : Arguments} {body : List Stmt} {scope : Scope} {dV kV doc pm cdv ct oc : Value} {an od : Option Addr} {f : Addr} {k : Nat} {osl : Array (Option Value)} {N ps : List Str} {sp : Sp} {p : Addr × Obj} (lk : K.lookup f = some ⟨oc, od, .func (PySem.W.fnOf name qual params body scope dV kV doc pm an cdv ct), osl⟩) (hcd : PySem.W.codeIn K cdv qual = true) (S : FnScope N ps scope)
    (len : ∀ vs H Q E, sp vs H Q E → vs.length = ps.length)
    (hbody : ∀ (AA : Around) (outer : List Env) (s : Shared) (H : Hp) (vs : List V) (Q : VK) (E : XK), (∃ vs, p.2.data = .fields vs) → RoomH k (AA.deeper (envOfC qual scope s.heap.objs.size f cdv)) → sp vs H Q E →
      ∃ t, PSs (cxH CX0 P w K mg base N qual scope f cdv AA outer s H E p) body t ∧ t { nx := fun _ H' => Q .non H', rt := Q } (start N vs) H) :
    ∀ (AA : Around) (outer : List Env) (s : Shared) (H : Hp) (args : Args) (us : List Value) (vs : List V) (Q : VK) (E : XK), RoomH (k + 1) AA → (∃ vs, p.2.data = .fields vs) → PinOk outer H s p → Env0 P w K mg base AA outer s H → BindsTo s (PySem.W.fnOf name qual params body scope dV kV doc pm an cdv ct) args (ps.zip us) → Vals vs us → sp vs H Q E →
      codeAny (model P w) AA (.call (.ref f) args) (CR CX0 outer P w H s Q E) s := by
    intro AA outer s H args us vs Q E hr hot hpin e0 hb r hsp
    have hl := len _ _ _ _ hsp
    have KX : K.In s.heap := e0.mod.kin.keeps fun b o e => (e0.bs b o e).1
    have lim : s.heap.NoLimit := e0.mod.nolimit.keeps fun b o e => (e0.bs b o e).1
    have kinds : ∀ y ∈ ps.zip us, scope.names.lookup y.1 = some .local ∨ (scope.names.lookup y.1 = some .cell ∧ ((cellsFrom (s.heap.objs.size + 1) scope.names []).lookup y.1).isSome = true) := by
      intro y hy
      obtain ⟨n, v⟩ := y
      rcases S.par n (List.of_mem_zip hy).1 with h | h
      · exact Or.inl h
      · exact Or.inr ⟨h, PySem.W.cellsFrom_some _ _ _ (Or.inl h)⟩
    refine codeAny_call_function hr.depth (KX _ _ lk) rfl S.co S.gen rfl (PySem.W.codeRec_of KX hcd) (hb _ _ _ _ ?_)
    refine wpAny_newFunctionEnv_cells S.kind kinds fun env he s1 x => ?_
    subst he
    refine ⟨lim.keeps x.toInCall.keep, codeAny_func ?_⟩
    obtain ⟨t, ht, hq⟩ := hbody AA outer s H vs Q E hot (hr.deeper _) hsp
    have I := inv_startH (CX := CX0) (E := E) (qual := qual) (f := f) (cd := cdv) S hpin e0 hl r x
    refine wpAny_mono (ht.run [] s1 _ H _ I hq) (fun fl s' hs => ?_) fun e s' hs => hs
    match fl, hs with
    | .ret u, ⟨v, σ', H', J, rv, q⟩ => exact ⟨v, H', J.os, J.bare, J.base, J.hok, rv, q⟩
    | .next, ⟨σ', H', J, q⟩ => exact ⟨V.non, H', J.os, J.bare, J.base, J.hok, rfl, q⟩
    | .brk, ⟨_, _, _, q⟩ => exact q.elim
    | .cont, ⟨_, _, _, q⟩ => exact q.elim
end
/-- its call in the suite that holds the error -/
def tCallZ (sp : SpE) (a : Addr) (c : Value) (d : Option Addr) (t : TA) : TE := fun σ H Q => t σ H fun vs H1 => sp a c d vs H1 Q E0
theorem pe_callZ {X : Cx} {k : Nat} {f : Addr} {fd : FuncData} {ps : List Str} {sp : SpE} {x : Str} {q pos : Pos} {e : Expr} {es : List Expr} {t : TA} {a : Addr} {oe : Obj} {c : Value} {d : Option Addr} (F : FnZ X.prog X.w X.K X.mg X.base k f fd ps sp) (hr : RoomH k X.A) (hot : ∃ vs, oe.data = .fields vs) (hp : (a, oe) ∈ X.pn) (hz : Zc c d oe)
    (hg : Gl X x) (hm : X.mg x = some (.ref f)) (hk : PySem.W.keepIn X.K (.ref f) = true) (hb : Binds X.K fd ps []) (ha : PA X (e :: es) t)
    (hdb : (x == ("__debug__" : Str)) = false := by decide) (he : starEach (e :: es) X.env = (false, eval e X.env) :: starEach es X.env := by rfl) (hpl : (backTo pos (starEach es X.env)).any (·.1) = false := by rfl) :
    PE X (.Call (.Name x q) (e :: es) [] pos) (tCallZ sp a c d t) := by
  refine ⟨fun pins s σ H Q I h => ?_⟩
  refine wpAny_Call_Name_kw (ld_glob I hg hm ?_ hdb)
  refine PySem.W.callWith_K (h₀ := X.base) I.ok.mod.kin hk (thn (ha.run pos pins s σ H _ I h) fun us s1 ⟨vs, H1, I1, r, hsp⟩ => ⟨I1.kIn, ?_⟩) he hpl
  have hl : us.length = ps.length := by rw [← r.length]; exact F.len _ _ _ _ _ _ _ hsp
  have b := hb s1 us I1.kIn (by rw [List.append_nil]; exact hl)
  rw [List.append_nil] at b
  have P1 := I1.pin (a, oe) (List.mem_append_left _ hp)
  have hpin : PinOk X.stack H1 s1 (a, oe) := ⟨P1.1, P1.2.1, fun hm => (List.mem_cons.mp (I1.stkSub a hm)).elim P1.2.2.1 P1.2.2.2.1, P1.2.2.2.2⟩
  refine wpAny_call (codeAny_mono (F.run X.A X.stack s1 H1 ⟨us, []⟩ us vs Q E0 (a, oe) c d hr hot hz hpin I1.env0 b r hsp) fun r s' hq => ?_)
  match r, hq with
  | .error e, hq => exact hq.elim
  | .ok (.ret u), hq => exact I1.after hq
  | .ok .next, hq => exact hq.elim
  | .ok .brk, hq => exact hq.elim
  | .ok .cont, hq => exact hq.elim
theorem call_isZ {X : Cx} {D : Addr} {p : Addr × Obj} (hp : p ∈ X.pn) (C : ExcC X.K D) (hz : Zc (.ref D) none p.2) (hf : ∃ vs, p.2.data = .fields vs) : CallR X (.builtin "isinstance") (rIsE X.K D p.1) := by
  intro pins s σ H xs us Q I r h
  obtain ⟨c, cv, b, rfl, hcv, e, q⟩ := h
  match us, r with
  | [u1, u2], .cons rx (.cons rt .nil) =>
    cases rx
    cases hcv _ rt
    have hget := (I.pin p (List.mem_append_left _ hp)).1
    obtain ⟨vs, hv⟩ := hf
    have J : PySem.W.InstAt s.heap p.1 p.2 D none := by
      obtain ⟨a, oc, od, oda, osl⟩ := p
      obtain ⟨h1, h2⟩ := hz
      dsimp only at h1 h2 hv hget
      subst h1 h2 hv
      exact ⟨hget, rfl, rfl, trivial⟩
    exact PySem.W.kia_one (PySem.W.handS_kitx_exc C.hg C.hk C.hs C.hd C.ha C.hn C.ht C.hm) I.kIn J e (fun z => nomatch z) fun tk => ⟨.bl b, H, I.kept (t' := tk) fun _ _ z => z, rfl, q⟩
/-! ### texts of which little is known -/
section
variable {K : PySem.W.Frag} {σ : L2.St} {H H' : Hp} {ta tb te tx to : TE} {t : TT}
def EvSP (te : TE) (σ : L2.St) (H : Hp) (P : Str → Prop) : Prop := ∀ H1, Ex H H1 → ∀ Q : VK, (∀ z H2, Ex H1 H2 → P z → Q (.str z) H2) → te σ H1 Q
theorem es_ev {z : Str} {P : Str → Prop} (h : Ev te σ H (.str z)) (p : P z) : EvSP te σ H P := fun H1 e Q q => h H1 e Q fun H2 e2 => q z H2 e2 p
theorem es_add {P R S : Str → Prop} (ha : EvSP ta σ H P) (hb : EvSP tb σ H R) (hz : ∀ x y, P x → R y → x.length + y.length ≤ 100000 ∧ S (x ++ y)) : EvSP (tOp (fun x y H Q => ∃ i j, x = .str i ∧ y = .str j ∧ i.length + j.length ≤ sizeLine ∧ Q (.str (i ++ j)) H) ta tb) σ H S := fun H1 e Q q =>
  ha H1 e _ fun x H2 e2 px => hb H2 (e.trans e2) _ fun y H3 e3 py => ⟨x, y, rfl, rfl, sz_of (hz x y px py).1, q _ H3 (e2.trans e3) (hz x y px py).2⟩
variable {D : Ends} {tz : TS}
theorem q_asgSP {k : Nat} {P : Str → Prop} (h : EvSP te σ H P) (c : ∀ z H1, P z → Ex H H1 → tz D (σ.set k (some (.str z))) H1) : tSeq (tAsg te (gName k)) tz D σ H := h H (Ex.refl _) _ fun z H1 e p => c z H1 p e
theorem s_asgSP {k : Nat} {P : Str → Prop} (h : EvSP te σ H P) (c : ∀ z H1, P z → Ex H H1 → D.nx (σ.set k (some (.str z))) H1) : tAsg te (gName k) D σ H := h H (Ex.refl _) _ fun z H1 e p => c z H1 p e
theorem q_asgBad {g : TG} (h : ∀ Q, te σ H Q) : tSeq (tAsg te g) tz D σ H := h _
/-- a text glued out of the texts of a list's numbers -/
theorem es_joinLc {s : Str} {tl te : TE} {j : Nat} {vs : List Nat} {R : List Int → Prop} {P : Str → Prop} (f : Int → Str) (h : EvLP tl σ H R) (hz : ∀ ds, R ds → ds.length ≤ 40000) (hw : ∀ x, wipe ((wipe σ vs).set j (some x)) vs = wipe σ vs)
    (he : ∀ (ds : List Int) (c : Int) G, R ds → c ∈ ds → Ev te ((wipe σ vs).set j (some (.int c))) G (.str (f c))) (hs : ∀ ds, R ds → ((ds.map f).map (·.length)).sum + (ds.map f).length * s.length ≤ 16777216) (hP : ∀ ds, R ds → P (Txt.join s (ds.map f))) :
    EvSP (tM1 (fun x xs H Q => ∃ a p, ∃ ys : List Str, x = .str a ∧ xs = [.ref p] ∧ (SqL K H p (ys.map V.str) ∨ SqT K H p (ys.map V.str)) ∧ (ys.map (·.length)).sum + ys.length * a.length ≤ 16777216 ∧ Q (.str (Txt.join a ys)) H) (tC (.str s)) (tLc (iList K tl) (gName j) tYes te vs)) σ H P := fun H1 e Q q =>
  ⟨⟨s, rfl⟩, h H1 e _ fun p ds H2 _ e2 hp hd => by
    have key := el_lcL (K := K) (σ := σ) (H := H2) (tl := tC (.ref p)) (t := tYes) (te := te) (j := j) (vs := vs) (xs := ds.map V.int) (fun _ => true) (fun i => V.str (f (ds.getD i 0))) ev_c (sq_of hp) (by rw [List.length_map]; exact hz ds hd) hw (fun i x G _ _ => et_yes) (fun i x G _ hx _ => by
      obtain ⟨c, hc, rfl⟩ := int_item hx
      have eg : ds.getD i 0 = c := by rw [List.getD_eq_getElem?_getD, hc]; rfl
      rw [eg]
      exact he ds c G hd (List.mem_of_getElem? hc))
    have hxs : given (ds.map V.int).length (fun _ => true) (fun i => V.str (f (ds.getD i 0))) = (ds.map f).map V.str := by
      unfold given
      rw [List.filter_eq_self.mpr (fun _ _ => rfl), List.length_map]
      conv => rhs; rw [← range_getD ds 0]
      rw [List.map_map, List.map_map]
      rfl
    rw [hxs] at key
    exact key H2 (Ex.refl _) (fun y H4 => ∃ a p, ∃ ys : List Str, V.str s = .str a ∧ [y] = [.ref p] ∧ (SqL K H4 p (ys.map V.str) ∨ SqT K H4 p (ys.map V.str)) ∧ (ys.map (·.length)).sum + ys.length * a.length ≤ 16777216 ∧ Q (.str (Txt.join a ys)) H4) fun pl H3 _ e3 hpl =>
      ⟨s, pl, ds.map f, rfl, rfl, Or.inl (sq_of hpl), hs ds hd, q _ H3 (e2.trans e3) (hP ds hd)⟩⟩
/-- a sign of a text, at a place of which the bounds are known -/
theorem es_ix {z : Str} {R : Int → Prop} (ha : Ev ta σ H (.str z)) (hb : EvI tb σ H R) (hz : z.length ≤ 100000) (hR : ∀ i, R i → 0 ≤ i ∧ i < (z.length : Int)) : EvSP (tOp rIxS ta tb) σ H (fun x => x.length = 1) := fun H1 e Q q =>
  ha H1 e _ fun H2 e2 => hb H2 (e.trans e2) _ fun i H3 e3 ri => by
    obtain ⟨i0, i1⟩ := hR i ri
    have hlt : i.toNat < (cod z).length := by rw [cod_len]; omega
    have hc : (cod z)[i.toNat]? = some (cod z)[i.toNat] := List.getElem?_eq_getElem hlt
    have ei : i = ((i.toNat : Nat) : Int) := by omega
    have hat : atI (cod z) i = some (cod z)[i.toNat] := (congrArg (atI (cod z)) ei).trans (at_nat hc)
    exact ⟨z, i, _, rfl, rfl, sz_of hz, hat, q ⟨#[(cod z)[i.toNat]]⟩ H3 (e2.trans e3) rfl⟩
/-- a text out of a list of texts -/
theorem es_ixL {zs : List Str} {R : Int → Prop} {P : Str → Prop} (ha : EvR ta σ H (zs.map V.str)) (hb : EvI tb σ H R) (hR : ∀ i, R i → 0 ≤ i ∧ i < (zs.length : Int)) (hP : ∀ z ∈ zs, P z) : EvSP (tOp (rIxL K) ta tb) σ H P := fun H1 e Q q =>
  ha H1 e _ fun p H2 e2 hp => hb H2 (e.trans e2) _ fun i H3 e3 ri => by
    obtain ⟨i0, i1⟩ := hR i ri
    have hlt : i.toNat < zs.length := by omega
    have hc : zs[i.toNat]? = some zs[i.toNat] := List.getElem?_eq_getElem hlt
    exact rv_ixL (sq_of (e3 _ _ hp)) (at_of (j := i.toNat) (by omega) (by rw [List.getElem?_map, hc]; rfl)) H3 (Ex.refl _) Q fun H4 e4 => q _ H4 ((e2.trans e3).trans e4) (hP _ (List.mem_of_getElem? hc))
/-- an element's call raises at the place i0: what is wanted then holds -/
theorem lc_bad {xs : List V} {tl te : TE} {j : Nat} {vs : List Nat} {i0 : Nat} (v : Nat → V) (h : EvL tl σ H xs) (h0 : i0 < xs.length) (hz : xs.length ≤ 40000) (hw : ∀ x, wipe ((wipe σ vs).set j (some x)) vs = wipe σ vs)
    (he : ∀ (i : Nat) (x : V) H1, Ex H H1 → xs[i]? = some x → i < i0 → Ev te ((wipe σ vs).set j (some x)) H1 (v i)) (hb : ∀ (x : V) H1, Ex H H1 → xs[i0]? = some x → ∀ Q, te ((wipe σ vs).set j (some x)) H1 Q) (Q : VK) : tLc (iList K tl) (gName j) tYes te vs σ H Q :=
  h H (Ex.refl _) _ fun a H1 ha e1 hx => ⟨a, rfl, ⟨xs, sq_of hx⟩, fun Dl hD =>
    lc_list (xs := xs) (fun i H' => i ≤ i0 ∧ Cw H1 (fun _ => true) v Dl i H') ⟨Nat.zero_le _, hD, Ex.new hD, upd_same⟩ (fun i H' _ p => sq_of (p.2.2.1 a _ hx)) (fun i x H' hi p => ⟨hw x, by
      show te ((wipe σ vs).set j (some x)) H' fun y H4 => ∃ acc, H4 Dl = some (.lst acc) ∧ acc.length < sizeLine ∧ (i + 1 ≤ i0 ∧ Cw H1 (fun _ => true) v Dl (i + 1) (upd H4 Dl (.lst (acc ++ [y]))))
      by_cases c : i < i0
      · have hlt := (List.getElem?_eq_some_iff.mp hi).1
        refine he i x H1 e1 hi c H' p.2.2.1 _ fun H4 e4 => ⟨_, e4 _ _ p.2.2.2, sz_lt (by have := given_len i (fun _ => true) v; omega), c, p.2.1, Ex.mut (p.2.2.1.trans e4) p.2.1, ?_⟩
        rw [given_yes rfl]
        exact upd_same
      · have e : i = i0 := by omega
        rw [e] at hi
        exact hb x H' (e1.trans p.2.2.1) hi _⟩) (fun H' p => absurd p.1 (by omega))⟩
end
/-! ### which word writes a card, and which -/
theorem Cd.one {w : Str} {k k' : Int} (h : Cd w k) (h' : Cd w k') : k = k' := Option.some.inj (h.val.symm.trans h'.val)
open Classical in
noncomputable def numM (w : Str) : Int := if h : ∃ k, Cd w k then Classical.choose h else 0
theorem numM_of {w : Str} {k : Int} (h : Cd w k) : numM w = k := by
  have hx : ∃ k, Cd w k := ⟨k, h⟩
  unfold numM
  rw [dif_pos hx]
  exact (Classical.choose_spec hx).one h
theorem numM_no {w : Str} (h : ¬ ∃ k, Cd w k) : numM w = 0 := dif_neg h
theorem cd_of {w : Str} (l1 : 1 ≤ w.length) (l2 : w.length ≤ 2) (h0 : (cod w)[0]? ≠ some 48) (dg : ∀ c ∈ cod w, 48 ≤ c ∧ c ≤ 57) : ∃ k, Cd w k :=
  ⟨_, l1, l2, h0, dg, intText_digits (fun c hc => dg c hc) (fun e => by
    have := cod_len w
    unfold cod at this
    rw [e] at this
    simp at this
    omega) (by omega)⟩
/-- the numbers that a text writes, nought for a word that writes none -/
noncomputable def nsM (z : Str) : List Int := (Txt.split z ⟨#[44]⟩).map numM
theorem nsM_bad {z : Str} {i : Nat} {w : Str} (hi : (Txt.split z ⟨#[44]⟩)[i]? = some w) (hb : ¬ ∃ k, Cd w k) : ¬ IsDk (nsM z) := fun d => by
  have h0 : (0 : Int) ∈ nsM z := by
    unfold nsM
    rw [List.mem_map]
    exact ⟨w, List.mem_of_getElem? hi, numM_no hb⟩
  have := d.mem.mp h0
  omega
theorem split_len {z : Str} : (Txt.split z ⟨#[44]⟩).length ≤ z.length + 1 := by
  have := PyProof.Rows.split_weight z ⟨#[44]⟩ (by decide)
  omega
theorem split_part {z w : Str} (h : w ∈ Txt.split z ⟨#[44]⟩) : w.length ≤ z.length := PyProof.Rows.part_short h
theorem nsM_pos (z : Str) : 1 ≤ (nsM z).length := by
  unfold nsM
  rw [List.length_map]
  exact List.length_pos_iff.mpr (split_ne z _)
end Tt

namespace Tt
open PySem PySem.Spec PyProof.Rows L2 Evl L2H RcL
/-! ### the text by places -/
def topS (i : Nat) : Stmt := PySem.Challenge.pw_topturn_k14_texts_refused.main.body.getD i (.Pass ⟨0, 0, 0, 0⟩)
abbrev s_ask : Stmt := topS 10
abbrev N_ask : List Str := ["deck"]
theorem sc_ask : FnScope N_ask ["deck"] (defScope s_ask) := ⟨rfl, rfl, rfl, by decide +kernel, rfl, by decide +kernel, by decide +kernel⟩
abbrev s_card_of : Stmt := topS 13
abbrev N_card_of : List Str := ["word", "sign"]
theorem sc_card_of : FnScope N_card_of ["word"] (defScope s_card_of) := ⟨rfl, rfl, rfl, by decide +kernel, rfl, by decide +kernel, by decide +kernel⟩
abbrev s_read : Stmt := topS 14
abbrev N_read : List Str := ["text", "deck", "word"]
theorem sc_read : FnScope N_read ["text"] (defScope s_read) := ⟨rfl, rfl, rfl, by decide +kernel, rfl, by decide +kernel, by decide +kernel⟩
abbrev s_law_cell_at : Stmt := topS 16
abbrev N_law_cell_at : List Str := ["script", "k"]
theorem sc_law_cell_at : FnScope N_law_cell_at ["script", "k"] (defScope s_law_cell_at) := ⟨rfl, rfl, rfl, by decide +kernel, rfl, by decide +kernel, by decide +kernel⟩
abbrev s_law_deck : Stmt := topS 18
abbrev N_law_deck : List Str := ["script", "at", "most", "size", "left", "deck", "k"]
theorem sc_law_deck : FnScope N_law_deck ["script", "at", "most"] (defScope s_law_deck) := ⟨rfl, rfl, rfl, by decide +kernel, rfl, by decide +kernel, by decide +kernel⟩
abbrev s_law_which : Stmt := topS 19
abbrev N_law_which : List Str := ["e", "some"]
theorem sc_law_which : FnScope N_law_which ["e"] (defScope s_law_which) := ⟨rfl, rfl, rfl, by decide +kernel, rfl, by decide +kernel, by decide +kernel⟩
abbrev s_law_sign_by : Stmt := topS 20
abbrev N_law_sign_by : List Str := ["cell", "signs"]
theorem sc_law_sign_by : FnScope N_law_sign_by ["cell"] (defScope s_law_sign_by) := ⟨rfl, rfl, rfl, by decide +kernel, rfl, by decide +kernel, by decide +kernel⟩
abbrev s_law_odd : Stmt := topS 21
abbrev N_law_odd : List Str := ["cell", "some"]
theorem sc_law_odd : FnScope N_law_odd ["cell"] (defScope s_law_odd) := ⟨rfl, rfl, rfl, by decide +kernel, rfl, by decide +kernel, by decide +kernel⟩
abbrev s_law_number : Stmt := topS 22
abbrev N_law_number : List Str := ["word", "sign"]
theorem sc_law_number : FnScope N_law_number ["word"] (defScope s_law_number) := ⟨rfl, rfl, rfl, by decide +kernel, rfl, by decide +kernel, by decide +kernel⟩
abbrev s_law_due : Stmt := topS 23
abbrev N_law_due : List Str := ["text", "deck", "word"]
theorem sc_law_due : FnScope N_law_due ["text"] (defScope s_law_due) := ⟨rfl, rfl, rfl, by decide +kernel, rfl, by decide +kernel, by decide +kernel⟩
abbrev s_law_told : Stmt := topS 24
abbrev N_law_told : List Str := ["text", "told", "e"]
theorem sc_law_told : FnScope N_law_told ["text"] (defScope s_law_told) := ⟨rfl, rfl, rfl, by decide +kernel, rfl, by decide +kernel, by decide +kernel⟩
abbrev s_law_spoiled : Stmt := topS 25
abbrev N_law_spoiled : List Str := ["text", "cell", "other", "at"]
theorem sc_law_spoiled : FnScope N_law_spoiled ["text", "cell", "other"] (defScope s_law_spoiled) := ⟨rfl, rfl, rfl, by decide +kernel, rfl, by decide +kernel, by decide +kernel⟩
abbrev s_law : Stmt := topS 26
abbrev N_law : List Str := ["script", "text", "due", "found", "card"]
theorem sc_law : FnScope N_law ["script"] (defScope s_law) := ⟨rfl, rfl, rfl, by decide +kernel, rfl, by decide +kernel, by decide +kernel⟩
/-- where things stand -/
structure Ads where
  (f_ask : Addr) (d_ask : FuncData)
  (f_card_of : Addr) (d_card_of : FuncData)
  (f_read : Addr) (d_read : FuncData)
  (f_law_cell_at : Addr) (d_law_cell_at : FuncData)
  (f_law_deck : Addr) (d_law_deck : FuncData)
  (f_law_which : Addr) (d_law_which : FuncData)
  (f_law_sign_by : Addr) (d_law_sign_by : FuncData)
  (f_law_odd : Addr) (d_law_odd : FuncData)
  (f_law_number : Addr) (d_law_number : FuncData)
  (f_law_due : Addr) (d_law_due : FuncData)
  (f_law_told : Addr) (d_law_told : FuncData)
  (f_law_spoiled : Addr) (d_law_spoiled : FuncData)
  (f_law : Addr) (d_law : FuncData)
  t_MOST : Tok
  t_FIGURES : Tok
  c_CardError : Addr
  c_NoDeck : Addr
  c_NoTurn : Addr
  c_NoGame : Addr
  c_TooTall : Addr
  c_NoBack : Addr
  c_BadLine : Addr
/-- what the top has written -/
structure Txt (K : PySem.W.Frag) (mg : Str → Option Value) (A : Ads) : Prop where
  n_len : mg "len" = none
  n_sorted : mg "sorted" = none
  n_list : mg "list" = none
  n_range : mg "range" = none
  n_isinstance : mg "isinstance" = none
  n_int : mg "int" = none
  n_bool : mg "bool" = none
  n_str : mg "str" = none
  n_ValueError : mg "ValueError" = none
  g_MOST : mg "MOST" = some (.int 16 A.t_MOST)
  g_FIGURES : mg "FIGURES" = some (.str "0123456789" A.t_FIGURES)
  F_ask : Fun K "ask" "ask" s_ask A.f_ask A.d_ask
  g_ask : mg "ask" = some (.ref A.f_ask)
  b_ask : Binds K A.d_ask ["deck"] []
  F_card_of : Fun K "card_of" "card_of" s_card_of A.f_card_of A.d_card_of
  g_card_of : mg "card_of" = some (.ref A.f_card_of)
  b_card_of : Binds K A.d_card_of ["word"] []
  F_read : Fun K "read" "read" s_read A.f_read A.d_read
  g_read : mg "read" = some (.ref A.f_read)
  b_read : Binds K A.d_read ["text"] []
  F_law_cell_at : Fun K "_law_cell_at" "_law_cell_at" s_law_cell_at A.f_law_cell_at A.d_law_cell_at
  g_law_cell_at : mg "_law_cell_at" = some (.ref A.f_law_cell_at)
  b_law_cell_at : Binds K A.d_law_cell_at ["script", "k"] []
  F_law_deck : Fun K "_law_deck" "_law_deck" s_law_deck A.f_law_deck A.d_law_deck
  g_law_deck : mg "_law_deck" = some (.ref A.f_law_deck)
  b_law_deck : Binds K A.d_law_deck ["script", "at", "most"] []
  F_law_which : Fun K "_law_which" "_law_which" s_law_which A.f_law_which A.d_law_which
  g_law_which : mg "_law_which" = some (.ref A.f_law_which)
  b_law_which : Binds K A.d_law_which ["e"] []
  F_law_sign_by : Fun K "_law_sign_by" "_law_sign_by" s_law_sign_by A.f_law_sign_by A.d_law_sign_by
  g_law_sign_by : mg "_law_sign_by" = some (.ref A.f_law_sign_by)
  b_law_sign_by : Binds K A.d_law_sign_by ["cell"] []
  F_law_odd : Fun K "_law_odd" "_law_odd" s_law_odd A.f_law_odd A.d_law_odd
  g_law_odd : mg "_law_odd" = some (.ref A.f_law_odd)
  b_law_odd : Binds K A.d_law_odd ["cell"] []
  F_law_number : Fun K "_law_number" "_law_number" s_law_number A.f_law_number A.d_law_number
  g_law_number : mg "_law_number" = some (.ref A.f_law_number)
  b_law_number : Binds K A.d_law_number ["word"] []
  F_law_due : Fun K "_law_due" "_law_due" s_law_due A.f_law_due A.d_law_due
  g_law_due : mg "_law_due" = some (.ref A.f_law_due)
  b_law_due : Binds K A.d_law_due ["text"] []
  F_law_told : Fun K "_law_told" "_law_told" s_law_told A.f_law_told A.d_law_told
  g_law_told : mg "_law_told" = some (.ref A.f_law_told)
  b_law_told : Binds K A.d_law_told ["text"] []
  F_law_spoiled : Fun K "_law_spoiled" "_law_spoiled" s_law_spoiled A.f_law_spoiled A.d_law_spoiled
  g_law_spoiled : mg "_law_spoiled" = some (.ref A.f_law_spoiled)
  b_law_spoiled : Binds K A.d_law_spoiled ["text", "cell", "other"] []
  F_law : Fun K "law" "law" s_law A.f_law A.d_law
  g_law : mg "law" = some (.ref A.f_law)
  b_law : Binds K A.d_law ["script"] []
  K_CardError : ClsF K mg "CardError" A.c_CardError
  K_NoDeck : ClsF K mg "NoDeck" A.c_NoDeck
  K_NoTurn : ClsF K mg "NoTurn" A.c_NoTurn
  K_NoGame : ClsF K mg "NoGame" A.c_NoGame
  K_TooTall : ClsF K mg "TooTall" A.c_TooTall
  K_NoBack : ClsF K mg "NoBack" A.c_NoBack
  K_BadLine : ClsF K mg "BadLine" A.c_BadLine
  E_NoDeck : ErrF K mg "NoDeck" A.c_NoDeck
  s_NoDeck_CardError : PySem.W.subIn K (.ref A.c_NoDeck) (.ref A.c_CardError) = some true
  s_NoDeck_NoTurn : PySem.W.subIn K (.ref A.c_NoDeck) (.ref A.c_NoTurn) = some false
  s_NoDeck_NoGame : PySem.W.subIn K (.ref A.c_NoDeck) (.ref A.c_NoGame) = some false
  s_NoDeck_TooTall : PySem.W.subIn K (.ref A.c_NoDeck) (.ref A.c_TooTall) = some false
  s_NoDeck_NoBack : PySem.W.subIn K (.ref A.c_NoDeck) (.ref A.c_NoBack) = some false
  s_NoDeck_BadLine : PySem.W.subIn K (.ref A.c_NoDeck) (.ref A.c_BadLine) = some false
  E_BadLine : ErrF K mg "BadLine" A.c_BadLine
  s_BadLine_CardError : PySem.W.subIn K (.ref A.c_BadLine) (.ref A.c_CardError) = some true
  s_BadLine_NoDeck : PySem.W.subIn K (.ref A.c_BadLine) (.ref A.c_NoDeck) = some false
  s_BadLine_NoTurn : PySem.W.subIn K (.ref A.c_BadLine) (.ref A.c_NoTurn) = some false
  s_BadLine_NoGame : PySem.W.subIn K (.ref A.c_BadLine) (.ref A.c_NoGame) = some false
  s_BadLine_TooTall : PySem.W.subIn K (.ref A.c_BadLine) (.ref A.c_TooTall) = some false
  s_BadLine_NoBack : PySem.W.subIn K (.ref A.c_BadLine) (.ref A.c_NoBack) = some false
  cb_CardError : PySem.W.subIn K (.ref A.c_CardError) (.type "BaseException") = some true
  cd_CardError : PySem.W.hasDictIn K A.c_CardError = true
  cb_NoDeck : PySem.W.subIn K (.ref A.c_NoDeck) (.type "BaseException") = some true
  cd_NoDeck : PySem.W.hasDictIn K A.c_NoDeck = true
section
variable {P : Program} {w : World} {K : PySem.W.Frag} {mg : Str → Option Value} {base : Heap} {A : Ads}
/-- a deck of 1 to 16 cards -/
structure Dk (ns : List Int) : Prop where
  dk : IsDk ns
  lo : 1 ≤ ns.length
  hi : ns.length ≤ 16
theorem Dk.ov {ns : List Int} (h : Dk ns) (k : Int) : Dk (ov ns k) := ⟨h.dk.ov k, by rw [ov_len]; exact h.lo, by rw [ov_len]; exact h.hi⟩
theorem Dk.top {ns : List Int} (h : Dk ns) : ∃ k : Int, ns[0]? = some k ∧ 1 ≤ k ∧ k ≤ ns.length := by
  have h0 : 0 < ns.length := h.lo
  have e : ns[0]? = some ns[0] := List.getElem?_eq_getElem h0
  exact ⟨_, e, h.dk.at e⟩
theorem Gm.short16 {d ts e : List Int} (g : Gm d ts e) (h : Dk d) : ts.length < 32768 := by
  have h1 := g.short h.dk
  have h2 : 2 ^ (d.length - 1) ≤ 2 ^ 15 := Nat.pow_le_pow_right (by decide) (by have := h.hi; omega)
  omega
def spAsk (C : Addr) : Sp := fun vs H Q E => ∃ (a : Addr) (ns : List Int), vs = [.ref a] ∧ At H a ns ∧ ns.length ≤ 1000 ∧ (Dk ns → RetV .non H Q) ∧ (¬ Dk ns → ∀ H1, Ex H H1 → E (.ref C) none H1)
theorem spAsk_V {C : Addr} {H : Hp} {a : Addr} {ns : List Int} (h : At H a ns) (d : Dk ns) : SpV (spAsk C) [.ref a] H .non := fun H1 e Q q E => ⟨a, ns, rfl, e _ _ h, by have := d.hi; omega, fun _ H2 e2 => q H2 e2, fun z => absurd d z⟩
theorem ok_ask (T : Txt K mg A) : FnOk P w K mg base (L2N.CX P w) 1 A.f_ask A.d_ask ["deck"] (spAsk A.c_NoDeck) := by
  refine okN T.F_ask sc_ask (fun vs H Q E h => ?_) (fun cdv AA outer s H vs Q E hr h => ?_)
  · obtain ⟨a, ns, rfl, _⟩ := h
    rfl
  · obtain ⟨a, ns, rfl, ha, hl, q, qE⟩ := h
    refine ⟨_, (pss_one (ps_if (PW.pt (pw_or (pt_cmpR op_lt (pe_callB (r := rLenS K) call_len_seq (by rfl) T.n_len PySem.boot_len (pa_cons (pv 0) pa_nil)) pe_int (nomark _)) (pw_or (pt_cmpR op_gt (pe_callB (r := rLenS K) call_len_seq (by rfl) T.n_len PySem.boot_len (pa_cons (pv 0) pa_nil)) (pe_glob (v := .int 16) rfl T.g_MOST ⟨_, rfl⟩) (nomark _)) (pw_or1 (pt_cmpR (r := rNeD K) (op_neD hr.units) (pe_callB (r := rSortedI K) cr_sortedI (by rfl) T.n_sorted (by decide +kernel) (pa_cons (pv 0) pa_nil)) (pe_listRg rfl (by rfl) T.n_list (prg_2 (by rfl) T.n_range pe_int (pe_op op_add (pe_callB (r := rLenS K) call_len_seq (by rfl) T.n_len PySem.boot_len (pa_cons (pv 0) pa_nil)) pe_int))) (nomark _))))))
      (pss_one (L2N.ps_raise rfl (L2N.takes_of rfl rfl rfl rfl) (L2N.pmk_own PySem.F.excBase_ValueError T.E_NoDeck.x T.E_NoDeck.g T.E_NoDeck.k (T.E_NoDeck.raises rfl) rfl)))
      pss_nil)), ?_⟩
    have e1 : (decide ((ns.length : Int) < 1) || (decide ((16 : Int) < (ns.length : Int)) || !decide (srt ns = rng ns.length))) = true ↔ ¬ Dk ns := by
      have h3 := srt_rng ns
      simp only [Bool.or_eq_true, decide_eq_true_eq, Bool.not_eq_true', decide_eq_false_iff_not]
      constructor
      · rintro h d
        have h1 := d.lo
        have h2 := d.hi
        rcases h with h | h | h
        · omega
        · omega
        · exact h (h3.mpr d.dk)
      · intro hn
        by_cases c1 : (ns.length : Int) < 1
        · exact Or.inl c1
        · by_cases c2 : (16 : Int) < (ns.length : Int)
          · exact Or.inr (Or.inl c2)
          · exact Or.inr (Or.inr fun z => hn ⟨h3.mp z, by omega, by omega⟩)
    refine s_when (et_or (et_test (ev_op (ev_lenI (ev_var rfl) (sq_of ha)) ev_c rv_I0)) fun _ => et_or (et_test (ev_op (ev_lenI (ev_var rfl) (sq_of ha)) ev_c rv_I0)) fun _ => et_test (ev_neR (EvR.new (el_sorted (EvR.old (ev_var rfl) ha))) (EvR.new (el_rng ev_c (ev_op (ev_lenI (ev_var rfl) (sq_of ha)) ev_c rv_I0) rfl (by omega))))) (fun hb H1 ex => qE (e1.mp hb) H1 ex) fun hb H1 ex => q ?_ H1 ex
    by_cases d : Dk ns
    · exact d
    · rw [e1.mpr d] at hb
      cases hb

/-- with its refusal -/
def spCard (C : Addr) : Sp := fun vs H Q E => ∃ (w : Str), vs = [.str w] ∧ w.length ≤ 1000 ∧ (∀ k, Cd w k → RetV (.int k) H Q) ∧ ((¬ ∃ k, Cd w k) → ∀ H1, Ex H H1 → E (.ref C) none H1)
theorem figs : cod (Str.ofString "0123456789") = [48, 49, 50, 51, 52, 53, 54, 55, 56, 57] := by decide +kernel
theorem in_figs {c : Nat} : c ∈ cod (Str.ofString "0123456789") ↔ 48 ≤ c ∧ c ≤ 57 := by
  rw [figs]
  simp
  omega
theorem empty_len : (Str.ofString "").length = 0 := by decide +kernel
theorem zero_cod : cod (Str.ofString "0") = [48] := by decide +kernel
/-- the first test of a word -/
theorem word_test {w : Str} {c0 : Nat} (h0 : (cod w)[0]? = some c0) : decide (V.str ⟨#[c0]⟩ = V.str (Str.ofString "0")) = decide (c0 = 48) := by
  by_cases h : c0 = 48
  · rw [decide_eq_true h]
    refine decide_eq_true ?_
    have e : (⟨#[c0]⟩ : Str) = Str.ofString "0" := cod_inj (by rw [zero_cod, h])
    rw [e]
  · rw [decide_eq_false h]
    refine decide_eq_false fun z => h ?_
    have := congrArg cod (V.str.inj z)
    rw [zero_cod] at this
    simpa [cod] using this
theorem str_empty {w : Str} : decide (V.str w = V.str (Str.ofString "")) = decide (w.length < 1) := by
  by_cases h : w.length < 1
  · rw [decide_eq_true h]
    refine decide_eq_true ?_
    have e : w = Str.ofString "" := cod_inj (by
      have h1 := cod_len w
      have h2 := cod_len (Str.ofString "")
      rw [empty_len] at h2
      rw [List.eq_nil_of_length_eq_zero (l := cod w) (by omega), List.eq_nil_of_length_eq_zero h2])
    rw [e]
  · rw [decide_eq_false h]
    refine decide_eq_false fun z => h ?_
    have := congrArg Str.length (V.str.inj z)
    rw [empty_len] at this
    omega
theorem ok_card_of (T : Txt K mg A) : FnOk P w K mg base (L2.CX P w) 1 A.f_card_of A.d_card_of ["word"] (spCard A.c_BadLine) := by
  refine okL T.F_card_of sc_card_of (fun vs H Q E h => ?_) (fun cdv AA outer s H vs Q E hr h => ?_)
  · obtain ⟨a, rfl, _⟩ := h
    rfl
  · obtain ⟨a, rfl, hl, q, qE⟩ := h
    refine ⟨_, (pss_cons (ps_if (PW.pt (pw_or (pt_cmpR op_eq (pv 0) pe_str (nomark _)) (pw_or (pt_cmpR op_gt (pe_callB call_len_str (by rfl) T.n_len PySem.boot_len (pa_cons (pv 0) pa_nil)) pe_int (nomark _)) (pw_or1 (pt_cmpR op_eq (pe_ix ix_str (pv 0) pe_int (fun _ _ => rfl)) pe_str (nomark _))))))
      (pss_one (L2.ps_raise rfl (L2.takes_of rfl rfl rfl rfl) (L2.pmk_own PySem.F.excBase_ValueError T.E_BadLine.x T.E_BadLine.g T.E_BadLine.k (T.E_BadLine.raises rfl) rfl)))
      pss_nil)
      (pss_cons (ps_for (passes_of rfl) rfl (pi_str (pv 0)) (pg_name (i := 1) sc_card_of.nd rfl (by first | exact Or.inl rfl | exact Or.inr rfl))
      (pss_one (ps_if (pt_cmpR op_notIn_sign (pv 1) (pe_glob (v := .str "0123456789") rfl T.g_FIGURES ⟨_, rfl⟩) rfl)
        (pss_one (L2.ps_raise rfl (L2.takes_of rfl rfl rfl rfl) (L2.pmk_own PySem.F.excBase_ValueError T.E_BadLine.x T.E_BadLine.g T.E_BadLine.k (T.E_BadLine.raises rfl) rfl)))
        pss_nil)))
      (pss_one (ps_ret (pe_callTy call_int_str (by rfl) T.n_int (by decide +kernel) (pa_cons (pv 0) pa_nil)))))), ?_⟩
    have hlen := cod_len a
    have no : ∀ {b : Bool}, True := trivial
    by_cases hs : 1 ≤ a.length ∧ a.length ≤ 2 ∧ (cod a)[0]? ≠ some 48
    · obtain ⟨l1, l2, h0⟩ := hs
      have e0 : (cod a)[0]? = some (cod a)[0] := List.getElem?_eq_getElem (by omega)
      generalize (cod a)[0] = c0 at e0
      have hc0 : c0 ≠ 48 := fun z => h0 (by rw [e0, z])
      refine q_when (b := false) (et_is (et_or (et_test (ev_op (ev_var rfl) ev_c (rv_eq rfl))) fun _ => et_or (et_test (ev_op (ev_lenS (ev_var rfl) (by omega)) ev_c rv_I0)) fun _ => et_test (ev_op (ev_op (ev_var rfl) ev_c (rv_ixS (c := c0) (by omega) (at_nat (j := 0) e0))) ev_c (rv_eq rfl))) ?_) (fun z => nomatch z) fun _ H1 e1 => ?_
      · rw [str_empty, word_test e0, decide_eq_false (by omega), decide_eq_false (by omega), decide_eq_false hc0]
        rfl
      · refine q_forS (ev_var rfl) (fun i σ' H' => ∃ x, σ' = [some (.str a), x] ∧ Ex H H' ∧ ∀ (j c : Nat), j < i → (cod a)[j]? = some c → 48 ≤ c ∧ c ≤ 57) (fun H2 e2 => ⟨none, rfl, e1.trans e2, fun j c hj => absurd hj (by omega)⟩) ?_ ?_
        · rintro i c σ' H' hi ⟨x, rfl, ex, hd⟩
          refine s_when (et_test (ev_op (ev_var rfl) ev_c rv_niS)) (fun hb H2 e2 => ?_) fun hb H2 e2 => ?_
          · refine qE (fun ⟨k, hk⟩ => ?_) H2 (ex.trans e2)
            have hin := hk.dg c (List.mem_of_getElem? hi)
            rw [decide_eq_true (in_figs.mpr hin)] at hb
            cases hb
          · refine ⟨_, rfl, ex.trans e2, fun j c' hj hc' => ?_⟩
            by_cases hji : j = i
            · subst hji
              rw [hi] at hc'
              cases Option.some.inj hc'
              have hb : c ∈ cod (Str.ofString "0123456789") := by simpa using hb
              exact in_figs.mp hb
            · exact hd j c' (by omega) hc'
        · rintro σ' H' ⟨x, rfl, ex, hd⟩
          obtain ⟨k, hk⟩ := cd_of l1 l2 h0 (fun c hc => by
            obtain ⟨j, hj⟩ := List.mem_iff_getElem?.mp hc
            exact hd j c (by have := (List.getElem?_eq_some_iff.mp hj).1; rw [Array.length_toList] at this; exact this) hj)
          exact s_ret (ev_intS (ev_var rfl) hk.val (by omega)) fun H2 e2 => (q k hk).go (ex.trans e2)
    · have hbad : ¬ ∃ k, Cd a k := fun ⟨k, hk⟩ => hs ⟨hk.l1, hk.l2, hk.h0⟩
      refine q_when (b := true) ?_ (fun _ H2 e2 => ?_) (fun z => nomatch z)
      · by_cases h1 : a.length < 1
        · refine et_is (et_or (a := true) (b := true) (et_is (et_test (ev_op (ev_var rfl) ev_c (rv_eq rfl))) (by rw [str_empty]; exact decide_eq_true h1)) fun z => nomatch z) rfl
        · have e0 : (cod a)[0]? = some (cod a)[0] := List.getElem?_eq_getElem (by omega)
          generalize (cod a)[0] = c0 at e0
          refine et_is (et_or (et_test (ev_op (ev_var rfl) ev_c (rv_eq rfl))) fun _ => et_or (et_test (ev_op (ev_lenS (ev_var rfl) (by omega)) ev_c rv_I0)) fun _ => et_test (ev_op (ev_op (ev_var rfl) ev_c (rv_ixS (c := c0) (by omega) (at_nat (j := 0) e0))) ev_c (rv_eq rfl))) ?_
          rw [str_empty, word_test e0]
          by_cases h2 : 2 < a.length
          · simp
            omega
          · have h48 : c0 = 48 := by
              by_cases z : c0 = 48
              · exact z
              · exact absurd ⟨by omega, by omega, by rw [e0]; exact fun y => z (Option.some.inj y)⟩ hs
            rw [decide_eq_true h48]
            simp
      · exact qE hbad H2 e2

def spRead (C : Addr) : Sp := fun vs H Q E => ∃ (z : Str), vs = [.str z] ∧ z.length ≤ 500 ∧ (Dk (nsM z) → RetL ((nsM z).map V.int) H Q) ∧ (¬ Dk (nsM z) → ∀ H1, Ex H H1 → E (.ref C) none H1)
theorem comma1 : Str.ofString "," = ⟨#[44]⟩ := by decide +kernel
theorem el_splitC {σ : L2.St} {H : Hp} {te : TE} {z : Str} (h : Ev te σ H (.str z)) (hz : z.length ≤ 500) : EvL (tM1 (fun x xs H Q => ∃ a b, x = .str a ∧ xs = [.str b] ∧ (b.length == 0) = false ∧ a.length + 2 ≤ sizeLine ∧ rNewStrs (Txt.split a b) H Q) te (tC (.str (Str.ofString ",")))) σ H ((Txt.split z ⟨#[44]⟩).map V.str) :=
  el_m1 h ev_c (fun H1 Q q => ⟨_, _, rfl, rfl, rfl, sz_of (by omega), fun p hp => by
    rw [comma1]
    exact q p hp⟩)
theorem str_item {l : List Str} {i : Nat} {x : V} (h : (l.map V.str)[i]? = some x) : ∃ c, l[i]? = some c ∧ x = V.str c := by
  rw [List.getElem?_map] at h
  cases e : l[i]? with
  | none => rw [e] at h; cases h
  | some c => rw [e] at h; exact ⟨c, rfl, (Option.some.inj h).symm⟩
theorem first_bad {l : List Str} {P : Str → Prop} (i : Nat) : ∀ w : Str, l[i]? = some w → ¬ P w → ∃ (i0 : Nat) (w0 : Str), l[i0]? = some w0 ∧ ¬ P w0 ∧ ∀ (i : Nat) (w : Str), i < i0 → l[i]? = some w → P w := by
  induction i using Nat.strongRecOn with
  | ind i ih =>
    intro w hi hb
    by_cases hx : ∃ (j : Nat) (w : Str), j < i ∧ l[j]? = some w ∧ ¬ P w
    · obtain ⟨j, w', hj, hjw, hjb⟩ := hx
      exact ih j hj w' hjw hjb
    · exact ⟨i, w, hi, hb, fun j w' hj hjw => Classical.byContradiction fun y => hx ⟨j, w', hj, hjw, y⟩⟩
theorem nsM_get {z : Str} {i : Nat} {w : Str} {k : Int} (h : (Txt.split z ⟨#[44]⟩)[i]? = some w) (hk : Cd w k) : (nsM z).getD i 0 = k := by
  unfold nsM
  rw [List.getD_eq_getElem?_getD, List.getElem?_map, h]
  exact numM_of hk
theorem ok_read (T : Txt K mg A) : FnOk P w K mg base (L2.CX P w) 2 A.f_read A.d_read ["text"] (spRead A.c_BadLine) := by
  refine okL T.F_read sc_read (fun vs H Q E h => ?_) (fun cdv AA outer s H vs Q E hr h => ?_)
  · obtain ⟨a, rfl, _⟩ := h
    rfl
  · obtain ⟨z, rfl, hz, q, qE⟩ := h
    refine ⟨_, (pss_cons (ps_setLcR (i := 1) (own := [("word", 2)]) (g := gName 2) (tt := tYes) (Eo := E) rfl sc_read.nd rfl rfl (sw_true rfl rfl rfl (by decide +kernel)) (pi_list (pe_split (pv 0) pe_str)) (blkOk_by (N := N_read) (sc := defScope s_read) (by decide +kernel)) rfl rfl (L2.takes_of rfl rfl rfl rfl) (fun _ _ _ _ h => h) (fun _ _ _ _ _ => pg_name (i := 2) sc_read.nd rfl (Or.inl rfl)) (fun _ _ _ _ _ => pts_nil) (fun _ _ _ _ _ _ _ hx => pe_callS (E := fun _ => E) (ok_card_of T) (hr.mono (by decide)) (by rfl) T.g_card_of T.F_card_of.kp T.b_card_of hx (pa_cons (pv 2) pa_nil)))
      (pss_cons (ps_try_onlyX rfl rfl ⟨rfl, by decide, .inl T.K_NoDeck.g⟩ (passesAt_of rfl) (L2.takes_of rfl rfl rfl rfl) (fun W pn xe tk _ _ =>
      (pss_one (ps_expr (by exact (pe_callS (ok_ask T) (hr.mono (by decide)) (by rfl) T.g_ask T.F_ask.kp T.b_ask (fun σ => L2N.passAt tk σ) (pa_cons (pv 1) pa_nil))))))
      (fun a oe cls d pn hz hf tkS hot =>
      (pss_one (ps_raiseH hot tkS (L2N.pmk_own PySem.F.excBase_ValueError T.E_BadLine.x T.E_BadLine.g T.E_BadLine.k (T.E_BadLine.raises rfl) rfl)))))
      (pss_one (ps_ret (pv 1))))), ?_⟩
    have hsl := split_len (z := z)
    have hcard : ∀ {σ : L2.St} {G : Hp} {j : Nat} {c : Str} {k : Int}, σ[j]? = some (some (.str c)) → c.length ≤ 1000 → Cd c k → Ev (tCallS (spCard A.c_BadLine) (fun _ => E) (tCons (tVar j) tNil)) σ G (.int k) := fun hσ hl hk G1 eG Q1 q1 =>
      ⟨_, hσ, _, rfl, hl, fun k' hk' H2 e2 => by
        rw [← hk.one hk']
        exact q1 H2 e2, fun z => absurd ⟨_, hk⟩ z⟩
    by_cases hall : ∀ w ∈ Txt.split z ⟨#[44]⟩, ∃ k, Cd w k
    · have hxs : given ((Txt.split z ⟨#[44]⟩).map V.str).length (fun _ => true) (fun i => V.int ((nsM z).getD i 0)) = (nsM z).map V.int := by
        rw [given_int, List.length_map]
        have e : (Txt.split z ⟨#[44]⟩).length = (nsM z).length := by unfold nsM; rw [List.length_map]
        rw [e, range_getD]
      refine q_asgL (xs := (nsM z).map V.int) (by
        rw [← hxs]
        exact el_lcNL (fun _ => true) (fun i => V.int ((nsM z).getD i 0)) (el_splitC (ev_var rfl) hz) (by rw [List.length_map]; omega) (fun x => rfl) (fun i x G _ _ => et_yes) (fun i x G eG hx _ => by
          obtain ⟨c, hc, rfl⟩ := str_item hx
          obtain ⟨k, hk⟩ := hall c (List.mem_of_getElem? hc)
          rw [nsM_get hc hk]
          exact hcard rfl (by have := hk.l2; omega) hk)) fun p H1 np e1 hp => ?_
      have hnl : (nsM z).length ≤ 501 := by unfold nsM; rw [List.length_map]; omega
      by_cases hd : Dk (nsM z)
      · refine ⟨_, rfl, p, _, rfl, hp, by omega, fun _ H2 e2 => ?_, fun y => absurd hd y⟩
        exact ⟨_, rfl, q hd p H2 np (e1.trans e2) (e2 _ _ hp)⟩
      · refine ⟨_, rfl, p, _, rfl, hp, by omega, fun y => absurd y hd, fun _ H2 e2 => ?_⟩
        refine ⟨true, PySem.W.exm_ref T.cb_NoDeck T.cd_NoDeck T.K_NoDeck.t T.E_NoDeck.s, fun _ x nx => ?_, fun y => nomatch y⟩
        exact qE hd H2 (e1.trans e2)
    · have hd : ¬ Dk (nsM z) := fun d => by
        obtain ⟨w, hw⟩ := Classical.not_forall.mp hall
        obtain ⟨hw, hb⟩ := Classical.not_imp.mp hw
        obtain ⟨i, hi⟩ := List.mem_iff_getElem?.mp hw
        exact nsM_bad hi hb d.dk
      obtain ⟨i0, w0, hi0, hb0, hgood⟩ : ∃ (i0 : Nat) (w0 : Str), (Txt.split z ⟨#[44]⟩)[i0]? = some w0 ∧ (¬ ∃ k, Cd w0 k) ∧ ∀ (i : Nat) (w : Str), i < i0 → (Txt.split z ⟨#[44]⟩)[i]? = some w → ∃ k, Cd w k := by
        obtain ⟨w, hw⟩ := Classical.not_forall.mp hall
        obtain ⟨hw, hb⟩ := Classical.not_imp.mp hw
        obtain ⟨i, hi⟩ := List.mem_iff_getElem?.mp hw
        exact first_bad i w hi hb
      refine q_asgBad (lc_bad (K := K) (σ := [some (.str z), none, none]) (te := tCallS (spCard A.c_BadLine) (fun _ => E) (tCons (tVar 2) tNil)) (j := 2) (vs := [2]) (i0 := i0) (fun i => V.int ((nsM z).getD i 0)) (el_splitC (ev_var (i := 0) rfl) hz) (by rw [List.length_map]; exact (List.getElem?_eq_some_iff.mp hi0).1) (by rw [List.length_map]; omega) (fun x => rfl) (fun i x G eG hx hlt => by
          obtain ⟨c, hc, rfl⟩ := str_item hx
          obtain ⟨k, hk⟩ := hgood i c hlt hc
          rw [nsM_get hc hk]
          exact hcard (j := 2) rfl (by have := hk.l2; omega) hk) (fun x G eG hx Q1 => ?_))
      obtain ⟨c, hc, rfl⟩ := str_item hx
      rw [hi0] at hc
      cases Option.some.inj hc
      have hpl := split_part (List.mem_of_getElem? hi0)
      exact ⟨_, rfl, w0, rfl, by omega, fun k hk => absurd ⟨k, hk⟩ hb0, fun _ H1 e1 => qE hd H1 (eG.trans e1)⟩

/-- a cell of the script, whatever number it holds -/
def spCellA (K : PySem.W.Frag) : Sp := fun vs H Q _ => ∃ (l : Addr) (ns : List Int) (k : Int), vs = [.ref l, .int k] ∧ SqL K H l (ns.map V.int) ∧ 0 ≤ k ∧ ∀ z : Int, RetV (.int z) H Q
theorem ok_law_cell_at (T : Txt K mg A) : FnOk P w K mg base CX0 1 A.f_law_cell_at A.d_law_cell_at ["script", "k"] (spCellA K) := by
  refine T.F_law_cell_at.ok sc_law_cell_at (fun vs H Q E h => ?_) (fun cdv AA outer s H vs Q E hr h => ?_)
  · obtain ⟨a, ns, k, rfl, _⟩ := h
    rfl
  · obtain ⟨a, ns, k, rfl, ha, hk, q⟩ := h
    refine ⟨_, (pss_cons (ps_if (pt_cmpR op_lt (pv 1) (pe_callB (r := rLenS K) call_len_seq (by rfl) T.n_len PySem.boot_len (pa_cons (pv 0) pa_nil)) (nomark _))
      (pss_one (ps_ret (pe_ix (r := rIxL K) ix_list (pv 0) (pv 1) (fun _ _ => rfl))))
      pss_nil)
      (pss_one (ps_ret pe_int))), ?_⟩
    refine q_when (et_test (ev_op (ev_var rfl) (ev_lenI (ev_var rfl) ha) rv_I0)) (fun hb H1 e1 => ?_) fun hb H1 e1 => ?_
    · have hlt : k < (ns.length : Int) := of_decide_eq_true hb
      have hi : ns[k.toNat]? = some ns[k.toNat] := List.getElem?_eq_getElem (by omega)
      exact s_ret (ev_op (ev_var rfl) (ev_var rfl) (rv_ix k.toNat (ex_l e1 ha) (by omega) hi)) fun H2 e2 => (q _).go (e1.trans e2)
    · exact s_ret ev_c fun H2 e2 => (q _).go (e1.trans e2)
theorem ei_cell {K : PySem.W.Frag} {σ : L2.St} {H : Hp} {l : Addr} {ns : List Int} {k : Int} {ta : TA} {E : XK} (h : EvA ta σ H [.ref l, .int k]) (hs : SqL K H l (ns.map V.int)) (hk : 0 ≤ k) : EvI (tCall (spCellA K) [] E ta) σ H (fun _ => True) := fun H1 e Q q =>
  h H1 e _ fun H2 e2 => ⟨l, ns, k, rfl, ex_l (e.trans e2) hs, hk, fun z H3 e3 => q z H3 (e2.trans e3) True.intro⟩

theorem erase_perm {l : List Int} {j : Nat} {y : Int} (h : l[j]? = some y) (r : List Int) : (l.eraseIdx j ++ (r ++ [y])).Perm (l ++ r) := by
  obtain ⟨hj, e⟩ := List.getElem?_eq_some_iff.mp h
  have e1 : l.take j ++ y :: l.drop (j + 1) = l := by
    rw [← e]
    simp
  have e2 : l.eraseIdx j = l.take j ++ l.drop (j + 1) := List.eraseIdx_eq_take_drop_succ ..
  have p1 : (y :: (l.take j ++ l.drop (j + 1))).Perm l := by
    refine List.perm_middle.symm.trans ?_
    rw [e1]
  rw [e2, ← List.append_assoc]
  refine (List.perm_append_comm).trans ?_
  show (y :: (l.take j ++ l.drop (j + 1) ++ r)).Perm (l ++ r)
  rw [← List.cons_append]
  exact p1.append_right r
/-- any deck of at most so many cards -/
def spDeck (K : PySem.W.Frag) : Sp := fun vs H Q _ => ∃ (l : Addr) (cs : List Int) (at' most : Int), vs = [.ref l, .int at', .int most] ∧ SqL K H l (cs.map V.int) ∧ 0 ≤ at' ∧ 1 ≤ most ∧ most ≤ 16 ∧ ∀ ds : List Int, Dk ds → (ds.length : Int) ≤ most → RetL (ds.map V.int) H Q
theorem ok_law_deck (T : Txt K mg A) : FnOk P w K mg base CX0 2 A.f_law_deck A.d_law_deck ["script", "at", "most"] (spDeck K) := by
  refine T.F_law_deck.ok sc_law_deck (fun vs H Q E h => ?_) (fun cdv AA outer s H vs Q E hr h => ?_)
  · obtain ⟨a, ns, i, j, rfl, _⟩ := h
    rfl
  · obtain ⟨l, cs, i, j, rfl, hs, hi, hj, hj2, q⟩ := h
    refine ⟨_, (pss_cons (ps_set (i := 3) sc_law_deck.nd rfl (by first | exact Or.inl rfl | exact Or.inr rfl) (pe_op op_add pe_int (pe_op op_mod (pe_call (ok_law_cell_at T) (hr.mono (by decide)) (by rfl) T.g_law_cell_at T.F_law_cell_at.kp T.b_law_cell_at .nil pass0 (pa_cons (pv 0) (pa_cons (pv 1) pa_nil))) (pv 2))))
      (pss_cons (ps_set (i := 4) sc_law_deck.nd rfl (by first | exact Or.inl rfl | exact Or.inr rfl) (pe_listRg rfl (by rfl) T.n_list (prg_2 (by rfl) T.n_range pe_int (pe_op op_add (pv 3) pe_int))))
      (pss_cons (ps_set (i := 5) sc_law_deck.nd rfl (by first | exact Or.inl rfl | exact Or.inr rfl) (pe_lst pa_nil))
      (pss_cons (ps_for PassesOwn.never rfl (pi_range1 (by rfl) T.n_range (pa_cons (pv 3) pa_nil)) (pg_name (i := 6) sc_law_deck.nd rfl (by first | exact Or.inl rfl | exact Or.inr rfl))
      (pss_one (ps_expr (pe_bm PySem.F.plainAttrs_list PySem.F.slot_list_append PySem.F.type_list_append mt_append (pv 5) (pa_cons (pe_bm PySem.F.plainAttrs_list PySem.F.slot_list_pop PySem.F.type_list_pop mt_popAt (pv 4) (pa_cons (pe_op op_mod (pe_call (ok_law_cell_at T) (hr.mono (by decide)) (by rfl) T.g_law_cell_at T.F_law_cell_at.kp T.b_law_cell_at .nil pass0 (pa_cons (pv 0) (pa_cons (pe_op op_add (pe_op op_add (pv 1) pe_int) (pv 6)) pa_nil))) (pe_callB (r := rLenS K) call_len_seq (by rfl) T.n_len PySem.boot_len (pa_cons (pv 4) pa_nil))) pa_nil)) pa_nil)))))
      (pss_one (ps_ret (pv 5))))))), ?_⟩
    -- the size
    refine q_asgI (ei_op (ei_ev (P := fun z => z = 1) ev_c rfl) (ei_mod (ei_cell (ea_cons (ev_var rfl) (ea_cons (ev_var rfl) ea_nil)) hs hi) (ev_var rfl) (by omega))) fun z H1 hz e1 => ?_
    obtain ⟨_, y, rfl, ⟨z0, z1⟩, ez⟩ := hz
    have ez : z = 1 + y := ez
    obtain ⟨n, rfl⟩ : ∃ n : Nat, z = (n : Int) := ⟨z.toNat, by omega⟩
    -- the cards
    refine q_asgL (el_rng (n := n) ev_c (ev_op (ev_var rfl) ev_c rv_I0) rfl (by omega)) fun p H2 np e2 hp => ?_
    refine q_asgL (el_lst ea_nil (by decide)) fun r H3 nr e3 hr3 => ?_
    have npr : r ≠ p := fun e => by
      rw [e, hp] at nr
      cases nr
    have e12 := e1.trans e2
    refine q_forR1 (ea_cons (ev_var rfl) ea_nil) (by omega) (fun i' σ' H' => ∃ lf dk x, σ' = [some (.ref l), some (.int i), some (.int j), some (.int (n : Int)), some (.ref p), some (.ref r), x] ∧ Ex H H' ∧ At H' p lf ∧ At H' r dk ∧ (lf ++ dk).Perm (rng n) ∧ dk.length = i')
      (fun H4 e4 => ⟨rng n, [], none, rfl, (e12.trans e3).trans e4, e4 _ _ (e3 _ _ hp), e4 _ _ hr3, by rw [List.append_nil], rfl⟩) ?_ ?_
    · rintro i' σ' H' hi' ⟨lf, dk, x, rfl, ex, hlf, hdk, pm, hlen⟩
      have hl2 := pm.length_eq
      rw [List.length_append, rng_len] at hl2
      refine ⟨_, rfl, Or.inl ⟨rfl, _, sq_of hdk⟩, ?_⟩
      refine ⟨_, rfl, Or.inl ⟨rfl, _, sq_of hlf⟩, ?_⟩
      refine ei_mod (ei_cell (ea_cons (ev_var rfl) (ea_cons (ev_op (ev_op (ev_var rfl) ev_c rv_I0) (ev_var rfl) rv_I0) ea_nil)) (ex_l ex hs) (by omega)) (ev_lenI (ev_var rfl) (sq_of hlf)) (by omega) H' (Ex.refl _) _ fun c H5 e5 hc => ?_
      obtain ⟨c0, c1⟩ := hc
      have hj3 : c.toNat < lf.length := by omega
      have ey : lf[c.toNat]? = some lf[c.toNat] := List.getElem?_eq_getElem hj3
      refine ⟨p, _, _, c.toNat, .int lf[c.toNat], rfl, rfl, e5 _ _ hlf, by omega, by omega, by rw [List.length_map]; exact seqIndex_of c0 (by omega), by rw [List.getElem?_map, ey]; rfl, ?_⟩
      refine ⟨r, _, _, rfl, rfl, by rw [upd_ne npr]; exact e5 _ _ hdk, by rw [List.length_map]; exact sz_lt (by omega), ?_⟩
      refine ⟨lf.eraseIdx c.toNat, dk ++ [lf[c.toNat]], some (.int (i' : Int)), rfl, ?_, ?_, ?_, (erase_perm ey dk).trans pm, by rw [List.length_append, hlen]; rfl⟩
      · exact Ex.mut (Ex.mut (ex.trans e5) (fresh_back e1 np)) (fresh_back e12 nr)
      · show upd _ _ _ _ = _
        rw [upd_ne npr.symm, upd_same, erase_mapI]
      · show upd _ _ _ _ = _
        rw [upd_same, List.map_append]
        rfl
    · rintro σ' H' ⟨lf, dk, x, rfl, ex, hlf, hdk, pm, hlen⟩
      have hl2 := pm.length_eq
      rw [List.length_append, rng_len] at hl2
      have hlf0 : lf = [] := List.eq_nil_of_length_eq_zero (by omega)
      subst hlf0
      have hk : Dk dk := ⟨by unfold IsDk; rw [show dk.length = n by omega]; exact pm, by omega, by omega⟩
      exact ⟨_, rfl, q dk hk (by omega) r H' (fresh_back e12 nr) ex hdk⟩
theorem ep_deck {K : PySem.W.Frag} {σ : L2.St} {H : Hp} {l : Addr} {cs : List Int} {i j : Int} {ta : TA} {E : XK} (h : EvA ta σ H [.ref l, .int i, .int j]) (hs : SqL K H l (cs.map V.int)) (hi : 0 ≤ i) (h1 : 1 ≤ j) (h2 : j ≤ 16) :
    EvLP (tCall (spDeck K) [] E ta) σ H (fun ds => Dk ds ∧ (ds.length : Int) ≤ j) := fun H1 e Q q =>
  h H1 e _ fun H2 e2 => ⟨l, cs, i, j, rfl, ex_l (e.trans e2) hs, hi, h1, h2, fun ds d hl p H3 np e3 hp => q p ds H3 (fresh_back e2 np) (e2.trans e3) hp ⟨d, hl⟩⟩
theorem one_at {ds : List Int} (h : Dk ds) : ∃ j, ds[j]? = some 1 ∧ ∀ m : Nat, m < j → ds[m]? ≠ some 1 := by
  have hm : (1 : Int) ∈ ds := h.dk.mem.mpr ⟨by omega, by have := h.lo; omega⟩
  obtain ⟨j, hj⟩ := List.mem_iff_getElem?.mp hm
  exact ⟨j, hj, fun m hlt e => by have := two_at h.dk.nodup e hj; omega⟩
theorem one_first {ds : List Int} {j : Nat} (hj : ds[j]? = some 1) : (1 :: ds.eraseIdx j).Perm ds := by
  have h := erase_perm hj []
  rw [List.append_nil, List.nil_append] at h
  exact (List.perm_append_comm (l₁ := [1]) (l₂ := ds.eraseIdx j)).trans h

/-- which errors an error of the class at D is -/
structure Which (K : PySem.W.Frag) (A : Ads) (D : Addr) (bs : List Bool) : Prop where
  e : ExcC K D
  bs : ∃ b0 b1 b2 b3 b4 b5 b6, bs = [b0, b1, b2, b3, b4, b5, b6] ∧ PySem.W.kitOne K (.ref D) (.ref A.c_NoDeck) = some b0 ∧ PySem.W.kitOne K (.ref D) (.ref A.c_NoTurn) = some b1 ∧ PySem.W.kitOne K (.ref D) (.ref A.c_NoGame) = some b2 ∧ PySem.W.kitOne K (.ref D) (.ref A.c_TooTall) = some b3 ∧
    PySem.W.kitOne K (.ref D) (.ref A.c_NoBack) = some b4 ∧ PySem.W.kitOne K (.ref D) (.ref A.c_BadLine) = some b5 ∧ PySem.W.kitOne K (.ref D) (.type "ValueError") = some b6
def spWhich (K : PySem.W.Frag) (A : Ads) : SpE := fun a c d vs H Q _ => ∃ (D : Addr) (bs : List Bool), vs = [.ref a] ∧ c = .ref D ∧ d = none ∧ Which K A D bs ∧ RetL (bs.map V.bl) H Q
theorem ok_law_which (T : Txt K mg A) : FnZ P w K mg base 1 A.f_law_which A.d_law_which ["e"] (spWhich K A) := by
  refine okZ T.F_law_which sc_law_which (fun a c d vs H Q E h => ?_) (fun cdv AA outer s H vs Q E p c d hf hz hr h => ?_)
  · obtain ⟨D, bs, rfl, _⟩ := h
    rfl
  · obtain ⟨D, bs, rfl, rfl, rfl, ⟨hE, b0, b1, b2, b3, b4, b5, b6, rfl, k0, k1, k2, k3, k4, k5, k6⟩, q⟩ := h
    refine ⟨_, (pss_cons (ps_set (i := 1) sc_law_which.nd rfl (by first | exact Or.inl rfl | exact Or.inr rfl) (pe_lst (pa_cons (pe_callB (r := rIsE K D p.1) (call_isZ List.mem_cons_self hE hz hf) (by rfl) T.n_isinstance (by decide +kernel) (pa_cons (pv 0) (pa_cons (pe_glob (v := .ref A.c_NoDeck) (by rfl) T.K_NoDeck.g rfl) pa_nil))) (pa_cons (pe_callB (r := rIsE K D p.1) (call_isZ List.mem_cons_self hE hz hf) (by rfl) T.n_isinstance (by decide +kernel) (pa_cons (pv 0) (pa_cons (pe_glob (v := .ref A.c_NoTurn) (by rfl) T.K_NoTurn.g rfl) pa_nil))) (pa_cons (pe_callB (r := rIsE K D p.1) (call_isZ List.mem_cons_self hE hz hf) (by rfl) T.n_isinstance (by decide +kernel) (pa_cons (pv 0) (pa_cons (pe_glob (v := .ref A.c_NoGame) (by rfl) T.K_NoGame.g rfl) pa_nil))) (pa_cons (pe_callB (r := rIsE K D p.1) (call_isZ List.mem_cons_self hE hz hf) (by rfl) T.n_isinstance (by decide +kernel) (pa_cons (pv 0) (pa_cons (pe_glob (v := .ref A.c_TooTall) (by rfl) T.K_TooTall.g rfl) pa_nil))) pa_nil))))))
      (pss_one (ps_ret (pe_op op_cat (pv 1) (pe_lst (pa_cons (pe_callB (r := rIsE K D p.1) (call_isZ List.mem_cons_self hE hz hf) (by rfl) T.n_isinstance (by decide +kernel) (pa_cons (pv 0) (pa_cons (pe_glob (v := .ref A.c_NoBack) (by rfl) T.K_NoBack.g rfl) pa_nil))) (pa_cons (pe_callB (r := rIsE K D p.1) (call_isZ List.mem_cons_self hE hz hf) (by rfl) T.n_isinstance (by decide +kernel) (pa_cons (pv 0) (pa_cons (pe_glob (v := .ref A.c_BadLine) (by rfl) T.K_BadLine.g rfl) pa_nil))) (pa_cons (pe_callB (r := rIsE K D p.1) (call_isZ List.mem_cons_self hE hz hf) (by rfl) T.n_isinstance (by decide +kernel) (pa_cons (pv 0) (pa_cons (pe_bltn (v := .ty "ValueError") (u := .type "ValueError") (by rfl) T.n_ValueError (by decide +kernel) rfl) pa_nil))) pa_nil)))))))), ?_⟩
    have one : ∀ {x : Addr} {b : Bool} {H1 : Hp} {v1 : Option V}, PySem.W.kitOne K (.ref D) (.ref x) = some b → Ev (tCB (rIsE K D p.1) (tCons (tVar 0) (tCons (tC (.ref x)) tNil))) [some (.ref p.1), v1] H1 (.bl b) := fun k => ev_isE (ev_var rfl) (fun u r => r) k
    refine q_asgL (el_lst (ea_cons (one k0) (ea_cons (one k1) (ea_cons (one k2) (ea_cons (one k3) ea_nil)))) (by simp)) fun a H1 na e1 ha => ?_
    refine s_retL (xs := [V.bl b0, V.bl b1, V.bl b2, V.bl b3] ++ [V.bl b4, V.bl b5, V.bl b6]) (el_cat (EvR.old (ev_var rfl) ha) (EvR.new (el_lst (ea_cons (one k4) (ea_cons (one k5) (ea_cons (ev_isE (ev_var rfl) (fun u r => r) k6) ea_nil))) (by simp))) (by simp)) fun b H2 nb e2 hb => ?_
    exact q b H2 (fresh_back e1 nb) (e1.trans e2) hb
theorem which_NoDeck (T : Txt K mg A) : Which K A A.c_NoDeck [true, false, false, false, false, false, true] := ⟨T.E_NoDeck.e, _, _, _, _, _, _, _, rfl, kit_self, kit_not T.K_NoTurn.i T.K_NoTurn.t T.s_NoDeck_NoTurn T.E_NoDeck.s, kit_not T.K_NoGame.i T.K_NoGame.t T.s_NoDeck_NoGame T.E_NoDeck.s, kit_not T.K_TooTall.i T.K_TooTall.t T.s_NoDeck_TooTall T.E_NoDeck.s, kit_not T.K_NoBack.i T.K_NoBack.t T.s_NoDeck_NoBack T.E_NoDeck.s, kit_not T.K_BadLine.i T.K_BadLine.t T.s_NoDeck_BadLine T.E_NoDeck.s, kit_blt (by decide +kernel) T.E_NoDeck.v⟩
theorem which_BadLine (T : Txt K mg A) : Which K A A.c_BadLine [false, false, false, false, false, true, true] := ⟨T.E_BadLine.e, _, _, _, _, _, _, _, rfl, kit_not T.K_NoDeck.i T.K_NoDeck.t T.s_BadLine_NoDeck T.E_BadLine.s, kit_not T.K_NoTurn.i T.K_NoTurn.t T.s_BadLine_NoTurn T.E_BadLine.s, kit_not T.K_NoGame.i T.K_NoGame.t T.s_BadLine_NoGame T.E_BadLine.s, kit_not T.K_TooTall.i T.K_TooTall.t T.s_BadLine_TooTall T.E_BadLine.s, kit_not T.K_NoBack.i T.K_NoBack.t T.s_BadLine_NoBack T.E_BadLine.s, kit_self, kit_blt (by decide +kernel) T.E_BadLine.v⟩

def spSign : Sp := fun vs H Q _ => ∃ (z : Int), vs = [.int z] ∧ ∀ w : Str, w.length = 1 → RetV (.str w) H Q
theorem ok_law_sign_by (T : Txt K mg A) : FnOk P w K mg base CX0 1 A.f_law_sign_by A.d_law_sign_by ["cell"] spSign := by
  refine T.F_law_sign_by.ok sc_law_sign_by (fun vs H Q E h => ?_) (fun cdv AA outer s H vs Q E hr h => ?_)
  · obtain ⟨a, rfl, _⟩ := h
    rfl
  · obtain ⟨z, rfl, q⟩ := h
    refine ⟨_, (pss_cons (ps_if (pt_cmpR op_eq (pe_op op_mod (pv 0) pe_int) pe_int (nomark _))
      (pss_one (ps_ret (pe_ix ix_str pe_str (pe_op op_mod (pe_op op_fdivN (pv 0) pe_int) pe_int) (fun _ _ => rfl))))
      pss_nil)
      (pss_cons (ps_set (i := 1) sc_law_sign_by.nd rfl (by first | exact Or.inl rfl | exact Or.inr rfl) pe_str)
      (pss_cons (ps_set (i := 1) sc_law_sign_by.nd rfl (by first | exact Or.inl rfl | exact Or.inr rfl) (pe_op op_add_str (pv 1) pe_str))
      (pss_one (ps_ret (pe_ix ix_str (pv 1) (pe_op op_mod (pe_op op_fdivN (pv 0) pe_int) pe_int) (fun _ _ => rfl))))))), ?_⟩
    refine q_any (ep_eq (ei_mod (ei_ev (P := fun _ => True) (ev_var rfl) True.intro) ev_c (by decide)) ei_c) (fun H1 e1 => ?_) (fun H1 e1 => ?_)
    · exact es_ix ev_c (ei_mod (ei_fdiv (ei_ev (P := fun _ => True) (ev_var rfl) True.intro) ev_c (by decide) (by decide)) ev_c (by decide)) (by decide +kernel) (fun i hi => ⟨hi.1, Int.lt_of_lt_of_le hi.2 (by decide +kernel)⟩) H1 (Ex.refl _) _ fun x H2 e2 hx => q x hx H2 (e1.trans e2)
    · refine q_asg ev_c fun H2 e2 => ?_
      refine q_asg (ev_op (ev_var rfl) ev_c (rv_addS (by decide +kernel))) fun H3 e3 => ?_
      have ex3 := (e1.trans e2).trans e3
      exact es_ix (ev_var rfl) (ei_mod (ei_fdiv (ei_ev (P := fun _ => True) (ev_var rfl) True.intro) ev_c (by decide) (by decide)) ev_c (by decide)) (by decide +kernel) (fun i hi => ⟨hi.1, Int.lt_of_lt_of_le hi.2 (by decide +kernel)⟩) H3 (Ex.refl _) _ fun x H4 e4 hx => q x hx H4 (ex3.trans e4)
theorem es_sign {σ : L2.St} {H : Hp} {ta : TE} {E : XK} (h : EvI ta σ H (fun _ => True)) : EvSP (tCall spSign [] E (tCons ta tNil)) σ H (fun x => x.length = 1) := fun H1 e Q q =>
  h H1 e _ fun z H2 e2 _ => ⟨z, rfl, fun w hw H3 e3 => q w H3 (e2.trans e3) hw⟩

def spOdd : Sp := fun vs H Q _ => ∃ (z : Int), vs = [.int z] ∧ ∀ w : Str, w.length ≤ 100 → RetV (.str w) H Q
theorem ok_law_odd (T : Txt K mg A) : FnOk P w K mg base CX0 1 A.f_law_odd A.d_law_odd ["cell"] spOdd := by
  refine T.F_law_odd.ok sc_law_odd (fun vs H Q E h => ?_) (fun cdv AA outer s H vs Q E hr h => ?_)
  · obtain ⟨a, rfl, _⟩ := h
    rfl
  · obtain ⟨z, rfl, q⟩ := h
    refine ⟨_, (pss_cons (ps_set (i := 1) sc_law_odd.nd rfl (by first | exact Or.inl rfl | exact Or.inr rfl) (pe_lst (pa_cons pe_str (pa_cons pe_str (pa_cons pe_str (pa_cons pe_str (pa_cons pe_str (pa_cons pe_str (pa_cons pe_str (pa_cons pe_str (pa_cons pe_str (pa_cons pe_str (pa_cons pe_str (pa_cons pe_str (pa_cons pe_str (pa_cons pe_str (pa_cons pe_str (pa_cons pe_str (pa_cons pe_str pa_nil)))))))))))))))))))
      (pss_cons (ps_set (i := 1) sc_law_odd.nd rfl (by first | exact Or.inl rfl | exact Or.inr rfl) (pe_op op_cat (pv 1) (pe_lst (pa_cons pe_str (pa_cons pe_str (pa_cons pe_str pa_nil))))))
      (pss_one (ps_ret (pe_ix (r := rIxL K) ix_list (pv 1) (pe_op op_mod (pv 0) pe_int) (fun _ _ => rfl)))))), ?_⟩
    refine q_asgL (el_lst (ea_cons ev_c (ea_cons ev_c (ea_cons ev_c (ea_cons ev_c (ea_cons ev_c (ea_cons ev_c (ea_cons ev_c (ea_cons ev_c (ea_cons ev_c (ea_cons ev_c (ea_cons ev_c (ea_cons ev_c (ea_cons ev_c (ea_cons ev_c (ea_cons ev_c (ea_cons ev_c (ea_cons ev_c ea_nil))))))))))))))))) (by show 17 ≤ 100000; decide)) fun p H1 np e1 hp => ?_
    refine q_asgL (el_cat (EvR.old (ev_var rfl) hp) (EvR.new (el_lst (ea_cons ev_c (ea_cons ev_c (ea_cons ev_c ea_nil))) (by show 3 ≤ 100000; decide))) (by show 17 + 3 ≤ 100000; decide)) fun p2 H2 np2 e2 hp2 => ?_
    have ex2 := e1.trans e2
    refine es_ixL (zs := (["", ",", "0", "1,", ",1", "1,,2", "2", "1,1", "1,3", "01", "1,02", "+1", "1_0", "-1", "1, 2", "1 ,2", "1\n", "1,2,3,4,5,6,7,8,9,10,11,12,13,14,15,16,17", "16,15,14,13,12,11,10,9,8,7,6,5,4,3,2,1", "2,1,"].map Str.ofString)) (P := fun x => x.length ≤ 100) (EvR.old (ev_var rfl) hp2) (ei_mod (ei_ev (P := fun _ => True) (ev_var rfl) True.intro) ev_c (by decide)) (fun i hi => ⟨hi.1, hi.2⟩) (by decide +kernel) H2 (Ex.refl _) _ fun x H3 e3 hx => q x hx H3 (ex2.trans e3)
theorem es_odd {σ : L2.St} {H : Hp} {ta : TE} {E : XK} (h : EvI ta σ H (fun _ => True)) : EvSP (tCall spOdd [] E (tCons ta tNil)) σ H (fun x => x.length ≤ 100) := fun H1 e Q q =>
  h H1 e _ fun z H2 e2 _ => ⟨z, rfl, fun w hw H3 e3 => q w H3 (e2.trans e3) hw⟩

def spNumber : Sp := fun vs H Q _ => ∃ (w : Str), vs = [.str w] ∧ w.length ≤ 1000 ∧ RetV (.int (numM w)) H Q
theorem spNumber_V {H : Hp} {w : Str} (h : w.length ≤ 1000) : SpV spNumber [.str w] H (.int (numM w)) := fun H1 e Q q E => ⟨w, rfl, h, fun H2 e2 => q H2 e2⟩
theorem ok_law_number (T : Txt K mg A) : FnOk P w K mg base CX0 1 A.f_law_number A.d_law_number ["word"] spNumber := by
  refine T.F_law_number.ok sc_law_number (fun vs H Q E h => ?_) (fun cdv AA outer s H vs Q E hr h => ?_)
  · obtain ⟨a, rfl, _⟩ := h
    rfl
  · obtain ⟨a, rfl, hl, q⟩ := h
    refine ⟨_, (pss_cons (ps_if (PW.pt (pw_or (pt_cmpR op_lt (pe_callB call_len_str (by rfl) T.n_len PySem.boot_len (pa_cons (pv 0) pa_nil)) pe_int (nomark _)) (pw_or (pt_cmpR op_gt (pe_callB call_len_str (by rfl) T.n_len PySem.boot_len (pa_cons (pv 0) pa_nil)) pe_int (nomark _)) (pw_or1 (pt_cmpR op_eq (pe_ix ix_str (pv 0) pe_int (fun _ _ => rfl)) pe_str (nomark _))))))
      (pss_one (ps_ret pe_int))
      pss_nil)
      (pss_cons (ps_for PassesOwn.never rfl (pi_str (pv 0)) (pg_name (i := 1) sc_law_number.nd rfl (by first | exact Or.inl rfl | exact Or.inr rfl))
      (pss_one (ps_if (pt_cmpR op_notIn_sign (pv 1) pe_str rfl)
        (pss_one (ps_ret pe_int))
        pss_nil)))
      (pss_one (ps_ret (pe_callTy call_int_str (by rfl) T.n_int (by decide +kernel) (pa_cons (pv 0) pa_nil)))))), ?_⟩
    have hlen := cod_len a
    by_cases hs : 1 ≤ a.length ∧ a.length ≤ 2 ∧ (cod a)[0]? ≠ some 48
    · obtain ⟨l1, l2, h0⟩ := hs
      have e0 : (cod a)[0]? = some (cod a)[0] := List.getElem?_eq_getElem (by omega)
      generalize (cod a)[0] = c0 at e0
      have hc0 : c0 ≠ 48 := fun z => h0 (by rw [e0, z])
      refine q_when (b := false) (et_is (et_or (et_test (ev_op (ev_lenS (ev_var rfl) (by omega)) ev_c rv_I0)) fun _ => et_or (et_test (ev_op (ev_lenS (ev_var rfl) (by omega)) ev_c rv_I0)) fun _ => et_test (ev_op (ev_op (ev_var rfl) ev_c (rv_ixS (c := c0) (by omega) (at_nat (j := 0) e0))) ev_c (rv_eq rfl))) ?_) (fun z => nomatch z) fun _ H1 e1 => ?_
      · rw [word_test e0, decide_eq_false (by omega), decide_eq_false (by omega), decide_eq_false hc0]
        rfl
      · refine q_forS (ev_var rfl) (fun i σ' H' => ∃ x, σ' = [some (.str a), x] ∧ Ex H H' ∧ ∀ (j c : Nat), j < i → (cod a)[j]? = some c → 48 ≤ c ∧ c ≤ 57) (fun H2 e2 => ⟨none, rfl, e1.trans e2, fun j c hj => absurd hj (by omega)⟩) ?_ ?_
        · rintro i c σ' H' hi ⟨x, rfl, ex, hd⟩
          refine s_when (et_test (ev_op (ev_var rfl) ev_c rv_niS)) (fun hb H2 e2 => ?_) fun hb H2 e2 => ?_
          · refine s_ret ev_c fun H3 e3 => ?_
            have hn : ¬ ∃ k, Cd a k := fun ⟨k, hk⟩ => by
              have hin := hk.dg c (List.mem_of_getElem? hi)
              rw [decide_eq_true (in_figs.mpr hin)] at hb
              cases hb
            rw [numM_no hn] at q
            exact q H3 ((ex.trans e2).trans e3)
          · refine ⟨_, rfl, ex.trans e2, fun j c' hj hc' => ?_⟩
            by_cases hji : j = i
            · subst hji
              rw [hi] at hc'
              cases Option.some.inj hc'
              have hb : c ∈ cod (Str.ofString "0123456789") := by simpa using hb
              exact in_figs.mp hb
            · exact hd j c' (by omega) hc'
        · rintro σ' H' ⟨x, rfl, ex, hd⟩
          obtain ⟨k, hk⟩ := cd_of l1 l2 h0 (fun c hc => by
            obtain ⟨j, hj⟩ := List.mem_iff_getElem?.mp hc
            exact hd j c (by have := (List.getElem?_eq_some_iff.mp hj).1; rw [Array.length_toList] at this; exact this) hj)
          rw [numM_of hk] at q
          exact s_ret (ev_intS (ev_var rfl) hk.val (by omega)) fun H2 e2 => q.go (ex.trans e2)
    · have hbad : ¬ ∃ k, Cd a k := fun ⟨k, hk⟩ => hs ⟨hk.l1, hk.l2, hk.h0⟩
      rw [numM_no hbad] at q
      refine q_when (b := true) ?_ (fun _ H2 e2 => ?_) (fun z => nomatch z)
      · by_cases h1 : a.length < 1
        · refine et_is (et_or (a := true) (b := true) (et_is (et_test (ev_op (ev_lenS (ev_var rfl) (by omega)) ev_c rv_I0)) (decide_eq_true (by omega))) fun z => nomatch z) rfl
        · have e0 : (cod a)[0]? = some (cod a)[0] := List.getElem?_eq_getElem (by omega)
          generalize (cod a)[0] = c0 at e0
          refine et_is (et_or (et_test (ev_op (ev_lenS (ev_var rfl) (by omega)) ev_c rv_I0)) fun _ => et_or (et_test (ev_op (ev_lenS (ev_var rfl) (by omega)) ev_c rv_I0)) fun _ => et_test (ev_op (ev_op (ev_var rfl) ev_c (rv_ixS (c := c0) (by omega) (at_nat (j := 0) e0))) ev_c (rv_eq rfl))) ?_
          rw [word_test e0]
          by_cases h2 : 2 < a.length
          · simp
            omega
          · have h48 : c0 = 48 := by
              by_cases z : c0 = 48
              · exact z
              · exact absurd ⟨by omega, by omega, by rw [e0]; exact fun y => z (Option.some.inj y)⟩ hs
            rw [decide_eq_true h48]
            simp
      · exact s_ret ev_c fun H3 e3 => q H3 (e2.trans e3)

def spDue : Sp := fun vs H Q _ => ∃ (z : Str), vs = [.str z] ∧ z.length ≤ 500 ∧ (Dk (nsM z) → RetL ((nsM z).map V.int) H Q) ∧ (¬ Dk (nsM z) → RetV .non H Q)
theorem spDue_L {H : Hp} {z : Str} (h : z.length ≤ 500) (d : Dk (nsM z)) : SpL spDue [.str z] H ((nsM z).map V.int) := fun H1 e Q q E => ⟨z, rfl, h, fun _ p H2 np e2 hp => q p H2 np e2 hp, fun y => absurd d y⟩
theorem spDue_V {H : Hp} {z : Str} (h : z.length ≤ 500) (d : ¬ Dk (nsM z)) : SpV spDue [.str z] H .non := fun H1 e Q q E => ⟨z, rfl, h, fun y => absurd y d, fun _ H2 e2 => q H2 e2⟩
theorem ok_law_due (T : Txt K mg A) : FnOk P w K mg base CX0 2 A.f_law_due A.d_law_due ["text"] spDue := by
  refine T.F_law_due.ok sc_law_due (fun vs H Q E h => ?_) (fun cdv AA outer s H vs Q E hr h => ?_)
  · obtain ⟨a, rfl, _⟩ := h
    rfl
  · obtain ⟨z, rfl, hz, q, qN⟩ := h
    refine ⟨_, (pss_cons (ps_setLc (i := 1) (own := [("word", 2)]) (g := gName 2) (tt := tYes) rfl sc_law_due.nd rfl rfl (sw_true rfl rfl rfl (by decide +kernel)) (pi_list (pe_split (pv 0) pe_str)) (blkOk_by (N := N_law_due) (sc := defScope s_law_due) (by decide +kernel)) (fun _ _ _ _ _ => pg_name (i := 2) sc_law_due.nd rfl (Or.inl rfl)) (fun _ _ _ _ _ => pts_nil) (fun _ _ _ _ _ => (pe_call (ok_law_number T) (hr.mono (by decide)) (by rfl) T.g_law_number T.F_law_number.kp T.b_law_number .nil pass0 (pa_cons (pv 2) pa_nil))))
      (pss_cons (ps_if (PW.pt (pw_or (pt_cmpR op_gt (pe_callB (r := rLenS K) call_len_seq (by rfl) T.n_len PySem.boot_len (pa_cons (pv 1) pa_nil)) pe_int (nomark _)) (pw_or1 (pt_cmpR (r := rNeD K) (op_neD hr.units) (pe_callB (r := rSortedI K) cr_sortedI (by rfl) T.n_sorted (by decide +kernel) (pa_cons (pv 1) pa_nil)) (pe_listRg rfl (by rfl) T.n_list (prg_2 (by rfl) T.n_range pe_int (pe_op op_add (pe_callB (r := rLenS K) call_len_seq (by rfl) T.n_len PySem.boot_len (pa_cons (pv 1) pa_nil)) pe_int))) (nomark _)))))
      (pss_one (ps_ret pe_non))
      pss_nil)
      (pss_one (ps_ret (pv 1))))), ?_⟩
    have hsl := split_len (z := z)
    have hnl : (nsM z).length ≤ 501 := by unfold nsM; rw [List.length_map]; omega
    have hpos := nsM_pos z
    have hxs : given ((Txt.split z ⟨#[44]⟩).map V.str).length (fun _ => true) (fun i => V.int ((nsM z).getD i 0)) = (nsM z).map V.int := by
      rw [given_int, List.length_map]
      have e : (Txt.split z ⟨#[44]⟩).length = (nsM z).length := by unfold nsM; rw [List.length_map]
      rw [e, range_getD]
    refine q_asgL (xs := (nsM z).map V.int) (by
      rw [← hxs]
      exact el_lcNL (fun _ => true) (fun i => V.int ((nsM z).getD i 0)) (el_splitC (ev_var rfl) hz) (by rw [List.length_map]; omega) (fun x => rfl) (fun i x G _ _ => et_yes) (fun i x G eG hx _ => by
        obtain ⟨c, hc, rfl⟩ := str_item hx
        have hpl := split_part (List.mem_of_getElem? hc)
        have eg : (nsM z).getD i 0 = numM c := by
          unfold nsM
          rw [List.getD_eq_getElem?_getD, List.getElem?_map, hc]
          rfl
        rw [eg]
        exact ev_call (ea_cons (ev_var rfl) ea_nil) (spNumber_V (by omega)))) fun p H1 np e1 hp => ?_
    have h3 := srt_rng (nsM z)
    refine q_when (et_or (et_test (ev_op (ev_lenI (ev_var rfl) (sq_of hp)) ev_c rv_I0)) fun _ => et_test (ev_neR (EvR.new (el_sorted (EvR.old (ev_var rfl) hp))) (EvR.new (el_rng ev_c (ev_op (ev_lenI (ev_var rfl) (sq_of hp)) ev_c rv_I0) rfl (by omega))))) (fun hb H2 e2 => ?_) (fun hb H2 e2 => ?_)
    · refine s_ret ev_c fun H3 e3 => qN (fun d => ?_) H3 ((e1.trans e2).trans e3)
      have h2 := d.hi
      rw [decide_eq_true (h3.mpr d.dk), decide_eq_false (by omega)] at hb
      cases hb
    · rw [Bool.or_eq_false_iff] at hb
      have hb1 := of_decide_eq_false hb.1
      have hb2 : srt (nsM z) = rng (nsM z).length := by simpa using hb.2
      exact ⟨_, rfl, q ⟨h3.mp hb2, hpos, by omega⟩ p H2 np (e1.trans e2) (e2 _ _ hp)⟩

def badLine : List Bool := [false, false, false, false, false, true, true]
def spTold : Sp := fun vs H Q _ => ∃ (z : Str), vs = [.str z] ∧ z.length ≤ 500 ∧ (Dk (nsM z) → RetL ((nsM z).map V.int) H Q) ∧ (¬ Dk (nsM z) → RetL (badLine.map V.bl) H Q)
theorem spTold_L {H : Hp} {z : Str} (h : z.length ≤ 500) (d : Dk (nsM z)) : SpL spTold [.str z] H ((nsM z).map V.int) := fun H1 e Q q E => ⟨z, rfl, h, fun _ p H2 np e2 hp => q p H2 np e2 hp, fun y => absurd d y⟩
theorem spTold_N {H : Hp} {z : Str} (h : z.length ≤ 500) (d : ¬ Dk (nsM z)) : SpL spTold [.str z] H (badLine.map V.bl) := fun H1 e Q q E => ⟨z, rfl, h, fun y => absurd y d, fun _ p H2 np e2 hp => q p H2 np e2 hp⟩
theorem ok_law_told (T : Txt K mg A) : FnOk P w K mg base CX0 3 A.f_law_told A.d_law_told ["text"] spTold := by
  refine T.F_law_told.ok sc_law_told (fun vs H Q E h => ?_) (fun cdv AA outer s H vs Q E hr h => ?_)
  · obtain ⟨a, rfl, _⟩ := h
    rfl
  · obtain ⟨z, rfl, hz, q, qE⟩ := h
    refine ⟨_, (pss_cons (ps_set (i := 1) sc_law_told.nd rfl (by first | exact Or.inl rfl | exact Or.inr rfl) pe_non)
      (pss_cons (L2.ps_try_as (i := 2) rfl rfl sc_law_told.nd rfl rfl ⟨rfl, by decide, .inl T.K_CardError.g⟩ takes0 (fun W pn xe tk _ =>
      (pss_one (ps_set (i := 1) sc_law_told.nd rfl (by first | exact Or.inl rfl | exact Or.inr rfl) (by exact (pe_callS (ok_read T) (hr.mono (by decide)) (by rfl) T.g_read T.F_read.kp T.b_read (fun σ => L2.passAt tk σ) (pa_cons (pv 0) pa_nil))))))
      (fun a oe cls d pn hz hf =>
      (pss_one (ps_set (i := 1) sc_law_told.nd rfl (by first | exact Or.inl rfl | exact Or.inr rfl) (by exact (pe_callZ (a := a) (oe := oe) (c := cls) (d := d) (ok_law_which T) (roomH_at (hr.mono (by decide)) rfl rfl) hf List.mem_cons_self hz (by rfl) T.g_law_which T.F_law_which.kp T.b_law_which (pa_cons (pv 2) pa_nil)))))))
      (pss_one (ps_ret (pv 1))))), ?_⟩
    refine q_asg ev_c fun H1 e1 => ?_
    refine ⟨_, rfl, z, rfl, hz, fun hd p H2 np e2 hp => ?_, fun hd H2 e2 => ?_⟩
    · exact ⟨_, rfl, q hd p H2 (fresh_back e1 np) (e1.trans e2) hp⟩
    · refine ⟨true, PySem.W.exm_ref T.cb_CardError T.cd_CardError T.K_CardError.t T.s_BadLine_CardError, fun _ x nx => ?_, fun z => nomatch z⟩
      refine ⟨_, rfl, A.c_BadLine, _, rfl, rfl, rfl, which_BadLine T, fun p H3 np e3 hp => ?_⟩
      exact ⟨_, rfl, qE hd p H3 (fresh_back (e1.trans e2) np) ((e1.trans e2).trans e3) hp⟩

def spSpoiled : Sp := fun vs H Q _ => ∃ (z : Str) (c o : Int), vs = [.str z, .int c, .int o] ∧ z.length ≤ 100 ∧ ∀ x : Str, x.length ≤ 300 → RetV (.str x) H Q
theorem ok_law_spoiled (T : Txt K mg A) : FnOk P w K mg base CX0 2 A.f_law_spoiled A.d_law_spoiled ["text", "cell", "other"] spSpoiled := by
  refine T.F_law_spoiled.ok sc_law_spoiled (fun vs H Q E h => ?_) (fun cdv AA outer s H vs Q E hr h => ?_)
  · obtain ⟨z, c, o, rfl, _⟩ := h
    rfl
  · obtain ⟨z, c, o, rfl, hz, q⟩ := h
    refine ⟨_, (pss_cons (ps_set (i := 3) sc_law_spoiled.nd rfl (by first | exact Or.inl rfl | exact Or.inr rfl) (pe_op op_mod (pe_op op_fdivN (pv 1) pe_int) (pe_op op_add (pe_callB call_len_str (by rfl) T.n_len PySem.boot_len (pa_cons (pv 0) pa_nil)) pe_int)))
      (pss_cons (ps_if (pt_cmpR op_eq (pe_op op_mod (pv 1) pe_int) pe_int (nomark _))
      (pss_one (ps_ret (pe_op op_add_str (pe_slice sl_str (pv 0) po_none (po_some (pv 3))) (pe_slice sl_str (pv 0) (po_some (pe_op op_add (pv 3) pe_int)) po_none))))
      pss_nil)
      (pss_cons (ps_if (pt_cmpR op_eq (pe_op op_mod (pv 1) pe_int) pe_int (nomark _))
      (pss_one (ps_ret (pe_op op_add_str (pe_op op_add_str (pe_slice sl_str (pv 0) po_none (po_some (pv 3))) (pe_call (ok_law_sign_by T) (hr.mono (by decide)) (by rfl) T.g_law_sign_by T.F_law_sign_by.kp T.b_law_sign_by .nil pass0 (pa_cons (pv 2) pa_nil))) (pe_slice sl_str (pv 0) (po_some (pe_op op_add (pv 3) pe_int)) po_none))))
      pss_nil)
      (pss_one (ps_ret (pe_op op_add_str (pe_op op_add_str (pe_slice sl_str (pv 0) po_none (po_some (pv 3))) (pe_call (ok_law_sign_by T) (hr.mono (by decide)) (by rfl) T.g_law_sign_by T.F_law_sign_by.kp T.b_law_sign_by .nil pass0 (pa_cons (pv 2) pa_nil))) (pe_slice sl_str (pv 0) (po_some (pv 3)) po_none))))))), ?_⟩
    refine q_asgI (ei_mod (ei_fdiv (ei_ev (P := fun _ => True) (ev_var rfl) True.intro) ev_c (by decide) (by decide)) (ev_op (ev_lenS (ev_var rfl) (by omega)) ev_c rv_I0) (by omega)) fun at' H1 hat e1 => ?_
    have cut : ∀ {lo hi : Option Int}, (cutS z lo hi).length ≤ 100 := fun {lo hi} => Nat.le_trans (cutS_length z lo hi) hz
    have s1 : ∀ {G : Hp}, EvSP (tSl rSlS (tVar 0) tNoPart (tPart (tVar 3))) [some (.str z), some (.int c), some (.int o), some (.int at')] G (fun x => x.length ≤ 100) := es_ev (ev_slS (ev_var rfl) eo_none (eo_some (ev_var rfl)) (by omega)) cut
    have s2 : ∀ {G : Hp}, EvSP (tSl rSlS (tVar 0) (tPart (tOp (rI0 fun i j => V.int (i + j)) (tVar 3) (tC (.int 1)))) tNoPart) [some (.str z), some (.int c), some (.int o), some (.int at')] G (fun x => x.length ≤ 100) := es_ev (ev_slS (ev_var rfl) (eo_some (ev_op (ev_var rfl) ev_c rv_I0)) eo_none (by omega)) cut
    have s3 : ∀ {G : Hp}, EvSP (tSl rSlS (tVar 0) (tPart (tVar 3)) tNoPart) [some (.str z), some (.int c), some (.int o), some (.int at')] G (fun x => x.length ≤ 100) := es_ev (ev_slS (ev_var rfl) (eo_some (ev_var rfl)) eo_none (by omega)) cut
    have sg : ∀ {G : Hp}, EvSP (tCall spSign [] E0 (tCons (tVar 2) tNil)) [some (.str z), some (.int c), some (.int o), some (.int at')] G (fun x => x.length = 1) := es_sign (ei_ev (ev_var rfl) True.intro)
    refine q_any (ep_eq (ei_mod (ei_ev (P := fun _ => True) (ev_var rfl) True.intro) ev_c (by decide)) ei_c) (fun H2 e2 => ?_) (fun H2 e2 => ?_)
    · exact es_add (S := fun x => x.length ≤ 300) s1 s2 (fun x y hx hy => ⟨by omega, by rw [PySem.Str.length_append]; omega⟩) H2 (Ex.refl _) _ fun x H3 e3 hx => q x hx H3 ((e1.trans e2).trans e3)
    refine q_any (ep_eq (ei_mod (ei_ev (P := fun _ => True) (ev_var rfl) True.intro) ev_c (by decide)) ei_c) (fun H3 e3 => ?_) (fun H3 e3 => ?_)
    · exact es_add (S := fun x => x.length ≤ 300) (es_add (S := fun x => x.length ≤ 101) s1 sg (fun x y hx hy => ⟨by omega, by rw [PySem.Str.length_append]; omega⟩)) s2 (fun x y hx hy => ⟨by omega, by rw [PySem.Str.length_append]; omega⟩) H3 (Ex.refl _) _ fun x H4 e4 hx => q x hx H4 (((e1.trans e2).trans e3).trans e4)
    · exact es_add (S := fun x => x.length ≤ 300) (es_add (S := fun x => x.length ≤ 101) s1 sg (fun x y hx hy => ⟨by omega, by rw [PySem.Str.length_append]; omega⟩)) s3 (fun x y hx hy => ⟨by omega, by rw [PySem.Str.length_append]; omega⟩) H3 (Ex.refl _) _ fun x H4 e4 hx => q x hx H4 (((e1.trans e2).trans e3).trans e4)
theorem es_spoiled {σ : L2.St} {H : Hp} {ta tb tc : TE} {z : Str} {E : XK} (hz : z.length ≤ 100) (h : Ev ta σ H (.str z)) (hb : EvI tb σ H (fun _ => True)) (hc : EvI tc σ H (fun _ => True)) : EvSP (tCall spSpoiled [] E (tCons ta (tCons tb (tCons tc tNil)))) σ H (fun x => x.length ≤ 300) := fun H1 e Q q =>
  h H1 e _ fun H2 e2 => hb H2 (e.trans e2) _ fun c H3 e3 _ => hc H3 ((e.trans e2).trans e3) _ fun o H4 e4 _ => ⟨z, c, o, rfl, hz, fun x hx H5 e5 => q x H5 (((e2.trans e3).trans e4).trans e5) hx⟩

theorem given_str (n : Nat) (g : Nat → Str) : given n (fun _ => true) (fun i => V.str (g i)) = ((List.range n).map g).map V.str := by
  unfold given
  rw [List.filter_eq_self.mpr (fun _ _ => rfl), List.map_map]
  rfl
theorem sum_num {ds : List Int} (h : ∀ k ∈ ds, 1 ≤ k ∧ k ≤ 16) : ((ds.map num).map (·.length)).sum ≤ 2 * ds.length := by
  induction ds with
  | nil => simp
  | cons d r ih =>
    have h1 := ih fun k hk => h k (List.mem_cons_of_mem _ hk)
    have h2 := (cd_num (h d List.mem_cons_self).1 (h d List.mem_cons_self).2).l2
    simp only [List.map_cons, List.sum_cons, List.length_cons] at *
    omega
theorem Dk.cards {ds : List Int} (h : Dk ds) : ∀ k ∈ ds, 1 ≤ k ∧ k ≤ 16 := fun k hk => by
  have := h.dk.mem.mp hk
  have := h.hi
  omega
theorem join_len {ds : List Int} (h : Dk ds) : (Txt.join ⟨#[44]⟩ (ds.map num)).length ≤ 100 := by
  have e1 := StrLaws.join_length_le ⟨#[44]⟩ (ds.map num)
  have e2 : Txt.join ⟨#[44]⟩ (ds.map num) = Str.join ⟨#[44]⟩ (ds.map num) := StrLaws.glued_eq_join _ _
  have e3 := sum_num h.cards
  have e4 := h.hi
  have e5 : (⟨#[44]⟩ : Str).length = 1 := rfl
  rw [e2]
  rw [List.length_map, e5] at e1
  omega
def spLaw (K : PySem.W.Frag) : Sp := fun vs H Q _ => ∃ (a : Addr) (ns : List Int), vs = [.ref a] ∧ SqL K H a (ns.map V.int) ∧ ns.length ≤ 63 ∧ ∀ H', Q (.bl true) H'
theorem ok_law (T : Txt K mg A) : FnOk P w K mg base CX0 4 A.f_law A.d_law ["script"] (spLaw K) := by
  refine T.F_law.ok sc_law (fun vs H Q E h => ?_) (fun cdv AA outer s H vs Q E hr h => ?_)
  · obtain ⟨a, ns, rfl, _⟩ := h
    rfl
  · obtain ⟨l, cs, rfl, hs, hlen, q⟩ := h
    refine ⟨_, (pss_cons (ps_set (i := 1) sc_law.nd rfl (by first | exact Or.inl rfl | exact Or.inr rfl) (pe_join pe_str (pe_lc (own := [("card", 4)]) (g := gName 4) (tt := tYes) rfl sc_law.nd (pi_list (pe_call (ok_law_deck T) (hr.mono (by decide)) (by rfl) T.g_law_deck T.F_law_deck.kp T.b_law_deck .nil pass0 (pa_cons (pv 0) (pa_cons pe_int (pa_cons pe_int pa_nil))))) (blkOk_by (N := N_law) (sc := defScope s_law) (by decide +kernel)) (fun _ _ _ _ _ => pg_name (i := 4) sc_law.nd rfl (Or.inl rfl)) (fun _ _ _ _ _ => pts_nil) (fun _ _ _ _ _ => (pe_callTy call_str_int (by rfl) T.n_str (by decide +kernel) (pa_cons (pv 4) pa_nil))))))
      (pss_cons (ps_if (pt_cmpR op_gt (pe_op op_mod (pe_call (ok_law_cell_at T) (hr.mono (by decide)) (by rfl) T.g_law_cell_at T.F_law_cell_at.kp T.b_law_cell_at .nil pass0 (pa_cons (pv 0) (pa_cons pe_int pa_nil))) pe_int) pe_int (nomark _))
      (pss_one (ps_set (i := 1) sc_law.nd rfl (by first | exact Or.inl rfl | exact Or.inr rfl) (pe_call (ok_law_spoiled T) (hr.mono (by decide)) (by rfl) T.g_law_spoiled T.F_law_spoiled.kp T.b_law_spoiled .nil pass0 (pa_cons (pv 1) (pa_cons (pe_call (ok_law_cell_at T) (hr.mono (by decide)) (by rfl) T.g_law_cell_at T.F_law_cell_at.kp T.b_law_cell_at .nil pass0 (pa_cons (pv 0) (pa_cons pe_int pa_nil))) (pa_cons (pe_call (ok_law_cell_at T) (hr.mono (by decide)) (by rfl) T.g_law_cell_at T.F_law_cell_at.kp T.b_law_cell_at .nil pass0 (pa_cons (pv 0) (pa_cons pe_int pa_nil))) pa_nil))))))
      pss_nil)
      (pss_cons (ps_if (pt_cmpR op_eq (pe_op op_mod (pe_op op_fdivN (pe_call (ok_law_cell_at T) (hr.mono (by decide)) (by rfl) T.g_law_cell_at T.F_law_cell_at.kp T.b_law_cell_at .nil pass0 (pa_cons (pv 0) (pa_cons pe_int pa_nil))) pe_int) pe_int) pe_int (nomark _))
      (pss_one (ps_set (i := 1) sc_law.nd rfl (by first | exact Or.inl rfl | exact Or.inr rfl) (pe_call (ok_law_odd T) (hr.mono (by decide)) (by rfl) T.g_law_odd T.F_law_odd.kp T.b_law_odd .nil pass0 (pa_cons (pe_call (ok_law_cell_at T) (hr.mono (by decide)) (by rfl) T.g_law_cell_at T.F_law_cell_at.kp T.b_law_cell_at .nil pass0 (pa_cons (pv 0) (pa_cons pe_int pa_nil))) pa_nil))))
      pss_nil)
      (pss_cons (ps_set (i := 2) sc_law.nd rfl (by first | exact Or.inl rfl | exact Or.inr rfl) (pe_call (ok_law_due T) (hr.mono (by decide)) (by rfl) T.g_law_due T.F_law_due.kp T.b_law_due .nil pass0 (pa_cons (pv 1) pa_nil)))
      (pss_cons (ps_set (i := 3) sc_law.nd rfl (by first | exact Or.inl rfl | exact Or.inr rfl) (pe_call (ok_law_told T) (hr.mono (by decide)) (by rfl) T.g_law_told T.F_law_told.kp T.b_law_told .nil pass0 (pa_cons (pv 1) pa_nil)))
      (pss_cons (ps_if (pt_cmpR op_isN (pv 2) pe_non (nomark _))
      (pss_one (ps_ret (pe_cmpR (r := rEqD K) (op_eqD hr.units) (pv 3) (pe_lst (pa_cons pe_bl (pa_cons pe_bl (pa_cons pe_bl (pa_cons pe_bl (pa_cons pe_bl (pa_cons pe_bl (pa_cons pe_bl pa_nil)))))))) (nomark _))))
      pss_nil)
      (pss_one (ps_ret (pe_and (pe_callB call_isi (by rfl) T.n_isinstance (by decide +kernel) (pa_cons (pv 3) (pa_cons (pe_bltn (v := .ty "list") (u := .type "list") (by rfl) T.n_list (by decide +kernel) rfl) pa_nil))) (pe_one (pe_cmpR (r := rEqD K) (op_eqD hr.units) (pv 3) (pv 2) (nomark _)))))))))))), ?_⟩
    refine q_asgSP (P := fun x => x.length ≤ 100) (es_joinLc (K := K) (σ := [some (.ref l), none, none, none, none]) (j := 4) (vs := [4]) num (ep_deck (ea_cons (ev_var (i := 0) rfl) (ea_cons ev_c (ea_cons ev_c ea_nil))) hs (by decide) (by decide) (by decide)) (fun ds hd => by have := hd.1.hi; omega) (fun x => rfl) (fun ds c G hd hc => ?_) (fun ds hd => ?_) fun ds hd => ?_) fun z H1 hz e1 => ?_
    · have := hd.1.cards c hc
      exact ev_strI (ev_var rfl) (by omega)
    · have e4 := sum_num hd.1.cards
      have e5 : (Str.ofString ",").length = 1 := by decide +kernel
      have h2 := hd.1.hi
      rw [e5, List.length_map]
      omega
    · rw [comma1]
      exact join_len hd.1
    refine q_two (fun σ' H' => ∃ z : Str, σ' = [some (.ref l), some (.str z), none, none, none] ∧ Ex H H' ∧ z.length ≤ 300) (ep_gt (ei_mod (ei_cell (ea_cons (ev_var rfl) (ea_cons ev_c ea_nil)) (ex_l e1 hs) (by decide)) ev_c (by decide)) ei_c) (fun N hN H2 e2 => ?_) (fun H2 e2 => ⟨z, rfl, e1.trans e2, by omega⟩) ?_
    · refine s_asgSP (es_spoiled hz (ev_var rfl) (ei_cell (ea_cons (ev_var rfl) (ea_cons ev_c ea_nil)) (ex_l (e1.trans e2) hs) (by decide)) (ei_cell (ea_cons (ev_var rfl) (ea_cons ev_c ea_nil)) (ex_l (e1.trans e2) hs) (by decide))) fun x H3 hx e3 => hN _ _ ⟨x, rfl, (e1.trans e2).trans e3, hx⟩
    rintro σ' H2 ⟨z, rfl, e2, hz⟩
    refine q_two (fun σ' H' => ∃ z : Str, σ' = [some (.ref l), some (.str z), none, none, none] ∧ Ex H H' ∧ z.length ≤ 300) (ep_eq (ei_mod (ei_fdiv (ei_cell (ea_cons (ev_var rfl) (ea_cons ev_c ea_nil)) (ex_l e2 hs) (by decide)) ev_c (by decide) (by decide)) ev_c (by decide)) ei_c) (fun N hN H3 e3 => ?_) (fun H3 e3 => ⟨z, rfl, e2.trans e3, hz⟩) ?_
    · refine s_asgSP (es_odd (ei_cell (ea_cons (ev_var rfl) (ea_cons ev_c ea_nil)) (ex_l (e2.trans e3) hs) (by decide))) fun x H4 hx e4 => hN _ _ ⟨x, rfl, (e2.trans e3).trans e4, by omega⟩
    rintro σ' H3 ⟨z, rfl, e3, hz⟩
    have hz5 : z.length ≤ 500 := by omega
    by_cases hd : Dk (nsM z)
    · refine q_asgL (el_call (ea_cons (ev_var rfl) ea_nil) (spDue_L hz5 hd)) fun du H4 ndu e4 hdu => ?_
      refine q_asgL (el_call (ea_cons (ev_var rfl) ea_nil) (spTold_L hz5 hd)) fun f H5 nf e5 hf => ?_
      refine q_when (b := false) (et_is (et_test (ev_op (ev_var rfl) ev_c rv_isN)) (by simp)) (fun z => nomatch z) fun _ H6 e6 => ?_
      refine s_ret (ev_is (ev_andV (ev_isi (T := "list") (bb := true) (ev_var rfl) (fun G eG => .base (.lst ((e6.trans eG) _ _ hf))) (by decide +kernel)) fun _ => ev_eqR (EvR.old (ev_var rfl) (e6 _ _ hf)) (EvR.old (ev_var rfl) ((e5.trans e6) _ _ hdu))) (w := .bl true) (by simp)) fun H7 _ => q _
    · refine q_asg (ev_call (ea_cons (ev_var rfl) ea_nil) (spDue_V hz5 hd)) fun H4 e4 => ?_
      refine q_asgL (el_call (ea_cons (ev_var rfl) ea_nil) (spTold_N hz5 hd)) fun f H5 nf e5 hf => ?_
      refine q_when (b := true) (et_is (et_test (ev_op (ev_var rfl) ev_c rv_isN)) (by simp)) (fun _ H6 e6 => ?_) (fun z => nomatch z)
      refine s_ret (ev_eqB (bs := badLine) (cs := badLine) (EvR.old (ev_var rfl) (e6 _ _ hf)) (EvR.new (el_lst (ea_cons ev_c (ea_cons ev_c (ea_cons ev_c (ea_cons ev_c (ea_cons ev_c (ea_cons ev_c (ea_cons ev_c ea_nil))))))) (by show 7 ≤ 100000; decide)))) fun H7 _ => ?_
      rw [decide_eq_true rfl]
      exact q _

end
theorem all_mk {l : PySem.W.OpenLaw} {w : World} {K : PySem.W.Frag} {h : Heap} {mg : Str → Option Value} {fa : Addr} (X : K.In h) (G : h.Ns mainGlobals mg) (hfa : mg "law" = some (.ref fa))
    {f0 : Addr} {od0 an0 : Option Addr} {sl0 : Array (Option Value)} {oc0 kV0 dc0 pm0 cd0 ct0 : Value}
    {f1 : Addr} {od1 an1 : Option Addr} {sl1 : Array (Option Value)} {oc1 kV1 dc1 pm1 cd1 ct1 : Value}
    {f2 : Addr} {od2 an2 : Option Addr} {sl2 : Array (Option Value)} {oc2 kV2 dc2 pm2 cd2 ct2 : Value}
    {f3 : Addr} {od3 an3 : Option Addr} {sl3 : Array (Option Value)} {oc3 kV3 dc3 pm3 cd3 ct3 : Value}
    {f4 : Addr} {od4 an4 : Option Addr} {sl4 : Array (Option Value)} {oc4 kV4 dc4 pm4 cd4 ct4 : Value}
    {f5 : Addr} {od5 an5 : Option Addr} {sl5 : Array (Option Value)} {oc5 kV5 dc5 pm5 cd5 ct5 : Value}
    {f6 : Addr} {od6 an6 : Option Addr} {sl6 : Array (Option Value)} {oc6 kV6 dc6 pm6 cd6 ct6 : Value}
    {f7 : Addr} {od7 an7 : Option Addr} {sl7 : Array (Option Value)} {oc7 kV7 dc7 pm7 cd7 ct7 : Value}
    {f8 : Addr} {od8 an8 : Option Addr} {sl8 : Array (Option Value)} {oc8 kV8 dc8 pm8 cd8 ct8 : Value}
    {f9 : Addr} {od9 an9 : Option Addr} {sl9 : Array (Option Value)} {oc9 kV9 dc9 pm9 cd9 ct9 : Value}
    {f10 : Addr} {od10 an10 : Option Addr} {sl10 : Array (Option Value)} {oc10 kV10 dc10 pm10 cd10 ct10 : Value}
    {f11 : Addr} {od11 an11 : Option Addr} {sl11 : Array (Option Value)} {oc11 kV11 dc11 pm11 cd11 ct11 : Value}
    {f12 : Addr} {od12 an12 : Option Addr} {sl12 : Array (Option Value)} {oc12 kV12 dc12 pm12 cd12 ct12 : Value}
    {t_MOST : Tok}
    {t_FIGURES : Tok}
    {c_CardError : Addr}
    {c_NoDeck : Addr}
    {c_NoTurn : Addr}
    {c_NoGame : Addr}
    {c_TooTall : Addr}
    {c_NoBack : Addr}
    {c_BadLine : Addr}
    (a0 : PySem.W.nsIn K mainGlobals "ask" = some (some (.ref f0)))
    (l0 : K.lookup f0 = some ⟨oc0, od0, .func (PySem.W.fnOf "ask" "ask" (defArgs s_ask) (defBody s_ask) (defScope s_ask) .none kV0 dc0 pm0 an0 cd0 ct0), sl0⟩)
    (c0 : PySem.W.codeIn K cd0 "ask" = true)
    (k0 : PySem.W.keepIn K (.ref f0) = true)
    (a1 : PySem.W.nsIn K mainGlobals "card_of" = some (some (.ref f1)))
    (l1 : K.lookup f1 = some ⟨oc1, od1, .func (PySem.W.fnOf "card_of" "card_of" (defArgs s_card_of) (defBody s_card_of) (defScope s_card_of) .none kV1 dc1 pm1 an1 cd1 ct1), sl1⟩)
    (c1 : PySem.W.codeIn K cd1 "card_of" = true)
    (k1 : PySem.W.keepIn K (.ref f1) = true)
    (a2 : PySem.W.nsIn K mainGlobals "read" = some (some (.ref f2)))
    (l2 : K.lookup f2 = some ⟨oc2, od2, .func (PySem.W.fnOf "read" "read" (defArgs s_read) (defBody s_read) (defScope s_read) .none kV2 dc2 pm2 an2 cd2 ct2), sl2⟩)
    (c2 : PySem.W.codeIn K cd2 "read" = true)
    (k2 : PySem.W.keepIn K (.ref f2) = true)
    (a3 : PySem.W.nsIn K mainGlobals "_law_cell_at" = some (some (.ref f3)))
    (l3 : K.lookup f3 = some ⟨oc3, od3, .func (PySem.W.fnOf "_law_cell_at" "_law_cell_at" (defArgs s_law_cell_at) (defBody s_law_cell_at) (defScope s_law_cell_at) .none kV3 dc3 pm3 an3 cd3 ct3), sl3⟩)
    (c3 : PySem.W.codeIn K cd3 "_law_cell_at" = true)
    (k3 : PySem.W.keepIn K (.ref f3) = true)
    (a4 : PySem.W.nsIn K mainGlobals "_law_deck" = some (some (.ref f4)))
    (l4 : K.lookup f4 = some ⟨oc4, od4, .func (PySem.W.fnOf "_law_deck" "_law_deck" (defArgs s_law_deck) (defBody s_law_deck) (defScope s_law_deck) .none kV4 dc4 pm4 an4 cd4 ct4), sl4⟩)
    (c4 : PySem.W.codeIn K cd4 "_law_deck" = true)
    (k4 : PySem.W.keepIn K (.ref f4) = true)
    (a5 : PySem.W.nsIn K mainGlobals "_law_which" = some (some (.ref f5)))
    (l5 : K.lookup f5 = some ⟨oc5, od5, .func (PySem.W.fnOf "_law_which" "_law_which" (defArgs s_law_which) (defBody s_law_which) (defScope s_law_which) .none kV5 dc5 pm5 an5 cd5 ct5), sl5⟩)
    (c5 : PySem.W.codeIn K cd5 "_law_which" = true)
    (k5 : PySem.W.keepIn K (.ref f5) = true)
    (a6 : PySem.W.nsIn K mainGlobals "_law_sign_by" = some (some (.ref f6)))
    (l6 : K.lookup f6 = some ⟨oc6, od6, .func (PySem.W.fnOf "_law_sign_by" "_law_sign_by" (defArgs s_law_sign_by) (defBody s_law_sign_by) (defScope s_law_sign_by) .none kV6 dc6 pm6 an6 cd6 ct6), sl6⟩)
    (c6 : PySem.W.codeIn K cd6 "_law_sign_by" = true)
    (k6 : PySem.W.keepIn K (.ref f6) = true)
    (a7 : PySem.W.nsIn K mainGlobals "_law_odd" = some (some (.ref f7)))
    (l7 : K.lookup f7 = some ⟨oc7, od7, .func (PySem.W.fnOf "_law_odd" "_law_odd" (defArgs s_law_odd) (defBody s_law_odd) (defScope s_law_odd) .none kV7 dc7 pm7 an7 cd7 ct7), sl7⟩)
    (c7 : PySem.W.codeIn K cd7 "_law_odd" = true)
    (k7 : PySem.W.keepIn K (.ref f7) = true)
    (a8 : PySem.W.nsIn K mainGlobals "_law_number" = some (some (.ref f8)))
    (l8 : K.lookup f8 = some ⟨oc8, od8, .func (PySem.W.fnOf "_law_number" "_law_number" (defArgs s_law_number) (defBody s_law_number) (defScope s_law_number) .none kV8 dc8 pm8 an8 cd8 ct8), sl8⟩)
    (c8 : PySem.W.codeIn K cd8 "_law_number" = true)
    (k8 : PySem.W.keepIn K (.ref f8) = true)
    (a9 : PySem.W.nsIn K mainGlobals "_law_due" = some (some (.ref f9)))
    (l9 : K.lookup f9 = some ⟨oc9, od9, .func (PySem.W.fnOf "_law_due" "_law_due" (defArgs s_law_due) (defBody s_law_due) (defScope s_law_due) .none kV9 dc9 pm9 an9 cd9 ct9), sl9⟩)
    (c9 : PySem.W.codeIn K cd9 "_law_due" = true)
    (k9 : PySem.W.keepIn K (.ref f9) = true)
    (a10 : PySem.W.nsIn K mainGlobals "_law_told" = some (some (.ref f10)))
    (l10 : K.lookup f10 = some ⟨oc10, od10, .func (PySem.W.fnOf "_law_told" "_law_told" (defArgs s_law_told) (defBody s_law_told) (defScope s_law_told) .none kV10 dc10 pm10 an10 cd10 ct10), sl10⟩)
    (c10 : PySem.W.codeIn K cd10 "_law_told" = true)
    (k10 : PySem.W.keepIn K (.ref f10) = true)
    (a11 : PySem.W.nsIn K mainGlobals "_law_spoiled" = some (some (.ref f11)))
    (l11 : K.lookup f11 = some ⟨oc11, od11, .func (PySem.W.fnOf "_law_spoiled" "_law_spoiled" (defArgs s_law_spoiled) (defBody s_law_spoiled) (defScope s_law_spoiled) .none kV11 dc11 pm11 an11 cd11 ct11), sl11⟩)
    (c11 : PySem.W.codeIn K cd11 "_law_spoiled" = true)
    (k11 : PySem.W.keepIn K (.ref f11) = true)
    (a12 : PySem.W.nsIn K mainGlobals "law" = some (some (.ref f12)))
    (l12 : K.lookup f12 = some ⟨oc12, od12, .func (PySem.W.fnOf "law" "law" (defArgs s_law) (defBody s_law) (defScope s_law) .none kV12 dc12 pm12 an12 cd12 ct12), sl12⟩)
    (c12 : PySem.W.codeIn K cd12 "law" = true)
    (k12 : PySem.W.keepIn K (.ref f12) = true)
    (z_len : PySem.W.nsIn K mainGlobals "len" = some none)
    (z_sorted : PySem.W.nsIn K mainGlobals "sorted" = some none)
    (z_list : PySem.W.nsIn K mainGlobals "list" = some none)
    (z_range : PySem.W.nsIn K mainGlobals "range" = some none)
    (z_isinstance : PySem.W.nsIn K mainGlobals "isinstance" = some none)
    (z_int : PySem.W.nsIn K mainGlobals "int" = some none)
    (z_bool : PySem.W.nsIn K mainGlobals "bool" = some none)
    (z_str : PySem.W.nsIn K mainGlobals "str" = some none)
    (z_ValueError : PySem.W.nsIn K mainGlobals "ValueError" = some none)
    (y_MOST : PySem.W.nsIn K mainGlobals "MOST" = some (some (.int 16 t_MOST)))
    (y_FIGURES : PySem.W.nsIn K mainGlobals "FIGURES" = some (some (.str "0123456789" t_FIGURES)))
    (cg_CardError : PySem.W.nsIn K mainGlobals "CardError" = some (some (.ref c_CardError)))
    (ci_CardError : PySem.W.isClsIn K c_CardError = true)
    (ct_CardError : PySem.W.typeIn K (.ref c_CardError) = some (.type "type"))
    (cg_NoDeck : PySem.W.nsIn K mainGlobals "NoDeck" = some (some (.ref c_NoDeck)))
    (ci_NoDeck : PySem.W.isClsIn K c_NoDeck = true)
    (ct_NoDeck : PySem.W.typeIn K (.ref c_NoDeck) = some (.type "type"))
    (cg_NoTurn : PySem.W.nsIn K mainGlobals "NoTurn" = some (some (.ref c_NoTurn)))
    (ci_NoTurn : PySem.W.isClsIn K c_NoTurn = true)
    (ct_NoTurn : PySem.W.typeIn K (.ref c_NoTurn) = some (.type "type"))
    (cg_NoGame : PySem.W.nsIn K mainGlobals "NoGame" = some (some (.ref c_NoGame)))
    (ci_NoGame : PySem.W.isClsIn K c_NoGame = true)
    (ct_NoGame : PySem.W.typeIn K (.ref c_NoGame) = some (.type "type"))
    (cg_TooTall : PySem.W.nsIn K mainGlobals "TooTall" = some (some (.ref c_TooTall)))
    (ci_TooTall : PySem.W.isClsIn K c_TooTall = true)
    (ct_TooTall : PySem.W.typeIn K (.ref c_TooTall) = some (.type "type"))
    (cg_NoBack : PySem.W.nsIn K mainGlobals "NoBack" = some (some (.ref c_NoBack)))
    (ci_NoBack : PySem.W.isClsIn K c_NoBack = true)
    (ct_NoBack : PySem.W.typeIn K (.ref c_NoBack) = some (.type "type"))
    (cg_BadLine : PySem.W.nsIn K mainGlobals "BadLine" = some (some (.ref c_BadLine)))
    (ci_BadLine : PySem.W.isClsIn K c_BadLine = true)
    (ct_BadLine : PySem.W.typeIn K (.ref c_BadLine) = some (.type "type"))
    (ek_NoDeck : PySem.W.keepIn K (.ref c_NoDeck) = true)
    (ex_NoDeck : PySem.W.excIn K c_NoDeck [.type "ValueError", .type "Exception", .type "BaseException", .type "object"] "ValueError.__new__" = true)
    (eb_NoDeck : PySem.W.subIn K (.ref c_NoDeck) (.type "BaseException") = some true)
    (ev_NoDeck : PySem.W.subIn K (.ref c_NoDeck) (.type "ValueError") = some true)
    (es_NoDeck : PySem.W.subIn K (.ref c_NoDeck) (.ref c_NoDeck) = some true)
    (ehg_NoDeck : PySem.W.findIn K (.ref c_NoDeck) "__getattribute__" = some (some (.builtin "BaseException.__getattribute__")))
    (ehk_NoDeck : PySem.W.findIn K (.ref c_NoDeck) "__getattr__" = some none)
    (ehd_NoDeck : PySem.W.hasDictIn K c_NoDeck = true)
    (eha_NoDeck : PySem.W.findIn K (.ref c_NoDeck) "__class__" = some (some (.builtin "object.__class__")))
    (ehm_NoDeck : PySem.W.mroIn K c_NoDeck (.type "object") = some true)
    (es_NoDeck_CardError : PySem.W.subIn K (.ref c_NoDeck) (.ref c_CardError) = some true)
    (es_NoDeck_NoTurn : PySem.W.subIn K (.ref c_NoDeck) (.ref c_NoTurn) = some false)
    (es_NoDeck_NoGame : PySem.W.subIn K (.ref c_NoDeck) (.ref c_NoGame) = some false)
    (es_NoDeck_TooTall : PySem.W.subIn K (.ref c_NoDeck) (.ref c_TooTall) = some false)
    (es_NoDeck_NoBack : PySem.W.subIn K (.ref c_NoDeck) (.ref c_NoBack) = some false)
    (es_NoDeck_BadLine : PySem.W.subIn K (.ref c_NoDeck) (.ref c_BadLine) = some false)
    (ek_BadLine : PySem.W.keepIn K (.ref c_BadLine) = true)
    (ex_BadLine : PySem.W.excIn K c_BadLine [.type "ValueError", .type "Exception", .type "BaseException", .type "object"] "ValueError.__new__" = true)
    (eb_BadLine : PySem.W.subIn K (.ref c_BadLine) (.type "BaseException") = some true)
    (ev_BadLine : PySem.W.subIn K (.ref c_BadLine) (.type "ValueError") = some true)
    (es_BadLine : PySem.W.subIn K (.ref c_BadLine) (.ref c_BadLine) = some true)
    (ehg_BadLine : PySem.W.findIn K (.ref c_BadLine) "__getattribute__" = some (some (.builtin "BaseException.__getattribute__")))
    (ehk_BadLine : PySem.W.findIn K (.ref c_BadLine) "__getattr__" = some none)
    (ehd_BadLine : PySem.W.hasDictIn K c_BadLine = true)
    (eha_BadLine : PySem.W.findIn K (.ref c_BadLine) "__class__" = some (some (.builtin "object.__class__")))
    (ehm_BadLine : PySem.W.mroIn K c_BadLine (.type "object") = some true)
    (es_BadLine_CardError : PySem.W.subIn K (.ref c_BadLine) (.ref c_CardError) = some true)
    (es_BadLine_NoDeck : PySem.W.subIn K (.ref c_BadLine) (.ref c_NoDeck) = some false)
    (es_BadLine_NoTurn : PySem.W.subIn K (.ref c_BadLine) (.ref c_NoTurn) = some false)
    (es_BadLine_NoGame : PySem.W.subIn K (.ref c_BadLine) (.ref c_NoGame) = some false)
    (es_BadLine_TooTall : PySem.W.subIn K (.ref c_BadLine) (.ref c_TooTall) = some false)
    (es_BadLine_NoBack : PySem.W.subIn K (.ref c_BadLine) (.ref c_NoBack) = some false)
    (q_n : PySem.W.specialIn K (.builtin "object.__class__") "__get__" = some (some (.builtin "getset_descriptor.__get__")))
    (q_t : PySem.W.takesIn K (.builtin "object.__class__") = some true)
    (kb_CardError : PySem.W.subIn K (.ref c_CardError) (.type "BaseException") = some true)
    (kd_CardError : PySem.W.hasDictIn K c_CardError = true)
    (kb_NoDeck : PySem.W.subIn K (.ref c_NoDeck) (.type "BaseException") = some true)
    (kd_NoDeck : PySem.W.hasDictIn K c_NoDeck = true) :
    ∃ fd : FuncData, (∀ (s : Shared) (v : Value), BindsTo s fd ⟨[v], []⟩ [("script", v)]) ∧ ∀ base : Heap, K.In base → base.Ns mainGlobals mg → FnOk l.prog w K mg base CX0 4 fa fd ["script"] (spLaw K) := by
  have e := hfa.symm.trans (PySem.W.mg_of X G a12)
  cases e
  have F0 := fun_mk (st := s_ask) l0 c0 k0
  have b0 := F0.binds (ps := ["deck"]) fun _ _ _ _ _ _ us hl => match us, hl with | [_], _ => rfl
  have F1 := fun_mk (st := s_card_of) l1 c1 k1
  have b1 := F1.binds (ps := ["word"]) fun _ _ _ _ _ _ us hl => match us, hl with | [_], _ => rfl
  have F2 := fun_mk (st := s_read) l2 c2 k2
  have b2 := F2.binds (ps := ["text"]) fun _ _ _ _ _ _ us hl => match us, hl with | [_], _ => rfl
  have F3 := fun_mk (st := s_law_cell_at) l3 c3 k3
  have b3 := F3.binds (ps := ["script", "k"]) fun _ _ _ _ _ _ us hl => match us, hl with | [_, _], _ => rfl
  have F4 := fun_mk (st := s_law_deck) l4 c4 k4
  have b4 := F4.binds (ps := ["script", "at", "most"]) fun _ _ _ _ _ _ us hl => match us, hl with | [_, _, _], _ => rfl
  have F5 := fun_mk (st := s_law_which) l5 c5 k5
  have b5 := F5.binds (ps := ["e"]) fun _ _ _ _ _ _ us hl => match us, hl with | [_], _ => rfl
  have F6 := fun_mk (st := s_law_sign_by) l6 c6 k6
  have b6 := F6.binds (ps := ["cell"]) fun _ _ _ _ _ _ us hl => match us, hl with | [_], _ => rfl
  have F7 := fun_mk (st := s_law_odd) l7 c7 k7
  have b7 := F7.binds (ps := ["cell"]) fun _ _ _ _ _ _ us hl => match us, hl with | [_], _ => rfl
  have F8 := fun_mk (st := s_law_number) l8 c8 k8
  have b8 := F8.binds (ps := ["word"]) fun _ _ _ _ _ _ us hl => match us, hl with | [_], _ => rfl
  have F9 := fun_mk (st := s_law_due) l9 c9 k9
  have b9 := F9.binds (ps := ["text"]) fun _ _ _ _ _ _ us hl => match us, hl with | [_], _ => rfl
  have F10 := fun_mk (st := s_law_told) l10 c10 k10
  have b10 := F10.binds (ps := ["text"]) fun _ _ _ _ _ _ us hl => match us, hl with | [_], _ => rfl
  have F11 := fun_mk (st := s_law_spoiled) l11 c11 k11
  have b11 := F11.binds (ps := ["text", "cell", "other"]) fun _ _ _ _ _ _ us hl => match us, hl with | [_, _, _], _ => rfl
  have F12 := fun_mk (st := s_law) l12 c12 k12
  have b12 := F12.binds (ps := ["script"]) fun _ _ _ _ _ _ us hl => match us, hl with | [_], _ => rfl
  have T : Txt K mg { f_ask := f0, d_ask := PySem.W.fnOf "ask" "ask" (defArgs s_ask) (defBody s_ask) (defScope s_ask) .none kV0 dc0 pm0 an0 cd0 ct0, f_card_of := f1, d_card_of := PySem.W.fnOf "card_of" "card_of" (defArgs s_card_of) (defBody s_card_of) (defScope s_card_of) .none kV1 dc1 pm1 an1 cd1 ct1, f_read := f2, d_read := PySem.W.fnOf "read" "read" (defArgs s_read) (defBody s_read) (defScope s_read) .none kV2 dc2 pm2 an2 cd2 ct2, f_law_cell_at := f3, d_law_cell_at := PySem.W.fnOf "_law_cell_at" "_law_cell_at" (defArgs s_law_cell_at) (defBody s_law_cell_at) (defScope s_law_cell_at) .none kV3 dc3 pm3 an3 cd3 ct3, f_law_deck := f4, d_law_deck := PySem.W.fnOf "_law_deck" "_law_deck" (defArgs s_law_deck) (defBody s_law_deck) (defScope s_law_deck) .none kV4 dc4 pm4 an4 cd4 ct4, f_law_which := f5, d_law_which := PySem.W.fnOf "_law_which" "_law_which" (defArgs s_law_which) (defBody s_law_which) (defScope s_law_which) .none kV5 dc5 pm5 an5 cd5 ct5, f_law_sign_by := f6, d_law_sign_by := PySem.W.fnOf "_law_sign_by" "_law_sign_by" (defArgs s_law_sign_by) (defBody s_law_sign_by) (defScope s_law_sign_by) .none kV6 dc6 pm6 an6 cd6 ct6, f_law_odd := f7, d_law_odd := PySem.W.fnOf "_law_odd" "_law_odd" (defArgs s_law_odd) (defBody s_law_odd) (defScope s_law_odd) .none kV7 dc7 pm7 an7 cd7 ct7, f_law_number := f8, d_law_number := PySem.W.fnOf "_law_number" "_law_number" (defArgs s_law_number) (defBody s_law_number) (defScope s_law_number) .none kV8 dc8 pm8 an8 cd8 ct8, f_law_due := f9, d_law_due := PySem.W.fnOf "_law_due" "_law_due" (defArgs s_law_due) (defBody s_law_due) (defScope s_law_due) .none kV9 dc9 pm9 an9 cd9 ct9, f_law_told := f10, d_law_told := PySem.W.fnOf "_law_told" "_law_told" (defArgs s_law_told) (defBody s_law_told) (defScope s_law_told) .none kV10 dc10 pm10 an10 cd10 ct10, f_law_spoiled := f11, d_law_spoiled := PySem.W.fnOf "_law_spoiled" "_law_spoiled" (defArgs s_law_spoiled) (defBody s_law_spoiled) (defScope s_law_spoiled) .none kV11 dc11 pm11 an11 cd11 ct11, f_law := fa, d_law := PySem.W.fnOf "law" "law" (defArgs s_law) (defBody s_law) (defScope s_law) .none kV12 dc12 pm12 an12 cd12 ct12, t_MOST := t_MOST, t_FIGURES := t_FIGURES, c_CardError := c_CardError, c_NoDeck := c_NoDeck, c_NoTurn := c_NoTurn, c_NoGame := c_NoGame, c_TooTall := c_TooTall, c_NoBack := c_NoBack, c_BadLine := c_BadLine } :=
    { n_len := PySem.W.mg_none_of X G z_len, n_sorted := PySem.W.mg_none_of X G z_sorted, n_list := PySem.W.mg_none_of X G z_list, n_range := PySem.W.mg_none_of X G z_range, n_isinstance := PySem.W.mg_none_of X G z_isinstance, n_int := PySem.W.mg_none_of X G z_int, n_bool := PySem.W.mg_none_of X G z_bool, n_str := PySem.W.mg_none_of X G z_str, n_ValueError := PySem.W.mg_none_of X G z_ValueError, g_MOST := PySem.W.mg_of X G y_MOST, g_FIGURES := PySem.W.mg_of X G y_FIGURES, F_ask := F0, g_ask := PySem.W.mg_of X G a0, b_ask := b0, F_card_of := F1, g_card_of := PySem.W.mg_of X G a1, b_card_of := b1, F_read := F2, g_read := PySem.W.mg_of X G a2, b_read := b2, F_law_cell_at := F3, g_law_cell_at := PySem.W.mg_of X G a3, b_law_cell_at := b3, F_law_deck := F4, g_law_deck := PySem.W.mg_of X G a4, b_law_deck := b4, F_law_which := F5, g_law_which := PySem.W.mg_of X G a5, b_law_which := b5, F_law_sign_by := F6, g_law_sign_by := PySem.W.mg_of X G a6, b_law_sign_by := b6, F_law_odd := F7, g_law_odd := PySem.W.mg_of X G a7, b_law_odd := b7, F_law_number := F8, g_law_number := PySem.W.mg_of X G a8, b_law_number := b8, F_law_due := F9, g_law_due := PySem.W.mg_of X G a9, b_law_due := b9, F_law_told := F10, g_law_told := PySem.W.mg_of X G a10, b_law_told := b10, F_law_spoiled := F11, g_law_spoiled := PySem.W.mg_of X G a11, b_law_spoiled := b11, F_law := F12, g_law := PySem.W.mg_of X G a12, b_law := b12, K_CardError := ⟨PySem.W.mg_of X G cg_CardError, ci_CardError, ct_CardError⟩, K_NoDeck := ⟨PySem.W.mg_of X G cg_NoDeck, ci_NoDeck, ct_NoDeck⟩, K_NoTurn := ⟨PySem.W.mg_of X G cg_NoTurn, ci_NoTurn, ct_NoTurn⟩, K_NoGame := ⟨PySem.W.mg_of X G cg_NoGame, ci_NoGame, ct_NoGame⟩, K_TooTall := ⟨PySem.W.mg_of X G cg_TooTall, ci_TooTall, ct_TooTall⟩, K_NoBack := ⟨PySem.W.mg_of X G cg_NoBack, ci_NoBack, ct_NoBack⟩, K_BadLine := ⟨PySem.W.mg_of X G cg_BadLine, ci_BadLine, ct_BadLine⟩, E_NoDeck := ⟨PySem.W.mg_of X G cg_NoDeck, ek_NoDeck, ex_NoDeck, eb_NoDeck, ev_NoDeck, ct_NoDeck, ci_NoDeck, es_NoDeck, ⟨ehg_NoDeck, ehk_NoDeck, eb_NoDeck, ehd_NoDeck, eha_NoDeck, q_n, q_t, ehm_NoDeck⟩⟩, s_NoDeck_CardError := es_NoDeck_CardError, s_NoDeck_NoTurn := es_NoDeck_NoTurn, s_NoDeck_NoGame := es_NoDeck_NoGame, s_NoDeck_TooTall := es_NoDeck_TooTall, s_NoDeck_NoBack := es_NoDeck_NoBack, s_NoDeck_BadLine := es_NoDeck_BadLine, E_BadLine := ⟨PySem.W.mg_of X G cg_BadLine, ek_BadLine, ex_BadLine, eb_BadLine, ev_BadLine, ct_BadLine, ci_BadLine, es_BadLine, ⟨ehg_BadLine, ehk_BadLine, eb_BadLine, ehd_BadLine, eha_BadLine, q_n, q_t, ehm_BadLine⟩⟩, s_BadLine_CardError := es_BadLine_CardError, s_BadLine_NoDeck := es_BadLine_NoDeck, s_BadLine_NoTurn := es_BadLine_NoTurn, s_BadLine_NoGame := es_BadLine_NoGame, s_BadLine_TooTall := es_BadLine_TooTall, s_BadLine_NoBack := es_BadLine_NoBack, cb_CardError := kb_CardError, cd_CardError := kd_CardError, cb_NoDeck := kb_NoDeck, cd_NoDeck := kd_NoDeck }
  exact ⟨_, fun s v => .of_eq rfl, fun base _ _ => ok_law T⟩
end Tt
open PySem PySem.W PyProof.Rows
set_option maxHeartbeats 0 in
theorem PySem.Challenge.cw_topturn_k14_texts_refused_holds : PySem.Challenge.rw_topturn_k14_texts_refused.Holds := by
  w_on; o_law; k_head; (case hw => w_witness2)
  k_fill
  refine L2.walk_of (l := PySem.Challenge.rw_topturn_k14_texts_refused) (n := 63) (k := 4) (x := "script") (CX := fun _ => L2.CX0) (sp := fun w => Tt.spLaw _) rfl (by decide) rfl ⟨rfl, by decide, by decide⟩ (fun w h Y => PySem.W.kIn_of Y) ?F (fun _ _ a ns hl _ hS => ⟨a, ns, rfl, hS, hl, fun _ => rfl⟩) (fun _ _ _ _ _ h => h)
  case F =>
    intro w mg fa h KX G hmg
    refine' Tt.all_mk KX G hmg ?a0 ?l0 ?c0 ?k0 ?a1 ?l1 ?c1 ?k1 ?a2 ?l2 ?c2 ?k2 ?a3 ?l3 ?c3 ?k3 ?a4 ?l4 ?c4 ?k4 ?a5 ?l5 ?c5 ?k5 ?a6 ?l6 ?c6 ?k6 ?a7 ?l7 ?c7 ?k7 ?a8 ?l8 ?c8 ?k8 ?a9 ?l9 ?c9 ?k9 ?a10 ?l10 ?c10 ?k10 ?a11 ?l11 ?c11 ?k11 ?a12 ?l12 ?c12 ?k12 ?z_len ?z_sorted ?z_list ?z_range ?z_isinstance ?z_int ?z_bool ?z_str ?z_ValueError ?y_MOST ?y_FIGURES ?cg_CardError ?ci_CardError ?ct_CardError ?cg_NoDeck ?ci_NoDeck ?ct_NoDeck ?cg_NoTurn ?ci_NoTurn ?ct_NoTurn ?cg_NoGame ?ci_NoGame ?ct_NoGame ?cg_TooTall ?ci_TooTall ?ct_TooTall ?cg_NoBack ?ci_NoBack ?ct_NoBack ?cg_BadLine ?ci_BadLine ?ct_BadLine ?ek_NoDeck ?ex_NoDeck ?eb_NoDeck ?ev_NoDeck ?es_NoDeck ?ehg_NoDeck ?ehk_NoDeck ?ehd_NoDeck ?eha_NoDeck ?ehm_NoDeck ?es_NoDeck_CardError ?es_NoDeck_NoTurn ?es_NoDeck_NoGame ?es_NoDeck_TooTall ?es_NoDeck_NoBack ?es_NoDeck_BadLine ?ek_BadLine ?ex_BadLine ?eb_BadLine ?ev_BadLine ?es_BadLine ?ehg_BadLine ?ehk_BadLine ?ehd_BadLine ?eha_BadLine ?ehm_BadLine ?es_BadLine_CardError ?es_BadLine_NoDeck ?es_BadLine_NoTurn ?es_BadLine_NoGame ?es_BadLine_TooTall ?es_BadLine_NoBack ?q_n ?q_t ?kb_CardError ?kd_CardError ?kb_NoDeck ?kd_NoDeck
    (case a0 => k_is)
    (case l0 => k_is)
    (case c0 => k_is)
    (case k0 => k_is)
    (case a1 => k_is)
    (case l1 => k_is)
    (case c1 => k_is)
    (case k1 => k_is)
    (case a2 => k_is)
    (case l2 => k_is)
    (case c2 => k_is)
    (case k2 => k_is)
    (case a3 => k_is)
    (case l3 => k_is)
    (case c3 => k_is)
    (case k3 => k_is)
    (case a4 => k_is)
    (case l4 => k_is)
    (case c4 => k_is)
    (case k4 => k_is)
    (case a5 => k_is)
    (case l5 => k_is)
    (case c5 => k_is)
    (case k5 => k_is)
    (case a6 => k_is)
    (case l6 => k_is)
    (case c6 => k_is)
    (case k6 => k_is)
    (case a7 => k_is)
    (case l7 => k_is)
    (case c7 => k_is)
    (case k7 => k_is)
    (case a8 => k_is)
    (case l8 => k_is)
    (case c8 => k_is)
    (case k8 => k_is)
    (case a9 => k_is)
    (case l9 => k_is)
    (case c9 => k_is)
    (case k9 => k_is)
    (case a10 => k_is)
    (case l10 => k_is)
    (case c10 => k_is)
    (case k10 => k_is)
    (case a11 => k_is)
    (case l11 => k_is)
    (case c11 => k_is)
    (case k11 => k_is)
    (case a12 => k_is)
    (case l12 => k_is)
    (case c12 => k_is)
    (case k12 => k_is)
    (case z_len => k_is)
    (case z_sorted => k_is)
    (case z_list => k_is)
    (case z_range => k_is)
    (case z_isinstance => k_is)
    (case z_int => k_is)
    (case z_bool => k_is)
    (case z_str => k_is)
    (case z_ValueError => k_is)
    (case y_MOST => k_is)
    (case y_FIGURES => k_is)
    (case cg_CardError => k_is)
    (case ci_CardError => k_is)
    (case ct_CardError => k_is)
    (case cg_NoDeck => k_is)
    (case ci_NoDeck => k_is)
    (case ct_NoDeck => k_is)
    (case cg_NoTurn => k_is)
    (case ci_NoTurn => k_is)
    (case ct_NoTurn => k_is)
    (case cg_NoGame => k_is)
    (case ci_NoGame => k_is)
    (case ct_NoGame => k_is)
    (case cg_TooTall => k_is)
    (case ci_TooTall => k_is)
    (case ct_TooTall => k_is)
    (case cg_NoBack => k_is)
    (case ci_NoBack => k_is)
    (case ct_NoBack => k_is)
    (case cg_BadLine => k_is)
    (case ci_BadLine => k_is)
    (case ct_BadLine => k_is)
    (case ek_NoDeck => k_is)
    (case ex_NoDeck => k_exc)
    (case eb_NoDeck => k_is)
    (case ev_NoDeck => k_is)
    (case es_NoDeck => first | rfl | k_is)
    (case ehg_NoDeck => k_is)
    (case ehk_NoDeck => k_is)
    (case ehd_NoDeck => k_is)
    (case eha_NoDeck => k_is)
    (case ehm_NoDeck => k_is)
    (case es_NoDeck_CardError => k_is)
    (case es_NoDeck_NoTurn => k_is)
    (case es_NoDeck_NoGame => k_is)
    (case es_NoDeck_TooTall => k_is)
    (case es_NoDeck_NoBack => k_is)
    (case es_NoDeck_BadLine => k_is)
    (case ek_BadLine => k_is)
    (case ex_BadLine => k_exc)
    (case eb_BadLine => k_is)
    (case ev_BadLine => k_is)
    (case es_BadLine => first | rfl | k_is)
    (case ehg_BadLine => k_is)
    (case ehk_BadLine => k_is)
    (case ehd_BadLine => k_is)
    (case eha_BadLine => k_is)
    (case ehm_BadLine => k_is)
    (case es_BadLine_CardError => k_is)
    (case es_BadLine_NoDeck => k_is)
    (case es_BadLine_NoTurn => k_is)
    (case es_BadLine_NoGame => k_is)
    (case es_BadLine_TooTall => k_is)
    (case es_BadLine_NoBack => k_is)
    (case q_n => k_is)
    (case q_t => k_is)
    (case kb_CardError => k_is)
    (case kd_CardError => k_is)
    (case kb_NoDeck => k_is)
    (case kd_NoDeck => k_is)
