import PyProof.Rows.All
import Wide.All
import OpenK.AllK
import Wide.FinOn
import KE.KStateDown
import KE.BitLaws
import HandS.ForMost
import HandS.Flow
import HandS.Wide
import HandS.WideBits
import HandS.IsInst
import HandS.SortInts
import HandS.Conv
import HandS.Zip
import HandS.More
import HandS.WordsExc
import HandS.Defaults
import HandS.Walk
import PySem.Challenge.RW_laneswap_k38_whole_widths
import KE.KEqSeq
import HandS.OwnEq
import PyProof.InstEq
import HandS.Iter
import KE.GoesMore
import HandS.SetFor
import HandS.Exc
import HandS.ExcOwn
import HandS.ExcIs
import HandS.TryOnly
import KE.KExcSuper
import HandS.ExcSuper
import HandS.ExcInit
import HandS.HeadHook2
import HandS.HeadHook4
import HandS.HeadWalk
import HandS.Base
import HandS.Call
import HandS.Ends
import HandS.Words
import HandS.Head0
import HandS.Head1
import HandS.Head2
import HandS.HeadEnd
import HandS.HeadHook1
import HandS.HeadHook3
import HandS.ExcField
import HandS.TryMany
import KE.KExcIs
import HandS.Lambda
import HandS.Nested
import HandS.SortKw
import KE.SortKeyHeap
import KE.SortData
import PyProof.NeKinds
import PyProof.Rows.EqBoolInt
import HandS.Style
import KE.KOpsOwn
import HandS.Strs
import HandS.SetKeys
import HandS.Small
import HandS.WordsDict
import HandS.OwnIter
import KE.KDictZip
import HandS.TupLe
import HandS.SortRule
set_option linter.all false
namespace LaneX
/-! ### plain mathematics: words, rows -/
/-- the number of bits -/
def blen (n : Nat) : Nat := if n = 0 then 0 else n.log2 + 1
theorem blen_zero : blen 0 = 0 := rfl
theorem blen_pos {n : Nat} (h : n ≠ 0) : 1 ≤ blen n := by unfold blen; rw [if_neg h]; omega
theorem lt_blen (n : Nat) : n < 2 ^ blen n := by
  unfold blen
  split
  · subst_vars; decide
  · exact Nat.lt_log2_self
theorem blen_le {n k : Nat} : blen n ≤ k ↔ n < 2 ^ k := by
  constructor
  · intro h; exact Nat.lt_of_lt_of_le (lt_blen n) (Nat.pow_le_pow_right (by decide) h)
  · intro h
    unfold blen
    split
    · omega
    · rename_i h0
      have := (Nat.log2_lt h0).mpr h
      omega
theorem testBit_top {n : Nat} (h : n ≠ 0) : n.testBit (blen n - 1) = true := by
  unfold blen
  rw [if_neg h, Nat.add_sub_cancel]
  exact Nat.testBit_log2 h
theorem testBit_ge {n i : Nat} (h : blen n ≤ i) : n.testBit i = false :=
  Nat.testBit_lt_two_pow (blen_le.mp h)
theorem shr_and_one (n i : Nat) : ((n >>> i) &&& 1 = 1) ↔ n.testBit i = true := by
  rw [Nat.testBit_eq_decide_div_mod_eq, Nat.shiftRight_eq_div_pow, Nat.and_one_is_mod, decide_eq_true_iff]
/-- a word cleared by rows -/
def clr (rows : List Nat) (w : Nat) : Nat := rows.foldl (fun l r => if l.testBit (blen r - 1) = true then l ^^^ r else l) w
/-- sorting by insertion -/
def ins (x : Nat) : List Nat → List Nat
  | [] => [x]
  | y :: r => if x ≤ y then x :: y :: r else y :: ins x r
def srt : List Nat → List Nat
  | [] => []
  | x :: r => ins x (srt r)
theorem ins_perm (x : Nat) : ∀ l, (ins x l).Perm (x :: l)
  | [] => .refl _
  | y :: r => by
    unfold ins
    split
    · exact .refl _
    · exact ((ins_perm x r).cons y).trans (.swap _ _ _)
theorem srt_perm : ∀ l, (srt l).Perm l
  | [] => .refl _
  | x :: r => (ins_perm x (srt r)).trans ((srt_perm r).cons x)
theorem ins_sorted {x : Nat} : ∀ {l : List Nat}, l.Pairwise (· ≤ ·) → (ins x l).Pairwise (· ≤ ·)
  | [], _ => by simp [ins]
  | y :: r, h => by
    unfold ins
    have h' := List.pairwise_cons.mp h
    split
    · rename_i hxy
      refine List.pairwise_cons.mpr ⟨fun z hz => ?_, h⟩
      rcases List.mem_cons.mp hz with rfl | hz
      · exact hxy
      · exact Nat.le_trans hxy (h'.1 z hz)
    · rename_i hxy
      refine List.pairwise_cons.mpr ⟨fun z hz => ?_, ins_sorted h'.2⟩
      rcases List.mem_cons.mp ((ins_perm x r).mem_iff.mp hz) with rfl | hz
      · omega
      · exact h'.1 z hz
theorem srt_sorted : ∀ l, (srt l).Pairwise (· ≤ ·)
  | [] => .nil
  | x :: r => ins_sorted (srt_sorted r)
theorem sorted_unique : ∀ {l m : List Nat}, l.Perm m → l.Pairwise (· ≤ ·) → m.Pairwise (· ≤ ·) → l = m
  | [], m, p, _, _ => by simpa using p.symm.eq_nil
  | x :: l, [], p, _, _ => by simpa using p.eq_nil
  | x :: l, y :: m, p, h1, h2 => by
    have a := List.pairwise_cons.mp h1
    have b := List.pairwise_cons.mp h2
    have e : x = y := by
      have hx : x ∈ y :: m := p.mem_iff.mp List.mem_cons_self
      have hy : y ∈ x :: l := p.mem_iff.mpr List.mem_cons_self
      rcases List.mem_cons.mp hx with rfl | hx
      · rfl
      · rcases List.mem_cons.mp hy with rfl | hy
        · rfl
        · exact Nat.le_antisymm (a.1 y hy) (b.1 x hx)
    subst e
    rw [sorted_unique ((List.perm_cons x).mp p) a.2 b.2]
theorem srt_of {l m : List Nat} (p : m.Perm l) (h : m.Pairwise (· ≤ ·)) : m = srt l := sorted_unique (p.trans (srt_perm l).symm) h (srt_sorted l)
/-- rows with one more word -/
def grw (rows : List Nat) (w : Nat) : List Nat := if clr rows w = 0 then rows else
  srt ((rows.map fun r => if r.testBit (blen (clr rows w) - 1) = true then r ^^^ clr rows w else r) ++ [clr rows w])
def spn (ws : List Nat) : List Nat := ws.foldl grw []
theorem clr_append (a b : List Nat) (w : Nat) : clr (a ++ b) w = clr b (clr a w) := List.foldl_append ..
theorem spn_append (a b : List Nat) : spn (a ++ b) = b.foldl grw (spn a) := List.foldl_append ..
theorem clr_lt {k : Nat} : ∀ {rows : List Nat} {w : Nat}, (∀ r ∈ rows, r < 2 ^ k) → w < 2 ^ k → clr rows w < 2 ^ k
  | [], w, _, h => h
  | r :: rs, w, hr, h => by
    show clr rs _ < 2 ^ k
    refine clr_lt (fun x hx => hr x (.tail _ hx)) ?_
    dsimp only
    split
    · exact Nat.xor_lt_two_pow h (hr r (.head _))
    · exact h
theorem grw_len (rows : List Nat) (w : Nat) : (grw rows w).length ≤ rows.length + 1 := by
  unfold grw
  split
  · omega
  · rw [(srt_perm _).length_eq]
    simp
theorem xor_eq_zero {a b : Nat} (e : a ^^^ b = 0) : a = b := by
  have h : a ^^^ b ^^^ b = 0 ^^^ b := by rw [e]
  rw [Nat.xor_assoc, Nat.xor_self, Nat.xor_zero, Nat.zero_xor] at h
  exact h
theorem xor_ne {a b : Nat} (h : a ≠ b) : a ^^^ b ≠ 0 := fun e => h (xor_eq_zero e)
/-- what rows are at least: no 0, and cleared words have 0 at their tops -/
structure Rws (rows : List Nat) : Prop where
  nz : ∀ r ∈ rows, r ≠ 0
  /-- the top of each is 0 in all others -/
  red : rows.Pairwise fun r s => r.testBit (blen s - 1) = false ∧ s.testBit (blen r - 1) = false
theorem Rws.nil : Rws [] := ⟨fun _ h => (by cases h), .nil⟩
end LaneX
set_option linter.all false
namespace LaneX
/-! ### clearing is linear -/
def bx (b : Bool) (r : Nat) : Nat := if b = true then r else 0
theorem bx_xor (a b : Bool) (r : Nat) : bx (a ^^ b) r = bx a r ^^^ bx b r := by
  cases a <;> cases b <;> simp [bx]
theorem stp_eq (l r : Nat) : (if l.testBit (blen r - 1) = true then l ^^^ r else l) = l ^^^ bx (l.testBit (blen r - 1)) r := by
  cases l.testBit (blen r - 1) <;> simp [bx]
theorem clr_cons (r : Nat) (rs : List Nat) (x : Nat) : clr (r :: rs) x = clr rs (x ^^^ bx (x.testBit (blen r - 1)) r) := by
  show clr rs _ = _
  dsimp only
  rw [stp_eq]
theorem xor4 (a b c d : Nat) : (a ^^^ b) ^^^ (c ^^^ d) = (a ^^^ c) ^^^ (b ^^^ d) := by
  rw [Nat.xor_assoc, Nat.xor_assoc]
  congr 1
  rw [← Nat.xor_assoc, Nat.xor_comm b c, Nat.xor_assoc]
theorem clr_xor : ∀ (rows : List Nat) (x y : Nat), clr rows (x ^^^ y) = clr rows x ^^^ clr rows y
  | [], _, _ => rfl
  | r :: rs, x, y => by
    rw [clr_cons, clr_cons, clr_cons, Nat.testBit_xor, bx_xor, xor4, clr_xor rs]
theorem clr_zero : ∀ rows : List Nat, clr rows 0 = 0
  | [] => rfl
  | r :: rs => by rw [clr_cons]; simp [bx, clr_zero rs]
/-- rows that do not speak of a bit leave it -/
theorem clr_bit {b : Nat} : ∀ {rows : List Nat} {x : Nat}, (∀ r ∈ rows, r.testBit b = false) → (clr rows x).testBit b = x.testBit b
  | [], x, _ => rfl
  | r :: rs, x, h => by
    rw [clr_cons, clr_bit fun s hs => h s (.tail _ hs), Nat.testBit_xor]
    have := h r (.head _)
    cases x.testBit (blen r - 1) <;> simp [bx, this]
theorem clr_of_none : ∀ {rows : List Nat} {x : Nat}, (∀ r ∈ rows, x.testBit (blen r - 1) = false) → clr rows x = x
  | [], x, _ => rfl
  | r :: rs, x, h => by
    rw [clr_cons, h r (.head _)]
    simp only [bx, Bool.false_eq_true, if_false, Nat.xor_zero]
    exact clr_of_none fun s hs => h s (.tail _ hs)
theorem clr_tops : ∀ {rows : List Nat} {x : Nat}, Rws rows → ∀ r ∈ rows, (clr rows x).testBit (blen r - 1) = false
  | [], x, _, r, h => by cases h
  | s :: rs, x, R, r, h => by
    have hp := List.pairwise_cons.mp R.red
    have R' : Rws rs := ⟨fun t ht => R.nz t (.tail _ ht), hp.2⟩
    rw [clr_cons]
    rcases List.mem_cons.mp h with rfl | h
    · rw [clr_bit fun t ht => (hp.1 t ht).2, Nat.testBit_xor]
      have := testBit_top (R.nz r (.head _))
      cases q : x.testBit (blen r - 1) <;> simp [bx, this]
    · exact clr_tops R' r h
theorem clr_self : ∀ {rows : List Nat}, Rws rows → ∀ r ∈ rows, clr rows r = 0
  | [], _, r, h => by cases h
  | s :: rs, R, r, h => by
    have hp := List.pairwise_cons.mp R.red
    have R' : Rws rs := ⟨fun t ht => R.nz t (.tail _ ht), hp.2⟩
    rw [clr_cons]
    rcases List.mem_cons.mp h with rfl | h
    · rw [testBit_top (R.nz r (.head _))]
      simp only [bx, if_true, Nat.xor_self]
      exact clr_zero rs
    · rw [(hp.1 r h).2]
      simp only [bx, Bool.false_eq_true, if_false, Nat.xor_zero]
      exact clr_self R' r h
/-! ### spans -/
inductive Spn (ws : List Nat) : Nat → Prop where
  | zero : Spn ws 0
  | add {x w : Nat} : w ∈ ws → Spn ws x → Spn ws (x ^^^ w)
theorem Spn.of {ws : List Nat} {w : Nat} (h : w ∈ ws) : Spn ws w := by
  have := Spn.add h Spn.zero
  rwa [Nat.zero_xor] at this
theorem Spn.xor {ws : List Nat} {x y : Nat} (hx : Spn ws x) (hy : Spn ws y) : Spn ws (x ^^^ y) := by
  induction hy with
  | zero => rwa [Nat.xor_zero]
  | add hw _ ih => rw [← Nat.xor_assoc]; exact .add hw ih
theorem Spn.mono {ws vs : List Nat} {x : Nat} (hx : Spn ws x) (h : ∀ w ∈ ws, Spn vs w) : Spn vs x := by
  induction hx with
  | zero => exact .zero
  | add hw _ ih => exact ih.xor (h _ hw)
theorem Spn.nil {x : Nat} (h : Spn [] x) : x = 0 := by
  cases h with
  | zero => rfl
  | add hw _ => cases hw
theorem Spn.lt {ws : List Nat} {k x : Nat} (hx : Spn ws x) (h : ∀ w ∈ ws, w < 2 ^ k) : x < 2 ^ k := by
  induction hx with
  | zero => exact Nat.two_pow_pos k
  | add hw _ ih => exact Nat.xor_lt_two_pow ih (h _ hw)
theorem Spn.sub {ws vs : List Nat} {x : Nat} (hx : Spn ws x) (h : ∀ w ∈ ws, w ∈ vs) : Spn vs x := hx.mono fun w hw => .of (h w hw)
theorem spn_clr : ∀ (rows : List Nat) (x : Nat), Spn rows (x ^^^ clr rows x)
  | [], x => by show Spn [] (x ^^^ x); rw [Nat.xor_self]; exact .zero
  | r :: rs, x => by
    rw [clr_cons]
    have ih := (spn_clr rs (x ^^^ bx (x.testBit (blen r - 1)) r)).sub (vs := r :: rs) fun w hw => .tail _ hw
    have hb : Spn (r :: rs) (bx (x.testBit (blen r - 1)) r) := by
      cases x.testBit (blen r - 1)
      · exact .zero
      · exact .of (.head _)
    have := ih.xor hb
    have e : x ^^^ bx (x.testBit (blen r - 1)) r ^^^ clr rs (x ^^^ bx (x.testBit (blen r - 1)) r) ^^^ bx (x.testBit (blen r - 1)) r = x ^^^ clr rs (x ^^^ bx (x.testBit (blen r - 1)) r) := by
      rw [Nat.xor_assoc, Nat.xor_comm (clr rs _) _, ← Nat.xor_assoc, Nat.xor_assoc x, Nat.xor_self, Nat.xor_zero]
    rw [e] at this
    exact this
theorem Rws.span {rows : List Nat} (R : Rws rows) {x : Nat} : Spn rows x ↔ clr rows x = 0 := by
  constructor
  · intro h
    induction h with
    | zero => exact clr_zero rows
    | add hw _ ih => rw [clr_xor, ih, clr_self R _ hw]; rfl
  · intro h
    have := spn_clr rows x
    rwa [h, Nat.xor_zero] at this
/-! ### one more word -/
theorem blen_xor {r l : Nat} (h : blen l < blen r) : blen (r ^^^ l) = blen r := by
  have hr : r ≠ 0 := fun e => by subst e; simp [blen] at h
  have h1 : r ^^^ l < 2 ^ blen r := Nat.xor_lt_two_pow (lt_blen r) (Nat.lt_of_lt_of_le (lt_blen l) (Nat.pow_le_pow_right (by decide) (by omega)))
  have h2 : (r ^^^ l).testBit (blen r - 1) = true := by
    rw [Nat.testBit_xor, testBit_top hr, testBit_ge (n := l) (by omega)]
    rfl
  have h3 : blen (r ^^^ l) ≤ blen r := blen_le.mpr h1
  have h4 : ¬ blen (r ^^^ l) ≤ blen r - 1 := fun q => by rw [testBit_ge q] at h2; cases h2
  omega
theorem blen_of_bits {r l : Nat} (h1 : r.testBit (blen l - 1) = true) (h2 : l.testBit (blen r - 1) = false) (hl : l ≠ 0) : blen l < blen r := by
  have hr : r ≠ 0 := fun e => by subst e; simp at h1
  have a := blen_pos hl
  have b := blen_pos hr
  have c : ¬ blen r ≤ blen l - 1 := fun q => by rw [testBit_ge q] at h1; cases h1
  have d : blen l ≠ blen r := fun q => by
    rw [← q, testBit_top hl] at h2
    cases h2
  omega
theorem Rws.perm {a b : List Nat} (R : Rws a) (p : a.Perm b) : Rws b :=
  ⟨fun r h => R.nz r (p.mem_iff.mpr h), (p.pairwise_iff (fun h => ⟨h.2, h.1⟩)).mp R.red⟩
section
variable {rows : List Nat} {l : Nat}
def chg (l r : Nat) : Nat := if r.testBit (blen l - 1) = true then r ^^^ l else r
theorem chg_blen {r : Nat} (h : l.testBit (blen r - 1) = false) (hl : l ≠ 0) : blen (chg l r) = blen r := by
  unfold chg
  split
  · rename_i q
    exact blen_xor (blen_of_bits q h hl)
  · rfl
theorem chg_bit {r b : Nat} (h : l.testBit b = false) : (chg l r).testBit b = r.testBit b := by
  unfold chg
  split
  · rw [Nat.testBit_xor, h, Bool.xor_false]
  · rfl
theorem chg_top {r : Nat} (hl : l ≠ 0) : (chg l r).testBit (blen l - 1) = false := by
  unfold chg
  split
  · rename_i q
    rw [Nat.testBit_xor, q, testBit_top hl]; rfl
  · rename_i q
    cases e : r.testBit (blen l - 1) <;> simp_all
theorem Rws.grow (R : Rws rows) (hl : l ≠ 0) (h : ∀ r ∈ rows, l.testBit (blen r - 1) = false) : Rws (rows.map (chg l) ++ [l]) := by
  have bl : ∀ r ∈ rows, blen (chg l r) = blen r := fun r hr => chg_blen (h r hr) hl
  refine ⟨fun x hx => ?_, ?_⟩
  · rcases List.mem_append.mp hx with hx | hx
    · obtain ⟨r, hr, rfl⟩ := List.mem_map.mp hx
      intro e
      have b := bl r hr
      rw [e] at b
      have := blen_pos (R.nz r hr)
      rw [← b] at this
      simp [blen] at this
    · rcases List.mem_singleton.mp hx with rfl
      exact hl
  · refine List.pairwise_append.mpr ⟨?_, by simp, ?_⟩
    · rw [List.pairwise_map]
      refine R.red.imp_of_mem fun {a b} ha hb hab => ?_
      rw [bl a ha, bl b hb, chg_bit (h b hb), chg_bit (h a ha)]
      exact hab
    · intro x hx y hy
      obtain ⟨r, hr, rfl⟩ := List.mem_map.mp hx
      rcases List.mem_singleton.mp hy with rfl
      exact ⟨chg_top hl, by rw [bl r hr]; exact h r hr⟩
end
theorem grw_eq (rows : List Nat) (w : Nat) : grw rows w = if clr rows w = 0 then rows else srt (rows.map (chg (clr rows w)) ++ [clr rows w]) := rfl
theorem grw_rws {rows : List Nat} (R : Rws rows) (w : Nat) : Rws (grw rows w) := by
  rw [grw_eq]
  split
  · exact R
  · rename_i h
    exact (R.grow h fun r hr => clr_tops R r hr).perm (srt_perm _).symm
theorem grw_span {rows : List Nat} (w x : Nat) : Spn (grw rows w) x ↔ Spn (rows ++ [w]) x := by
  rw [grw_eq]
  have hw := spn_clr rows w
  split
  · rename_i h
    rw [h, Nat.xor_zero] at hw
    constructor
    · exact fun hx => hx.sub fun y hy => List.mem_append_left _ hy
    · refine fun hx => hx.mono fun y hy => ?_
      rcases List.mem_append.mp hy with hy | hy
      · exact .of hy
      · rcases List.mem_singleton.mp hy with rfl
        exact hw
  · rename_i h
    generalize hl : clr rows w = l at *
    have e1 : ∀ y, Spn (rows ++ [w]) y ↔ Spn (rows ++ [l]) y := fun y => by
      have lw : Spn (rows ++ [w]) l := by
        have a := (hw.sub (vs := rows ++ [w]) fun z hz => List.mem_append_left _ hz).xor (Spn.of (List.mem_append_right rows (List.mem_singleton_self w)))
        rwa [Nat.xor_comm w l, Nat.xor_assoc, Nat.xor_self, Nat.xor_zero] at a
      have wl : Spn (rows ++ [l]) w := by
        have a := (hw.sub (vs := rows ++ [l]) fun z hz => List.mem_append_left _ hz).xor (Spn.of (List.mem_append_right rows (List.mem_singleton_self l)))
        rwa [Nat.xor_assoc, Nat.xor_self, Nat.xor_zero] at a
      constructor
      · refine fun hx => hx.mono fun z hz => ?_
        rcases List.mem_append.mp hz with hz | hz
        · exact .of (List.mem_append_left _ hz)
        · rcases List.mem_singleton.mp hz with rfl; exact wl
      · refine fun hx => hx.mono fun z hz => ?_
        rcases List.mem_append.mp hz with hz | hz
        · exact .of (List.mem_append_left _ hz)
        · rcases List.mem_singleton.mp hz with rfl; exact lw
    rw [e1]
    have sl : Spn (rows ++ [l]) l := .of (List.mem_append_right _ (List.mem_singleton_self l))
    constructor
    · refine fun hx => hx.mono fun z hz => ?_
      rcases List.mem_append.mp ((srt_perm _).mem_iff.mp hz) with hz | hz
      · obtain ⟨r, hr, rfl⟩ := List.mem_map.mp hz
        have : Spn (rows ++ [l]) r := .of (List.mem_append_left _ hr)
        unfold chg
        split
        · exact this.xor sl
        · exact this
      · exact .of (List.mem_append_right _ hz)
    · refine fun hx => hx.mono fun z hz => ?_
      have ml : Spn (srt (rows.map (chg l) ++ [l])) l := .of ((srt_perm _).mem_iff.mpr (List.mem_append_right _ (List.mem_singleton_self l)))
      rcases List.mem_append.mp hz with hz | hz
      · have mc : Spn (srt (rows.map (chg l) ++ [l])) (chg l z) := .of ((srt_perm _).mem_iff.mpr (List.mem_append_left _ (List.mem_map.mpr ⟨z, hz, rfl⟩)))
        unfold chg at mc
        split at mc
        · have := mc.xor ml
          rwa [Nat.xor_assoc, Nat.xor_self, Nat.xor_zero] at this
        · exact mc
      · rcases List.mem_singleton.mp hz with rfl; exact ml
theorem grw_length {rows : List Nat} (w : Nat) : (grw rows w).length = if clr rows w = 0 then rows.length else rows.length + 1 := by
  rw [grw_eq]
  split
  · rfl
  · rw [(srt_perm _).length_eq]; simp
/-! ### the rows of a list of words -/
theorem spn_rws_from : ∀ (ws : List Nat) {rows : List Nat}, Rws rows → Rws (ws.foldl grw rows)
  | [], _, R => R
  | w :: ws, _, R => spn_rws_from ws (grw_rws R w)
theorem spn_rws (ws : List Nat) : Rws (spn ws) := spn_rws_from ws Rws.nil
theorem spn_span_from : ∀ (ws : List Nat) (rows : List Nat) (x : Nat), Spn (ws.foldl grw rows) x ↔ Spn (rows ++ ws) x
  | [], rows, x => by simp
  | w :: ws, rows, x => by
    show Spn (ws.foldl grw (grw rows w)) x ↔ _
    rw [spn_span_from ws]
    have key : ∀ (a b c : List Nat) (y : Nat), (∀ z, Spn a z ↔ Spn b z) → (Spn (a ++ c) y ↔ Spn (b ++ c) y) := fun a b c y h => by
      constructor
      · refine fun hx => hx.mono fun z hz => ?_
        rcases List.mem_append.mp hz with hz | hz
        · exact ((h z).mp (.of hz)).sub fun u hu => List.mem_append_left _ hu
        · exact .of (List.mem_append_right _ hz)
      · refine fun hx => hx.mono fun z hz => ?_
        rcases List.mem_append.mp hz with hz | hz
        · exact ((h z).mpr (.of hz)).sub fun u hu => List.mem_append_left _ hu
        · exact .of (List.mem_append_right _ hz)
    rw [key _ _ ws x fun z => grw_span w z, List.append_assoc]
    rfl
theorem spn_span (ws : List Nat) (x : Nat) : Spn (spn ws) x ↔ Spn ws x := by
  have := spn_span_from ws [] x
  rwa [List.nil_append] at this
theorem spn_len_from : ∀ (ws rows : List Nat), (ws.foldl grw rows).length ≤ rows.length + ws.length
  | [], _ => by simp
  | w :: ws, rows => by
    have h1 := spn_len_from ws (grw rows w)
    have h2 := grw_len rows w
    simp only [List.foldl_cons, List.length_cons] at h1 ⊢
    omega
theorem spn_len (ws : List Nat) : (spn ws).length ≤ ws.length := by
  have := spn_len_from ws []
  rw [List.length_nil, Nat.zero_add] at this
  exact this
/-! ### tops tell the rank -/
theorem top_keep {t : Nat} : ∀ {rows : List Nat} {l : Nat}, (∀ r ∈ rows, r ≠ 0) → (∀ r ∈ rows, blen r ≠ t + 1) → l < 2 ^ (t + 1) → l.testBit t = true → (clr rows l).testBit t = true
  | [], l, _, _, _, h => h
  | r :: rs, l, nz, nt, hl, h => by
    rw [clr_cons]
    have a := nt r (.head _)
    have b := blen_pos (nz r (.head _))
    refine top_keep (fun s hs => nz s (.tail _ hs)) (fun s hs => nt s (.tail _ hs)) ?_ ?_
    · cases q : l.testBit (blen r - 1) with
      | false => simpa [bx] using hl
      | true =>
        have c : blen r ≤ t + 1 := by
          refine Nat.le_of_not_lt fun z => ?_
          have := testBit_ge (n := l) (i := blen r - 1) (Nat.le_trans (blen_le.mpr hl) (by omega))
          rw [this] at q; cases q
        simp only [bx, if_true]
        exact Nat.xor_lt_two_pow hl (blen_le.mp c)
    · cases q : l.testBit (blen r - 1) with
      | false => simpa [bx] using h
      | true =>
        have c : blen r ≤ t + 1 := by
          refine Nat.le_of_not_lt fun z => ?_
          have := testBit_ge (n := l) (i := blen r - 1) (Nat.le_trans (blen_le.mpr hl) (by omega))
          rw [this] at q; cases q
        simp only [bx, if_true]
        rw [Nat.testBit_xor, h, testBit_ge (n := r) (by omega)]
        rfl
theorem Rws.top_mem {rows : List Nat} (R : Rws rows) {x : Nat} (h : Spn rows x) (hx : x ≠ 0) : ∃ r ∈ rows, blen r = blen x := by
  refine Classical.byContradiction fun hn => ?_
  have h1 : ∀ r ∈ rows, blen r ≠ (blen x - 1) + 1 := fun r hr e => hn ⟨r, hr, by have := blen_pos hx; omega⟩
  have h2 := top_keep (t := blen x - 1) R.nz h1 (by have := blen_pos hx; rw [Nat.sub_add_cancel this]; exact lt_blen x) (testBit_top hx)
  rw [R.span.mp h] at h2
  simp at h2
theorem nodup_sub_len : ∀ {l m : List Nat}, l.Nodup → (∀ x ∈ l, x ∈ m) → l.length ≤ m.length
  | [], _, _, _ => Nat.zero_le _
  | x :: l, m, hn, hs => by
    have hn' := List.nodup_cons.mp hn
    have hx := hs x (.head _)
    have ih := nodup_sub_len (l := l) (m := m.erase x) hn'.2 fun y hy => by
      have : y ≠ x := fun e => hn'.1 (e ▸ hy)
      exact (List.mem_erase_of_ne this).mpr (hs y (.tail _ hy))
    have := List.length_erase_of_mem hx
    have hp : 0 < m.length := List.length_pos_of_mem hx
    simp only [List.length_cons]
    omega
theorem Rws.tops_nodup {rows : List Nat} (R : Rws rows) : (rows.map blen).Nodup := by
  unfold List.Nodup
  rw [List.pairwise_map]
  refine R.red.imp_of_mem fun {a b} ha hb hab e => ?_
  have := hab.1
  rw [← e, testBit_top (R.nz a ha)] at this
  cases this
theorem Rws.le {a b : List Nat} (A : Rws a) (B : Rws b) (h : ∀ x ∈ a, Spn b x) : a.length ≤ b.length := by
  have := nodup_sub_len A.tops_nodup (m := b.map blen) fun t ht => by
    obtain ⟨x, hx, rfl⟩ := List.mem_map.mp ht
    obtain ⟨r, hr, e⟩ := B.top_mem (h x hx) (A.nz x hx)
    exact List.mem_map.mpr ⟨r, hr, e⟩
  simpa using this
/-- the rank -/
def rk (ws : List Nat) : Nat := (spn ws).length
theorem rk_le {a b : List Nat} (h : ∀ x ∈ a, Spn b x) : rk a ≤ rk b := by
  refine (spn_rws a).le (spn_rws b) fun x hx => ?_
  rw [spn_span]
  exact ((spn_span a x).mp (.of hx)).mono h
theorem rk_eq {a b : List Nat} (h : ∀ x, Spn a x ↔ Spn b x) : rk a = rk b :=
  Nat.le_antisymm (rk_le fun x hx => (h x).mp (.of hx)) (rk_le fun x hx => (h x).mpr (.of hx))
theorem rk_spn (a : List Nat) : rk (spn a) = rk a := rk_eq fun x => spn_span a x
theorem rk_snoc (a : List Nat) (w : Nat) : rk (a ++ [w]) = if clr (spn a) w = 0 then rk a else rk a + 1 := by
  unfold rk
  rw [spn_append]
  exact grw_length w
theorem clr_spn_zero {a : List Nat} {w : Nat} : clr (spn a) w = 0 ↔ Spn a w := by rw [← (spn_rws a).span, spn_span]
theorem rk_snoc_in {a : List Nat} {w : Nat} (h : Spn a w) : rk (a ++ [w]) = rk a := by rw [rk_snoc, if_pos (clr_spn_zero.mpr h)]
theorem rk_snoc_out {a : List Nat} {w : Nat} (h : ¬ Spn a w) : rk (a ++ [w]) = rk a + 1 := by rw [rk_snoc, if_neg (fun z => h (clr_spn_zero.mp z))]
/-- words, none of which is a sum of those ahead -/
inductive Ind : List Nat → Prop where
  | nil : Ind []
  | snoc {a : List Nat} {w : Nat} : Ind a → ¬ Spn a w → Ind (a ++ [w])
theorem Ind.rk {a : List Nat} (h : Ind a) : rk a = a.length := by
  induction h with
  | nil => rfl
  | snoc _ hw ih => rw [rk_snoc_out hw, ih]; simp
theorem rk_len (a : List Nat) : rk a ≤ a.length := spn_len a
theorem spn_id {rows : List Nat} (R : Rws rows) : rk rows = rows.length := by
  have h1 := (spn_rws rows).le R (fun x hx => (spn_span rows x).mp (.of hx))
  have h2 := R.le (spn_rws rows) (fun x hx => (spn_span rows x).mpr (.of hx))
  exact Nat.le_antisymm h1 h2
end LaneX
namespace LaneX
/-! ### pairs, kernels, meets: what the program makes -/
def prs (cols : List Nat) : List Nat := (List.range cols.length).map fun i => (cols.getD i 0 <<< cols.length) + (1 <<< i)
def prd (cols : List Nat) : List Nat := spn (prs cols)
def ker (cols : List Nat) : List Nat := (prd cols).filter fun r => decide (blen r ≤ cols.length)
def mts (bits : Nat) (rows others : List Nat) : List Nat := (rows.map fun r => (r <<< bits) + r) ++ others.map fun r => r <<< bits
def mtd (bits : Nat) (rows others : List Nat) : List Nat := (spn (mts bits rows others)).filter fun r => decide (blen r ≤ bits)
end LaneX
namespace LaneX
theorem Rws.len_le {rows : List Nat} (R : Rws rows) {b : Nat} (h : ∀ r ∈ rows, blen r ≤ b) : rows.length ≤ b := by
  have := nodup_sub_len R.tops_nodup (m := List.range' 1 b) fun t ht => by
    obtain ⟨x, hx, rfl⟩ := List.mem_map.mp ht
    have h1 := blen_pos (R.nz x hx)
    have h2 := h x hx
    rw [List.mem_range']
    exact ⟨blen x - 1, by omega, by omega⟩
  simpa using this
theorem spn_lt {ws : List Nat} {k : Nat} (h : ∀ w ∈ ws, w < 2 ^ k) : ∀ r ∈ spn ws, r < 2 ^ k := fun r hr => ((spn_span ws r).mp (.of hr)).lt h
theorem spn_blen {ws : List Nat} {k : Nat} (h : ∀ w ∈ ws, blen w ≤ k) : ∀ r ∈ spn ws, blen r ≤ k := fun r hr => blen_le.mpr (spn_lt (fun w hw => blen_le.mp (h w hw)) r hr)
theorem clr_blen {rows : List Nat} {k w : Nat} (h : ∀ r ∈ rows, blen r ≤ k) (hw : blen w ≤ k) : blen (clr rows w) ≤ k := blen_le.mpr (clr_lt (fun r hr => blen_le.mp (h r hr)) (blen_le.mp hw))
theorem ker_blen (cols : List Nat) : ∀ r ∈ ker cols, blen r ≤ cols.length := fun r hr => by
  have := (List.mem_filter.mp hr).2
  simpa using this
theorem ker_rws (cols : List Nat) : Rws (ker cols) := by
  have R := spn_rws (prs cols)
  exact ⟨fun r hr => R.nz r (List.mem_filter.mp hr).1, R.red.sublist List.filter_sublist⟩
theorem ker_len (cols : List Nat) : (ker cols).length ≤ cols.length := (ker_rws cols).len_le (ker_blen cols)
theorem mtd_blen (b : Nat) (rs os : List Nat) : ∀ r ∈ mtd b rs os, blen r ≤ b := fun r hr => by
  have := (List.mem_filter.mp hr).2
  simpa using this
theorem mtd_rws (b : Nat) (rs os : List Nat) : Rws (mtd b rs os) := by
  have R := spn_rws (mts b rs os)
  exact ⟨fun r hr => R.nz r (List.mem_filter.mp hr).1, R.red.sublist List.filter_sublist⟩
/-- the rows of others that complete -/
def cms (rows others : List Nat) : List Nat × List Nat := others.foldl (fun st r => if clr st.1 r = 0 then st else (grw st.1 r, st.2 ++ [r])) (rows, [])
def cmpl (rows others : List Nat) : List Nat := (cms rows others).2
theorem cms_snoc (rows a : List Nat) (r : Nat) : cms rows (a ++ [r]) = if clr (cms rows a).1 r = 0 then cms rows a else (grw (cms rows a).1 r, (cms rows a).2 ++ [r]) := by
  unfold cms
  rw [List.foldl_append]
  rfl
/-- lists are told by their last item -/
theorem snoc_rec {p : List Nat → Prop} (h0 : p []) (hs : ∀ a x, p a → p (a ++ [x])) : ∀ l, p l := fun l => by
  have : ∀ n (l : List Nat), l.length = n → p l := by
    intro n
    induction n with
    | zero => intro l hl; rw [List.length_eq_zero_iff.mp hl]; exact h0
    | succ n ih =>
      intro l hl
      have hne : l ≠ [] := fun e => by rw [e] at hl; cases hl
      rw [← List.dropLast_concat_getLast hne]
      exact hs _ _ (ih _ (by rw [List.length_dropLast, hl]; rfl))
  exact this _ l rfl
theorem cms_rws {rows : List Nat} (R : Rws rows) (others : List Nat) : Rws (cms rows others).1 := by
  refine snoc_rec (p := fun l => Rws (cms rows l).1) R (fun a x ih => ?_) others
  rw [cms_snoc]
  split
  · exact ih
  · exact grw_rws ih x
theorem cms_len (rows others : List Nat) : (cms rows others).1.length ≤ rows.length + others.length ∧ (cms rows others).2.length ≤ others.length := by
  refine snoc_rec (p := fun l => (cms rows l).1.length ≤ rows.length + l.length ∧ (cms rows l).2.length ≤ l.length) ⟨by simp [cms], by simp [cms]⟩ (fun a x ih => ?_) others
  rw [cms_snoc]
  split
  · simp only [List.length_append, List.length_cons, List.length_nil]; omega
  · have := grw_len (cms rows a).1 x
    simp only [List.length_append, List.length_cons, List.length_nil]
    omega
/-- the twins, the partners of a spread -/
def twn (ss ls : List Nat) : List Nat := spn (ker (ls.map (clr (spn ss))))
def prw (ss ls rows : List Nat) : List Nat := ker (ls.map (clr (spn (ss ++ rows))))
def prt (ss ls rows : List Nat) : List Nat := spn (prw ss ls rows)
def ldr (ss ls rows : List Nat) : List Nat := cmpl (twn ss ls) (prt ss ls rows)
def kpt (b : Nat) (ss rows : List Nat) : Int := ((spn ss).length : Int) - ((spn (mtd b (spn ss) rows)).length : Int)
def rdf (bits apart : Nat) : Nat := if apart ≤ bits then 1 <<< bits - 1 <<< (bits - apart) else 1 <<< bits - 1 + apart - bits
def smr (b : Nat) (ss ls rows : List Nat) : Nat := rdf (kpt b ss rows - (twn ss ls).length).toNat (ldr ss ls rows).length
/-- a spread's words, a space's rows are as they must -/
structure WfR (b : Nat) (ss ls : List Nat) : Prop where
  bb : b ≤ 400000
  s : ∀ x ∈ ss, blen x ≤ b
  l : ∀ x ∈ ls, blen x ≤ b
  sl : ss.length ≤ 400000
  ll : ls.length ≤ 400000
structure WfS (b : Nat) (rows : List Nat) : Prop where
  bb : b ≤ 400000
  r : Rws rows
  b : ∀ x ∈ rows, blen x ≤ b
theorem WfS.len {b : Nat} {rows : List Nat} (h : WfS b rows) : rows.length ≤ 400000 := Nat.le_trans (h.r.len_le h.b) h.bb
theorem WfS.of {b : Nat} {ws : List Nat} (h : b ≤ 400000) (hw : ∀ x ∈ ws, blen x ≤ b) : WfS b (spn ws) := ⟨h, spn_rws ws, spn_blen hw⟩
theorem twn_wf {b : Nat} {ss ls : List Nat} (h : WfR b ss ls) : WfS ls.length (twn ss ls) := WfS.of h.ll fun x hx => by have := ker_blen _ x hx; simpa using this
theorem prt_wf {b : Nat} {ss ls : List Nat} (h : WfR b ss ls) (rows : List Nat) : WfS ls.length (prt ss ls rows) := WfS.of h.ll fun x hx => by have := ker_blen _ x hx; simpa using this
end LaneX
set_option linter.all false
namespace LaneX
/-! ### lowest bits; an elimination by them -/
def lwb (n : Nat) : Nat := n - (n &&& (n - 1))
def low (n : Nat) : Nat := if h : n = 0 then 0 else if n % 2 = 1 then 0 else low (n / 2) + 1
termination_by n
decreasing_by omega
theorem and_split (a b : Nat) : a &&& b = 2 * (a / 2 &&& b / 2) + (if a % 2 = 1 ∧ b % 2 = 1 then 1 else 0) := by
  have h1 : (a &&& b) / 2 = a / 2 &&& b / 2 := Nat.and_div_two
  have h2 : (a &&& b) % 2 = if a % 2 = 1 ∧ b % 2 = 1 then 1 else 0 := by
    have : (a &&& b).testBit 0 = (a.testBit 0 && b.testBit 0) := Nat.testBit_and ..
    simp only [Nat.testBit_zero] at this
    split
    · rename_i h
      simp only [h.1, h.2, decide_true, Bool.and_self] at this
      exact of_decide_eq_true this
    · rename_i h
      have h3 : (a &&& b) % 2 ≠ 1 := fun z => by
        rw [z] at this
        simp at this
        exact h this
      omega
  omega
theorem lwb_eq {n : Nat} (h : n ≠ 0) : lwb n = 2 ^ low n := by
  induction n using Nat.strongRecOn with
  | _ n ih =>
    unfold low lwb
    rw [dif_neg h]
    split
    · rename_i ho
      rw [and_split, if_neg (by omega), show (n - 1) / 2 = n / 2 by omega, Nat.and_self]
      simp
      omega
    · rename_i he
      have hm : n / 2 ≠ 0 := by omega
      have q := ih (n / 2) (by omega) hm
      unfold lwb at q
      have le : n / 2 &&& (n / 2 - 1) ≤ n / 2 := Nat.and_le_left
      rw [and_split, if_neg (by omega), show (n - 1) / 2 = n / 2 - 1 by omega, Nat.pow_succ, ← q]
      omega
theorem low_bit {n : Nat} (h : n ≠ 0) : n.testBit (low n) = true := by
  induction n using Nat.strongRecOn with
  | _ n ih =>
    unfold low
    rw [dif_neg h]
    split
    · rename_i ho
      rw [Nat.testBit_zero]
      exact decide_eq_true ho
    · rename_i he
      rw [Nat.testBit_succ]
      exact ih (n / 2) (by omega) (by omega)
theorem and_lwb {w r : Nat} (h : r ≠ 0) : (w &&& lwb r ≠ 0) ↔ w.testBit (low r) = true := by
  rw [lwb_eq h]
  constructor
  · intro hn
    refine Classical.byContradiction fun hb => hn ?_
    apply Nat.eq_of_testBit_eq
    intro i
    rw [Nat.testBit_and, Nat.testBit_two_pow, Nat.zero_testBit]
    by_cases e : low r = i
    · subst e
      cases q : w.testBit (low r)
      · rfl
      · exact absurd q hb
    · simp [e]
  · intro hb hz
    have : (w &&& 2 ^ low r).testBit (low r) = true := by
      rw [Nat.testBit_and, hb, Nat.testBit_two_pow]
      simp
    rw [hz] at this
    simp at this
def lft (rows : List Nat) (w : Nat) : Nat := rows.foldl (fun l r => if l.testBit (low r) = true then l ^^^ r else l) w
theorem lft_cons (r : Nat) (rs : List Nat) (x : Nat) : lft (r :: rs) x = lft rs (x ^^^ bx (x.testBit (low r)) r) := by
  show lft rs _ = _
  dsimp only
  cases x.testBit (low r) <;> simp [bx]
theorem lft_snoc (a : List Nat) (r w : Nat) : lft (a ++ [r]) w = if (lft a w).testBit (low r) = true then lft a w ^^^ r else lft a w := List.foldl_append ..
theorem lft_xor : ∀ (rows : List Nat) (x y : Nat), lft rows (x ^^^ y) = lft rows x ^^^ lft rows y
  | [], _, _ => rfl
  | r :: rs, x, y => by
    rw [lft_cons, lft_cons, lft_cons, Nat.testBit_xor, bx_xor, xor4, lft_xor rs]
theorem lft_zero : ∀ rows : List Nat, lft rows 0 = 0
  | [] => rfl
  | r :: rs => by rw [lft_cons]; simp [bx, lft_zero rs]
theorem spn_lft : ∀ (rows : List Nat) (x : Nat), Spn rows (x ^^^ lft rows x)
  | [], x => by show Spn [] (x ^^^ x); rw [Nat.xor_self]; exact .zero
  | r :: rs, x => by
    rw [lft_cons]
    generalize hb : bx (x.testBit (low r)) r = c
    have ih := (spn_lft rs (x ^^^ c)).sub (vs := r :: rs) fun w hw => .tail _ hw
    have hc : Spn (r :: rs) c := by
      rw [← hb]
      cases x.testBit (low r)
      · exact .zero
      · exact .of (.head _)
    have := ih.xor hc
    have e : x ^^^ c ^^^ lft rs (x ^^^ c) ^^^ c = x ^^^ lft rs (x ^^^ c) := by
      rw [Nat.xor_assoc, Nat.xor_comm (lft rs _) _, ← Nat.xor_assoc, Nat.xor_assoc x, Nat.xor_self, Nat.xor_zero]
    rw [e] at this
    exact this
/-- rows of the law's own: none is 0, later ones are 0 at the lowest bits of earlier ones -/
structure Lws (rows : List Nat) : Prop where
  nz : ∀ r ∈ rows, r ≠ 0
  red : rows.Pairwise fun r s => s.testBit (low r) = false
theorem lft_bit {b : Nat} : ∀ {rows : List Nat} {x : Nat}, (∀ r ∈ rows, r.testBit b = false) → (lft rows x).testBit b = x.testBit b
  | [], x, _ => rfl
  | r :: rs, x, h => by
    rw [lft_cons, lft_bit fun s hs => h s (.tail _ hs), Nat.testBit_xor]
    have := h r (.head _)
    cases x.testBit (low r) <;> simp [bx, this]
theorem lft_lows : ∀ {rows : List Nat} {x : Nat}, Lws rows → ∀ r ∈ rows, (lft rows x).testBit (low r) = false
  | [], x, _, r, h => by cases h
  | s :: rs, x, R, r, h => by
    have hp := List.pairwise_cons.mp R.red
    have R' : Lws rs := ⟨fun t ht => R.nz t (.tail _ ht), hp.2⟩
    rw [lft_cons]
    rcases List.mem_cons.mp h with rfl | h
    · rw [lft_bit fun t ht => hp.1 t ht, Nat.testBit_xor]
      have := low_bit (R.nz r (.head _))
      cases q : x.testBit (low r) <;> simp [bx, this]
    · exact lft_lows R' r h
theorem lft_of_none : ∀ {rows : List Nat} {x : Nat}, (∀ r ∈ rows, x.testBit (low r) = false) → lft rows x = x
  | [], x, _ => rfl
  | r :: rs, x, h => by
    rw [lft_cons, h r (.head _)]
    simp only [bx, Bool.false_eq_true, if_false, Nat.xor_zero]
    exact lft_of_none fun s hs => h s (.tail _ hs)
theorem lft_self : ∀ {rows : List Nat}, Lws rows → ∀ r ∈ rows, lft rows r = 0
  | [], _, r, h => by cases h
  | s :: rs, R, r, h => by
    have hp := List.pairwise_cons.mp R.red
    have R' : Lws rs := ⟨fun t ht => R.nz t (.tail _ ht), hp.2⟩
    rw [lft_cons]
    rcases List.mem_cons.mp h with rfl | h
    · rw [low_bit (R.nz r (.head _))]
      simp only [bx, if_true, Nat.xor_self]
      exact lft_zero rs
    · rw [hp.1 r h]
      simp only [bx, Bool.false_eq_true, if_false, Nat.xor_zero]
      exact lft_self R' r h
theorem Lws.span {rows : List Nat} (R : Lws rows) {x : Nat} : Spn rows x ↔ lft rows x = 0 := by
  constructor
  · intro h
    induction h with
    | zero => exact lft_zero rows
    | add hw _ ih => rw [lft_xor, ih, lft_self R _ hw]; rfl
  · intro h
    have := spn_lft rows x
    rwa [h, Nat.xor_zero] at this
def bstep (rows : List Nat) (w : Nat) : List Nat := if lft rows w = 0 then rows else rows ++ [lft rows w]
def bas (ws : List Nat) : List Nat := ws.foldl bstep []
theorem bas_snoc (a : List Nat) (w : Nat) : bas (a ++ [w]) = bstep (bas a) w := List.foldl_append ..
theorem Lws.nil : Lws [] := ⟨fun _ h => (by cases h), .nil⟩
theorem Lws.step {rows : List Nat} (R : Lws rows) (w : Nat) : Lws (bstep rows w) := by
  unfold bstep
  split
  · exact R
  · rename_i h
    refine ⟨fun r hr => ?_, List.pairwise_append.mpr ⟨R.red, by simp, fun r hr s hs => ?_⟩⟩
    · rcases List.mem_append.mp hr with hr | hr
      · exact R.nz r hr
      · rcases List.mem_singleton.mp hr with rfl; exact h
    · rcases List.mem_singleton.mp hs with rfl
      exact lft_lows R r hr
theorem Lws.ind {rows : List Nat} (R : Lws rows) : Ind rows := by
  have : ∀ n (l : List Nat), l.length = n → Lws l → Ind l := by
    intro n
    induction n with
    | zero => intro l hl _; rw [List.length_eq_zero_iff.mp hl]; exact .nil
    | succ n ih =>
      intro l hl L
      have hne : l ≠ [] := fun e => by rw [e] at hl; cases hl
      have e := List.dropLast_concat_getLast hne
      rw [← e] at L ⊢
      have hp := List.pairwise_append.mp L.red
      have L' : Lws l.dropLast := ⟨fun r hr => L.nz r (List.mem_append_left _ hr), hp.1⟩
      refine .snoc (ih _ (by rw [List.length_dropLast, hl]; rfl) L') fun hs => ?_
      have z := L'.span.mp hs
      rw [lft_of_none fun r hr => hp.2.2 r hr _ (List.mem_singleton_self _)] at z
      exact L.nz _ (List.mem_append_right _ (List.mem_singleton_self _)) z
  exact this _ rows rfl R
theorem Lws.rk {rows : List Nat} (R : Lws rows) : rk rows = rows.length := R.ind.rk
theorem bas_lws (ws : List Nat) : Lws (bas ws) := snoc_rec (p := fun l => Lws (bas l)) Lws.nil (fun a x ih => by rw [bas_snoc]; exact ih.step x) ws
theorem span_app {a b c : List Nat} {x : Nat} (h : ∀ z, Spn a z ↔ Spn b z) : Spn (a ++ c) x ↔ Spn (b ++ c) x := by
  constructor
  · refine fun hx => hx.mono fun z hz => ?_
    rcases List.mem_append.mp hz with hz | hz
    · exact ((h z).mp (.of hz)).sub fun u hu => List.mem_append_left _ hu
    · exact .of (List.mem_append_right _ hz)
  · refine fun hx => hx.mono fun z hz => ?_
    rcases List.mem_append.mp hz with hz | hz
    · exact ((h z).mpr (.of hz)).sub fun u hu => List.mem_append_left _ hu
    · exact .of (List.mem_append_right _ hz)
theorem span_swap (u v : List Nat) (y : Nat) : Spn (u ++ v) y ↔ Spn (v ++ u) y := by
  have key : ∀ u v : List Nat, Spn (u ++ v) y → Spn (v ++ u) y := fun u v h => h.sub fun w hw => by
    rcases List.mem_append.mp hw with h | h
    · exact List.mem_append_right _ h
    · exact List.mem_append_left _ h
  exact ⟨key u v, key v u⟩
theorem span_app2 {a b c d : List Nat} {x : Nat} (h : ∀ z, Spn a z ↔ Spn b z) (g : ∀ z, Spn c z ↔ Spn d z) : Spn (a ++ c) x ↔ Spn (b ++ d) x := by
  rw [span_app h]
  rw [span_swap, span_app g, span_swap]
theorem bstep_span (rows : List Nat) (w x : Nat) : Spn (bstep rows w) x ↔ Spn (rows ++ [w]) x := by
  have hw := spn_lft rows w
  unfold bstep
  split
  · rename_i h
    rw [h, Nat.xor_zero] at hw
    constructor
    · exact fun hx => hx.sub fun y hy => List.mem_append_left _ hy
    · refine fun hx => hx.mono fun y hy => ?_
      rcases List.mem_append.mp hy with hy | hy
      · exact .of hy
      · rcases List.mem_singleton.mp hy with rfl; exact hw
  · generalize lft rows w = l at *
    have lw : Spn (rows ++ [w]) l := by
      have a := (hw.sub (vs := rows ++ [w]) fun z hz => List.mem_append_left _ hz).xor (Spn.of (List.mem_append_right rows (List.mem_singleton_self w)))
      rwa [Nat.xor_comm w l, Nat.xor_assoc, Nat.xor_self, Nat.xor_zero] at a
    have wl : Spn (rows ++ [l]) w := by
      have a := (hw.sub (vs := rows ++ [l]) fun z hz => List.mem_append_left _ hz).xor (Spn.of (List.mem_append_right rows (List.mem_singleton_self l)))
      rwa [Nat.xor_assoc, Nat.xor_self, Nat.xor_zero] at a
    constructor
    · refine fun hx => hx.mono fun z hz => ?_
      rcases List.mem_append.mp hz with hz | hz
      · exact .of (List.mem_append_left _ hz)
      · rcases List.mem_singleton.mp hz with rfl; exact lw
    · refine fun hx => hx.mono fun z hz => ?_
      rcases List.mem_append.mp hz with hz | hz
      · exact .of (List.mem_append_left _ hz)
      · rcases List.mem_singleton.mp hz with rfl; exact wl
theorem bas_span (ws : List Nat) : ∀ x, Spn (bas ws) x ↔ Spn ws x := snoc_rec (p := fun l => ∀ x, Spn (bas l) x ↔ Spn l x) (fun x => Iff.rfl) (fun a w ih x => by rw [bas_snoc, bstep_span, span_app ih]) ws
theorem bas_len (ws : List Nat) : (bas ws).length = rk ws := by rw [← (bas_lws ws).rk]; exact rk_eq (bas_span ws)
theorem lft_bas {ws : List Nat} {x : Nat} : lft (bas ws) x = 0 ↔ Spn ws x := by rw [← (bas_lws ws).span, bas_span]
theorem bas_len_le (ws : List Nat) : (bas ws).length ≤ ws.length := by rw [bas_len]; exact rk_len ws
theorem lft_lt {k : Nat} {rows : List Nat} {w : Nat} (hr : ∀ r ∈ rows, r < 2 ^ k) (h : w < 2 ^ k) : lft rows w < 2 ^ k := by
  have := (spn_lft rows w).lt hr
  have e : lft rows w = w ^^^ (w ^^^ lft rows w) := by rw [← Nat.xor_assoc, Nat.xor_self, Nat.zero_xor]
  rw [e]
  exact Nat.xor_lt_two_pow h this
theorem bas_lt {k : Nat} {ws : List Nat} (h : ∀ w ∈ ws, w < 2 ^ k) : ∀ r ∈ bas ws, r < 2 ^ k := fun r hr => ((bas_span ws r).mp (.of hr)).lt h
/-- the sum of the columns of the bits of a word -/
def imf (cols : List Nat) (w : Nat) (n : Nat) : Nat := (List.range n).foldl (fun acc i => if w.testBit i = true then acc ^^^ cols.getD i 0 else acc) 0
def img (cols : List Nat) (w : Nat) : Nat := imf cols w cols.length
theorem imf_succ (cols : List Nat) (w n : Nat) : imf cols w (n + 1) = if w.testBit n = true then imf cols w n ^^^ cols.getD n 0 else imf cols w n := by
  unfold imf
  rw [List.range_succ, List.foldl_append]
  rfl
/-- rows with tags, and the tags of words that come to 0 -/
def tgl (rows : List (Nat × Nat)) (st : Nat × Nat) : Nat × Nat := rows.foldl (fun st r => if st.1.testBit (low r.1) = true then (st.1 ^^^ r.1, st.2 ^^^ r.2) else st) st
def tgs (cols : List Nat) (n : Nat) : List (Nat × Nat) × List Nat := (List.range n).foldl (fun st i =>
  if (tgl st.1 (cols.getD i 0, 1 <<< i)).1 = 0 then (st.1, st.2 ++ [(tgl st.1 (cols.getD i 0, 1 <<< i)).2]) else (st.1 ++ [tgl st.1 (cols.getD i 0, 1 <<< i)], st.2)) ([], [])
def tgd (cols : List Nat) : List (Nat × Nat) × List Nat := tgs cols cols.length
theorem tgs_succ (cols : List Nat) (n : Nat) : tgs cols (n + 1) = if (tgl (tgs cols n).1 (cols.getD n 0, 1 <<< n)).1 = 0 then ((tgs cols n).1, (tgs cols n).2 ++ [(tgl (tgs cols n).1 (cols.getD n 0, 1 <<< n)).2]) else ((tgs cols n).1 ++ [tgl (tgs cols n).1 (cols.getD n 0, 1 <<< n)], (tgs cols n).2) := by
  unfold tgs
  rw [List.range_succ, List.foldl_append]
  rfl
theorem tgs_len (cols : List Nat) : ∀ n, (tgs cols n).1.length + (tgs cols n).2.length = n
  | 0 => rfl
  | n + 1 => by
    have := tgs_len cols n
    rw [tgs_succ]
    split <;> simp <;> omega
theorem rk_app_len (a : List Nat) : ∀ b, rk (a ++ b) ≤ rk a + b.length := snoc_rec (p := fun b => rk (a ++ b) ≤ rk a + b.length) (by simp) (fun b x ih => by
  rw [← List.append_assoc, rk_snoc]
  split <;> simp <;> omega)
theorem rk_app (a b : List Nat) : rk (a ++ b) ≤ rk a + rk b := by
  have e : rk (a ++ b) = rk (a ++ spn b) := rk_eq fun x => (span_app2 (fun _ => Iff.rfl) (fun z => (spn_span b z).symm))
  rw [e]
  exact rk_app_len a (spn b)
theorem rk_left (a b : List Nat) : rk a ≤ rk (a ++ b) := rk_le fun x hx => .of (List.mem_append_left _ hx)
theorem rk_right (a b : List Nat) : rk b ≤ rk (a ++ b) := rk_le fun x hx => .of (List.mem_append_right _ hx)
theorem rk_perm {a b : List Nat} (p : a.Perm b) : rk a = rk b := rk_eq fun x => ⟨fun h => h.sub fun w hw => p.mem_iff.mp hw, fun h => h.sub fun w hw => p.mem_iff.mpr hw⟩
/-- units -/
def units (b : Nat) : List Nat := (List.range b).map fun i => 1 <<< i
theorem blen_unit (i : Nat) : blen (1 <<< i) = i + 1 := by
  have h : 1 <<< i ≠ 0 := by rw [Nat.one_shiftLeft]; exact Nat.ne_of_gt (Nat.two_pow_pos i)
  have h1 : blen (1 <<< i) ≤ i + 1 := by
    rw [blen_le, Nat.one_shiftLeft]
    exact Nat.pow_lt_pow_right (by decide) (Nat.lt_succ_self i)
  have h2 : ¬ blen (1 <<< i) ≤ i := by
    rw [blen_le, Nat.one_shiftLeft]
    exact Nat.lt_irrefl _
  omega
theorem unit_bit (i j : Nat) : (1 <<< i).testBit j = decide (i = j) := by
  rw [Nat.one_shiftLeft, Nat.testBit_two_pow]
theorem units_rws (b : Nat) : Rws (units b) := by
  refine ⟨fun r hr => ?_, ?_⟩
  · obtain ⟨i, _, rfl⟩ := List.mem_map.mp hr
    rw [Nat.one_shiftLeft]
    exact Nat.ne_of_gt (Nat.two_pow_pos i)
  · unfold units
    rw [List.pairwise_map]
    refine List.Pairwise.imp (R := fun a b => a ≠ b) (fun {i j} h => ?_) List.nodup_range
    rw [blen_unit, blen_unit, Nat.add_sub_cancel, Nat.add_sub_cancel, unit_bit, unit_bit]
    exact ⟨decide_eq_false h, decide_eq_false fun z => h z.symm⟩
theorem units_rk (b : Nat) : rk (units b) = b := by
  rw [spn_id (units_rws b)]
  simp [units]
theorem units_span {b x : Nat} (h : x < 2 ^ b) : Spn (units b) x := by
  have R := units_rws b
  rw [R.span]
  refine Classical.byContradiction fun hn => ?_
  have h1 : clr (units b) x < 2 ^ b := clr_lt (fun r hr => by
    obtain ⟨i, hi, rfl⟩ := List.mem_map.mp hr
    rw [Nat.one_shiftLeft]
    exact Nat.pow_lt_pow_right (by decide) (List.mem_range.mp hi)) h
  have h2 := testBit_top hn
  have h3 : blen (clr (units b) x) ≤ b := blen_le.mpr h1
  have h4 := blen_pos hn
  have h5 := clr_tops (x := x) R (1 <<< (blen (clr (units b) x) - 1)) (List.mem_map.mpr ⟨_, List.mem_range.mpr (by omega), rfl⟩)
  rw [blen_unit, Nat.add_sub_cancel] at h5
  rw [h5] at h2
  cases h2
/-- what is spanned by n bits has at most n dimensions; all of it has n -/
theorem rk_le_bits {ws : List Nat} {b : Nat} (h : ∀ w ∈ ws, w < 2 ^ b) : rk ws ≤ b := by
  rw [← units_rk b]
  exact rk_le fun x hx => units_span (h x hx)
theorem rk_full {ws : List Nat} {b : Nat} (h : ∀ u ∈ units b, Spn ws u) : b ≤ rk ws := by
  rw [← units_rk b]
  exact rk_le h
end LaneX
set_option Elab.async false
set_option linter.all false
set_option maxRecDepth 100000
set_option maxHeartbeats 4000000
namespace LaneX
open PySem PySem.Spec PyProof.Rows L2

/-! ### natural numbers as values -/
abbrev vN (n : Nat) : V := .int (n : Int)
theorem nnAnd (n m : Nat) : Builtin.bitAnd (n : Int) (m : Int) = ((n &&& m : Nat) : Int) := by
  unfold Builtin.bitAnd
  have h1 : decide (0 ≤ (n : Int)) = true := decide_eq_true (Int.natCast_nonneg _)
  have h2 : decide (0 ≤ (m : Int)) = true := decide_eq_true (Int.natCast_nonneg _)
  simp
theorem nnOr (n m : Nat) : Builtin.bitOr (n : Int) (m : Int) = ((n ||| m : Nat) : Int) := by
  rw [bitOr_nn (Int.natCast_nonneg _) (Int.natCast_nonneg _)]
  simp
theorem and_or_xor (n m : Nat) : (n ||| m) = (n ^^^ m) + (n &&& m) := by
  have h : (n ^^^ m) &&& (n &&& m) = 0 := by
    apply Nat.eq_of_testBit_eq
    intro i
    simp only [Nat.testBit_and, Nat.testBit_xor, Nat.zero_testBit]
    cases n.testBit i <;> cases m.testBit i <;> rfl
  have h2 : (n ^^^ m) ||| (n &&& m) = n ||| m := by
    apply Nat.eq_of_testBit_eq
    intro i
    simp only [Nat.testBit_and, Nat.testBit_xor, Nat.testBit_or]
    cases n.testBit i <;> cases m.testBit i <;> rfl
  have add : ∀ (k a b : Nat), a < 2 ^ k → a &&& b = 0 → a + b = a ||| b := by
    intro k
    induction k with
    | zero =>
      intro a b ha _
      have : a = 0 := by simpa using ha
      subst this
      simp
    | succ k ih =>
      intro a b ha hab
      have e1 : a / 2 &&& b / 2 = 0 := by
        rw [← Nat.and_div_two, hab]
      have e2 := ih (a / 2) (b / 2) (by rw [Nat.pow_succ] at ha; omega) e1
      have e3 : (a ||| b) / 2 = a / 2 ||| b / 2 := Nat.or_div_two
      have e8 : a / 2 + b / 2 = (a ||| b) / 2 := by rw [e3]; exact e2
      clear e1 e2 e3 ih
      have e5 : (a &&& b).testBit 0 = false := by rw [hab]; simp
      have e6 : (a ||| b).testBit 0 = (a.testBit 0 || b.testBit 0) := Nat.testBit_or ..
      have e7 : (a.testBit 0 && b.testBit 0) = false := by rw [← Nat.testBit_and]; exact e5
      have t : ∀ x : Nat, x % 2 = if x.testBit 0 = true then 1 else 0 := by
        intro x
        rw [Nat.testBit_zero]
        split <;> simp_all
      have ta := t a
      have tb := t b
      have to := t (a ||| b)
      rw [e6] at to
      cases h1 : a.testBit 0 <;> cases h2 : b.testBit 0 <;> rw [h1] at ta to e7 <;> rw [h2] at tb to e7
      · simp only [Bool.or_false, Bool.false_eq_true, if_false] at ta tb to; omega
      · simp only [Bool.or_true, Bool.false_eq_true, if_false, if_true] at ta tb to; omega
      · simp only [Bool.or_false, Bool.false_eq_true, if_false, if_true] at ta tb to; omega
      · cases e7
  have := add ((n ^^^ m) + 1) (n ^^^ m) (n &&& m) (Nat.lt_of_lt_of_le Nat.lt_two_pow_self (Nat.pow_le_pow_right (by decide) (Nat.le_succ _))) h
  rw [h2] at this
  exact this.symm
theorem nnXor (n m : Nat) : Builtin.bitXor (n : Int) (m : Int) = ((n ^^^ m : Nat) : Int) := by
  unfold Builtin.bitXor
  rw [nnOr, nnAnd, and_or_xor]
  omega
theorem blen_bits (n : Nat) : Builtin.Int.intBits (n : Int) = blen n := by
  unfold Builtin.Int.intBits blen
  by_cases h : n = 0
  · subst h; rfl
  · have : ((n : Int) == 0) = false := by simp [h]
    rw [this]
    simp [h]

section
variable {X : Cx}
/-- two naturals, a condition, a natural -/
def rN (C : Nat → Nat → Prop) (g : Nat → Nat → Nat) : R2 := fun x y H Q => ∃ n m : Nat, x = .int (n : Int) ∧ y = .int (m : Int) ∧ C n m ∧ Q (.int (g n m : Nat)) H
def rN0 (g : Nat → Nat → Nat) : R2 := fun x y H Q => ∃ n m : Nat, x = .int (n : Int) ∧ y = .int (m : Int) ∧ Q (.int (g n m : Nat)) H
theorem on_xor : OpR X (binaryOp .BitXor) (fun x y H Q => ∃ n m : Nat, x = .int (n : Int) ∧ y = .int (m : Int) ∧ Q (.int ((n ^^^ m : Nat) : Int)) H) := by
  intro pins s σ H x y v u Q I rx ry h
  obtain ⟨n, m, rfl, rfl, q⟩ := h
  rw [← nnXor] at q
  exact op_xor pins s σ H _ _ v u Q I rx ry ⟨_, _, rfl, rfl, q⟩
theorem on_and : OpR X (binaryOp .BitAnd) (fun x y H Q => ∃ n m : Nat, x = .int (n : Int) ∧ y = .int (m : Int) ∧ Q (.int ((n &&& m : Nat) : Int)) H) := by
  intro pins s σ H x y v u Q I rx ry h
  obtain ⟨n, m, rfl, rfl, q⟩ := h
  rw [← nnAnd] at q
  exact op_and pins s σ H _ _ v u Q I rx ry ⟨_, _, rfl, rfl, q⟩
theorem on_or : OpR X (binaryOp .BitOr) (fun x y H Q => ∃ n m : Nat, x = .int (n : Int) ∧ y = .int (m : Int) ∧ Q (.int ((n ||| m : Nat) : Int)) H) := by
  intro pins s σ H x y v u Q I rx ry h
  obtain ⟨n, m, rfl, rfl, q⟩ := h
  rw [← nnOr] at q
  exact op_or pins s σ H _ _ v u Q I rx ry ⟨_, _, rfl, rfl, q⟩
theorem on_add : OpR X (binaryOp .Add) (fun x y H Q => ∃ n m : Nat, x = .int (n : Int) ∧ y = .int (m : Int) ∧ Q (.int ((n + m : Nat) : Int)) H) := op_addN
theorem on_sub : OpR X (binaryOp .Sub) (fun x y H Q => ∃ n m : Nat, x = .int (n : Int) ∧ y = .int (m : Int) ∧ (m ≤ n) ∧ Q (.int ((n - m : Nat) : Int)) H) := op_subN
theorem on_shr : OpR X (binaryOp .RShift) (fun x y H Q => ∃ n m : Nat, x = .int (n : Int) ∧ y = .int (m : Int) ∧ Q (.int ((n >>> m : Nat) : Int)) H) := by
  intro pins s σ H x y v u Q I rx ry h
  obtain ⟨n, m, rfl, rfl, q⟩ := h
  refine op_shrN pins s σ H _ _ v u Q I rx ry ⟨_, _, rfl, rfl, ?_⟩
  have e : ((n >>> m : Nat) : Int) = (n : Int) / 2 ^ m := by
    rw [Nat.shiftRight_eq_div_pow, Int.natCast_ediv]
    simp
  rw [← e]
  exact q
/-- a shift to the left: few bits in all -/
def CShN (n m : Nat) : Prop := blen n + m ≤ 100000000
theorem on_shl : OpR X (binaryOp .LShift) (fun x y H Q => ∃ n m : Nat, x = .int (n : Int) ∧ y = .int (m : Int) ∧ CShN n m ∧ Q (.int ((n <<< m : Nat) : Int)) H) := by
  intro pins s σ H x y v u Q I rx ry h
  obtain ⟨n, m, rfl, rfl, hc, q⟩ := h
  refine op_shlN pins s σ H _ _ v u Q I rx ry ⟨_, _, rfl, rfl, ⟨by omega, ?_⟩, ?_⟩
  · rw [blen_bits]
    have : blen n + m ≤ 100000000 := hc
    omega
  · have e : ((n <<< m : Nat) : Int) = (n : Int) * 2 ^ m := by
      rw [Nat.shiftLeft_eq]
      simp
    rw [← e]
    exact q
theorem on_mul : OpR X (binaryOp .Mult) (fun x y H Q => ∃ n m : Nat, x = .int (n : Int) ∧ y = .int (m : Int) ∧ (n < 2 ^ 64) ∧ Q (.int ((n * m : Nat) : Int)) H) := by
  intro pins s σ H x y v u Q I rx ry h
  obtain ⟨n, m, rfl, rfl, c, q⟩ := h
  rw [Int.natCast_mul] at q
  exact op_mul pins s σ H _ _ v u Q I rx ry ⟨_, _, rfl, rfl, show CMul (n : Int) (m : Int) from Or.inl ⟨by omega, by have : n < 18446744073709551616 := c; omega⟩, q⟩
theorem on_fdiv : OpR X (binaryOp .FloorDiv) (fun x y H Q => ∃ n m : Nat, x = .int (n : Int) ∧ y = .int (m : Int) ∧ (0 < m ∧ m < 1073741824) ∧ Q (.int ((n / m : Nat) : Int)) H) := op_fdivNN
/-- the left one any size, the divisor below 2 ^ 9000 -/
theorem on_fdivW : OpR X (binaryOp .FloorDiv) (fun x y H Q => ∃ n m : Nat, x = .int (n : Int) ∧ y = .int (m : Int) ∧ (0 < m ∧ m < 2 ^ 8999) ∧ Q (.int ((n / m : Nat) : Int)) H) := by
  intro pins s σ H x y v u Q I rx ry h
  obtain ⟨n, m, rfl, rfl, ⟨c1, c2⟩, q⟩ := h
  rw [Int.natCast_ediv] at q
  refine op_fdivW pins s σ H _ _ v u Q I rx ry ⟨_, _, rfl, rfl, wide_div (b := 8999) (by omega) ?_ (by decide) (by decide), q⟩
  simpa using c2
theorem on_mod : OpR X (binaryOp .Mod) (fun x y H Q => ∃ n m : Nat, x = .int (n : Int) ∧ y = .int (m : Int) ∧ (0 < m) ∧ Q (.int ((n % m : Nat) : Int)) H) := by
  intro pins s σ H x y v u Q I rx ry h
  obtain ⟨n, m, rfl, rfl, c, q⟩ := h
  rw [Int.natCast_emod] at q
  exact op_mod pins s σ H _ _ v u Q I rx ry ⟨_, _, rfl, rfl, show (0 : Int) < (m : Int) by have : 0 < m := c; omega, q⟩
end
end LaneX
set_option Elab.async false
set_option linter.all false
set_option maxRecDepth 100000
set_option maxHeartbeats 4000000
namespace LaneX
open PySem PySem.Spec PyProof.Rows L2

/-! ### defs, methods, classes by their names -/
section
variable (P : Program) (w : World) (K : PySem.W.Frag) (mg : Str → Option Value) (base : Heap)
/-- the def x keeps the promise sp at level k -/
structure Dn (k : Nat) (x : Str) (ps : List Str) (sp : Sp) : Prop where
  ex : ∃ (f : Addr) (fd : FuncData), mg x = some (.ref f) ∧ PySem.W.keepIn K (.ref f) = true ∧ Binds K fd ps [] ∧ FnOk P w K mg base CX0 k f fd ps sp
/-- the method m of the class at C -/
structure Mn (k : Nat) (C : Addr) (m : Str) (ps : List Str) (sp : Sp) : Prop where
  cl : Cls K C
  ex : ∃ (f : Addr) (fd : FuncData), Meth K C m f ∧ Binds K fd ps [] ∧ FnOk P w K mg base CX0 k f fd ps sp
/-- the class x at C, made by its __init__ -/
structure Kn (k : Nat) (C : Addr) (x : Str) (ps : List Str) (sp : Sp) : Prop where
  gl : mg x = some (.ref C)
  ex : ∃ (f : Addr) (fd : FuncData), Mk K C f ∧ Binds K fd ps [] ∧ FnOk P w K mg base CX0 k f fd ps sp
end
section
variable {X : Cx} {k j : Nat} {x m : Str} {ps : List Str} {sp : Sp} {C : Addr} {p pos apos : Pos} {e o : Expr} {es : List Expr} {t : TA} {to : TE}
theorem pe_d (D : Dn X.prog X.w X.K X.mg X.base k x ps sp) (hr : Room j X.A) (ha : PA X (e :: es) t) (hk : k ≤ j := by decide) (hg : Gl X x := by rfl) (hdb : (x == ("__debug__" : Str)) = false := by decide)
    (he : starEach (e :: es) X.env = (false, eval e X.env) :: starEach es X.env := by rfl) (hpl : (backTo pos (starEach es X.env)).any (·.1) = false := by rfl) :
    PE X (.Call (.Name x p) (e :: es) [] pos) (tCall sp [] E0 t) := by
  obtain ⟨f, fd, h1, h2, h3, h4⟩ := D.ex
  exact pe_call h4 (hr.mono hk) hg h1 h2 h3 .nil pass0 ha hdb he hpl
theorem pe_k (D : Kn X.prog X.w X.K X.mg X.base k C x ps sp) (hr : Room j X.A) (ha : PA X (e :: es) t) (hk : k + 1 ≤ j := by decide) (hg : Gl X x := by rfl) (hdb : (x == ("__debug__" : Str)) = false := by decide)
    (he : starEach (e :: es) X.env = (false, eval e X.env) :: starEach es X.env := by rfl) (hpl : (backTo pos (starEach es X.env)).any (·.1) = false := by rfl) :
    PE X (.Call (.Name x p) (e :: es) [] pos) (tMake C sp [] E0 t) := by
  obtain ⟨f, fd, h1, h3, h4⟩ := D.ex
  exact pe_make h1 h4 (hr.mono hk) hg D.gl h3 .nil pass0 ha hdb he hpl
theorem pe_m {pl : Sem Bool} (ho : PE X o to) (D : Mn X.prog X.w X.K X.mg X.base k C m ps sp) (hr : Room j X.A) (ha : PA X (e :: es) t) (hk : k ≤ j := by decide)
    (hst : starEach (e :: es) X.env = (false, eval e X.env) :: starEach es X.env := by rfl) (hpl : (backTo pos (starEach es X.env)).any (·.1) = false := by rfl)
    (ht : eval (.Call (.Attribute o m apos) (e :: es) [] pos) X.env = (do
      let ov ← eval o X.env
      standAt apos.atName
      let (f, first) ← holding [ov] (getMethod ov m pl)
      callWith pos f first (backTo pos (starEach (e :: es) X.env)) (backToKw pos (keywordEach [] X.env))) := by rfl) :
    PE X (.Call (.Attribute o m apos) (e :: es) [] pos) (tMeth C m sp [] E0 to t) := by
  obtain ⟨f, fd, h1, h3, h4⟩ := D.ex
  exact pe_meth ho D.cl h1 h4 (hr.mono hk) h3 .nil pass0 ha hst hpl ht
theorem pe_m0 {pl : Sem Bool} (ho : PE X o to) (D : Mn X.prog X.w X.K X.mg X.base k C m ps sp) (hr : Room j X.A) (hk : k ≤ j := by decide)
    (ht : eval (.Call (.Attribute o m apos) [] [] pos) X.env = (do
      let ov ← eval o X.env
      standAt apos.atName
      let (f, first) ← holding [ov] (getMethod ov m pl)
      callWith pos f first (backTo pos (starEach [] X.env)) (backToKw pos (keywordEach [] X.env))) := by rfl) :
    PE X (.Call (.Attribute o m apos) [] [] pos) (tMeth C m sp [] E0 to tNil) := by
  obtain ⟨f, fd, h1, h3, h4⟩ := D.ex
  exact pe_meth0 ho D.cl h1 h4 (hr.mono hk) h3 .nil pass0 ht
end
/-- a def of the text (no defaults) -/
abbrev FnP (K : PySem.W.Frag) (x qual : Str) (st : Stmt) (f : Addr) (fd : FuncData) : Prop := FunD K x qual (defArgs st) (defBody st) (defScope st) [] [] f fd
section
variable {P : Program} {w : World} {K : PySem.W.Frag} {mg : Str → Option Value} {base : Heap}
theorem fnok {x qual : Str} {st : Stmt} {f : Addr} {fd : FuncData} {N ps : List Str} {k : Nat} {sp : Sp} (F : FnP K x qual st f fd) (S : FnScope N ps (defScope st)) (len : ∀ vs H Q E, sp vs H Q E → vs.length = ps.length)
    (hbody : ∀ (cdv : Value) (A : Around) (outer : List Env) (s : Shared) (H : Hp) (vs : List V) (Q : VK) (E : XK), Room k (A.deeper (envOfC qual (defScope st) s.heap.objs.size f cdv)) → sp vs H Q E →
      ∃ t, PSs (cxOf CX0 P w K mg base N qual (defScope st) f cdv A outer s H E).nox (defBody st) t ∧ t { nx := fun _ H' => Q .non H', rt := Q } (start N vs) H) : FnOk P w K mg base CX0 (k + 1) f fd ps sp := by
  refine F.ok S len (fun cdv A outer s H vs Q E hr h => ?_)
  obtain ⟨t, h1, h2⟩ := hbody cdv A outer s H vs Q E hr h
  exact ⟨t, PSs.nox h1, h2⟩
end

/-! ### lists and tuples alike -/
def Sq (K : PySem.W.Frag) (H : Hp) (a : Addr) (xs : List V) : Prop := SqL K H a xs ∨ SqT K H a xs
def iSeq (K : PySem.W.Frag) (tl : TE) : TI := fun σ H R => tl σ H fun x H1 => ∃ (a : Addr) (xs : List V), x = .ref a ∧ ((SqL K H1 a xs ∧ R (Itl K a) H1) ∨ (SqT K H1 a xs ∧ R (Itt K a) H1))
theorem pi_seq {X : Cx} {tg : Expr} {l : Expr} {tl : TE} (hl : PE X l tl) : PI X tg l (iSeq X.K tl) := by
  refine ⟨fun pins s σ H R I h => ?_⟩
  refine thn (hl.run pins s σ H _ I h) fun v s1 hh => ?_
  obtain ⟨x, H1, I1, r1, a, xs, e, q⟩ := hh
  subst e
  cases r1
  have fp : ∀ b ∈ [s1.heap.objs.size], FpOk X pins H1 b := fun b hb => by
    have e : b = s1.heap.objs.size := by simpa using hb
    subst e
    exact I1.fpOk (Nat.le_refl _) (I1.hok.fresh (Nat.le_refl _))
  rcases q with ⟨hq, q⟩ | ⟨hq, q⟩
  · obtain ⟨its, rv, p, hz⟩ := I1.list hq
    exact wpAny_pyIter_list p.isList ⟨_, _, _, _, H1, rfl, I1.kept (t' := s1.toks) fun b o e => Heap.get?_push_of_some _ e, turn_list a _, ⟨_, Heap.get?_push_size _ rfl, rfl, rfl⟩, fp, q⟩
  · obtain ⟨its, rv, p, hz⟩ := I1.tuple hq
    exact wpAny_pyIter_tuple (show s1.heap.IsTuple a its.toArray from p) ⟨_, _, _, _, H1, rfl, I1.kept (t' := s1.toks) fun b o e => Heap.get?_push_of_some _ e, turn_tuple a _, ⟨_, Heap.get?_push_size _ rfl, rfl, rfl⟩, fp, q⟩

/-! ### heaps: all is kept; all but dicts is kept -/
/-- all but a dict whose first key is a text (the pen) -/
def notD : HO → Bool
  | .dK ((.inr _, _) :: _) => false
  | _ => true
structure Kp (H H' : Hp) : Prop where
  keep : ∀ b o, H b = some o → notD o = true → H' b = some o
  free : ∀ b, H' b = none → H b = none
instance {H H' : Hp} : CoeFun (Kp H H') (fun _ => ∀ b o, H b = some o → notD o = true → H' b = some o) := ⟨Kp.keep⟩
theorem Kp.refl (H : Hp) : Kp H H := ⟨fun _ _ h _ => h, fun _ h => h⟩
theorem Kp.of {H H' : Hp} (s : Same H H') : Kp H H' := ⟨fun b o h _ => s b o h, fun b h => s.free h⟩
theorem Kp.trans {H H1 H2 : Hp} (a : Kp H H1) (b : Kp H1 H2) : Kp H H2 := ⟨fun c o h n => b.keep c o (a.keep c o h n) n, fun c h => a.free c (b.free c h)⟩
theorem upd_new {H : Hp} {p a : Addr} {o u : HO} (n : H p = none) (h : H a = some u) : upd H p o a = some u := (upd_ne (ne_of_none h n)).trans h
theorem same_new {H H' : Hp} {p : Addr} {o : HO} (s : Same H H') (n : H' p = none) : Same H (upd H' p o) := fun b u e => upd_new n (s b u e)
theorem same_new0 {H : Hp} {p : Addr} {o : HO} (n : H p = none) : Same H (upd H p o) := fun b u e => upd_new n e
/-- a list of one's own is written -/
theorem same_put {H H' : Hp} {p : Addr} {o : HO} (s : Same H H') (n : H p = none) : Same H (upd H' p o) := fun b u e => (upd_ne (ne_of_none e n)).trans (s b u e)
theorem upd_free {H : Hp} {p b : Addr} {o : HO} (h : upd H p o b = none) : H b = none := by
  by_cases e : b = p
  · subst e; rw [upd_same] at h; cases h
  · rw [upd_ne e] at h; exact h
theorem kp_new {H H' : Hp} {p : Addr} {o : HO} (s : Kp H H') (n : H' p = none) : Kp H (upd H' p o) := ⟨fun b u e q => upd_new n (s.keep b u e q), fun b h => s.free b (upd_free h)⟩
theorem kp_put {H H' : Hp} {p : Addr} {o : HO} (s : Kp H H') (n : H p = none) : Kp H (upd H' p o) := ⟨fun b u e q => (upd_ne (ne_of_none e n)).trans (s.keep b u e q), fun b h => s.free b (upd_free h)⟩
theorem same_l {H H' : Hp} (s : Same H H') {a : Addr} {xs : List V} (h : H a = some (.lst xs)) : H' a = some (.lst xs) := s _ _ h
theorem same_sq {K : PySem.W.Frag} {H H' : Hp} (s : Same H H') {a : Addr} {xs : List V} (h : Sq K H a xs) : Sq K H' a xs := by
  rcases h with h | h
  · exact .inl (s.seq h)
  · refine .inr ?_
    rcases h with (h | ⟨o, h⟩) | h
    · exact .inl (.inl (s _ _ h))
    · exact .inl (.inr ⟨o, s _ _ h⟩)
    · exact .inr h
theorem kp_sqL {K : PySem.W.Frag} {H H' : Hp} (s : Kp H H') {a : Addr} {xs : List V} (h : SqL K H a xs) : SqL K H' a xs := by
  rcases h with (h | ⟨o, h⟩) | h
  · exact .inl (.inl (s _ _ h rfl))
  · exact .inl (.inr ⟨o, s _ _ h rfl⟩)
  · exact .inr h
theorem kp_sqT {K : PySem.W.Frag} {H H' : Hp} (s : Kp H H') {a : Addr} {xs : List V} (h : SqT K H a xs) : SqT K H' a xs := by
  rcases h with (h | ⟨o, h⟩) | h
  · exact .inl (.inl (s _ _ h rfl))
  · exact .inl (.inr ⟨o, s _ _ h rfl⟩)
  · exact .inr h
theorem kp_sq {K : PySem.W.Frag} {H H' : Hp} (s : Kp H H') {a : Addr} {xs : List V} (h : Sq K H a xs) : Sq K H' a xs := h.elim (fun h => .inl (kp_sqL s h)) fun h => .inr (kp_sqT s h)
theorem Sq.l {K : PySem.W.Frag} {H : Hp} {a : Addr} {xs : List V} (h : H a = some (.lst xs)) : Sq K H a xs := .inl (SqL.of h)
theorem Sq.t {K : PySem.W.Frag} {H : Hp} {a : Addr} {xs : List V} (h : H a = some (.tup xs)) : Sq K H a xs := .inr (SqT.of h)

/-- a tracked list or tuple -/
def Tq (H : Hp) (a : Addr) (xs : List V) : Prop := H a = some (.lst xs) ∨ H a = some (.tup xs)
theorem Tq.sq {K : PySem.W.Frag} {H : Hp} {a : Addr} {xs : List V} (h : Tq H a xs) : Sq K H a xs := h.elim Sq.l Sq.t
theorem Tq.l {H : Hp} {a : Addr} {xs : List V} (h : H a = some (.lst xs)) : Tq H a xs := .inl h
theorem Tq.t {H : Hp} {a : Addr} {xs : List V} (h : H a = some (.tup xs)) : Tq H a xs := .inr h
theorem same_tq {H H' : Hp} (s : Same H H') {a : Addr} {xs : List V} (h : Tq H a xs) : Tq H' a xs := h.elim (fun h => .inl (s _ _ h)) fun h => .inr (s _ _ h)
theorem kp_tq {H H' : Hp} (s : Kp H H') {a : Addr} {xs : List V} (h : Tq H a xs) : Tq H' a xs := h.elim (fun h => .inl (s _ _ h rfl)) fun h => .inr (s _ _ h rfl)
theorem Tq.new {H : Hp} {a p : Addr} {o : HO} {xs : List V} (h : Tq H a xs) (n : H p = none) : Tq (upd H p o) a xs := h.elim (fun h => .inl (upd_new n h)) fun h => .inr (upd_new n h)
theorem Tq.sqlt {K : PySem.W.Frag} {H : Hp} {a : Addr} {xs : List V} (h : Tq H a xs) : SqL K H a xs ∨ SqT K H a xs := h.elim (fun h => .inl (SqL.of h)) fun h => .inr (SqT.of h)
theorem Tq.ty {K : PySem.W.Frag} {H : Hp} {a : Addr} {xs : List V} (h : Tq H a xs) : ∃ t, TyX K H (.ref a) t ∧ PySem.W.kitAny K t [.type "list", .type "tuple"] = some true := by
  rcases h with h | h
  · exact ⟨_, .base (.lst h), kitAny_cons (b := true) (kit_ty (by decide +kernel)) (fun z => by cases z) (fun _ => rfl)⟩
  · exact ⟨_, .base (.tup h), kitAny_cons (b := false) (kit_ty (by decide +kernel)) (fun _ => kitAny_cons (b := true) (kit_ty (by decide +kernel)) (fun z => by cases z) (fun _ => rfl)) (fun z => by cases z)⟩

theorem same_free {H H' : Hp} (e : Same H H') {l : Addr} (h : H' l = none) : H l = none := e.free h
theorem map_get {α : Type} {g : α → V} {l : List α} {i : Nat} {x : V} (h : (l.map g)[i]? = some x) : ∃ n, l[i]? = some n ∧ x = g n := by
  rw [List.getElem?_map] at h
  cases e : l[i]? with
  | none => rw [e] at h; cases h
  | some n => rw [e] at h; exact ⟨n, rfl, (Option.some.inj h).symm⟩
/-! ### a for, a comprehension over a list or tuple, over a range -/
def ForR (g : TG) (tb : TS) (D : Ends) (σ : L2.St) : It → Hp → Prop := fun J H => ∃ W : Nat → Nat → L2.St → Hp → Prop, (∃ m, W 0 m σ H) ∧ ∀ i m σ H, W i m σ H →
  (J.stop i H ∧ D.nx σ H) ∨ (J.go i H ∧ ∃ N : L2.St → Hp → Prop, (∀ σ' H', N σ' H' → ∃ m', m' < m ∧ W (i + 1) m' σ' H') ∧ ∀ x H', J.yld i H x H' → g x σ H' fun σ2 H2 => tb { D with nx := N, ct := N, bk := D.nx } σ2 H2)
def LcR (g : TG) (tt : TT) (te : TE) (vs : List Nat) (σ : L2.St) (Q : Addr → Hp → Prop) : It → Hp → Prop := fun J H1 => ∀ D, H1 D = none → ∃ W : Nat → Nat → Hp → Prop, (∃ m, W 0 m (upd H1 D (.lst []))) ∧ ∀ i m H, W i m H →
  (J.stop i H ∧ Q D H) ∨ (J.go i H ∧ ∃ Nx : Hp → Prop, (∀ H', Nx H' → ∃ m', m' < m ∧ W (i + 1) m' H') ∧ ∀ x H', J.yld i H x H' → g x (wipe σ vs) H' fun σ2 H2 => wipe σ2 vs = wipe σ vs ∧ tt σ2 H2 fun b H3 =>
    if b = true then te σ2 H3 fun y H4 => ∃ acc, H4 D = some (.lst acc) ∧ acc.length < sizeLine ∧ Nx (upd H4 D (.lst (acc ++ [y]))) else Nx H3)
theorem for_seq {K : PySem.W.Frag} {a : Addr} {xs : List V} {g : TG} {tb : TS} {D : Ends} {σ : L2.St} {H : Hp} (hS : Sq K H a xs) (Pv : Nat → L2.St → Hp → Prop) (h0 : Pv 0 σ H) (hk : ∀ i σ' H', Pv i σ' H' → Kp H H')
    (hs : ∀ i x σ H, xs[i]? = some x → Pv i σ H → g x σ H fun σ2 H2 => tb { D with nx := Pv (i + 1), ct := Pv (i + 1), bk := D.nx } σ2 H2) (hd : ∀ σ H, Pv xs.length σ H → D.nx σ H) :
    ∃ (a' : Addr) (xs' : List V), V.ref a = .ref a' ∧ ((SqL K H a' xs' ∧ ForR g tb D σ (Itl K a') H) ∨ (SqT K H a' xs' ∧ ForR g tb D σ (Itt K a') H)) := by
  refine ⟨a, xs, rfl, ?_⟩
  rcases hS with h | h
  · exact .inl ⟨h, for_it walk_list Pv h0 (fun i σ' H' hi p => kp_sqL (hk i σ' H' p) h) (fun i x σ' H' H'' _ p y => by obtain ⟨e, hx⟩ := y; subst e; exact hs i x σ' _ hx p) hd⟩
  · exact .inr ⟨h, for_it walk_tup Pv h0 (fun i σ' H' hi p => kp_sqT (hk i σ' H' p) h) (fun i x σ' H' H'' _ p y => by obtain ⟨e, hx⟩ := y; subst e; exact hs i x σ' _ hx p) hd⟩
/-- .. where what is walked alone must stay -/
theorem for_sq2 {K : PySem.W.Frag} {a : Addr} {xs : List V} {g : TG} {tb : TS} {D : Ends} {σ : L2.St} {H : Hp} (hS : Tq H a xs) (Pv : Nat → L2.St → Hp → Prop) (h0 : Pv 0 σ H) (hk : ∀ i σ' H', Pv i σ' H' → ∀ o, H a = some o → H' a = some o)
    (hs : ∀ i x σ H, xs[i]? = some x → Pv i σ H → g x σ H fun σ2 H2 => tb { D with nx := Pv (i + 1), ct := Pv (i + 1), bk := D.nx } σ2 H2) (hd : ∀ σ H, Pv xs.length σ H → D.nx σ H) :
    ∃ (a' : Addr) (xs' : List V), V.ref a = .ref a' ∧ ((SqL K H a' xs' ∧ ForR g tb D σ (Itl K a') H) ∨ (SqT K H a' xs' ∧ ForR g tb D σ (Itt K a') H)) := by
  refine ⟨a, xs, rfl, ?_⟩
  rcases hS with h | h
  · exact .inl ⟨SqL.of h, for_it walk_list Pv h0 (fun i σ' H' hi p => SqL.of (hk i σ' H' p _ h)) (fun i x σ' H' H'' _ p y => by obtain ⟨e, hx⟩ := y; subst e; exact hs i x σ' _ hx p) hd⟩
  · exact .inr ⟨SqT.of h, for_it walk_tup Pv h0 (fun i σ' H' hi p => SqT.of (hk i σ' H' p _ h)) (fun i x σ' H' H'' _ p y => by obtain ⟨e, hx⟩ := y; subst e; exact hs i x σ' _ hx p) hd⟩
/-- what stood under the loop stands, by what stood ahead -/
theorem stay_of {H HB H2 : Hp} {a : Addr} {u : HO} (h : H a = some u) (s0 : Same H HB) (s2 : ∀ c o, H c = some o → H2 c = some o) : ∀ o, HB a = some o → H2 a = some o := fun o ho => by
  rw [s0 _ _ h] at ho
  cases ho
  exact s2 _ _ h
/-- Pv speaks of the heap and the new list at D -/
theorem lc_seq {K : PySem.W.Frag} {a : Addr} {xs : List V} {g : TG} {tt : TT} {te : TE} {vs : List Nat} {σ : L2.St} {H : Hp} {Q : Addr → Hp → Prop} (hS : Sq K H a xs) (Pv : Addr → Nat → Hp → Prop) (h0 : ∀ D, H D = none → Pv D 0 (upd H D (.lst [])))
    (hk : ∀ D i H', H D = none → Pv D i H' → Kp H H')
    (hs : ∀ D i x H', H D = none → xs[i]? = some x → Pv D i H' → g x (wipe σ vs) H' fun σ2 H2 => wipe σ2 vs = wipe σ vs ∧ tt σ2 H2 fun b H3 =>
      if b = true then te σ2 H3 fun y H4 => ∃ acc, H4 D = some (.lst acc) ∧ acc.length < sizeLine ∧ Pv D (i + 1) (upd H4 D (.lst (acc ++ [y]))) else Pv D (i + 1) H3) (hd : ∀ D H', H D = none → Pv D xs.length H' → Q D H') :
    ∃ (a' : Addr) (xs' : List V), V.ref a = .ref a' ∧ ((SqL K H a' xs' ∧ LcR g tt te vs σ Q (Itl K a') H) ∨ (SqT K H a' xs' ∧ LcR g tt te vs σ Q (Itt K a') H)) := by
  refine ⟨a, xs, rfl, ?_⟩
  rcases hS with h | h
  · exact .inl ⟨h, fun D hD => lc_it walk_list (Pv D) (h0 D hD) (fun i H' _ p => kp_sqL (hk D i H' hD p) h) (fun i x H' H'' _ p y => by obtain ⟨e, hx⟩ := y; subst e; exact hs D i x _ hD hx p) fun H' p => hd D H' hD p⟩
  · exact .inr ⟨h, fun D hD => lc_it walk_tup (Pv D) (h0 D hD) (fun i H' _ p => kp_sqT (hk D i H' hD p) h) (fun i x H' H'' _ p y => by obtain ⟨e, hx⟩ := y; subst e; exact hs D i x _ hD hx p) fun H' p => hd D H' hD p⟩
/-! ### pure comprehensions -/
theorem br {b : Bool} {A B : Prop} (h1 : b = true → A) (h2 : b = false → B) : if b = true then A else B := by
  cases b with
  | true => exact iteT (h1 rfl)
  | false => exact iteF (h2 rfl)
theorem take_succ {α : Type} {l : List α} {i : Nat} {x : α} (h : l[i]? = some x) : l.take (i + 1) = l.take i ++ [x] := by
  rw [List.take_succ, h]
  rfl
theorem size6 {n : Nat} (h : n ≤ 1000000) : n < sizeLine := by rw [sizeLine_eq]; omega
theorem size6' {n : Nat} (h : n ≤ 1000000) : n ≤ sizeLine := Nat.le_of_lt (size6 h)
section
variable {α : Type} {K : PySem.W.Frag} {g : TG} {tt : TT} {te : TE} {vs : List Nat} {σ : L2.St} {H : Hp} {Q : Addr → Hp → Prop}
/-- one turn of a comprehension: all is kept, the item is v n if p n -/
def LcT (g : TG) (tt : TT) (te : TE) (vs : List Nat) (σ : L2.St) (x : V) (H' : Hp) (p : Bool) (v : V) : Prop :=
  ∀ (Z : VK) (Nx : Hp → Prop), (p = true → ∀ H4, Same H' H4 → Z v H4) → (p = false → ∀ H4, Same H' H4 → Nx H4) →
    g x (wipe σ vs) H' fun σ2 H2 => wipe σ2 vs = wipe σ vs ∧ tt σ2 H2 fun b H3 => if b = true then te σ2 H3 Z else Nx H3
theorem lc_turn {l : List α} {ι : α → V} {p : α → Bool} {v : α → V} (hlen : l.length ≤ 1000000) {D : Addr} {i : Nat} {n : α} {H' : Hp} (hD : H D = none) (hn : l[i]? = some n) (s : Same H H') (hH : H' D = some (.lst (((l.take i).filter p).map v)))
    (hs : LcT g tt te vs σ (ι n) H' (p n) (v n)) :
    g (ι n) (wipe σ vs) H' fun σ2 H2 => wipe σ2 vs = wipe σ vs ∧ tt σ2 H2 fun b H3 =>
      if b = true then te σ2 H3 fun y H4 => ∃ acc, H4 D = some (.lst acc) ∧ acc.length < sizeLine ∧ (Same H (upd H4 D (.lst (acc ++ [y]))) ∧ upd H4 D (.lst (acc ++ [y])) D = some (.lst (((l.take (i + 1)).filter p).map v))) else (Same H H3 ∧ H3 D = some (.lst (((l.take (i + 1)).filter p).map v))) := by
  have e1 := take_succ hn
  refine hs _ _ (fun hp H4 s4 => ⟨_, s4 _ _ hH, ?_, same_put (s.trans s4) hD, ?_⟩) (fun hp H4 s4 => ⟨s.trans s4, ?_⟩)
  · refine size6 (Nat.le_trans ?_ hlen)
    rw [List.length_map]
    exact Nat.le_trans (List.length_filter_le _ _) (by rw [List.length_take]; omega)
  · rw [upd_same, e1, List.filter_append, List.map_append]
    simp [hp]
  · rw [s4 _ _ hH, e1, List.filter_append, List.map_append]
    simp [hp]
theorem lc_pure {a : Addr} (l : List α) (ι : α → V) (p : α → Bool) (v : α → V) (hS : Tq H a (l.map ι)) (hlen : l.length ≤ 1000000) (hs : ∀ n H', n ∈ l → Same H H' → LcT g tt te vs σ (ι n) H' (p n) (v n))
    (hd : ∀ D H', H D = none → Same H H' → H' D = some (.lst ((l.filter p).map v)) → Q D H') :
    ∃ (a' : Addr) (xs' : List V), V.ref a = .ref a' ∧ ((SqL K H a' xs' ∧ LcR g tt te vs σ Q (Itl K a') H) ∨ (SqT K H a' xs' ∧ LcR g tt te vs σ Q (Itt K a') H)) := by
  refine lc_seq hS.sq (fun D i H' => Same H H' ∧ H' D = some (.lst (((l.take i).filter p).map v))) (fun D hD => ⟨same_new0 hD, upd_same⟩) (fun D i H' hD hp => Kp.of hp.1) (fun D i x H' hD hx hp => ?_) (fun D H' hD hp => ?_)
  · obtain ⟨n, hn, rfl⟩ := map_get hx
    exact lc_turn hlen hD hn hp.1 hp.2 (hs n H' (List.mem_of_getElem? hn) hp.1)
  · obtain ⟨h1, h2⟩ := hp
    rw [List.length_map, List.take_length] at h2
    exact hd D H' hD h1 h2
theorem range_get {n i : Nat} (h : i < n) : (List.range n)[i]? = some i := by simp [h]
/-- .. over range(n) -/
theorem lc_pureR {n : Nat} (p : Nat → Bool) (v : Nat → V) (hlen : n ≤ 1000000) (hs : ∀ i H', i < n → Same H H' → LcT g tt te vs σ (vN i) H' (p i) (v i))
    (hd : ∀ D H', H D = none → Same H H' → H' D = some (.lst (((List.range n).filter p).map v)) → Q D H') : LcR g tt te vs σ Q (Itr 0 n) H := by
  intro D hD
  refine lc_range (fun i H' => Same H H' ∧ H' D = some (.lst ((((List.range n).take i).filter p).map v))) ⟨same_new0 hD, by simpa using upd_same⟩ (fun i H' hi hp => ?_) (fun H' hp => ?_)
  · have q := lc_turn (ι := vN) (l := List.range n) (by simpa using hlen) hD (range_get hi) hp.1 hp.2 (hs i H' hi hp.1)
    rw [show (0 : Int) + (i : Int) = (i : Int) by omega]
    exact q
  · obtain ⟨h1, h2⟩ := hp
    rw [List.take_of_length_le (by simp)] at h2
    exact hd D H' hD h1 h2
end
section
variable {X : Cx}
/-- sorted(xs), naturals -/
theorem cr_sortedN : CallR X (.builtin "sorted") (fun xs H Q => ∃ (a : Addr) (ns : List Nat), xs = [.ref a] ∧ H a = some (.lst (ns.map vN)) ∧ ∀ p, H p = none → Q (.ref p) (upd H p (.lst ((srt ns).map vN)))) := by
  intro pins s σ H xs us Q I r h
  obtain ⟨a, ns, rfl, hS, h⟩ := h
  have em : ∀ l : List Nat, l.map vN = (l.map Int.ofNat).map V.int := fun l => by rw [List.map_map]; rfl
  refine cr_sortedI pins s σ H _ us Q I r ⟨a, ns.map Int.ofNat, rfl, SqL.of (by rw [← em]; exact hS), fun ns' p hp hs hn => ?_⟩
  have e : ns' = (srt ns).map Int.ofNat := by
    have e1 : ns' = (ns'.map Int.toNat).map Int.ofNat := by
      rw [List.map_map]
      have : ∀ z ∈ ns', (Int.ofNat ∘ Int.toNat) z = z := fun z hz => by
        obtain ⟨k, _, hk⟩ := List.mem_map.mp (hp.mem_iff.mp hz)
        subst hk
        rfl
      rw [List.map_congr_left this, List.map_id']
    have e2 : ns'.map Int.toNat = srt ns := by
      refine srt_of ?_ ?_
      · have := hp.map Int.toNat
        rw [List.map_map] at this
        have e3 : ns.map (Int.toNat ∘ Int.ofNat) = ns := by
          exact (List.map_congr_left (g := id) (fun z _ => rfl)).trans (List.map_id _)
        rw [e3] at this
        exact this
      · rw [List.pairwise_map]
        exact hs.imp fun h => by omega
    rw [← e2]
    exact e1
  rw [e, ← em]
  exact h p hn
end
/-! ### items by place, ranges -/
section
variable {X : Cx}
def rIxQ : R2 := fun x y H Q => ∃ (p : Addr) (xs : List V) (n : Nat) (v : V), x = .ref p ∧ y = .int (n : Int) ∧ Tq H p xs ∧ xs[n]? = some v ∧ Q v H
theorem ix_q : IxR X rIxQ := by
  intro value slice pins s σ H x y v u Q I rx ry h hs
  obtain ⟨p, xs, n, z, rfl, rfl, hq, he, q⟩ := h
  refine ix_seq value slice pins s σ H _ _ v u Q I rx ry ?_ hs
  rcases hq with hq | hq
  · exact .inl ⟨p, xs, n, z, rfl, rfl, SqL.of hq, atI_nat he, q⟩
  · exact .inr (.inl ⟨p, xs, n, z, rfl, rfl, SqT.of hq, atI_nat he, q⟩)
theorem call_lenQ : CallR X (.builtin "len") (fun xs H Q => ∃ (p : Addr) (ys : List V), xs = [.ref p] ∧ Tq H p ys ∧ Q (.int (ys.length : Nat)) H) := by
  intro pins s σ H xs us Q I r h
  obtain ⟨p, ys, rfl, hq, q⟩ := h
  exact call_len_seq pins s σ H _ us Q I r ⟨p, ys, rfl, hq.sqlt, q⟩
theorem call_listQ : CallR X (.type "list") (fun xs H Q => ∃ (p : Addr) (ys : List V), xs = [.ref p] ∧ Tq H p ys ∧ ∀ l, H l = none → Q (.ref l) (upd H l (.lst ys))) := by
  intro pins s σ H xs us Q I r h
  obtain ⟨p, ys, rfl, hq, q⟩ := h
  exact call_list_of pins s σ H _ us Q I r ⟨p, ys, rfl, hq.sqlt, q⟩
/-- tuple(xs), xs a list -/
theorem call_tupleQ : CallR X (.type "tuple") (fun xs H Q => ∃ (p : Addr) (ys : List V), xs = [.ref p] ∧ H p = some (.lst ys) ∧ ∀ l, H l = none → Q (.ref l) (upd H l (.tup ys))) := by
  intro pins s σ H xs us Q I r h
  obtain ⟨p, ys, rfl, hq, q⟩ := h
  exact call_tuple_of pins s σ H _ us Q I r ⟨p, ys, rfl, .inl ⟨SqL.of hq, q⟩⟩
end
end LaneX
set_option Elab.async false
set_option linter.all false
set_option maxRecDepth 100000
set_option maxHeartbeats 4000000
namespace LaneX
open PySem PySem.Spec PyProof.Rows L2
def top (i : Nat) : Stmt := PySem.Challenge.pw_laneswap_k38_whole_widths.main.body.getD i (.Pass ⟨0, 0, 0, 0⟩)
abbrev s__wall : Stmt := top 0
theorem sc__wall : FnScope ["k"] ["k"] (defScope s__wall) := ⟨rfl, rfl, rfl, by decide +kernel, rfl, by decide +kernel, by decide +kernel⟩
abbrev s_is_whole : Stmt := top 7
theorem sc_is_whole : FnScope ["value"] ["value"] (defScope s_is_whole) := ⟨rfl, rfl, rfl, by decide +kernel, rfl, by decide +kernel, by decide +kernel⟩
abbrev s_need_whole : Stmt := top 8
theorem sc_need_whole : FnScope ["value"] ["value"] (defScope s_need_whole) := ⟨rfl, rfl, rfl, by decide +kernel, rfl, by decide +kernel, by decide +kernel⟩
abbrev s_need_items : Stmt := top 9
theorem sc_need_items : FnScope ["value"] ["value"] (defScope s_need_items) := ⟨rfl, rfl, rfl, by decide +kernel, rfl, by decide +kernel, by decide +kernel⟩
abbrev s_need_word : Stmt := top 10
theorem sc_need_word : FnScope ["value", "bits"] ["value", "bits"] (defScope s_need_word) := ⟨rfl, rfl, rfl, by decide +kernel, rfl, by decide +kernel, by decide +kernel⟩
abbrev s_need_words : Stmt := top 11
theorem sc_need_words : FnScope ["values", "bits", "value"] ["values", "bits"] (defScope s_need_words) := ⟨rfl, rfl, rfl, by decide +kernel, rfl, by decide +kernel, by decide +kernel⟩
abbrev s_cleared : Stmt := top 13
theorem sc_cleared : FnScope ["rows", "word", "left", "row"] ["rows", "word"] (defScope s_cleared) := ⟨rfl, rfl, rfl, by decide +kernel, rfl, by decide +kernel, by decide +kernel⟩
abbrev s_grown : Stmt := top 14
theorem sc_grown : FnScope ["rows", "word", "left", "top", "row"] ["rows", "word"] (defScope s_grown) := ⟨rfl, rfl, rfl, by decide +kernel, rfl, by decide +kernel, by decide +kernel⟩
abbrev s_spanned : Stmt := top 15
theorem sc_spanned : FnScope ["words", "rows", "word"] ["words"] (defScope s_spanned) := ⟨rfl, rfl, rfl, by decide +kernel, rfl, by decide +kernel, by decide +kernel⟩
abbrev s_tops_of : Stmt := top 16
theorem sc_tops_of : FnScope ["rows", "row"] ["rows"] (defScope s_tops_of) := ⟨rfl, rfl, rfl, by decide +kernel, rfl, by decide +kernel, by decide +kernel⟩
abbrev s_missing : Stmt := top 17
theorem sc_missing : FnScope ["rows", "tops", "bit"] ["rows"] (defScope s_missing) := ⟨rfl, rfl, rfl, by decide +kernel, rfl, by decide +kernel, by decide +kernel⟩
abbrev s_met : Stmt := top 18
theorem sc_met : FnScope ["bits", "rows", "others", "both", "row"] ["bits", "rows", "others"] (defScope s_met) := ⟨rfl, rfl, rfl, by decide +kernel, rfl, by decide +kernel, by decide +kernel⟩
abbrev s_Space_init : Stmt := inClass (top 20) 0
theorem sc_Space_init : FnScope ["self", "bits", "words"] ["self", "bits", "words"] (defScope s_Space_init) := ⟨rfl, rfl, rfl, by decide +kernel, rfl, by decide +kernel, by decide +kernel⟩
abbrev s_Space_eq : Stmt := inClass (top 20) 1
theorem sc_Space_eq : FnScope ["self", "other"] ["self", "other"] (defScope s_Space_eq) := ⟨rfl, rfl, rfl, by decide +kernel, rfl, by decide +kernel, by decide +kernel⟩
abbrev s_Space_contains : Stmt := inClass (top 20) 2
theorem sc_Space_contains : FnScope ["self", "word"] ["self", "word"] (defScope s_Space_contains) := ⟨rfl, rfl, rfl, by decide +kernel, rfl, by decide +kernel, by decide +kernel⟩
abbrev s_Space_and : Stmt := inClass (top 20) 3
theorem sc_Space_and : FnScope ["self", "other"] ["self", "other"] (defScope s_Space_and) := ⟨rfl, rfl, rfl, by decide +kernel, rfl, by decide +kernel, by decide +kernel⟩
abbrev s_Space_add : Stmt := inClass (top 20) 4
theorem sc_Space_add : FnScope ["self", "other"] ["self", "other"] (defScope s_Space_add) := ⟨rfl, rfl, rfl, by decide +kernel, rfl, by decide +kernel, by decide +kernel⟩
abbrev s_Space_inside : Stmt := inClass (top 20) 5
theorem sc_Space_inside : FnScope ["self", "other", "row"] ["self", "other"] (defScope s_Space_inside) := ⟨rfl, rfl, rfl, by decide +kernel, rfl, by decide +kernel, by decide +kernel⟩
abbrev s_Space_least : Stmt := inClass (top 20) 6
theorem sc_Space_least : FnScope ["self", "word"] ["self", "word"] (defScope s_Space_least) := ⟨rfl, rfl, rfl, by decide +kernel, rfl, by decide +kernel, by decide +kernel⟩
abbrev s_Space_listed : Stmt := inClass (top 20) 7
theorem sc_Space_listed : FnScope ["self", "word"] ["self", "word"] (defScope s_Space_listed) := ⟨rfl, rfl, rfl, by decide +kernel, rfl, by decide +kernel, by decide +kernel⟩
abbrev s_Space_completing : Stmt := inClass (top 20) 8
theorem sc_Space_completing : FnScope ["self", "other", "rows", "found", "row"] ["self", "other"] (defScope s_Space_completing) := ⟨rfl, rfl, rfl, by decide +kernel, rfl, by decide +kernel, by decide +kernel⟩
abbrev s_Space_complement : Stmt := inClass (top 20) 9
theorem sc_Space_complement : FnScope ["self"] ["self"] (defScope s_Space_complement) := ⟨rfl, rfl, rfl, by decide +kernel, rfl, by decide +kernel, by decide +kernel⟩
abbrev s_need_space : Stmt := top 21
theorem sc_need_space : FnScope ["value", "bits"] ["value", "bits"] (defScope s_need_space) := ⟨rfl, rfl, rfl, by decide +kernel, rfl, by decide +kernel, by decide +kernel⟩
abbrev s_Spread_init : Stmt := inClass (top 23) 0
theorem sc_Spread_init : FnScope ["self", "bits", "slots", "lanes", "rows"] ["self", "bits", "slots", "lanes"] (defScope s_Spread_init) := ⟨rfl, rfl, rfl, by decide +kernel, rfl, by decide +kernel, by decide +kernel⟩
abbrev s_Spread_eq : Stmt := inClass (top 23) 1
theorem sc_Spread_eq : FnScope ["self", "other"] ["self", "other"] (defScope s_Spread_eq) := ⟨rfl, rfl, rfl, by decide +kernel, rfl, by decide +kernel, by decide +kernel⟩
abbrev s_Spread_or : Stmt := inClass (top 23) 2
theorem sc_Spread_or : FnScope ["self", "other", "slots", "lanes", "word"] ["self", "other"] (defScope s_Spread_or) := ⟨rfl, rfl, rfl, by decide +kernel, rfl, by decide +kernel, by decide +kernel⟩
abbrev s_Spread_floordiv : Stmt := inClass (top 23) 3
theorem sc_Spread_floordiv : FnScope ["self", "one", "slots", "lanes"] ["self", "one"] (defScope s_Spread_floordiv) := ⟨rfl, rfl, rfl, by decide +kernel, rfl, by decide +kernel, by decide +kernel⟩
abbrev s_Spread_entry : Stmt := inClass (top 23) 4
theorem sc_Spread_entry : FnScope ["self", "slot", "lane"] ["self", "slot", "lane"] (defScope s_Spread_entry) := ⟨rfl, rfl, rfl, by decide +kernel, rfl, by decide +kernel, by decide +kernel⟩
abbrev s_Spread_lane_of : Stmt := inClass (top 23) 5
theorem sc_Spread_lane_of : FnScope ["self", "entry"] ["self", "entry"] (defScope s_Spread_lane_of) := ⟨rfl, rfl, rfl, by decide +kernel, rfl, by decide +kernel, by decide +kernel⟩
abbrev s_Spread_slot_of : Stmt := inClass (top 23) 6
theorem sc_Spread_slot_of : FnScope ["self", "entry", "lane"] ["self", "entry", "lane"] (defScope s_Spread_slot_of) := ⟨rfl, rfl, rfl, by decide +kernel, rfl, by decide +kernel, by decide +kernel⟩
abbrev s_Spread_held : Stmt := inClass (top 23) 7
theorem sc_Spread_held : FnScope ["self", "lane"] ["self", "lane"] (defScope s_Spread_held) := ⟨rfl, rfl, rfl, by decide +kernel, rfl, by decide +kernel, by decide +kernel⟩
abbrev s_Spread_slot_space : Stmt := inClass (top 23) 8
theorem sc_Spread_slot_space : FnScope ["self"] ["self"] (defScope s_Spread_slot_space) := ⟨rfl, rfl, rfl, by decide +kernel, rfl, by decide +kernel, by decide +kernel⟩
abbrev s_Spread_lane_space : Stmt := inClass (top 23) 9
theorem sc_Spread_lane_space : FnScope ["self"] ["self"] (defScope s_Spread_lane_space) := ⟨rfl, rfl, rfl, by decide +kernel, rfl, by decide +kernel, by decide +kernel⟩
abbrev s_Spread_twins : Stmt := inClass (top 23) 10
theorem sc_Spread_twins : FnScope ["self"] ["self"] (defScope s_Spread_twins) := ⟨rfl, rfl, rfl, by decide +kernel, rfl, by decide +kernel, by decide +kernel⟩
abbrev s_Spread_copies : Stmt := inClass (top 23) 11
theorem sc_Spread_copies : FnScope ["self"] ["self"] (defScope s_Spread_copies) := ⟨rfl, rfl, rfl, by decide +kernel, rfl, by decide +kernel, by decide +kernel⟩
abbrev s_Spread_placing : Stmt := inClass (top 23) 12
theorem sc_Spread_placing : FnScope ["self"] ["self"] (defScope s_Spread_placing) := ⟨rfl, rfl, rfl, by decide +kernel, rfl, by decide +kernel, by decide +kernel⟩
abbrev s_Spread_together : Stmt := inClass (top 23) 13
theorem sc_Spread_together : FnScope ["self", "entries"] ["self", "entries"] (defScope s_Spread_together) := ⟨rfl, rfl, rfl, by decide +kernel, rfl, by decide +kernel, by decide +kernel⟩
abbrev s_Spread_renamed : Stmt := inClass (top 23) 14
theorem sc_Spread_renamed : FnScope ["self", "change"] ["self", "change"] (defScope s_Spread_renamed) := ⟨rfl, rfl, rfl, by decide +kernel, rfl, by decide +kernel, by decide +kernel⟩
abbrev s_Spread_parts : Stmt := inClass (top 23) 15
theorem sc_Spread_parts : FnScope ["self"] ["self"] (defScope s_Spread_parts) := ⟨rfl, rfl, rfl, by decide +kernel, rfl, by decide +kernel, by decide +kernel⟩
abbrev s_any_spread : Stmt := top 24
theorem sc_any_spread : FnScope ["value"] ["value"] (defScope s_any_spread) := ⟨rfl, rfl, rfl, by decide +kernel, rfl, by decide +kernel, by decide +kernel⟩
abbrev s_left_over : Stmt := top 25
theorem sc_left_over : FnScope ["words", "first", "bits", "many", "word"] ["words", "first", "bits"] (defScope s_left_over) := ⟨rfl, rfl, rfl, by decide +kernel, rfl, by decide +kernel, by decide +kernel⟩
abbrev s_need_spreads : Stmt := top 27
theorem sc_need_spreads : FnScope ["value", "spread"] ["value"] (defScope s_need_spreads) := ⟨rfl, rfl, rfl, by decide +kernel, rfl, by decide +kernel, by decide +kernel⟩
abbrev s_need_widths : Stmt := top 28
theorem sc_need_widths : FnScope ["value", "many", "width"] ["value", "many"] (defScope s_need_widths) := ⟨rfl, rfl, rfl, by decide +kernel, rfl, by decide +kernel, by decide +kernel⟩
abbrev s_falling : Stmt := top 29
theorem sc_falling : FnScope ["widths"] ["widths"] (defScope s_falling) := ⟨rfl, rfl, rfl, by decide +kernel, rfl, by decide +kernel, by decide +kernel⟩
abbrev s_meets_down : Stmt := top 30
theorem sc_meets_down : FnScope ["spreads", "order", "found", "at", "space"] ["spreads", "order"] (defScope s_meets_down) := ⟨rfl, rfl, rfl, by decide +kernel, rfl, by decide +kernel, by decide +kernel⟩
abbrev s_fitting : Stmt := top 31
theorem sc_fitting : FnScope ["spreads", "widths", "some", "wide", "order", "at", "meet"] ["spreads", "widths"] (defScope s_fitting) := ⟨rfl, rfl, rfl, by decide +kernel, rfl, by decide +kernel, by decide +kernel⟩
abbrev s_chain : Stmt := top 32
theorem sc_chain : FnScope ["spreads", "widths", "order", "found", "space", "at", "meet", "more"] ["spreads", "widths"] (defScope s_chain) := ⟨rfl, rfl, rfl, by decide +kernel, rfl, by decide +kernel, by decide +kernel⟩
abbrev s_beginL : Stmt := top 34
theorem sc_beginL : FnScope ["_law_script"] ["_law_script"] (defScope s_beginL) := ⟨rfl, rfl, rfl, by decide +kernel, rfl, by decide +kernel, by decide +kernel⟩
abbrev s_drawL : Stmt := top 35
theorem sc_drawL : FnScope ["_law_pen", "_law_span", "_law_digit", "_law_at", "_law_cell", "_law_n"] ["_law_pen", "_law_span"] (defScope s_drawL) := ⟨rfl, rfl, rfl, by decide +kernel, rfl, by decide +kernel, by decide +kernel⟩
abbrev s_pickL : Stmt := top 36
theorem sc_pickL : FnScope ["_law_pen", "_law_some"] ["_law_pen", "_law_some"] (defScope s_pickL) := ⟨rfl, rfl, rfl, by decide +kernel, rfl, by decide +kernel, by decide +kernel⟩
abbrev s_wordL : Stmt := top 37
theorem sc_wordL : FnScope ["_law_pen", "_law_bits", "_law_found", "_law_k"] ["_law_pen", "_law_bits"] (defScope s_wordL) := ⟨rfl, rfl, rfl, by decide +kernel, rfl, by decide +kernel, by decide +kernel⟩
abbrev s_mixedL : Stmt := top 38
theorem sc_mixedL : FnScope ["_law_pen", "_law_some", "_law_left_here", "_law_found", "_law_k"] ["_law_pen", "_law_some"] (defScope s_mixedL) := ⟨rfl, rfl, rfl, by decide +kernel, rfl, by decide +kernel, by decide +kernel⟩
abbrev s_leftL : Stmt := top 39
theorem sc_leftL : FnScope ["_law_rows", "_law_word_here", "_law_row"] ["_law_rows", "_law_word_here"] (defScope s_leftL) := ⟨rfl, rfl, rfl, by decide +kernel, rfl, by decide +kernel, by decide +kernel⟩
abbrev s_basisL : Stmt := top 40
theorem sc_basisL : FnScope ["_law_words", "_law_rows", "_law_word_here"] ["_law_words"] (defScope s_basisL) := ⟨rfl, rfl, rfl, by decide +kernel, rfl, by decide +kernel, by decide +kernel⟩
abbrev s_sizeL : Stmt := top 41
theorem sc_sizeL : FnScope ["_law_words"] ["_law_words"] (defScope s_sizeL) := ⟨rfl, rfl, rfl, by decide +kernel, rfl, by decide +kernel, by decide +kernel⟩
abbrev s_imageL : Stmt := top 42
theorem sc_imageL : FnScope ["_law_columns", "_law_word_here", "_law_found", "_law_at"] ["_law_columns", "_law_word_here"] (defScope s_imageL) := ⟨rfl, rfl, rfl, by decide +kernel, rfl, by decide +kernel, by decide +kernel⟩
abbrev s_taggedL : Stmt := top 43
theorem sc_taggedL : FnScope ["_law_columns", "_law_rows", "_law_found", "_law_at", "_law_word_here", "_law_tag", "_law_row", "_law_mark"] ["_law_columns"] (defScope s_taggedL) := ⟨rfl, rfl, rfl, by decide +kernel, rfl, by decide +kernel, by decide +kernel⟩
abbrev s_kernelL : Stmt := top 44
theorem sc_kernelL : FnScope ["_law_columns"] ["_law_columns"] (defScope s_kernelL) := ⟨rfl, rfl, rfl, by decide +kernel, rfl, by decide +kernel, by decide +kernel⟩
abbrev s_meetL : Stmt := top 45
theorem sc_meetL : FnScope ["_law_one", "_law_other", "_law_first", "_law_second", "_law_word_here"] ["_law_one", "_law_other"] (defScope s_meetL) := ⟨rfl, rfl, rfl, by decide +kernel, rfl, by decide +kernel, by decide +kernel⟩
abbrev s_truthL : Stmt := top 46
theorem sc_truthL : FnScope ["_law_value", "_law_due"] ["_law_value", "_law_due"] (defScope s_truthL) := ⟨rfl, rfl, rfl, by decide +kernel, rfl, by decide +kernel, by decide +kernel⟩
abbrev s_slot_listsL : Stmt := top 47
theorem sc_slot_listsL : FnScope ["_law_pen", "_law_bits", "_law_many", "_law_found", "_law_common", "_law_k", "_law_kind", "_law_some", "_law_j", "_law_at", "_law_word_here"] ["_law_pen", "_law_bits", "_law_many"] (defScope s_slot_listsL) := ⟨rfl, rfl, rfl, by decide +kernel, rfl, by decide +kernel, by decide +kernel⟩
abbrev s_madeL : Stmt := top 48
theorem sc_madeL : FnScope ["_law_pen", "_law_bits", "_law_slots", "_law_rows", "_law_lanes", "_law_bit", "_law_left_here", "_law_k"] ["_law_pen", "_law_bits", "_law_slots"] (defScope s_madeL) := ⟨rfl, rfl, rfl, by decide +kernel, rfl, by decide +kernel, by decide +kernel⟩
abbrev s_has_chainL : Stmt := top 49
theorem sc_has_chainL : FnScope ["_law_lists", "_law_widths", "_law_order", "_law_meet_here", "_law_at", "_law_size_here"] ["_law_lists", "_law_widths"] (defScope s_has_chainL) := ⟨rfl, rfl, rfl, by decide +kernel, rfl, by decide +kernel, by decide +kernel⟩
abbrev s_chain_rightL : Stmt := top 50
theorem sc_chain_rightL : FnScope ["_law_told", "_law_bits", "_law_lists", "_law_widths", "_law_at", "_law_space", "_law_other"] ["_law_told", "_law_bits", "_law_lists", "_law_widths"] (defScope s_chain_rightL) := ⟨rfl, rfl, rfl, by decide +kernel, rfl, by decide +kernel, by decide +kernel⟩
abbrev s_law : Stmt := top 51
theorem sc_law : FnScope ["_law_script", "_law_pen", "_law_turn", "_law_bits", "_law_many", "_law_lists", "_law_spreads", "_law_widths", "_law_due", "_law_told", "_law_again", "_law_order", "_law_slots", "_law_width", "_law_space", "_law_at"] ["_law_script"] (defScope s_law) := ⟨rfl, rfl, rfl, by decide +kernel, rfl, by decide +kernel, by decide +kernel⟩
structure Bt (mg : Str → Option Value) : Prop where
  abs : mg "abs" = none
  all : mg "all" = none
  any : mg "any" = none
  bool : mg "bool" = none
  enumerate : mg "enumerate" = none
  int : mg "int" = none
  isinstance : mg "isinstance" = none
  len : mg "len" = none
  list : mg "list" = none
  max : mg "max" = none
  min : mg "min" = none
  range : mg "range" = none
  sorted : mg "sorted" = none
  tuple : mg "tuple" = none
  zip : mg "zip" = none
end LaneX
set_option Elab.async false
set_option linter.all false
set_option maxRecDepth 100000
set_option maxHeartbeats 4000000
namespace LaneX
open PySem PySem.Spec PyProof.Rows L2
/-! ### an operator of an own class, both operands of that class -/
def rOwn (C : Addr) (sp : Sp) : R2 := fun x y H Q => ∃ (a b dx dy : Addr) (fs gs : List (Str × V)), x = .ref a ∧ y = .ref b ∧ H a = some (.ins C dx fs) ∧ H b = some (.ins C dy gs) ∧ sp [.ref a, .ref b] H Q E0
section
variable {X : Cx}
theorem back_of {pins : List (Addr × Obj)} {σ : L2.St} {Q : VK} {v : Value} {s : Shared} (h : EP X pins σ Q v s) : PySem.W.CmpBack (EP X pins σ Q) v s := by
  have h' := h
  obtain ⟨x, H', I, r, q⟩ := h'
  have nn : v ≠ Value.notImplemented := fun z => by
    subst z
    cases x with
    | non => exact absurd (show Value.notImplemented = Value.none from r) (fun z => nomatch z)
    | bl b => exact absurd (show Value.notImplemented = Value.bool b from r) (fun z => nomatch z)
    | int i => obtain ⟨t, z⟩ := (show ∃ t, Value.notImplemented = Value.int i t from r); exact nomatch z
    | str i => obtain ⟨t, z⟩ := (show ∃ t, Value.notImplemented = Value.str i t from r); exact nomatch z
    | byt i => obtain ⟨t, z⟩ := (show ∃ t, Value.notImplemented = Value.bytes i t from r); exact nomatch z
    | flt i => obtain ⟨t, z⟩ := (show ∃ t, Value.notImplemented = Value.float i t from r); exact nomatch z
    | ref a => exact absurd (show Value.notImplemented = Value.ref a from r) (fun z => nomatch z)
    | ty n => exact absurd (show Value.notImplemented = Value.type n from r) (fun z => nomatch z)
  cases v <;> first | exact h | exact absurd rfl nn
theorem op_own {op : Operator} {m : Str} {k j : Nat} {C : Addr} {ps : List Str} {sp : Sp} (hm : m = PySem.dunder op.info.2) (D : Mn X.prog X.w X.K X.mg X.base k C m ps sp) (hc : PySem.W.selfFirst X.K C = true) (hr : Room j X.A) (hk : k ≤ j := by decide) : OpR X (binaryOp op) (rOwn C sp) := by
  intro pins s σ H x y v u Q I rx ry h
  obtain ⟨a, b, dx, dy, fs, gs, rfl, rfl, ha, hb, hsp⟩ := h
  obtain ⟨f, fd, h1, h3, h4⟩ := D.ex
  cases (show v = Value.ref a from rx)
  cases (show u = Value.ref b from ry)
  obtain ⟨mA, O, _⟩ := ins_get I.hok ha
  obtain ⟨od, J, _⟩ := O.look
  obtain ⟨mB, O2, _⟩ := ins_get I.hok hb
  obtain ⟨od2, J2, _⟩ := O2.look
  obtain ⟨mm, F⟩ := I.fr
  subst hm
  refine PySem.W.binop_K F I.mod.kin J J2.type hc h1.at_ h1.fn ?_
  exact wpAny_mono (run_fn h4 (hr.mono hk) h3 .nil pass0 I (vs := [.ref a, .ref b]) (.cons rfl (.cons rfl .nil)) hsp) (fun v s' hq => back_of hq) fun _ _ z => z
end
end LaneX
set_option Elab.async false
set_option linter.all false
set_option maxRecDepth 100000
set_option maxHeartbeats 4000000
namespace LaneX
open PySem PySem.Spec PyProof.Rows L2
/-! ### lists of ints compared -/
theorem dpAll_ints {K : PySem.W.Frag} {H : Hp} : ∀ ns : List Int, DpAll K H (ns.map V.int) (ns.map PyData.int)
  | [] => .nil
  | n :: r => .cons (.int n) (dpAll_ints r)
theorem eqvAll_ints : ∀ ns ms : List Int, PyData.eqvAll (ns.map PyData.int) (ms.map PyData.int) = decide (ns = ms)
  | [], [] => rfl
  | [], _ :: _ => rfl
  | _ :: _, [] => rfl
  | n :: r, m :: q => by
    show (PyData.eqv (.int n) (.int m) && PyData.eqvAll (r.map PyData.int) (q.map PyData.int)) = _
    rw [eqvAll_ints r q]
    show ((n == m) && decide (r = q)) = _
    by_cases h : n = m
    · subst h; simp
    · simp [h]
theorem shaped_tints (ns : List Int) : SeqAt.shaped (.tuple (ns.map PyData.int)) = true := by
  have h := PySem.W.ke_shaped_ints ns
  unfold SeqAt.shaped at h ⊢
  exact h
section
variable {X : Cx}
theorem op_neL (hu : X.A.units + 64 < cLine) : OpR X (compareOp .NotEq) (fun x y H Q => ∃ (a b : Addr) (ns ms : List Int), x = .ref a ∧ y = .ref b ∧ H a = some (.lst (ns.map V.int)) ∧ H b = some (.lst (ms.map V.int)) ∧ Q (.bl (!decide (ns = ms))) H) := by
  intro pins s σ H x y v u Q I rx ry h
  obtain ⟨a, b, ns, ms, rfl, rfl, ha, hb, q⟩ := h
  refine op_neD hu pins s σ H _ _ v u Q I rx ry ⟨.list (ns.map .int), .list (ms.map .int), .lst (SqL.of ha) (dpAll_ints ns), .lst (SqL.of hb) (dpAll_ints ms), PySem.W.ke_shaped_ints ns, PySem.W.ke_shaped_ints ms, ?_⟩
  show Q (.bl (!PyData.eqvAll (ns.map .int) (ms.map .int))) H
  rw [eqvAll_ints]
  exact q
theorem op_eqL (hu : X.A.units + 64 < cLine) : OpR X (compareOp .Eq) (fun x y H Q => ∃ (a b : Addr) (ns ms : List Int), x = .ref a ∧ y = .ref b ∧ H a = some (.lst (ns.map V.int)) ∧ H b = some (.lst (ms.map V.int)) ∧ Q (.bl (decide (ns = ms))) H) := by
  intro pins s σ H x y v u Q I rx ry h
  obtain ⟨a, b, ns, ms, rfl, rfl, ha, hb, q⟩ := h
  refine op_eqD hu pins s σ H _ _ v u Q I rx ry ⟨.list (ns.map .int), .list (ms.map .int), .lst (SqL.of ha) (dpAll_ints ns), .lst (SqL.of hb) (dpAll_ints ms), PySem.W.ke_shaped_ints ns, PySem.W.ke_shaped_ints ms, ?_⟩
  show Q (.bl (PyData.eqvAll (ns.map .int) (ms.map .int))) H
  rw [eqvAll_ints]
  exact q
theorem vN_ints (l : List Nat) : l.map vN = (l.map Int.ofNat).map V.int := by rw [List.map_map]; rfl
/-- a list of naturals against the empty list -/
theorem op_neE (hu : X.A.units + 64 < cLine) : OpR X (compareOp .NotEq) (fun x y H Q => ∃ (a b : Addr) (ns : List Nat), x = .ref a ∧ y = .ref b ∧ H a = some (.lst (ns.map vN)) ∧ H b = some (.lst []) ∧ Q (.bl (!ns.isEmpty)) H) := by
  intro pins s σ H x y v u Q I rx ry h
  obtain ⟨a, b, ns, rfl, rfl, ha, hb, q⟩ := h
  rw [vN_ints] at ha
  refine op_neL hu pins s σ H _ _ v u Q I rx ry ⟨a, b, _, [], rfl, rfl, ha, hb, ?_⟩
  have e : (!decide (ns.map Int.ofNat = [])) = !ns.isEmpty := by cases ns <;> simp
  rw [e]
  exact q
theorem op_eqE (hu : X.A.units + 64 < cLine) : OpR X (compareOp .Eq) (fun x y H Q => ∃ (a b : Addr) (ns : List Nat), x = .ref a ∧ y = .ref b ∧ H a = some (.lst (ns.map vN)) ∧ H b = some (.lst []) ∧ Q (.bl ns.isEmpty) H) := by
  intro pins s σ H x y v u Q I rx ry h
  obtain ⟨a, b, ns, rfl, rfl, ha, hb, q⟩ := h
  rw [vN_ints] at ha
  refine op_eqL hu pins s σ H _ _ v u Q I rx ry ⟨a, b, _, [], rfl, rfl, ha, hb, ?_⟩
  have e : decide (ns.map Int.ofNat = []) = ns.isEmpty := by cases ns <;> simp
  rw [e]
  exact q
/-- min and max of two naturals -/
theorem call_minN (hc : X.calm = true) : CallR X (.builtin "min") (fun xs H Q => ∃ n m : Nat, xs = [.int (n : Int), .int (m : Int)] ∧ Q (.int ((min n m : Nat) : Int)) H) := by
  intro pins s σ H xs us Q I r h
  obtain ⟨n, m, rfl, q⟩ := h
  refine call_min2 hc pins s σ H _ us Q I r ⟨_, _, rfl, ?_⟩
  have e : (if (m : Int) < (n : Int) then (m : Int) else (n : Int)) = ((min n m : Nat) : Int) := by split <;> omega
  rw [e]
  exact q
/-! ### numbers -/
theorem call_intQ : CallR X (.type "int") (fun xs H Q => ∃ i : Int, xs = [.int i] ∧ Q (.int i) H) := by
  intro pins s σ H xs us Q I r h
  obtain ⟨i, rfl, q⟩ := h
  exact call_int1 pins s σ H _ us Q I r (.inl ⟨i, rfl, q⟩)
theorem call_absN : CallR X (.builtin "abs") (fun xs H Q => ∃ i : Int, xs = [.int i] ∧ Q (.int (i.natAbs : Nat)) H) := by
  intro pins s σ H xs us Q I r h
  obtain ⟨i, rfl, q⟩ := h
  refine call_abs pins s σ H _ us Q I r ⟨i, rfl, ?_⟩
  have e : (if i < 0 then -i else i) = (i.natAbs : Int) := by split <;> omega
  rw [e]
  exact q
theorem on_pow : OpR X (binaryOp .Pow) (fun x y H Q => ∃ n m : Nat, x = .int (n : Int) ∧ y = .int (m : Int) ∧ (n < 2 ^ 64 ∧ m ≤ 1000000) ∧ Q (.int ((n ^ m : Nat) : Int)) H) := by
  intro pins s σ H x y v u Q I rx ry h
  obtain ⟨n, m, rfl, rfl, ⟨c1, c2⟩, q⟩ := h
  refine op_pow pins s σ H _ _ v u Q I rx ry ⟨_, _, rfl, rfl, ⟨by omega, by omega, by simpa using c1⟩, ?_⟩
  rw [Int.natCast_pow] at q
  exact q
/-- an int of any sign, a positive divisor -/
theorem on_modI : OpR X (binaryOp .Mod) (fun x y H Q => ∃ (i : Int) (m : Nat), x = .int i ∧ y = .int (m : Int) ∧ 0 < m ∧ Q (.int ((i % (m : Int)).toNat : Nat)) H) := by
  intro pins s σ H x y v u Q I rx ry h
  obtain ⟨i, m, rfl, rfl, c, q⟩ := h
  have e : (((i % (m : Int)).toNat : Nat) : Int) = i % (m : Int) := by
    have := Int.emod_nonneg i (b := (m : Int)) (by omega)
    omega
  rw [e] at q
  exact op_mod pins s σ H _ _ v u Q I rx ry ⟨_, _, rfl, rfl, show (0 : Int) < (m : Int) by omega, q⟩
end
section
variable {X : Cx}
theorem and_neg (n : Nat) : Builtin.bitAnd (n : Int) (-(n : Int)) = ((lwb n : Nat) : Int) := by
  unfold Builtin.bitAnd lwb
  by_cases h : n = 0
  · subst h
    rfl
  · have h1 : decide (0 ≤ (n : Int)) = true := decide_eq_true (Int.natCast_nonneg _)
    have h2 : decide (0 ≤ -(n : Int)) = false := decide_eq_false (by omega)
    rw [h1, h2]
    show (n : Int) - (((n : Int).toNat &&& (Builtin.bitNot (-(n : Int))).toNat : Nat) : Int) = _
    have e : (Builtin.bitNot (-(n : Int))).toNat = n - 1 := by
      unfold Builtin.bitNot
      omega
    rw [e, Int.toNat_natCast]
    have le : n &&& (n - 1) ≤ n := Nat.and_le_left
    omega
/-- n & -n -/
theorem on_low : OpR X (binaryOp .BitAnd) (fun x y H Q => ∃ n : Nat, x = .int (n : Int) ∧ y = .int (-(n : Int)) ∧ Q (.int ((lwb n : Nat) : Int)) H) := by
  intro pins s σ H x y v u Q I rx ry h
  obtain ⟨n, rfl, rfl, q⟩ := h
  rw [← and_neg] at q
  exact op_and pins s σ H _ _ v u Q I rx ry ⟨_, _, rfl, rfl, q⟩
end
/-! ### the pen -/
def pen (a b c : Str) (lc : Addr) (n m : Nat) : List (Key × V) := [(.inr a, .ref lc), (.inr b, vN n), (.inr c, vN m)]
structure PenN (a b c : Str) : Prop where
  ab : a ≠ b
  ac : a ≠ c
  bc : b ≠ c
def PenAt (a b c : Str) (H : Hp) (p lc : Addr) (N : Nat) : Prop := ∃ (cs : List Int) (n m : Nat), H p = some (.dK (pen a b c lc n m)) ∧ H lc = some (.lst (cs.map V.int)) ∧ n ≤ N
section
variable {a b c : Str} {H H' : Hp} {p lc : Addr} {N M : Nat}
theorem PenAt.mono (h : PenAt a b c H p lc N) (l : N ≤ M) : PenAt a b c H p lc M := by
  obtain ⟨cs, n, m, h1, h2, h3⟩ := h
  exact ⟨cs, n, m, h1, h2, Nat.le_trans h3 l⟩
theorem PenAt.same (h : PenAt a b c H p lc N) (s : Same H H') : PenAt a b c H' p lc N := by
  obtain ⟨cs, n, m, h1, h2, h3⟩ := h
  exact ⟨cs, n, m, s _ _ h1, s _ _ h2, h3⟩
theorem PenAt.ne (h : PenAt a b c H p lc N) {l : Addr} (hl : H l = none) : lc ≠ l ∧ p ≠ l := by
  obtain ⟨cs, n, m, h1, h2, h3⟩ := h
  exact ⟨ne_of_none h2 hl, ne_of_none h1 hl⟩
/-- a list of one's own is written -/
theorem PenAt.put {l : Addr} {o : HO} (h : PenAt a b c H p lc N) (h1 : lc ≠ l ∧ p ≠ l) : PenAt a b c (upd H l o) p lc N := by
  obtain ⟨cs, n, m, g1, g2, g3⟩ := h
  exact ⟨cs, n, m, (upd_ne h1.2).trans g1, (upd_ne h1.1).trans g2, g3⟩
theorem pen_a (n m : Nat) : valV (pen a b c lc n m) (.inr a) = some (.ref lc) := valV_pos rfl
theorem pen_b (hN : PenN a b c) (n m : Nat) : valV (pen a b c lc n m) (.inr b) = some (vN n) := by
  unfold pen valV
  simp [hN.ab]
theorem pen_c (hN : PenN a b c) (n m : Nat) : valV (pen a b c lc n m) (.inr c) = some (vN m) := by
  unfold pen valV
  simp [hN.ac, hN.bc]
theorem pen_pb (hN : PenN a b c) (n m k : Nat) : putK (pen a b c lc n m) (.inr b) (vN k) = pen a b c lc k m := by
  unfold pen putK
  simp [hN.ab, hN.bc.symm]
theorem pen_pc (hN : PenN a b c) (n m k : Nat) : putK (pen a b c lc n m) (.inr c) (vN k) = pen a b c lc n k := by
  unfold pen putK
  simp [hN.ac, hN.bc]
theorem pen_len (n m : Nat) : (pen a b c lc n m).length < sizeLine := by
  show 3 < sizeLine
  decide
end
end LaneX
set_option Elab.async false
set_option linter.all false
set_option maxRecDepth 100000
set_option maxHeartbeats 4000000
namespace LaneX
open PySem PySem.Spec PyProof.Rows L2
/-! ### == and != of own classes -/
section
variable {X : Cx}
/-- an own def, called somewhere below the running body -/
theorem call_below {k : Nat} {f : Addr} {fd : FuncData} {ps : List Str} {sp : Sp} {A : Around} {pins : List (Addr × Obj)} {σ : L2.St} {H : Hp} {s : Shared} {vs : List V} {us : List Value} {Q : VK} (F : FnOk X.prog X.w X.K X.mg X.base CX0 k f fd ps sp) (hb : Binds X.K fd ps [])
    (sb : Sub X k A) (I : Inv X pins σ H s) (r : Vals vs us) (hsp : sp vs H Q E0) : wpAny (model X.prog X.w) A (call (.ref f) us) (EP X pins σ Q) X.xe s := by
  have e0 : Env0 X.prog X.w X.K X.mg X.base A X.stack s H := by
    have e := I.env0
    exact ⟨by rw [sb.fr]; exact e.frames, e.mod, e.bs, e.bsz, e.funs, e.frf, e.hok, e.bare⟩
  have hl := F.len _ _ _ _ hsp
  refine wpAny_call (codeAny_mono (F.run A X.stack s H ⟨us, []⟩ us vs _ E0 sb.room e0 (by
    have := hb s us I.kIn (by have := r.length; simp; omega)
    simpa using this) r hsp) fun r s' hq => ?_)
  cases r with
  | error e => exact pass0 pins σ H s e s' I hq
  | ok fl =>
    cases fl with
    | ret w =>
      obtain ⟨z, H', I', rz, q⟩ := I.after hq
      exact ⟨z, H', I', rz, q⟩
    | next => exact False.elim hq
    | brk => exact False.elim hq
    | cont => exact False.elim hq
/-- x == y, both of the class at C, by its own __eq__ -/
theorem op_eqO {k j : Nat} {C : Addr} {ps : List Str} {sp : Sp} (D : Mn X.prog X.w X.K X.mg X.base k C "__eq__" ps sp) (hr : Room j X.A) (hk : k ≤ j := by decide) : OpR X (compareOp .Eq) (rOwn C sp) := by
  intro pins s σ H x y v u Q I rx ry h
  obtain ⟨a, b, dx, dy, fs, gs, rfl, rfl, ha, hb, hsp⟩ := h
  obtain ⟨f, fd, h1, h3, h4⟩ := D.ex
  cases (show v = Value.ref a from rx)
  cases (show u = Value.ref b from ry)
  obtain ⟨mA, O, _⟩ := ins_get I.hok ha
  obtain ⟨od, J, _⟩ := O.look
  obtain ⟨mB, O2, _⟩ := ins_get I.hok hb
  obtain ⟨od2, J2, _⟩ := O2.look
  obtain ⟨mm, F⟩ := I.fr
  show wpAny (model X.prog X.w) X.A (richCompare .Eq (.ref a) (.ref b)) (EP X pins σ Q) X.xe s
  refine PySem.W.cmp_K (op := .Eq) (tb := .ref C) hr.units0 F I.mod.kin J J2.type (by simp [PySem.W.notFirst]) h1.at_ h1.fn ?_
  exact wpAny_mono (call_below (vs := [.ref a, .ref b]) (us := [Value.ref a, Value.ref b]) h4 h3 ⟨hr.mono hk, rfl⟩ I (.cons rfl (.cons rfl .nil)) hsp) (fun v s' hq => back_of hq) fun _ _ z => z
/-- x != y, both of the class at C, by its own __eq__ (no own __ne__) -/
def rNeO (C : Addr) (sp : Sp) : R2 := fun x y H Q => ∃ (a b dx dy : Addr) (fs gs : List (Str × V)), x = .ref a ∧ y = .ref b ∧ H a = some (.ins C dx fs) ∧ H b = some (.ins C dy gs) ∧ sp [.ref a, .ref b] H (fun v H' => ∃ r : Bool, v = .bl r ∧ Q (.bl (!r)) H') E0
theorem ifBound_ne {M : Model} {A : Around} {E : Value → Shared → Prop} {s : Shared} {K : PySem.W.Frag} {x C : Addr} {ox : Obj} {od : Option Obj} {args : List Value} {Q : Option Value → Shared → Prop} (X : K.In s.heap) (I : PySem.W.InstAt s.heap x ox C od)
    (hs : PySem.W.findIn K (.ref C) "__ne__" = some (some (.builtin "object.__ne__"))) (h : wpAny M A (call (.builtin "object.__ne__") (.ref x :: args)) (fun v => Q (some v)) E s) : wpAny M A (callSpecialIfBound? (.ref x) "__ne__" args) Q E s := by
  simp only [callSpecialIfBound?, bindSpecialIfBound?]
  refine wpAny_holding (wpAny_bind (wpAny_bind (wpAny_bind (I.type.here ((PySem.W.looks_findIn X hs).here ?_)))))
  refine wpAny_bind (wpAny_askSetting (wpAny_ite ?_))
  have fin : wpAny M A (call (.builtin "object.__ne__") ([.ref x] ++ args) >>= fun v => pure (some v)) Q E s := wpAny_bind (wpAny_mono h (fun v s' h' => wpAny_pure h') fun _ _ h' => h')
  split
  · exact wpAny_bind (wpAny_of_eq (F.cmp_object.ne.bind _) (wpAny_pure (by exact fin)))
  · exact wpAny_tryCatch (wpAny_bind (wpAny_of_eq (F.cmp_object.ne.bind _) (wpAny_pure (by exact fin))))
theorem op_neO {k j : Nat} {C : Addr} {ps : List Str} {sp : Sp} (D : Mn X.prog X.w X.K X.mg X.base k C "__eq__" ps sp) (hne : PySem.W.findIn X.K (.ref C) "__ne__" = some (some (.builtin "object.__ne__"))) (hm : PySem.W.mroIn X.K C (.type "object") = some true) (hr : Room j X.A) (hk : k + 1 ≤ j := by decide) :
    OpR X (compareOp .NotEq) (rNeO C sp) := by
  intro pins s σ H x y v u Q I rx ry h
  obtain ⟨a, b, dx, dy, fs, gs, rfl, rfl, ha, hb, hsp⟩ := h
  obtain ⟨f, fd, h1, h3, h4⟩ := D.ex
  cases (show v = Value.ref a from rx)
  cases (show u = Value.ref b from ry)
  obtain ⟨mA, O, _⟩ := ins_get I.hok ha
  obtain ⟨od, J, _⟩ := O.look
  obtain ⟨mB, O2, _⟩ := ins_get I.hok hb
  obtain ⟨od2, J2, _⟩ := O2.look
  have KX := I.kIn
  have r1 : Room (k + 1) X.A := hr.mono hk
  have rb := call_below (A := X.A.in1) h4 h3 ⟨r1.in1, rfl⟩ I (.cons rfl (.cons rfl .nil)) hsp (vs := [.ref a, .ref b]) (us := [Value.ref a, Value.ref b])
  have hu1 : X.A.in1.units < cLine := r1.in1.units0
  have one : wpAny (model X.prog X.w) X.A (tryCompare (.ref a) "__ne__" (.ref b)) (fun r s' => ∃ v, r = some v ∧ EP X pins σ Q v s') X.xe s := by
    unfold tryCompare
    refine wpAny_bind (ifBound_ne KX J hne (wpAny_call (codeAny_call_builtin F.cmp_object.ne.plain F.cmpEntry_ne (PySem.W.check_slot F.cmpKind_ne F.cmpSplit_ne (J.type.andThen (PySem.W.looks_mroIn KX hm)) (F.cmpArgs_ne _ _) ?_))))
    unfold Builtin.«object.__ne__»
    repeat (first | with_reducible refine wpAny_cRoomFor hu1 ?_ | (with_reducible refine PySem.W.ifBound_K KX J h1.at_ h1.fn ?_; refine wpAny_mono rb ?_ ?_) | wp_step)
    · intro v s' hq
      obtain ⟨z, H', I', rz, r, ez, q⟩ := hq
      subst ez
      cases (show v = Value.bool r from rz)
      refine wpAny_bind (wpAny_truthy_bool (wpAny_pure ?_))
      exact wpAny_pure ⟨_, rfl, .bl (!r), H', I', rfl, q⟩
    · exact fun _ _ z => z
  show wpAny (model X.prog X.w) X.A (richCompare .NotEq (.ref a) (.ref b)) (EP X pins σ Q) X.xe s
  unfold richCompare
  simp only [oneThing_ref]
  refine wpAny_holding (wpAny_bind (wpAny_cRoomFor hr.units0 ?_))
  refine wpAny_bind (J.type.here (wpAny_bind (J2.type.here ?_)))
  rw [if_neg (by simp)]
  refine wpAny_bind (wpAny_pure ?_)
  simp only [Bool.false_eq_true, if_false]
  refine wpAny_bind (wpAny_mono one (fun r s' z => ?_) fun _ _ e => e)
  obtain ⟨v, rfl, hq⟩ := z
  exact wpAny_pure hq
/-- x == y of two instances of one class without an own __eq__ -/
def rEqI (C : Addr) : R2 := fun x y H Q => ∃ (a b dx dy : Addr) (fs gs : List (Str × V)), x = .ref a ∧ y = .ref b ∧ a ≠ b ∧ H a = some (.ins C dx fs) ∧ H b = some (.ins C dy gs) ∧ Q (.bl false) H
theorem op_eqI {j : Nat} {C : Addr} (heq : PySem.W.findIn X.K (.ref C) "__eq__" = some (some (.builtin "object.__eq__"))) (hm : PySem.W.mroIn X.K C (.type "object") = some true) (hr : Room j X.A) : OpR X (compareOp .Eq) (rEqI C) := by
  intro pins s σ H x y v u Q I rx ry h
  obtain ⟨a, b, dx, dy, fs, gs, rfl, rfl, hne, ha, hb, q⟩ := h
  cases (show v = Value.ref a from rx)
  cases (show u = Value.ref b from ry)
  obtain ⟨mA, O, _⟩ := ins_get I.hok ha
  obtain ⟨od, J, _⟩ := O.look
  obtain ⟨mB, O2, _⟩ := ins_get I.hok hb
  obtain ⟨od2, J2, _⟩ := O2.look
  have KX := I.kIn
  have one : ∀ {x y : Addr} {ox oy : Obj} {ex ey : Option Obj}, x ≠ y → PySem.W.InstAt s.heap x ox C ex → PySem.W.InstAt s.heap y oy C ey → wpAny (model X.prog X.w) X.A (tryCompare (.ref x) "__eq__" (.ref y)) (fun r s' => r = none ∧ s' = s) X.xe s := by
    intro x y ox oy ex ey nxy Jx Jy
    unfold tryCompare
    refine wpAny_bind (HN.ifBound_objEq KX Jx heq (wpAny_call (codeAny_call_builtin F.cmp_object.eq.plain F.cmpEntry_eq (PySem.W.check_slot F.cmpKind_eq F.cmpSplit_eq (Jx.type.andThen (PySem.W.looks_mroIn KX hm)) (F.cmpArgs_eq _ _) ?_))))
    exact objEq_entry_other nxy Jx.at_ Jy.at_ (by rw [Jx.cls]; intro z; cases z) (wpAny_pure ⟨rfl, rfl⟩)
  show wpAny (model X.prog X.w) X.A (richCompare .Eq (.ref a) (.ref b)) (EP X pins σ Q) X.xe s
  simp only [richCompare, cmpInfo_Eq, oneThing_ref]
  refine wpAny_holding (wpAny_bind (wpAny_cRoomFor hr.units0 ?_))
  refine wpAny_bind (J.type.here (wpAny_bind (J2.type.here ?_)))
  rw [if_neg (by simp)]
  refine wpAny_bind (wpAny_pure ?_)
  simp only [Bool.false_eq_true, if_false, Bool.not_false, if_true]
  refine wpAny_bind (wpAny_mono (one hne J J2) (fun r s1 z => ?_) fun _ _ e => e)
  obtain ⟨z1, z2⟩ := z
  subst z1
  subst z2
  refine wpAny_bind (wpAny_mono (one hne.symm J2 J) (fun r s2 z => ?_) fun _ _ e => e)
  obtain ⟨z1, z2⟩ := z
  subst z1
  subst z2
  exact wpAny_bind (wpAny_rule (wpAny_bind (wpAny_isSame_ref_other hne J.at_ J2.at_ (by rw [J.cls]; intro z; cases z) (wpAny_pure ⟨.bl false, H, I, rfl, q⟩))))
end
end LaneX
set_option Elab.async false
set_option linter.all false
set_option maxRecDepth 100000
set_option maxHeartbeats 4000000
namespace LaneX
open PySem PySem.Spec PyProof.Rows L2
/-! ### enumerate(t), t a tuple -/
theorem meets_enumT {v : Value} {o : Obj} {H : Heap → Prop} (B : Begins v o H) :
    Meets (Builtin.«enumerate.__new__» ⟨[.type "enumerate", v], []⟩) (fun _ R s => H s.heap ∧
      R (.ok (.ret (.ref (s.heap.push o).objs.size))) { s with heap := (s.heap.push o).push { cls := .type "enumerate", data := .fields #[.none, .bool false, .ref s.heap.objs.size, rawInt 0, .none, .none] } }) := by
  refine .of_wp fun prog w A R s h => ?_
  obtain ⟨hp, g, d, tk, os⟩ := s
  obtain ⟨h1, h2⟩ := h
  have subE := sub_enumerate
  have itE : ∀ {A1 : Around} {E1 : Value → Shared → Prop} {Q1 : Value → Shared → Prop}, Q1 (.ref hp.objs.size) ⟨hp.push o, g, d, tk, os⟩ → wpAny (model prog w) A1 (pyIter v) Q1 E1 ⟨hp, g, d, tk, os⟩ := fun q => B.iter prog w _ _ ⟨hp, g, d, tk, os⟩ _ h1 q
  wp_walk using itE
  refine wpAny_stack_any fun st => wpAny_pure ?_
  split
  · rename_i c _ _ _ _ _
    cases (c == Value.type "enumerate") <;> (wp_walk using itE; exact ⟨_, rfl, h2⟩)
  · wp_walk using itE
    exact ⟨_, rfl, h2⟩
theorem call_enumT {P : Program} {w : World} {A : Around} {E : Value → Shared → Prop} {s : Shared} {t : Addr} {items : Array Value} {Q : Value → Shared → Prop} (hT : s.heap.IsTuple t items)
    (h : ∀ h', IsEnum h' (s.heap.objs.size + 1) s.heap.objs.size 0 .none → h'.IsTupleIter s.heap.objs.size t 0 → (∀ b o, s.heap.get? b = some o → h'.get? b = some o) → Q (.ref (s.heap.objs.size + 1)) { s with heap := h' }) :
    wpAny (model P w) A (call (.type "enumerate") [.ref t]) Q E s := by
  refine callType_new F.called_enumerate (by decide) (F.typeCall_enumerate_1 _) (F.newCall_enumerate_1 _) (fun obj => F.args_object_init_2 obj _) F.entry_enumerate_new (meets_enumT (begins_tuple t items)) ⟨hT, ?_⟩
  have sz : ∀ o : Obj, (s.heap.push o).objs.size = s.heap.objs.size + 1 := fun o => Heap.size_push ..
  show _ ∧ _
  rw [sz]
  have e1 : ∀ (o u : Obj), u.isFreed = false → ((s.heap.push o).push u).get? (s.heap.objs.size + 1) = some u := fun o u hu => by
    have := Heap.get?_push_size (s.heap.push o) (o := u) hu
    rwa [sz] at this
  have he := e1 { cls := .type "tuple_iterator", data := .fields #[.ref t, .int 0 0] } { cls := .type "enumerate", data := .fields #[.none, .bool false, .ref s.heap.objs.size, rawInt 0, .none, .none] } rfl
  exact ⟨⟨_, he, rfl⟩, h _ he ⟨_, Heap.get?_push_of_some _ (Heap.get?_push_size _ rfl), rfl, rfl⟩ fun b o z => Heap.get?_push_of_some _ (Heap.get?_push_of_some _ z)⟩
def Itu (K : PySem.W.Frag) (a : Addr) : It :=
  ⟨fun i H => ∃ (xs : List V) (x : V), SqT K H a xs ∧ xs[i]? = some x, fun i H v H' => ∃ T x, v = .ref T ∧ H T = none ∧ H' = upd H T (.tup [.int (i : Nat), x]) ∧ ∀ xs, SqT K H a xs → xs[i]? = some x, fun i H => ∃ xs : List V, SqT K H a xs ∧ xs.length ≤ i⟩
theorem turn_enumT {P : Program} {w : World} {K : PySem.W.Frag} {elts : List Expr} {kk : Nat} {tpos : Pos} (a e it : Addr) :
    Turn P w K (.Tuple elts kk tpos) (Itu K a) [e, it] e (fun i h => (∃ old, IsEnum h e it ((i : Nat) : Int) old) ∧ h.IsTupleIter it a i ∧ e ≠ it) where
  mem := List.mem_cons_self
  obj := fun i h st b hb => by
    obtain ⟨⟨old, he⟩, ⟨o, ho, hc, hd⟩, _⟩ := st
    rcases List.mem_cons.mp hb with z | z
    · subst z; exact ⟨_, he, fun v q => nomatch q⟩
    · rcases List.mem_singleton.mp z with z
      subst z; exact ⟨o, ho, fun v q => by rw [hd] at q; cases q⟩
  keep := fun i h h' st k => by
    obtain ⟨⟨old, he⟩, hi, hne⟩ := st
    exact ⟨⟨old, k e List.mem_cons_self _ he⟩, hi.at fun o q => k it (List.mem_cons_of_mem _ List.mem_cons_self) o q, hne⟩
  item := by
    intro X hP hw hK hc i pins s σ H E I hf st hg
    subst hP hw hK
    obtain ⟨⟨old, he⟩, hit, hne⟩ := st
    obtain ⟨xs, x, hq, hx⟩ := hg
    obtain ⟨its, rv, p, hz⟩ := I.tuple hq
    have p' : s.heap.IsTuple a its.toArray := p
    obtain ⟨u, hu, ru⟩ := rv.get hx
    have hel : e < s.heap.objs.size := Heap.lt_size he
    have hil : it < s.heap.objs.size := by obtain ⟨_, q, _⟩ := hit; exact Heap.lt_size q
    have nai : a ≠ it := fun z => by
      obtain ⟨o1, q1, c1, _⟩ := hit
      obtain ⟨o2, q2, c2, _⟩ := p'
      rw [z, q1] at q2; cases q2; rw [c1] at c2; exact absurd c2 (by decide)
    have nea : e ≠ a := fun z => by
      obtain ⟨o2, q2, c2, _⟩ := p'
      rw [← z, show s.heap.get? e = _ from he] at q2; cases q2; exact absurd (show Value.type "enumerate" = Value.type "tuple" from c2) (by decide)
    have hlt : i < its.toArray.size := by
      rw [List.size_toArray]
      exact (List.getElem?_eq_some_iff.mp hu).1
    refine wpAny_pyNext_enum_itemD (Draws.tuple (A := X.A.in1) (by simpa using I.ok.hd hc) it a nai its.toArray) he ⟨hit, p'⟩ hlt hne (by simp [hne, nea]) fun y h' tk hy ho st' hT hsz hk => ?_
    have ey : y = u := by
      rw [List.getElem?_toArray, hu] at hy
      exact (Option.some.inj hy).symm
    subst ey
    refine ⟨_, rfl, wpAny_letOwnedTupleGo_enum (s := { s with heap := h', toks := tk + 1 }) ho fun h'' he' sb => ?_⟩
    have hT2 : h''.get? s.heap.objs.size = some { cls := .type "tuple", data := .seq #[.int i tk, y] } := (sb.2 _ (Nat.ne_of_gt hel)).trans hT
    have new : ObjOk X.prog X.w (upd H s.heap.objs.size (.tup [.int (i : Nat), x])) h'' s.heap.objs.size (.tup [.int (i : Nat), x]) :=
      ⟨(by show 2 ≤ sizeLine; decide), [.int i tk, y], .cons ⟨_, rfl⟩ (.cons ru .nil), ⟨_, hT2, rfl, _, rfl⟩⟩
    have I1 : Inv X pins σ (upd H s.heap.objs.size (.tup [.int (i : Nat), x])) { s with heap := h'', toks := tk + 1 } :=
      I.turnedNew (ch := [e, it]) (fun b ob hb q => (sb.2 b (fun z => hb (by simp [z]))).trans (hk b ob (fun z => hb (by simp [z])) (fun z => hb (by simp [z])) q)) hf (Nat.le_refl _) new
    refine ⟨.ref s.heap.objs.size, _, I1, rfl, ⟨_, x, rfl, I.hok.fresh (Nat.le_refl _), rfl, fun ys hy => ?_⟩, ⟨⟨y, ?_⟩, st'.1.at fun o q => (sb.2 it (Ne.symm hne)).trans q, hne⟩, fun b hb => ?_⟩
    · rw [I.tuple_inj hy hq]; exact hx
    · rw [show ((i + 1 : Nat) : Int) = (i : Int) + 1 by omega]; exact he'
    · have hb' : b < s.heap.objs.size := by
        rcases List.mem_cons.mp hb with z | z
        · rw [z]; exact hel
        · rw [List.mem_singleton.mp z]; exact hil
      rw [upd_ne (Nat.ne_of_lt hb')]
      exact (hf b hb).1
  done := by
    intro X hP hw hK hc i pins s σ H E I hf st hg
    subst hP hw hK
    obtain ⟨⟨old, he⟩, hit, hne⟩ := st
    obtain ⟨xs, hq, hx⟩ := hg
    obtain ⟨its, rv, p, hz⟩ := I.tuple hq
    have p' : s.heap.IsTuple a its.toArray := p
    have nai : a ≠ it := fun z => by
      obtain ⟨o1, q1, c1, _⟩ := hit
      obtain ⟨o2, q2, c2, _⟩ := p'
      rw [z, q1] at q2; cases q2; rw [c1] at c2; exact absurd c2 (by decide)
    obtain ⟨f0, f1, f2, f3, f4, f5⟩ := hf it (List.mem_cons_of_mem _ List.mem_cons_self)
    have hn : its.toArray[i]? = none := by
      have := rv.length
      rw [List.getElem?_toArray]
      exact List.getElem?_eq_none (by omega)
    have tyE : s.TypeIs (.ref e) "enumerate" := ⟨_, he, rfl⟩
    unfold pyNext
    refine wpAny_bind (wpAny_attempt (wpAny_callSpecial?_slot (name := Str.ofString "__next__") tyE F.slot_enumerate_next (wpAny_call_entry F.slot_enumerate_next tyE F.entry_enumerate_next ?_ (F.args_enumerate_next_1 _))))
    show wpAny _ _ (field (.ref e) 2 >>= _) _ _ _
    refine wpAny_bind (wpAny_field he rfl (x := .ref it) rfl (wpAny_bind (wpAny_nextOf_tuple_end (by simpa using I.ok.hd hc) hit p' hn fun h' y he' hy' => ?_)))
    obtain ⟨o, ho, hcl⟩ := hy'
    refine wpAny_bind (wpAny_isInstance (T := "StopIteration") (b := true) ⟨o, ho, hcl⟩ isSubtype_stop (wpAny_pure ?_))
    exact ⟨rfl, I.turned (t' := s.toks) (fun b o hb q => he' b o hb q) f0 f1 f3 f4 f5⟩
  self := fun A i s Q E st h => let ⟨⟨_, he⟩, _⟩ := st; wpAny_pyIter_enum he h
def iEnumT (K : PySem.W.Frag) (ta : TA) : TI := fun σ H R => ta σ H fun vs H1 => ∃ a xs, vs = [.ref a] ∧ SqT K H1 a xs ∧ R (Itu K a) H1
theorem pi_enumT {X : Cx} {e : Expr} {ta : TA} {p pos tpos : Pos} {elts : List Expr} {kk : Nat} (hg : Gl X "enumerate") (hm : X.mg "enumerate" = none) (ha : PA X [e] ta) (hs : starEach [e] X.env = [(false, eval e X.env)] := by rfl) :
    PI X (.Tuple elts kk tpos) (.Call (.Name "enumerate" p) [e] [] pos) (iEnumT X.K ta) := by
  refine ⟨fun pins s σ H R I h => Call_ (ld_blt I hg hm boot_enumerate (PyProof.Rows.callWith_type1 (thn (ha.run pos pins s σ H _ I h) fun us s1 ⟨vs, H1, I1, r1, a, xs, ex, hq, q⟩ => ?_) hs rfl))⟩
  subst ex
  rw [Vals.ref1 r1]
  obtain ⟨its, rv, p', hz⟩ := I1.tuple hq
  refine call_enumT (show s1.heap.IsTuple a its.toArray from p') fun h' he hit hk => wpAny_pyIter_enum he ?_
  refine ⟨s1.heap.objs.size + 1, [s1.heap.objs.size + 1, s1.heap.objs.size], _, _, H1, rfl, I1.kept (t' := s1.toks) hk, turn_enumT a (s1.heap.objs.size + 1) s1.heap.objs.size, ⟨⟨.none, he⟩, hit, Nat.succ_ne_self _⟩, fun b hb => ?_, q⟩
  have le : s1.heap.objs.size ≤ b := by
    rcases List.mem_cons.mp hb with z | z
    · rw [z]; exact Nat.le_succ _
    · rw [List.mem_singleton.mp z]; exact Nat.le_refl _
  exact I1.fpOk le (I1.hok.fresh le)
theorem walk_enumT {K : PySem.W.Frag} {a : Addr} {xs : List V} : Walk (Itu K a) xs.length (fun H => SqT K H a xs) (YPair (fun i => some (.int (i : Nat))) (fun i => xs[i]?)) := by
  refine ⟨fun i _ hi q => ⟨xs, xs[i], q, List.getElem?_eq_getElem hi⟩, fun _ q => ⟨xs, q, Nat.le_refl _⟩, fun i H v H' _ q y => ?_⟩
  obtain ⟨T, x, y1, y2, y3, y4⟩ := y
  exact ⟨T, .int (i : Nat), x, y1, y2, y3, rfl, y4 xs q⟩
section
variable {K : PySem.W.Frag} {g : TG} {tt : TT} {te : TE} {vs : List Nat} {σ : L2.St} {H : Hp} {Q : Addr → Hp → Prop}
/-- a pure comprehension over enumerate(t) -/
theorem lc_pureE {a : Addr} {xs : List V} (v : Nat → V) (hS : H a = some (.tup xs)) (hlen : xs.length ≤ 1000000) (hs : ∀ i x H' T, xs[i]? = some x → Same H H' → H' T = some (.tup [vN i, x]) → LcT g tt te vs σ (.ref T) H' true (v i))
    (hd : ∀ D H', H D = none → Same H H' → H' D = some (.lst ((List.range xs.length).map v)) → Q D H') : LcR g tt te vs σ Q (Itu K a) H := by
  intro D hD
  refine lc_it walk_enumT (fun i H' => Same H H' ∧ H' D = some (.lst ((((List.range xs.length).take i).filter fun _ => true).map v))) ⟨same_new0 hD, by simpa using upd_same⟩ (fun i H' _ hp => SqT.of (hp.1 _ _ hS)) (fun i x H' H2 hi hp y => ?_) (fun H' hp => ?_)
  · obtain ⟨T, x1, x2, rfl, nT, rfl, e1, e2⟩ := y
    cases e1
    have s2 : Same H (upd H' T (.tup [vN i, x2])) := same_new hp.1 nT
    exact lc_turn (l := List.range xs.length) (ι := fun _ => .ref T) (p := fun _ => true) (v := v) (by simpa using hlen) hD (range_get hi) s2 (upd_new nT hp.2) (hs i x2 _ T e2 s2 upd_same)
  · obtain ⟨h1, h2⟩ := hp
    rw [List.take_of_length_le (by simp), List.filter_eq_self.mpr fun _ _ => rfl] at h2
    exact hd D H' hD h1 h2
end
end LaneX
set_option Elab.async false
set_option linter.all false
set_option maxRecDepth 100000
set_option maxHeartbeats 4000000
namespace LaneX
open PySem PySem.Spec PyProof.Rows L2
/-! ### naturals in lists: in, index, max; further numbers -/
theorem inV_nat {n : Nat} {l : List Nat} : inV (vN n) (l.map vN) = decide (n ∈ l) := by
  unfold inV
  rw [List.any_map, Bool.eq_iff_iff, List.any_eq_true, decide_eq_true_iff]
  have e : ∀ x : Nat, ((fun y => eqV y (vN n)) ∘ vN) x = true ↔ x = n := fun x => by
    show (((x : Int) == (n : Int)) = true) ↔ _
    rw [beq_iff_eq]; omega
  constructor
  · rintro ⟨x, hx, h⟩
    rw [← (e x).mp h]; exact hx
  · exact fun h => ⟨n, h, (e n).mpr rfl⟩
theorem flat_nats (l : List Nat) : (l.map vN).all flatV = true := by
  rw [List.all_eq_true]
  intro v hv
  obtain ⟨x, _, rfl⟩ := List.mem_map.mp hv
  rfl
section
variable {X : Cx}
theorem on_in : OpR X (compareOp .In) (fun x y H Q => ∃ (n : Nat) (p : Addr) (ns : List Nat), x = vN n ∧ y = .ref p ∧ Tq H p (ns.map vN) ∧ Q (.bl (decide (n ∈ ns))) H) := by
  intro pins s σ H x y v u Q I rx ry h
  obtain ⟨n, p, ns, rfl, rfl, hS, q⟩ := h
  refine op_in_seq pins s σ H _ _ v u Q I rx ry ⟨p, _, rfl, hS.sqlt, rfl, flat_nats ns, ?_⟩
  simp only [Bool.false_eq_true, if_false, inV_nat]
  exact q
theorem on_notIn : OpR X (compareOp .NotIn) (fun x y H Q => ∃ (n : Nat) (p : Addr) (ns : List Nat), x = vN n ∧ y = .ref p ∧ Tq H p (ns.map vN) ∧ Q (.bl (!decide (n ∈ ns))) H) := by
  intro pins s σ H x y v u Q I rx ry h
  obtain ⟨n, p, ns, rfl, rfl, hS, q⟩ := h
  refine op_notIn_seq pins s σ H _ _ v u Q I rx ry ⟨p, _, rfl, hS.sqlt, rfl, flat_nats ns, ?_⟩
  simp only [if_true, inV_nat]
  exact q
/-- the right factor below 2 ^ 64 -/
theorem on_mulR : OpR X (binaryOp .Mult) (fun x y H Q => ∃ n m : Nat, x = .int (n : Int) ∧ y = .int (m : Int) ∧ (m < 2 ^ 64) ∧ Q (.int ((n * m : Nat) : Int)) H) := by
  intro pins s σ H x y v u Q I rx ry h
  obtain ⟨n, m, rfl, rfl, c, q⟩ := h
  rw [Int.natCast_mul] at q
  exact op_mul pins s σ H _ _ v u Q I rx ry ⟨_, _, rfl, rfl, show CMul (n : Int) (m : Int) from Or.inr ⟨by omega, by have : m < 18446744073709551616 := c; omega⟩, q⟩
/-- an int of any sign times a natural -/
theorem on_mulI : OpR X (binaryOp .Mult) (fun x y H Q => ∃ (i : Int) (m : Nat), x = .int i ∧ y = .int (m : Int) ∧ (m < 2 ^ 64) ∧ Q (.int (i * (m : Int))) H) := by
  intro pins s σ H x y v u Q I rx ry h
  obtain ⟨n, m, rfl, rfl, c, q⟩ := h
  exact op_mul pins s σ H _ _ v u Q I rx ry ⟨_, _, rfl, rfl, show CMul n (m : Int) from Or.inr ⟨by omega, by have : m < 18446744073709551616 := c; omega⟩, q⟩
theorem on_addI : OpR X (binaryOp .Add) (fun x y H Q => ∃ i j : Int, x = .int i ∧ y = .int j ∧ Q (.int (i + j)) H) := op_add
/-- a difference that is a natural -/
theorem on_subD : OpR X (binaryOp .Sub) (fun x y H Q => ∃ (i j : Int) (d : Nat), x = .int i ∧ y = .int j ∧ i - j = (d : Int) ∧ Q (vN d) H) := by
  intro pins s σ H x y v u Q I rx ry h
  obtain ⟨i, j, d, rfl, rfl, e, q⟩ := h
  refine op_sub pins s σ H _ _ v u Q I rx ry ⟨i, j, rfl, rfl, ?_⟩
  show Q (V.int (i - j)) H
  rw [e]
  exact q
/-- int(True), int(False) -/
theorem call_intB : CallR X (.type "int") (fun xs H Q => ∃ b : Bool, xs = [.bl b] ∧ Q (vN (if b = true then 1 else 0)) H) := by
  intro pins s σ H xs us Q I r h
  obtain ⟨b, rfl, q⟩ := h
  refine call_int1 pins s σ H _ us Q I r (.inr ⟨b, rfl, ?_⟩)
  cases b <;> exact q
/-- max(xs), naturals -/
theorem cr_maxN (hc : X.calm = true) : CallR X (.builtin "max") (fun xs H Q => ∃ (a : Addr) (ns : List Nat), xs = [.ref a] ∧ H a = some (.lst (ns.map vN)) ∧ 0 < ns.length ∧ ∀ m, m ∈ ns → (∀ x ∈ ns, x ≤ m) → Q (vN m) H) := by
  intro pins s σ H xs us Q I r h
  obtain ⟨a, ns, rfl, hS, h0, q⟩ := h
  rw [vN_ints] at hS
  refine cr_max hc pins s σ H _ us Q I r ⟨a, ns.map Int.ofNat, rfl, SqL.of hS, by simpa using h0, fun m hm hle => ?_⟩
  obtain ⟨k, hk, rfl⟩ := List.mem_map.mp hm
  refine q k hk fun x hx => ?_
  have := hle (x : Int) (List.mem_map.mpr ⟨x, hx, rfl⟩)
  have e : Int.ofNat k = (k : Int) := rfl
  omega
theorem call_maxN (hc : X.calm = true) : CallR X (.builtin "max") (fun xs H Q => ∃ n m : Nat, xs = [.int (n : Int), .int (m : Int)] ∧ Q (.int ((max n m : Nat) : Int)) H) := by
  intro pins s σ H xs us Q I r h
  obtain ⟨n, m, rfl, q⟩ := h
  refine call_max2 hc pins s σ H _ us Q I r ⟨_, _, rfl, ?_⟩
  have e : (if (m : Int) > (n : Int) then (m : Int) else (n : Int)) = ((max n m : Nat) : Int) := by split <;> omega
  rw [e]
  exact q
end
end LaneX
set_option Elab.async false
set_option linter.all false
set_option maxRecDepth 100000
set_option maxHeartbeats 4000000
namespace LaneX
open PySem PySem.Spec PyProof.Rows L2
/-! ### defs and methods that may raise -/
section
variable (P : Program) (w : World) (K : PySem.W.Frag) (mg : Str → Option Value) (base : Heap)
structure Dx (k : Nat) (x : Str) (ps : List Str) (sp : Sp) : Prop where
  ex : ∃ (f : Addr) (fd : FuncData), mg x = some (.ref f) ∧ PySem.W.keepIn K (.ref f) = true ∧ Binds K fd ps [] ∧ FnOk P w K mg base (L2.CX P w) k f fd ps sp
structure Mx (k : Nat) (C : Addr) (m : Str) (ps : List Str) (sp : Sp) : Prop where
  cl : Cls K C
  ex : ∃ (f : Addr) (fd : FuncData), Meth K C m f ∧ Binds K fd ps [] ∧ FnOk P w K mg base (L2.CX P w) k f fd ps sp
end
section
variable {X : Cx} {k j : Nat} {x m : Str} {ps : List Str} {sp : Sp} {C : Addr} {p pos apos : Pos} {e o : Expr} {es : List Expr} {t : TA} {to : TE} {W : WX}
/-- called where it raises nothing -/
theorem pe_dx (D : Dx X.prog X.w X.K X.mg X.base k x ps sp) (hr : Room j X.A) (ha : PA X (e :: es) t) (hk : k ≤ j := by decide) (hg : Gl X x := by rfl) (hdb : (x == ("__debug__" : Str)) = false := by decide)
    (he : starEach (e :: es) X.env = (false, eval e X.env) :: starEach es X.env := by rfl) (hpl : (backTo pos (starEach es X.env)).any (·.1) = false := by rfl) :
    PE X (.Call (.Name x p) (e :: es) [] pos) (tCall sp [] E0 t) := by
  obtain ⟨f, fd, h1, h2, h3, h4⟩ := D.ex
  exact pe_call h4 (hr.mono hk) hg h1 h2 h3 .nil passL ha hdb he hpl
/-- called where what it raises is taken by W -/
theorem pe_dxS (D : Dx X.prog X.w X.K X.mg X.base k x ps sp) (tk : Takes X W) (hr : Room j X.A) (ha : PA X (e :: es) t) (hk : k ≤ j := by decide) (hg : Gl X x := by rfl) (hdb : (x == ("__debug__" : Str)) = false := by decide)
    (he : starEach (e :: es) X.env = (false, eval e X.env) :: starEach es X.env := by rfl) (hpl : (backTo pos (starEach es X.env)).any (·.1) = false := by rfl) :
    PE X (.Call (.Name x p) (e :: es) [] pos) (tCallS sp (WE W) t) := by
  obtain ⟨f, fd, h1, h2, h3, h4⟩ := D.ex
  exact pe_callS h4 (hr.mono hk) hg h1 h2 h3 (fun σ => passAt tk σ) ha hdb he hpl
theorem pe_mx {pl : Sem Bool} (ho : PE X o to) (D : Mx X.prog X.w X.K X.mg X.base k C m ps sp) (hr : Room j X.A) (ha : PA X (e :: es) t) (hk : k ≤ j := by decide)
    (hst : starEach (e :: es) X.env = (false, eval e X.env) :: starEach es X.env := by rfl) (hpl : (backTo pos (starEach es X.env)).any (·.1) = false := by rfl)
    (ht : eval (.Call (.Attribute o m apos) (e :: es) [] pos) X.env = (do
      let ov ← eval o X.env
      standAt apos.atName
      let (f, first) ← holding [ov] (getMethod ov m pl)
      callWith pos f first (backTo pos (starEach (e :: es) X.env)) (backToKw pos (keywordEach [] X.env))) := by rfl) :
    PE X (.Call (.Attribute o m apos) (e :: es) [] pos) (tMeth C m sp [] E0 to t) := by
  obtain ⟨f, fd, h1, h3, h4⟩ := D.ex
  exact pe_meth ho D.cl h1 h4 (hr.mono hk) h3 .nil passL ha hst hpl ht
def tMethS (C : Addr) (m : Str) (sp : Sp) (W : WX) (ta : TE) (t : TA) : TE := fun σ H Q => ta σ H fun x H1 => ∃ a dx fs, x = .ref a ∧ H1 a = some (.ins C dx fs) ∧ fs.lookup m = none ∧ t σ H1 fun vs H2 => sp (x :: vs) H2 Q (WE W σ)
theorem pe_mxS {pl : Sem Bool} (ho : PE X o to) (D : Mx X.prog X.w X.K X.mg X.base k C m ps sp) (tk : Takes X W) (hr : Room j X.A) (ha : PA X (e :: es) t) (hk : k ≤ j := by decide)
    (hst : starEach (e :: es) X.env = (false, eval e X.env) :: starEach es X.env := by rfl) (hpl : (backTo pos (starEach es X.env)).any (·.1) = false := by rfl)
    (ht : eval (.Call (.Attribute o m apos) (e :: es) [] pos) X.env = (do
      let ov ← eval o X.env
      standAt apos.atName
      let (f, first) ← holding [ov] (getMethod ov m pl)
      callWith pos f first (backTo pos (starEach (e :: es) X.env)) (backToKw pos (keywordEach [] X.env))) := by rfl) :
    PE X (.Call (.Attribute o m apos) (e :: es) [] pos) (tMethS C m sp W to t) := by
  obtain ⟨f, fd, h1, h3, h4⟩ := D.ex
  refine ⟨fun pins s σ H Q I h => PySem.W.methodCall_KW (pl := pl) (thn (ho.run pins s σ H _ I h) fun u s1 ⟨x, H1, I1, rx, a, dx, fs, ex, ea, l, q⟩ => ?_) ht⟩
  subst ex
  cases (show u = Value.ref a from rx)
  refine getmeth_ok I1 ea D.cl h1 l (PySem.W.callWith_K (first := [.ref a]) (h₀ := X.base) I.ok.mod.kin h1.kp (thn (ha.run pos pins s1 σ H1 _ I1 q) fun us s2 ⟨vs, H2, I2, r, q2⟩ => ⟨I2.kIn, ?_⟩) hst hpl)
  exact run_fnS (us := .ref a :: us) (vs := .ref a :: vs) (E := WE W) h4 (hr.mono hk) h3 (passAt tk σ) I2 (.cons rfl r) q2
end
section
variable {P : Program} {w : World} {K : PySem.W.Frag} {mg : Str → Option Value} {base : Heap}
/-- a def that may raise -/
theorem fnokX {x qual : Str} {st : Stmt} {f : Addr} {fd : FuncData} {N ps : List Str} {k : Nat} {sp : Sp} (F : FnP K x qual st f fd) (S : FnScope N ps (defScope st)) (len : ∀ vs H Q E, sp vs H Q E → vs.length = ps.length)
    (hbody : ∀ (cdv : Value) (A : Around) (outer : List Env) (s : Shared) (H : Hp) (vs : List V) (Q : VK) (E : XK), Room k (A.deeper (envOfC qual (defScope st) s.heap.objs.size f cdv)) → sp vs H Q E →
      ∃ t, PSs (cxOf (L2.CX P w) P w K mg base N qual (defScope st) f cdv A outer s H E) (defBody st) t ∧ t { nx := fun _ H' => Q .non H', rt := Q } (start N vs) H) : FnOk P w K mg base (L2.CX P w) (k + 1) f fd ps sp :=
  F.ok S len hbody
end
/-! ### an own error without an __init__ -/
/-- what the written part says of it -/
structure Exn (K : PySem.W.Frag) (mg : Str → Option Value) (x : Str) (C : Addr) : Prop where
  gl : mg x = some (.ref C)
  ex : PySem.W.excIn K C [.type "ValueError", .type "Exception", .type "BaseException", .type "object"] "ValueError.__new__" = true
  kp : PySem.W.keepIn K (.ref C) = true
  be : PySem.W.subIn K (.ref C) (.type "BaseException") = some true
  ty : PySem.W.typeIn K (.ref C) = some (.type "type")
section
variable {X : Cx} {x : Str} {C : Addr} {p pos : Pos}
/-- x() -/
theorem pmk_0 (T : Exn X.K X.mg x C) (hg : Gl X x) (hdb : (x == ("__debug__" : Str)) = false := by decide) : PMk X (.Call (.Name x p) [] [] pos) (fun _ H Q => Q (.ref C) none H) := by
  intro pins s σ H Q I h
  refine wpAny_Call_Name_kw (ld_glob I hg T.gl (PySem.W.callWith_K0 I.kIn T.kp ?_) hdb)
  show wpAny _ _ (call (.ref C) []) _ _ _
  obtain ⟨bm, N, nm, qn, bs, hdct, sn, sub, ab, col, dd, k0, k1, k2, k3, k5, mN, hC, hN, hni, TT⟩ := exc_obj I.kIn T.ex
  exact wpAny_call_exc_subT F.excBase_ValueError TT hC hN hni (fun h' e hm => mk_of I hm (raises_own T.be T.ty) h (I.hok.gone hm.new)) (Nat.zero_le _)
/-- isinstance(e, c) in the suite that holds e, of a class without a dict -/
theorem call_isX {a D : Addr} {oe : Obj} {pn : List (Addr × Obj)} {cls : Value} {d : Option Addr} (T : ExcC X.K D) (hz : Zc cls d oe) (hf : ∃ vs, oe.data = .fields vs) :
    CallR (X.suite a ((a, oe) :: pn)) (.builtin "isinstance") (fun xs H Q => cls = .ref D ∧ d = none ∧ rIsE X.K D a xs H Q) := by
  intro pins s σ H xs us Q I r h
  obtain ⟨rfl, rfl, h⟩ := h
  exact call_isE T hz hf pins s σ H xs us Q I r h
end
end LaneX
set_option Elab.async false
set_option linter.all false
set_option maxRecDepth 100000
set_option maxHeartbeats 4000000
namespace LaneX
open PySem PySem.Spec PyProof.Rows L2
/-! ### lists and tuples, a written tuple too -/
def Wq (K : PySem.W.Frag) (H : Hp) (a : Addr) (xs : List V) : Prop := Tq H a xs ∨ ∃ (o : Obj) (its : Array Value) (n : Nat), K.lookup a = some o ∧ o.cls = .type "tuple" ∧ o.data = .seq its n ∧ its.size ≤ sizeLine ∧ Vals xs its.toList
section
variable {K : PySem.W.Frag} {H H' : Hp} {a p : Addr} {xs : List V}
theorem Wq.sqlt (h : Wq K H a xs) : SqL K H a xs ∨ SqT K H a xs := by
  rcases h with h | h
  · exact h.sqlt
  · exact .inr (.inr h)
theorem Wq.sq (h : Wq K H a xs) : Sq K H a xs := h.sqlt
theorem Wq.kp (h : Wq K H a xs) (s : Kp H H') : Wq K H' a xs := by
  rcases h with h | h
  · exact .inl (kp_tq s h)
  · exact .inr h
theorem Wq.same (h : Wq K H a xs) (s : Same H H') : Wq K H' a xs := h.kp (Kp.of s)
theorem Wq.ty (h : Wq K H a xs) : ∃ t, TyX K H (.ref a) t ∧ PySem.W.kitAny K t [.type "list", .type "tuple"] = some true := by
  rcases h with h | ⟨o, its, n, h1, h2, _⟩
  · exact h.ty
  · exact ⟨_, .kTuple h1 h2, kitAny_cons (b := false) (kit_ty (by decide +kernel)) (fun _ => kitAny_cons (b := true) (kit_ty (by decide +kernel)) (fun z => by cases z) (fun _ => rfl)) (fun z => by cases z)⟩
end
section
variable {X : Cx}
theorem call_lenW : CallR X (.builtin "len") (fun xs H Q => ∃ (p : Addr) (ys : List V), xs = [.ref p] ∧ Wq X.K H p ys ∧ Q (.int (ys.length : Nat)) H) := by
  intro pins s σ H xs us Q I r h
  obtain ⟨p, ys, rfl, hq, q⟩ := h
  exact call_len_seq pins s σ H _ us Q I r ⟨p, ys, rfl, hq.sqlt, q⟩
theorem call_listW : CallR X (.type "list") (fun xs H Q => ∃ (p : Addr) (ys : List V), xs = [.ref p] ∧ Wq X.K H p ys ∧ ∀ l, H l = none → Q (.ref l) (upd H l (.lst ys))) := by
  intro pins s σ H xs us Q I r h
  obtain ⟨p, ys, rfl, hq, q⟩ := h
  exact call_list_of pins s σ H _ us Q I r ⟨p, ys, rfl, hq.sqlt, q⟩
end
/-! ### enumerate of a list or a tuple -/
def iEnumQ (K : PySem.W.Frag) (ta : TA) : TI := fun σ H R => ta σ H fun vs H1 => ∃ (a : Addr) (xs : List V), vs = [.ref a] ∧ ((SqL K H1 a xs ∧ R (Ite K a) H1) ∨ (SqT K H1 a xs ∧ R (Itu K a) H1))
theorem pi_enumQ {X : Cx} {e : Expr} {ta : TA} {p pos tpos : Pos} {elts : List Expr} {kk : Nat} (hg : Gl X "enumerate") (hm : X.mg "enumerate" = none) (ha : PA X [e] ta) (hs : starEach [e] X.env = [(false, eval e X.env)] := by rfl) :
    PI X (.Tuple elts kk tpos) (.Call (.Name "enumerate" p) [e] [] pos) (iEnumQ X.K ta) := by
  refine ⟨fun pins s σ H R I h => Call_ (ld_blt I hg hm boot_enumerate (PyProof.Rows.callWith_type1 (thn (ha.run pos pins s σ H _ I h) fun us s1 ⟨vs, H1, I1, r1, a, xs, ex, q⟩ => ?_) hs rfl))⟩
  subst ex
  rw [Vals.ref1 r1]
  have fp : ∀ b ∈ [s1.heap.objs.size + 1, s1.heap.objs.size], FpOk X pins H1 b := fun b hb => by
    have le : s1.heap.objs.size ≤ b := by
      rcases List.mem_cons.mp hb with z | z
      · rw [z]; exact Nat.le_succ _
      · rw [List.mem_singleton.mp z]; exact Nat.le_refl _
    exact I1.fpOk le (I1.hok.fresh le)
  rcases q with ⟨hq, q⟩ | ⟨hq, q⟩
  · obtain ⟨its, rv, p', hz⟩ := I1.list hq
    refine call_enumerate_list p'.isList fun h' he hit hsz hk => wpAny_pyIter_enum he ?_
    exact ⟨s1.heap.objs.size + 1, [s1.heap.objs.size + 1, s1.heap.objs.size], _, _, H1, rfl, I1.kept (t' := s1.toks) hk, turn_enum a (s1.heap.objs.size + 1) s1.heap.objs.size, ⟨⟨.none, he⟩, hit, Nat.succ_ne_self _⟩, fp, q⟩
  · obtain ⟨its, rv, p', hz⟩ := I1.tuple hq
    refine call_enumT (show s1.heap.IsTuple a its.toArray from p') fun h' he hit hk => wpAny_pyIter_enum he ?_
    exact ⟨s1.heap.objs.size + 1, [s1.heap.objs.size + 1, s1.heap.objs.size], _, _, H1, rfl, I1.kept (t' := s1.toks) hk, turn_enumT a (s1.heap.objs.size + 1) s1.heap.objs.size, ⟨⟨.none, he⟩, hit, Nat.succ_ne_self _⟩, fp, q⟩
section
variable {K : PySem.W.Frag} {g : TG} {tt : TT} {te : TE} {vs : List Nat} {σ : L2.St} {H : Hp} {Q : Addr → Hp → Prop}
/-- a pure comprehension over enumerate(x) -/
theorem lc_enumQ {a : Addr} {xs : List V} (v : Nat → V) (hS : Sq K H a xs) (hlen : xs.length ≤ 1000000) (hs : ∀ i x H' T, xs[i]? = some x → Same H H' → H' T = some (.tup [vN i, x]) → LcT g tt te vs σ (.ref T) H' true (v i))
    (hd : ∀ D H', H D = none → Same H H' → H' D = some (.lst ((List.range xs.length).map v)) → Q D H') :
    ∃ (a' : Addr) (xs' : List V), [V.ref a] = [.ref a'] ∧ ((SqL K H a' xs' ∧ LcR g tt te vs σ Q (Ite K a') H) ∨ (SqT K H a' xs' ∧ LcR g tt te vs σ Q (Itu K a') H)) := by
  refine ⟨a, xs, rfl, ?_⟩
  have turn : ∀ {D : Addr} {i : Nat} {x : V} {H' H2 : Hp}, H D = none → i < xs.length → (Same H H' ∧ H' D = some (.lst ((((List.range xs.length).take i).filter fun _ => true).map v))) → YPair (fun i => some (.int (i : Nat))) (fun i => xs[i]?) i H' x H2 →
      g x (wipe σ vs) H2 fun σ2 H2' => wipe σ2 vs = wipe σ vs ∧ tt σ2 H2' fun b H3 => if b = true then te σ2 H3 fun y H4 => ∃ acc, H4 D = some (.lst acc) ∧ acc.length < sizeLine ∧ (Same H (upd H4 D (.lst (acc ++ [y]))) ∧ upd H4 D (.lst (acc ++ [y])) D = some (.lst ((((List.range xs.length).take (i + 1)).filter fun _ => true).map v))) else (Same H H3 ∧ H3 D = some (.lst ((((List.range xs.length).take (i + 1)).filter fun _ => true).map v))) := fun {D i x H' H2} hD hi hp y => by
    obtain ⟨T, x1, x2, rfl, nT, rfl, e1, e2⟩ := y
    cases e1
    have s2 : Same H (upd H' T (.tup [vN i, x2])) := same_new hp.1 nT
    exact lc_turn (l := List.range xs.length) (ι := fun _ => .ref T) (p := fun _ => true) (v := v) (by simpa using hlen) hD (range_get hi) s2 (upd_new nT hp.2) (hs i x2 _ T e2 s2 upd_same)
  have done : ∀ {D : Addr} {H' : Hp}, H D = none → (Same H H' ∧ H' D = some (.lst ((((List.range xs.length).take xs.length).filter fun _ => true).map v))) → Q D H' := fun {D H'} hD hp => by
    obtain ⟨h1, h2⟩ := hp
    rw [List.take_of_length_le (by simp), List.filter_eq_self.mpr fun _ _ => rfl] at h2
    exact hd D H' hD h1 h2
  rcases hS with hS | hS
  · exact .inl ⟨hS, fun D hD => lc_it walk_enum (fun i H' => Same H H' ∧ H' D = some (.lst ((((List.range xs.length).take i).filter fun _ => true).map v))) ⟨same_new0 hD, by simpa using upd_same⟩ (fun i H' _ hp => kp_sqL (Kp.of hp.1) hS) (fun i x H' H2 hi hp y => turn hD hi hp y) (fun H' hp => done hD hp)⟩
  · exact .inr ⟨hS, fun D hD => lc_it walk_enumT (fun i H' => Same H H' ∧ H' D = some (.lst ((((List.range xs.length).take i).filter fun _ => true).map v))) ⟨same_new0 hD, by simpa using upd_same⟩ (fun i H' _ hp => kp_sqT (Kp.of hp.1) hS) (fun i x H' H2 hi hp y => turn hD hi hp y) (fun H' hp => done hD hp)⟩
end
/-! ### a def with a default, called without it -/
section
variable (P : Program) (w : World) (K : PySem.W.Frag) (mg : Str → Option Value) (base : Heap)
structure Dd (k : Nat) (x : Str) (ps : List Str) (sp : Sp) (dvs : List V) : Prop where
  ex : ∃ (f : Addr) (fd : FuncData), mg x = some (.ref f) ∧ PySem.W.keepIn K (.ref f) = true ∧ (∃ ds, Vals dvs ds ∧ Binds K fd ps ds) ∧ FnOk P w K mg base CX0 k f fd ps sp
end
section
variable {X : Cx} {k j : Nat} {x : Str} {ps : List Str} {sp : Sp} {dvs : List V} {p pos : Pos} {e : Expr} {es : List Expr} {t : TA}
theorem pe_dd (D : Dd X.prog X.w X.K X.mg X.base k x ps sp dvs) (hr : Room j X.A) (ha : PA X (e :: es) t) (hk : k ≤ j := by decide) (hg : Gl X x := by rfl) (hdb : (x == ("__debug__" : Str)) = false := by decide)
    (he : starEach (e :: es) X.env = (false, eval e X.env) :: starEach es X.env := by rfl) (hpl : (backTo pos (starEach es X.env)).any (·.1) = false := by rfl) :
    PE X (.Call (.Name x p) (e :: es) [] pos) (tCall sp dvs E0 t) := by
  obtain ⟨f, fd, h1, h2, ⟨ds, h3, h3'⟩, h4⟩ := D.ex
  exact pe_call h4 (hr.mono hk) hg h1 h2 h3' h3 pass0 ha hdb he hpl
/-- a def of the text with defaults -/
abbrev FnPD (K : PySem.W.Frag) (x qual : Str) (st : Stmt) (dvs : List V) (f : Addr) (fd : FuncData) : Prop := FunD K x qual (defArgs st) (defBody st) (defScope st) dvs [] f fd
end
section
variable {P : Program} {w : World} {K : PySem.W.Frag} {mg : Str → Option Value} {base : Heap}
theorem fnokD {x qual : Str} {st : Stmt} {dvs : List V} {f : Addr} {fd : FuncData} {N ps : List Str} {k : Nat} {sp : Sp} (F : FnPD K x qual st dvs f fd) (S : FnScope N ps (defScope st)) (len : ∀ vs H Q E, sp vs H Q E → vs.length = ps.length)
    (hbody : ∀ (cdv : Value) (A : Around) (outer : List Env) (s : Shared) (H : Hp) (vs : List V) (Q : VK) (E : XK), Room k (A.deeper (envOfC qual (defScope st) s.heap.objs.size f cdv)) → sp vs H Q E →
      ∃ t, PSs (cxOf CX0 P w K mg base N qual (defScope st) f cdv A outer s H E).nox (defBody st) t ∧ t { nx := fun _ H' => Q .non H', rt := Q } (start N vs) H) : FnOk P w K mg base CX0 (k + 1) f fd ps sp := by
  refine F.ok S len (fun cdv A outer s H vs Q E hr h => ?_)
  obtain ⟨t, h1, h2⟩ := hbody cdv A outer s H vs Q E hr h
  exact ⟨t, PSs.nox h1, h2⟩
end
end LaneX
set_option Elab.async false
set_option linter.all false
set_option maxRecDepth 100000
set_option maxHeartbeats 4000000
namespace LaneX
open PySem PySem.Spec PyProof.Rows L2
/-! ### super().__init__(x) of an own exception over ValueError, called -/
section
open PySem.W PySem.Calls
variable {prog : Program} {w : World} {M : Model} {A : Around} {E : Value → Shared → Prop}
theorem callWith_mw {i : String} {x : Addr} {s : Shared} {pos : Pos} {u : Addr} {first : List Value} {env : Env} {e : Expr} {rest : List Expr} {Q : Value → Shared → Prop}
    (h : wpAny M A (spliced (backTo pos (starEach (e :: rest) env))) (fun vs s₁ => KxsAt i u x s₁.heap ∧ wpAny M A (call (.ref u) (first ++ vs)) Q E s₁) E s)
    (he : starEach (e :: rest) env = (false, eval e env) :: starEach rest env := by rfl) (hplain : (backTo pos (starEach rest env)).any (·.1) = false := by rfl) :
    wpAny M A (callWith pos (.ref u) first (backTo pos (starEach (e :: rest) env)) []) Q E s := by
  rw [he] at h ⊢
  refine kxs_callWith (i := i) (x := x) (by show (false || (backTo pos (starEach rest env)).any (·.1)) = false; rw [hplain]; rfl) ?_
  exact evalArgs_plain h
theorem call_mw {u e C t0 : Addr} {nm q : Str} {N : Addr} {bs bm : List Value} {hdct : Bool} {sn : List Str} {sub : List Value} {ab : Bool} {col : Option Bool} {dd : Option Addr} {k0 k1 k2 k3 k5 : Option Value} {h : Heap} {g : Array GenState} {d : Drawn} {t : Nat} {os : OsState} {rest : List Value} {Q : Value → Shared → Prop}
    (hC : h.get? C = some (excClassObj nm q C N bs bm hdct sn sub ab col dd k0 k1 k2 k3 k5 "ValueError.__new__")) (he : h.get? e = some (HandSPX.excO C t0)) (hu : h.get? u = some (kxs_mw "ValueError.__init__" e)) (hrest : rest.length ≤ sizeLine)
    (hq : ∀ h' t1, (∀ b o, b ≠ e → h.get? b = some o → h'.get? b = some o) → h'.get? e = some (HandSPX.excO C t1) → Q .none ⟨h', g, d, t, os⟩) :
    wpAny (model prog w) A (call (.ref u) rest) Q E ⟨h, g, d, t, os⟩ := by
  refine wpAny_call (codeAny_of_tree ?_)
  show wpAny _ A.in1 (callAny (.ref u) ⟨rest, []⟩) _ _ _
  simp only [callAny]
  refine wpAny_bind (wpAny_load hu ?_)
  simp only [kxs_mw, show (Value.type "method-wrapper" == Value.type "method" || Value.type "method-wrapper" == Value.type "builtin_function_or_method" || Value.type "method-wrapper" == Value.type "method-wrapper") = true by decide, if_true]
  refine KFB.if_so (by decide) ?_
  refine wpAny_bind (check_bound_init F.excBase_ValueError.toExcCallFacts hC he rfl ?_)
  refine wpAny_bind (wpAny_pure (wpAny_pure ?_))
  refine ⟨plainId_quiet F.excBase_ValueError.init.plain _, codeAny_builtin F.excBase_ValueError.initEntry ?_⟩
  rw [Around.under_plainId F.excBase_ValueError.init.plain _]
  wp_walk
  refine hq _ h.objs.size (fun b o hb ho => ?_) ?_
  · rw [Heap.get?_update_other _ _ (Ne.symm hb)]
    exact Heap.get?_push_of_some _ ho
  · rw [Heap.get?_update_self _ (Heap.get?_push_of_some _ he) rfl]
    rfl
end
/-- what such an __init__ does: the field fld holds its argument -/
def sp_xi (K : PySem.W.Frag) (C : Addr) (fld : Str) : Sp := fun vs H Q _ => ∃ (a : Addr) (y : V), vs = [.ref a, y] ∧ H a = some (exo a C none) ∧ ∀ dx, H dx = none → dx ≠ a → Q .non (upd (upd H dx (exd dx [(fld, y)])) a (exo a C (some dx)))
def scX (sc : Scope) (x : Str) : Scope := { sc with names := [("self", .local), (x, .local)] }
theorem scX_ok {sc : Scope} {x : Str} (hk : sc.kind = .function) (hco : sc.isCoroutine = false) (hg : sc.isGenerator = false) (nx : x ≠ "self") : FnScope ["self", x] ["self", x] (scX sc x) := by
  refine ⟨hk, hco, hg, ?_, rfl, fun y hy => ?_, fun y hy => ?_⟩
  · simpa using fun z : ("self" : Str) = x => nx z.symm
  · left
    rcases List.mem_cons.mp hy with rfl | hy
    · rfl
    · rw [List.mem_singleton.mp hy]
      show List.lookup x [("self", NameKind.local), (x, .local)] = _
      have e : (x == ("self" : Str)) = false := by simpa using nx
      simp [List.lookup, e]
  · have : y = ((("self" : Str), NameKind.local) : Str × NameKind) ∨ y = (x, .local) := by simpa [scX] using hy
    rcases this with rfl | rfl <;> (intro z; cases z)
section
open PySem.W PySem.Calls
variable {P : Program} {w : World} {K : PySem.W.Frag} {mg : Str → Option Value} {base : Heap} {CX : CXT} {k : Nat} {f C cc cda : Addr} {qual x fld : Str} {params : Arguments} {names : List (Str × NameKind)} {more : List (Str × Const)} {p0 p1 p2 p3 p4 p5 p6 p7 p8 p9 : Pos} {dV kV doc pm ct oc : Value} {an od : Option Addr} {osl : Array (Option Value)}
theorem he_super {env : Env} (hpos : (p2.endLine == p4.line) = true) : eval (.Call (.Attribute (.Call (.Name "super" p0) [] [] p1) "__init__" p2) [.Name x p3] [] p4) env = (do
      let ov ← attributeBase (.Call (.Name "super" p0) [] [] p1) "__init__" env (eval (.Call (.Name "super" p0) [] [] p1) env)
      standAt p2.atName
      let (f, first) ← holding [ov] (getMethod ov "__init__" (do return (← importBound (.Call (.Name "super" p0) [] [] p1) env).getD true))
      callWith p4 f first (backTo p4 (starEach [.Name x p3] env)) []) := by
  have e1 : methodCallForm ([Expr.Name x p3].length + ([] : List Keyword).length) (backTo p4 (starEach [.Name x p3] env)) (backToKw p4 (keywordEach [] env)) = true := rfl
  have e2 : methodCallPos true (.Call (.Name "super" p0) [] [] p1) env p2 p4 = pure p4 := by
    unfold methodCallPos
    rw [if_pos (show (!true || p2.endLine == p4.line) = true by rw [hpos]; rfl)]
  show (do
    let ov ← attributeBase (.Call (.Name "super" p0) [] [] p1) "__init__" env (eval (.Call (.Name "super" p0) [] [] p1) env)
    standAt p2.atName
    methodCall (.Call (.Name "super" p0) [] [] p1) "__init__" p2 p4 env ov ([Expr.Name x p3].length + ([] : List Keyword).length) (backTo p4 (starEach [.Name x p3] env)) (backToKw p4 (keywordEach [] env))) = _
  unfold methodCall
  rw [e1, e2]
  rfl
theorem xi_ok (lk : K.lookup f = some ⟨oc, od, .func (ksFn "__init__" qual params [.Expr (.Call (.Attribute (.Call (.Name "super" p0) [] [] p1) "__init__" p2) [.Name x p3] [] p4) p5, .Assign [.Attribute (.Name "self" p6) fld p7] (.Name x p8) p9] (⟨.function, names, false, false, more⟩ : Scope) dV kV doc pm an (.ref cda) ct cc), osl⟩)
    (hcd : codeIn K (.ref cda) qual = true) (T : OexC K C) (hno : findIn K (.ref C) fld = some none) (nx : x ≠ "self") (hdx : (x == ("__debug__" : Str)) = false) (hpos : (p2.endLine == p4.line) = true)
    (hcell : ∀ y ∈ names, y.2 ≠ .cell)
    (hs : names.lookup ("self" : Str) = some .local) (hx : names.lookup x = some .local) (hks : names.lookup ("super" : Str) = some .globalImplicit) (hkc : names.lookup ("__class__" : Str) = some .free)
    {ar : Arg} (hp : (params.posonlyargs ++ params.args).head? = some ar) (har : ar.arg = "self")
    {ccl cl : Value} {cdd cld : Option Addr} {ccs csl : Array (Option Value)} {vs : Array Value} {file : Str} {tf : Tok}
    (hcode : K.lookup cda = some ⟨ccl, cdd, .fields vs, ccs⟩) (hvs : vs[2]? = some (.str file tf)) (hfile : ((P.main.file : Str) == file) = true) (htop : (P.main.scope.names.lookup ("super" : Str)).isSome = false)
    (hcc : K.lookup cc = some ⟨cl, cld, .cell (some (.ref C)), csl⟩) (hmg : mg "super" = none) (hboot : bootBuiltins "super" = some (.type "super"))
    (hsub : mroIn K C (.ref C) = some true) (hal : ks_superIn K C C "__init__" = some (some (.builtin "ValueError.__init__"))) (hve : subIn K (.ref C) (.type "ValueError") = some true) (hop : nsIn K cStatics "thirdparty.any" = some none) :
    FnOk P w K mg base CX (k + 1) f (ksFn "__init__" qual params [.Expr (.Call (.Attribute (.Call (.Name "super" p0) [] [] p1) "__init__" p2) [.Name x p3] [] p4) p5, .Assign [.Attribute (.Name "self" p6) fld p7] (.Name x p8) p9] (⟨.function, names, false, false, more⟩ : Scope) dV kV doc pm an (.ref cda) ct cc) ["self", x] (sp_xi K C fld) := by
  refine ⟨fun vs H Q E h => by obtain ⟨a, y, rfl, _⟩ := h; rfl, fun A outer s H args us vs Q E hr e0 hb r hsp => ?_⟩
  obtain ⟨a, y, rfl, ea, q⟩ := hsp
  cases r with
  | @cons _ ua _ ur ra rw' =>
  cases rw' with
  | @cons _ u _ ur' ry rn =>
  cases rn
  obtain rfl : ua = Value.ref a := ra
  have KX : K.In s.heap := e0.mod.kin.keeps fun b o e => (e0.bs b o e).1
  have lim : s.heap.NoLimit := e0.mod.nolimit.keeps fun b o e => (e0.bs b o e).1
  have S := scX_ok (sc := (⟨.function, names, false, false, more⟩ : Scope)) (x := x) rfl rfl rfl nx
  have nxs : (x == ("self" : Str)) = false := by simpa using nx
  have nsx : (("self" : Str) == x) = false := by simpa using fun z : ("self" : Str) = x => nx z.symm
  have hl2 : (("self" : Str), Value.ref a) = (("self" : Str), Value.ref a) := rfl
  have bl : ∀ z, List.lookup z ([((("self" : Str), Value.ref a) : Str × Value), (x, u)].reverse) = if z = x then some u else if z = ("self" : Str) then some (.ref a) else none := fun z => by
    show List.lookup z [(x, u), ((("self" : Str), Value.ref a) : Str × Value)] = _
    by_cases h1 : z = x
    · rw [h1, if_pos rfl]
      simp [List.lookup]
    · have e1 : (z == x) = false := by simpa using h1
      rw [if_neg h1]
      by_cases h2 : z = ("self" : Str)
      · rw [if_pos h2, h2]
        have e1 : (("self" : Str) == x) = false := nsx
        simp [List.lookup, e1]
      · have e2 : (z == ("self" : Str)) = false := by simpa using h2
        rw [if_neg h2]
        simp [List.lookup, e1, e2]
  refine ks_codeAny_call_defAt (binds := [((("self" : Str), Value.ref a) : Str × Value), (x, u)]) hr.depth (KX _ _ lk) rfl lim (codeRec_of KX hcd) rfl hb hcell (fun z hz => ?_) (fun h1 hns hk1 => ?_) rfl rfl rfl
  · have : z = ((("self" : Str), Value.ref a) : Str × Value) ∨ z = (x, u) := by simpa using hz
    rcases this with rfl | rfl
    · exact hs
    · exact hx
  have hns1 := hns
  rw [show (fun z => List.lookup z ([((("self" : Str), Value.ref a) : Str × Value), (x, u)].reverse)) = fun z => if z = x then some u else if z = ("self" : Str) then some (.ref a) else none from funext bl] at hns1
  have kx : (scX (⟨.function, names, false, false, more⟩ : Scope) x).names.lookup x = some .local := by
    show List.lookup x [((("self" : Str), NameKind.local) : Str × NameKind), (x, .local)] = _
    simp [List.lookup, nxs]
  have J0 : Inv (cxOf CX P w K mg base ["self", x] qual (scX (⟨.function, names, false, false, more⟩ : Scope) x) f (.ref cda) A outer s H E) [] (start ["self", x] [.ref a, y]) H { s with heap := h1, toks := s.toks + 2 } := by
    refine inv_start (us := [.ref a, u]) S hr.hd e0 rfl (.cons rfl (.cons ry .nil)) ⟨⟨⟨h1, _, rfl⟩, ?_, hk1, Nat.le_refl _⟩, fun n c hh => ?_, .nil, fun n c hh => ?_⟩
    · have e : bindL (envOfC qual (scX (⟨.function, names, false, false, more⟩ : Scope) x) s.heap.objs.size f (.ref cda)).kindOf ((["self", x] : List Str).zip [.ref a, u]) (fun _ => none) = fun z => if z = x then some u else if z = ("self" : Str) then some (.ref a) else none := by
        show bindL _ [((("self" : Str), Value.ref a) : Str × Value), (x, u)] _ = _
        unfold bindL
        rw [if_pos (show (envOfC qual (scX (⟨.function, names, false, false, more⟩ : Scope) x) s.heap.objs.size f (.ref cda)).kindOf "self" = some .local from rfl)]
        unfold bindL
        rw [if_pos (show (envOfC qual (scX (⟨.function, names, false, false, more⟩ : Scope) x) s.heap.objs.size f (.ref cda)).kindOf x = some .local from kx)]
        rfl
      rw [e]
      exact hns1
    · cases hh
    · cases hh
  have KX1 : K.In h1 := J0.kIn
  obtain ⟨mb, hb1, hb2⟩ := J0.mod.blt
  obtain ⟨nm, qn, N, bs, bm, sn, sub, ab, col, dd, k0, k1, k2, k3, k5, hC, hbm⟩ := T.cls
  have hcl : clsIn K C = some { name := nm, bases := bs, mro := .ref C :: bm, ns := N, qualname := qn, hasDict := true, slotNames := sn, subclasses := sub, abstract := ab, collection := col, hasDel := false } := by unfold clsIn; rw [hC] <;> rfl
  obtain ⟨t1, ho⟩ := exo_at J0.hok ea
  have ho : h1.get? a = some ({ cls := .ref C, dict := none, data := .fields #[.ref t1, .none, .none, .none, .bool false, .none] } : Obj) := ho
  have vself : (fun z => if z = x then some u else if z = ("self" : Str) then some (Value.ref a) else none) ("self" : Str) = some (.ref a) := by
    show (if ("self" : Str) = x then some u else if ("self" : Str) = ("self" : Str) then some (Value.ref a) else none) = _
    rw [if_neg fun z => nx z.symm, if_pos rfl]
  have vx : (fun z => if z = x then some u else if z = ("self" : Str) then some (Value.ref a) else none) x = some u := if_pos rfl
  refine ks_wpAt_execs_cons (ks_wpAt_Expr_any (ks_wpAt_MethodCall ?_ (he_super hpos)))
  refine ks_wpAt_super_base hks hkc rfl rfl (KX1 _ _ lk) rfl hp rfl (KX1 _ _ hcode) rfl hvs hfile htop ?_
  refine ks_loadName_global rfl hks (loadGlobal_builtin (J0.mod.glob.keeps J0.bk) hmg (hb1.keeps J0.bk) ((hb2 "super" (by decide)).trans hboot) ⟨rfl, ?_⟩)
  refine wpAny_loadName_free rfl hkc rfl ⟨_, KX1 _ _ hcc, rfl⟩ ?_
  rw [har]
  refine wpAny_loadName_local rfl hs hns1 vself ?_
  refine ks_wpAny_isType_cls (KX1 _ _ hC) rfl ⟨rfl, ?_⟩
  refine ks_wpAny_call_super (KX1 _ _ hC) rfl ho rfl (fun c z => by cases z) (looks_mroIn KX1 hsub) (fun h2 hso k2 => ?_)
  have J2 := J0.kept (t' := s.toks + 2) k2
  have KX2 : K.In h2 := J2.kIn
  have I2 : W.InstAt h2 a _ C none := ⟨k2 _ _ ho, rfl, rfl, trivial⟩
  have hal2 : alongIn K "__init__" (((Value.ref C :: bm).dropWhile (· != .ref C)).drop 1) = some (some (.builtin "ValueError.__init__")) := by
    have z := hal
    unfold ks_superIn at z
    rw [hcl] at z
    exact z
  refine kxs_getMethod kxs_ValueError hso (looks_opaque KX2 hop) (l₀ := .ref C :: bm) (fun A Q E s k q => wpAny_bind ((looks_clsIn KX2 hcl) A _ E s k (wpAny_pure q))) rfl KX2 hal2 (I2.type.andThen (looks_subIn KX2 hve)) (ks_ne KX2 I2 hcl) rfl ?_
  have J3 := J2.kept (h' := h2.push (kxs_mw "ValueError.__init__" a)) (t' := s.toks + 2 + 1) fun b o e => Heap.get?_push_of_some _ e
  have hu3 : (h2.push (kxs_mw "ValueError.__init__" a)).get? h2.objs.size = some (kxs_mw "ValueError.__init__" a) := Heap.get?_push_at rfl rfl
  have k13 : ∀ b o, h1.get? b = some o → (h2.push (kxs_mw "ValueError.__init__" a)).get? b = some o := fun b o e => Heap.get?_push_of_some _ (k2 b o e)
  generalize h2.push (kxs_mw "ValueError.__init__" a) = h3 at *
  have hns3 := hns1.keeps k13
  refine callWith_mw (i := "ValueError.__init__") (x := a) ?_
  refine args_cons (wpAny_Name (wpAny_loadName_local rfl hx hns3 vx ?_) hdx)
  refine args_nil ⟨hu3, ?_⟩
  refine call_mw (J3.kIn _ _ hC) (k13 _ _ ho) hu3 (by show 1 ≤ sizeLine; decide) (fun h4 t4 k4 he4 => ?_)
  have J4 := J3.write (t' := s.toks + 2 + 1) (h' := h4) (x := a) (e := a) (o := exo a C none) (by rw [ea]; exact True.intro) (.inl rfl) k4 ⟨_, he4⟩ (exo_ok he4)
  have eu : upd H a (exo a C none) = H := by
    funext b
    by_cases hb : b = a
    · rw [hb, upd_same, ea]
    · rw [upd_ne hb]
  rw [eu] at J4
  have hns4 : h4.Ns s.heap.objs.size (fun z => if z = x then some u else if z = ("self" : Str) then some (Value.ref a) else none) := by
    obtain ⟨oL, es, ep, hL, rL⟩ := hns3
    refine ⟨oL, es, ep, k4 _ _ (fun z => ?_) hL, rL⟩
    have fr := e0.hok.fresh (Nat.le_refl s.heap.objs.size)
    rw [z, ea] at fr
    cases fr
  refine ks_wpAt_execs_cons (ks_wpAt_Assign_Attr ?_)
  refine wpAt_of_any (wpAny_Name (wpAny_loadName_local rfl hx hns4 vx ?_) hdx)
  refine wpAny_Name (wpAny_loadName_local rfl hs hns4 vself ?_) (by decide)
  refine ost_new T J4 ea hno ry (fun dx s' hdx' ne J5 => ?_)
  refine wpAt_of_any (wpAny_pure ?_)
  exact ⟨.non, _, J5.os, J5.bare, J5.base, J5.hok, rfl, q dx hdx' ne⟩
end
end LaneX
set_option Elab.async false
set_option linter.all false
set_option maxRecDepth 100000
set_option maxHeartbeats 4000000
namespace LaneX
open PySem PySem.Spec PyProof.Rows L2
/-! ### an own exception with super().__init__(x), self.f = x: looked at, made -/
def oexB (K : PySem.W.Frag) (C : Addr) : Bool := match K.lookup C with
  | some ⟨.type t, _, .cls cd, sl⟩ => decide (t = "type") && (match cd.mro, sl.toList with
    | .ref C' :: bm, [_, _, _, _, some (.builtin n), _] => C' == C && (n == "ValueError.__new__" && (!cd.hasDel && (cd.hasDict && PySem.HandSPX.refsVE bm)))
    | _, _ => false)
  | _ => false
theorem oexB_ok {K : PySem.W.Frag} {C : Addr} (h : oexB K C = true) : ∃ nm q N bs bm sn sub ab col dd k0 k1 k2 k3 k5, K.lookup C = some (excClassObj nm q C N bs bm true sn sub ab col dd k0 k1 k2 k3 k5 "ValueError.__new__") ∧ PySem.HandSPX.refsVE bm = true := by
  unfold oexB at h
  split at h
  · rename_i t od cd sl ho
    obtain ⟨h1, h⟩ := He.ba h
    split at h
    · rename_i C' bm k0 k1 k2 k3 n k5 hm hs
      obtain ⟨h2, h⟩ := He.ba h
      obtain ⟨h3, h⟩ := He.ba h
      obtain ⟨h4, h⟩ := He.ba h
      obtain ⟨h5, h6⟩ := He.ba h
      obtain rfl := beq_iff_eq.mp h2
      obtain rfl := beq_iff_eq.mp h3
      obtain rfl := of_decide_eq_true h1
      obtain ⟨nm, bs, mro, N, q, hd, sn, sub, ab, col, del⟩ := cd
      dsimp only at hm h4 h5
      subst hm
      subst h5
      have hdel : del = false := by cases del <;> first | rfl | cases h4
      subst hdel
      have hsl : sl = #[k0, k1, k2, k3, some (.builtin "ValueError.__new__"), k5] := by
        apply Array.ext'
        exact hs
      exact ⟨nm, q, N, bs, bm, sn, sub, ab, col, od, k0, k1, k2, k3, k5, by rw [ho, hsl], h6⟩
    · cases h
  · cases h
/-- the file of a code object -/
def fileB (p : Program) (K : PySem.W.Frag) (cda : Addr) : Bool := match K.lookup cda with
  | some ⟨_, _, .fields vs, _⟩ => (match (vs : Array Value)[2]? with
    | some (Value.str file _) => (p.main.file : Str) == file
    | _ => false)
  | _ => false
theorem fileB_ok {p : Program} {K : PySem.W.Frag} {cda : Addr} (h : fileB p K cda = true) : ∃ (ccl : Value) (cdd : Option Addr) (vs : Array Value) (ccs : Array (Option Value)) (file : Str) (tf : Tok), K.lookup cda = some ⟨ccl, cdd, .fields vs, ccs⟩ ∧ vs[2]? = some (.str file tf) ∧ ((p.main.file : Str) == file) = true := by
  unfold fileB at h
  split at h
  · rename_i ccl cdd vs ccs ho
    split at h
    · rename_i file tf hv
      exact ⟨_, _, _, _, _, _, ho, hv, h⟩
    · cases h
  · cases h
/-- a cell that holds C -/
def cellB (K : PySem.W.Frag) (cc C : Addr) : Bool := match K.lookup cc with
  | some ⟨_, _, .cell (some (.ref D)), _⟩ => D == C
  | _ => false
theorem cellB_ok {K : PySem.W.Frag} {cc C : Addr} (h : cellB K cc C = true) : ∃ (cl : Value) (cld : Option Addr) (csl : Array (Option Value)), K.lookup cc = some ⟨cl, cld, .cell (some (.ref C)), csl⟩ := by
  unfold cellB at h
  split at h
  · rename_i cl cld D csl ho
    obtain rfl := beq_iff_eq.mp h
    exact ⟨_, _, _, ho⟩
  · cases h
def xiA (x fld : Str) (nm a0 a1 s0 s1 x1 s2 f1 x2 cn : Str) (g b : Addr) : Bool := decide (nm = "__init__" ∧ a0 = "self" ∧ a1 = x ∧ s0 = "super" ∧ s1 = "__init__" ∧ x1 = x ∧ s2 = "self" ∧ f1 = fld ∧ x2 = x ∧ g = mainGlobals ∧ b = builtinsNs ∧ cn = "__class__")
def xiN (x : Str) (names : List (Str × NameKind)) : Bool := decide (∀ y ∈ names, y.2 ≠ .cell) && decide (names.lookup ("self" : Str) = some .local ∧ names.lookup x = some .local ∧ names.lookup ("super" : Str) = some .globalImplicit ∧ names.lookup ("__class__" : Str) = some .free)
def exiB (p : Program) (K : PySem.W.Frag) (C f : Addr) (x fld : Str) : Bool := match K.lookup f with
  | some ⟨_, _, .func ⟨nm, qual, ⟨[], [⟨a0, _, _⟩, ⟨a1, _, _⟩], none, [], [], none, []⟩, .stmts [.Expr (.Call (.Attribute (.Call (.Name s0 _) [] [] _) s1 p2) [.Name x1 _] [] p4) _, .Assign [.Attribute (.Name s2 _) f1 _] (.Name x2 _) _], ⟨.function, names, false, false, more⟩, g, [(cn, cc)], .none, kV, doc, pm, an, .ref cda, ct, b⟩, _⟩ =>
    xiA x fld nm a0 a1 s0 s1 x1 s2 f1 x2 cn g b && ((p2.endLine == p4.line) && (xiN x names && (PySem.W.codeIn K (.ref cda) qual && (fileB p K cda && cellB K cc C))))
  | _ => false
/-- all that is asked of such a class -/
def exkB (p : Program) (K : PySem.W.Frag) (C : Addr) (x fld : Str) : Bool :=
  oexB K C && (He.eqO (PySem.W.findIn K (.ref C) "__setattr__") (some (some (.builtin "object.__setattr__"))) && (decide (PySem.W.subIn K (.ref C) (.type "BaseException") = some true) && ((PySem.W.typeIn K (.ref C) == some (.type "type")) && (PySem.W.keepIn K (.ref C) &&
  (He.eqO (PySem.W.findIn K (.ref C) fld) (some none) && (decide (PySem.W.mroIn K C (.ref C) = some true) && (He.eqO (PySem.W.ks_superIn K C C "__init__") (some (some (.builtin "ValueError.__init__"))) && (decide (PySem.W.subIn K (.ref C) (.type "ValueError") = some true) &&
  (He.eqO (PySem.W.nsIn K cStatics "thirdparty.any") (some none) && (match PySem.W.findIn K (.ref C) "__init__" with
    | some (some (.ref f)) => (PySem.W.typeIn K (.ref f) == some (.type "function")) && exiB p K C f x fld
    | _ => false))))))))))
structure Xi (P : Program) (K : PySem.W.Frag) (mg : Str → Option Value) (C : Addr) (x fld : Str) : Prop where
  T : OexC K C
  ini : ∃ (f : Addr) (fd : FuncData), PySem.W.findIn K (.ref C) "__init__" = some (some (.ref f)) ∧ PySem.W.typeIn K (.ref f) = some (.type "function") ∧ Binds K fd ["self", x] [] ∧
    ∀ (w : World) (base : Heap) (CX : CXT) (k : Nat), FnOk P w K mg base CX (k + 1) f fd ["self", x] (sp_xi K C fld)
/-- the parameters bind by place (true of any written name: by rfl) -/
def BndX (x : Str) : Prop := ∀ (nm qual : Str) (a0 : Option Expr) (p0 : Pos) (a1 : Option Expr) (p1 : Pos) (body : List Stmt) (sc : Scope) (kV doc pm : Value) (an : Option Addr) (cdv ct : Value) (cc : Addr) (u1 u2 : Value),
  bindArgs (PySem.W.ksFn nm qual ⟨[], [⟨"self", a0, p0⟩, ⟨x, a1, p1⟩], none, [], [], none, []⟩ body sc .none kV doc pm an cdv ct cc) ⟨[u1, u2], []⟩ = pure [((("self" : Str), u1) : Str × Value), (x, u2)]
theorem bnd_test : BndX "index" := fun _ _ _ _ _ _ _ _ _ _ _ _ _ _ _ _ _ => rfl
theorem exiB_ok {P : Program} {K : PySem.W.Frag} {mg : Str → Option Value} {C f : Addr} {x fld : Str} (h : exiB P K C f x fld = true) (T : OexC K C) (hno : PySem.W.findIn K (.ref C) fld = some none) (bx : BndX x) (nx : x ≠ "self") (hdx : (x == ("__debug__" : Str)) = false)
    (htop : (P.main.scope.names.lookup ("super" : Str)).isSome = false) (hmg : mg "super" = none) (hboot : bootBuiltins "super" = some (.type "super")) (hsub : PySem.W.mroIn K C (.ref C) = some true) (hal : PySem.W.ks_superIn K C C "__init__" = some (some (.builtin "ValueError.__init__")))
    (hve : PySem.W.subIn K (.ref C) (.type "ValueError") = some true) (hop : PySem.W.nsIn K cStatics "thirdparty.any" = some none) :
    ∃ fd : FuncData, Binds K fd ["self", x] [] ∧ ∀ (w : World) (base : Heap) (CX : CXT) (k : Nat), FnOk P w K mg base CX (k + 1) f fd ["self", x] (sp_xi K C fld) := by
  unfold exiB at h
  split at h
  · rename_i oc od nm qual a0 an0 ap0 a1 an1 ap1 s0 p0 p1 s1 p2 x1 p3 p4 p5 s2 p6 f1 p7 x2 p8 p9 names more g cn cc kV doc pm an cda ct b osl ho
    obtain ⟨h1, h⟩ := He.ba h
    obtain ⟨h2, h⟩ := He.ba h
    obtain ⟨h3, h⟩ := He.ba h
    obtain ⟨h4, h⟩ := He.ba h
    obtain ⟨h5, h6⟩ := He.ba h
    obtain ⟨rfl, rfl, rfl, rfl, rfl, rfl, rfl, rfl, rfl, rfl, rfl, rfl⟩ := of_decide_eq_true h1
    obtain ⟨h7, h8⟩ := He.ba h3
    have h7 := of_decide_eq_true h7
    obtain ⟨n1, n2, n3, n4⟩ := of_decide_eq_true h8
    obtain ⟨ccl, cdd, vs, ccs, file, tf, e1, e2, e3⟩ := fileB_ok h5
    obtain ⟨cl, cld, csl, e4⟩ := cellB_ok h6
    refine ⟨_, .all fun us hl => ?_, fun w base CX k => xi_ok ho h4 T hno nx hdx h2 h7 n1 n2 n3 n4 rfl rfl e1 e2 e3 htop e4 hmg hboot hsub hal hve hop⟩
    match us, hl with
    | [_, _], _ => exact bx _ _ _ _ _ _ _ _ _ _ _ _ _ _ _ _ _
  · cases h
theorem exkB_ok {P : Program} {K : PySem.W.Frag} {mg : Str → Option Value} {C : Addr} {x fld : Str} (h : exkB P K C x fld = true) (bx : BndX x) (nx : x ≠ "self") (hdx : (x == ("__debug__" : Str)) = false) (htop : (P.main.scope.names.lookup ("super" : Str)).isSome = false) (hmg : mg "super" = none) (hboot : bootBuiltins "super" = some (.type "super")) : Xi P K mg C x fld := by
  unfold exkB at h
  obtain ⟨h1, h⟩ := He.ba h
  obtain ⟨h2, h⟩ := He.ba h
  obtain ⟨h3, h⟩ := He.ba h
  obtain ⟨h4, h⟩ := He.ba h
  obtain ⟨h5, h⟩ := He.ba h
  obtain ⟨h6, h⟩ := He.ba h
  obtain ⟨h7, h⟩ := He.ba h
  obtain ⟨h8, h⟩ := He.ba h
  obtain ⟨h9, h⟩ := He.ba h
  obtain ⟨h10, h⟩ := He.ba h
  have T : OexC K C := ⟨oexB_ok h1, He.eqO_ok h2, of_decide_eq_true h3, beq_iff_eq.mp h4, h5⟩
  split at h
  · rename_i f hf
    obtain ⟨h11, h12⟩ := He.ba h
    obtain ⟨fd, b, F⟩ := exiB_ok h12 T (He.eqO_ok h6) bx nx hdx htop hmg hboot (of_decide_eq_true h7) (He.eqO_ok h8) (of_decide_eq_true h9) (He.eqO_ok h10)
    exact ⟨T, f, fd, hf, beq_iff_eq.mp h11, b, F⟩
  · cases h
end LaneX
set_option Elab.async false
set_option linter.all false
set_option maxRecDepth 100000
set_option maxHeartbeats 4000000
namespace LaneX
open PySem PySem.Spec PyProof.Rows L2
/-! ### a hook whose part holds the statics too (super() asks them) -/
abbrev frY (n : Nat) (g : Addr → Option Obj) : PySem.W.Frag := He.frT g (cStatics :: He.asD g n)
def obsY (n : Nat) (fa : List He.Fa) (fn : List He.DefD) (tf : List He.Defn) (ex : PySem.W.Frag → Bool) (g : Addr → Option Obj) : He.AlX := (He.obsT fa fn [] (frY n g), ex (frY n g) && He.tabsB g tf (frY n g))
theorem tab_y {g : Addr → Option Obj} {tf : List He.Defn} {K : PySem.W.Frag} (h : He.tabsB g tf K = true) {p : He.Defn} (hp : p ∈ tf) : PySem.W.codeHdIn K (He.cT K p).1 (He.cT K p).2 = true ∧ ∃ o, g (He.cT K p).2 = some o ∧ He.emptyTab o = true := by
  have z := List.all_eq_true.mp h p hp
  cases e : g (He.cT K p).2 with
  | none =>
    have z := (Bool.and_eq_true_iff.mp z).2
    rw [e] at z
    cases z
  | some o =>
    obtain ⟨z1, z2⟩ := Bool.and_eq_true_iff.mp z
    rw [e] at z2
    exact ⟨z1, o, rfl, z2⟩
theorem says_y {n : Nat} {fa : List He.Fa} {fn : List He.DefD} {tf : List He.Defn} {ex : PySem.W.Frag → Bool} {w : World} {h : Heap} (e : obsY n fa fn tf ex h.get? = He.valX fn [] w) : He.SaysX fa fn [] tf ex w h (frY n h.get?) := by
  obtain ⟨e1, e2⟩ := Prod.mk.inj e
  obtain ⟨b1, b2⟩ := Bool.and_eq_true_iff.mp e2
  refine { t := e1, more := b1, hd := fun p hp => (tab_y b2 hp).1, out := fun p hp => ?_, empty := fun p hp => ?_ }
  · obtain ⟨_, o, q, z⟩ := tab_y b2 hp
    exact He.frT_none q z
  · obtain ⟨_, o, q, z⟩ := tab_y b2 hp
    exact q.trans (congrArg some (He.emptyTab_eq z))
def hookY (n : Nat) (fa : List He.Fa) (fn : List He.DefD) (tf : List He.Defn) (ex : PySem.W.Frag → Bool) : PySem.W.Hook :=
  ⟨He.AlX, fun s => obsY n fa fn tf ex s.heap.get?, fun w => He.valX fn [] w, fun w h => ∃ K : PySem.W.Frag, K.In h ∧ He.SaysX fa fn [] tf ex w h K, fun _ _ e => ⟨_, He.frT_in, says_y e⟩,
    fun _ _ _ a k => a.imp fun K z => ⟨z.1.keeps k, { z.2 with empty := fun p hp => k _ _ (z.2.empty p hp) }⟩⟩
theorem obsY_eq {n : Nat} {fa : List He.Fa} {fn : List He.DefD} {tf : List He.Defn} {ex : PySem.W.Frag → Bool} {g : Addr → Option Obj} {s : Shared} (h : ∀ a, g a = s.heap.get? a) : obsY n fa fn tf ex g = (hookY n fa fn tf ex).obs s := by
  obtain rfl : g = s.heap.get? := funext h
  rfl
/-- what is seen, in two looks -/
theorem two_y {σ β : Type} {O : Option σ} {l : σ → Bool} {q : σ → β} {g : σ → Addr → Option Obj} {n : Nat} {lv : Bool} {qv : β} {w : World} {fa : List He.Fa} {fn : List He.DefD} {ex : PySem.W.Frag → Bool} {tf : List He.Defn} (a : O.map (fun s => (l s, q s, obsY n fa [] tf ex (g s))) = some (lv, qv, He.valX [] [] w))
    (b : O.map (fun s => obsY n [] fn [] (fun _ => true) (g s)) = some (He.valX fn [] w)) : O.map (fun s => (l s, q s, obsY n fa fn tf ex (g s))) = some (lv, qv, He.valX fn [] w) := by
  cases O with
  | none => cases a
  | some s =>
    have a := Option.some.inj a
    have b := Option.some.inj b
    obtain ⟨a1, a⟩ := Prod.mk.inj a
    obtain ⟨a2, a⟩ := Prod.mk.inj a
    unfold obsY He.valX He.obsT He.valT He.obsD He.valD at a b
    obtain ⟨a3, a4⟩ := Prod.mk.inj a
    obtain ⟨b3, b4⟩ := Prod.mk.inj b
    have a5 := (Prod.mk.inj (Prod.mk.inj a3).1).1
    obtain ⟨b5, b6⟩ := Prod.mk.inj (Prod.mk.inj b3).1
    show some (l s, q s, obsY n fa fn tf ex (g s)) = _
    unfold obsY He.valX He.obsT He.valT He.obsD He.valD
    rw [a1, a2]
    rw [List.all_nil, Bool.and_true] at a5
    rw [List.all_nil, Bool.true_and] at b5
    rw [a4, a5, b5, b6]
    rfl
end LaneX
set_option Elab.async false
set_option linter.all false
set_option maxRecDepth 100000
set_option maxHeartbeats 0
namespace LaneX
open PySem PySem.Spec PyProof.Rows L2
def fa : List He.Fa := ([.free "abs", .free "all", .free "any", .free "bool", .free "enumerate", .free "int", .free "isinstance", .free "len", .free "list", .free "max", .free "min", .free "range", .free "sorted", .free "tuple", .free "zip", .glo "Space", .cls "Space", .mkr "Space", .noat "Space" "bits", .noat "Space" "rows"] : List He.Fa) ++ ([.noat "Space" "dimension", .glo "Spread", .cls "Spread", .mkr "Spread", .noat "Spread" "bits", .noat "Spread" "slots", .noat "Spread" "lanes", .glo "is_whole", .glo "need_whole", .glo "need_items", .glo "need_word", .glo "need_words", .glo "cleared", .glo "grown", .glo "spanned", .glo "met", .glo "need_space", .glo "any_spread", .meth "Space" "__and__", .meth "Space" "completing"] : List He.Fa) ++ ([.meth "Spread" "slot_space", .glo "_law_draw", .glo "_law_begin", .glo "_law_pick", .glo "_law_word", .glo "_law_mixed", .glo "_law_left", .glo "_law_basis", .glo "_law_size", .glo "_law_image", .glo "_law_tagged", .glo "_law_kernel", .glo "falling", .glo "need_spreads", .glo "need_widths", .glo "meets_down", .glo "fitting", .glo "chain", .glo "_law_truth", .glo "_law_meet"] : List He.Fa) ++ ([.glo "_law_made", .glo "_law_slot_lists", .glo "_law_has_chain", .glo "_law_chain_right", .glo "law"] : List He.Fa)
def d_is_whole : He.DefD := ⟨("is_whole", none), "is_whole", "is_whole", defArgs s_is_whole, defBody s_is_whole, defScope s_is_whole, [], []⟩
def d_need_whole : He.DefD := ⟨("need_whole", none), "need_whole", "need_whole", defArgs s_need_whole, defBody s_need_whole, defScope s_need_whole, [], []⟩
def d_need_items : He.DefD := ⟨("need_items", none), "need_items", "need_items", defArgs s_need_items, defBody s_need_items, defScope s_need_items, [], []⟩
def d_need_word : He.DefD := ⟨("need_word", none), "need_word", "need_word", defArgs s_need_word, defBody s_need_word, defScope s_need_word, [], []⟩
def d_need_words : He.DefD := ⟨("need_words", none), "need_words", "need_words", defArgs s_need_words, defBody s_need_words, defScope s_need_words, [], []⟩
def d_cleared : He.DefD := ⟨("cleared", none), "cleared", "cleared", defArgs s_cleared, defBody s_cleared, defScope s_cleared, [], []⟩
def d_grown : He.DefD := ⟨("grown", none), "grown", "grown", defArgs s_grown, defBody s_grown, defScope s_grown, [], []⟩
def d_spanned : He.DefD := ⟨("spanned", none), "spanned", "spanned", defArgs s_spanned, defBody s_spanned, defScope s_spanned, [], []⟩
def d_met : He.DefD := ⟨("met", none), "met", "met", defArgs s_met, defBody s_met, defScope s_met, [], []⟩
def d_Space_init : He.DefD := ⟨("Space", some "__init__"), "__init__", "Space.__init__", defArgs s_Space_init, defBody s_Space_init, defScope s_Space_init, [], []⟩
def d_Spread_init : He.DefD := ⟨("Spread", some "__init__"), "__init__", "Spread.__init__", defArgs s_Spread_init, defBody s_Spread_init, defScope s_Spread_init, [], []⟩
def d_need_space : He.DefD := ⟨("need_space", none), "need_space", "need_space", defArgs s_need_space, defBody s_need_space, defScope s_need_space, [], []⟩
def d_any_spread : He.DefD := ⟨("any_spread", none), "any_spread", "any_spread", defArgs s_any_spread, defBody s_any_spread, defScope s_any_spread, [], []⟩
def d_Space_and : He.DefD := ⟨("Space", some "__and__"), "__and__", "Space.__and__", defArgs s_Space_and, defBody s_Space_and, defScope s_Space_and, [], []⟩
def d_Space_completing : He.DefD := ⟨("Space", some "completing"), "completing", "Space.completing", defArgs s_Space_completing, defBody s_Space_completing, defScope s_Space_completing, [], []⟩
def d_Spread_slot_space : He.DefD := ⟨("Spread", some "slot_space"), "slot_space", "Spread.slot_space", defArgs s_Spread_slot_space, defBody s_Spread_slot_space, defScope s_Spread_slot_space, [], []⟩
def d_drawL : He.DefD := ⟨("_law_draw", none), "_law_draw", "_law_draw", defArgs s_drawL, defBody s_drawL, defScope s_drawL, [], []⟩
def d_beginL : He.DefD := ⟨("_law_begin", none), "_law_begin", "_law_begin", defArgs s_beginL, defBody s_beginL, defScope s_beginL, [], []⟩
def d_pickL : He.DefD := ⟨("_law_pick", none), "_law_pick", "_law_pick", defArgs s_pickL, defBody s_pickL, defScope s_pickL, [], []⟩
def d_wordL : He.DefD := ⟨("_law_word", none), "_law_word", "_law_word", defArgs s_wordL, defBody s_wordL, defScope s_wordL, [], []⟩
def d_mixedL : He.DefD := ⟨("_law_mixed", none), "_law_mixed", "_law_mixed", defArgs s_mixedL, defBody s_mixedL, defScope s_mixedL, [], []⟩
def d_leftL : He.DefD := ⟨("_law_left", none), "_law_left", "_law_left", defArgs s_leftL, defBody s_leftL, defScope s_leftL, [], []⟩
def d_basisL : He.DefD := ⟨("_law_basis", none), "_law_basis", "_law_basis", defArgs s_basisL, defBody s_basisL, defScope s_basisL, [], []⟩
def d_sizeL : He.DefD := ⟨("_law_size", none), "_law_size", "_law_size", defArgs s_sizeL, defBody s_sizeL, defScope s_sizeL, [], []⟩
def d_imageL : He.DefD := ⟨("_law_image", none), "_law_image", "_law_image", defArgs s_imageL, defBody s_imageL, defScope s_imageL, [], []⟩
def d_taggedL : He.DefD := ⟨("_law_tagged", none), "_law_tagged", "_law_tagged", defArgs s_taggedL, defBody s_taggedL, defScope s_taggedL, [], []⟩
def d_kernelL : He.DefD := ⟨("_law_kernel", none), "_law_kernel", "_law_kernel", defArgs s_kernelL, defBody s_kernelL, defScope s_kernelL, [], []⟩
def d_falling : He.DefD := ⟨("falling", none), "falling", "falling", defArgs s_falling, defBody s_falling, defScope s_falling, [], []⟩
def d_need_spreads : He.DefD := ⟨("need_spreads", none), "need_spreads", "need_spreads", defArgs s_need_spreads, defBody s_need_spreads, defScope s_need_spreads, [], []⟩
def d_need_widths : He.DefD := ⟨("need_widths", none), "need_widths", "need_widths", defArgs s_need_widths, defBody s_need_widths, defScope s_need_widths, [], []⟩
def d_meets_down : He.DefD := ⟨("meets_down", none), "meets_down", "meets_down", defArgs s_meets_down, defBody s_meets_down, defScope s_meets_down, [], []⟩
def d_fitting : He.DefD := ⟨("fitting", none), "fitting", "fitting", defArgs s_fitting, defBody s_fitting, defScope s_fitting, [], []⟩
def d_chain : He.DefD := ⟨("chain", none), "chain", "chain", defArgs s_chain, defBody s_chain, defScope s_chain, [], []⟩
def d_truthL : He.DefD := ⟨("_law_truth", none), "_law_truth", "_law_truth", defArgs s_truthL, defBody s_truthL, defScope s_truthL, [], []⟩
def d_meetL : He.DefD := ⟨("_law_meet", none), "_law_meet", "_law_meet", defArgs s_meetL, defBody s_meetL, defScope s_meetL, [], []⟩
def d_madeL : He.DefD := ⟨("_law_made", none), "_law_made", "_law_made", defArgs s_madeL, defBody s_madeL, defScope s_madeL, [], []⟩
def d_slot_listsL : He.DefD := ⟨("_law_slot_lists", none), "_law_slot_lists", "_law_slot_lists", defArgs s_slot_listsL, defBody s_slot_listsL, defScope s_slot_listsL, [], []⟩
def d_has_chainL : He.DefD := ⟨("_law_has_chain", none), "_law_has_chain", "_law_has_chain", defArgs s_has_chainL, defBody s_has_chainL, defScope s_has_chainL, [], []⟩
def d_chain_rightL : He.DefD := ⟨("_law_chain_right", none), "_law_chain_right", "_law_chain_right", defArgs s_chain_rightL, defBody s_chain_rightL, defScope s_chain_rightL, [], []⟩
def d_law : He.DefD := ⟨("law", none), "law", "law", defArgs s_law, defBody s_law, defScope s_law, [], []⟩
def fn : List He.DefD := ([d_is_whole, d_need_whole, d_need_items, d_need_word, d_need_words, d_cleared, d_grown, d_spanned, d_met, d_Space_init, d_Spread_init, d_need_space, d_any_spread, d_Space_and, d_Space_completing, d_Spread_slot_space, d_drawL, d_beginL, d_pickL, d_wordL] : List He.DefD) ++ ([d_mixedL, d_leftL, d_basisL, d_sizeL, d_imageL, d_taggedL, d_kernelL, d_falling, d_need_spreads, d_need_widths, d_meets_down, d_fitting, d_chain, d_truthL, d_meetL, d_madeL, d_slot_listsL, d_has_chainL, d_chain_rightL, d_law] : List He.DefD)
def exC (K : PySem.W.Frag) (C : Addr) : Bool := He.eqO (PySem.W.findIn K (.ref C) "__class__") (some (some (.builtin "object.__class__"))) && (decide (PySem.W.takesIn K (.builtin "object.__class__") = some true) && (decide (PySem.W.mroIn K C (.type "object") = some true) && (decide (PySem.W.kitOne K (.ref C) (.ref C) = some true) && (He.eqO (PySem.W.specialIn K (.builtin "object.__class__") "__get__") (some (some (.builtin "getset_descriptor.__get__"))) && PySem.W.selfFirst K C))))
def exB (K : PySem.W.Frag) : Bool := exC K (He.ga K "Space") && exC K (He.ga K "Spread")
abbrev R : PySem.W.OpenRow := PySem.W.OpenLaw.row PySem.Challenge.rw_laneswap_k38_whole_widths
abbrev hk : PySem.W.Hook := hookY 4 fa fn [("falling", none)] exB
def ob (s : PySem.W.SharedT) : He.AlX := obsY 4 fa fn [("falling", none)] exB (HandSHeadRun.getT s)
theorem ob_eq (s : PySem.W.SharedT) : ob s = hk.obs s.abs := obsY_eq (HandSHeadRun.getT_eq s)
def names : List Str := (["_wall", "__name__", "LaneError", "BadValue", "NotOnto", "NotApart", "is_whole", "need_whole", "need_items", "need_word", "need_words", "cleared", "grown", "spanned", "tops_of", "missing", "met", "Space", "need_space", "Spread"] : List Str) ++ (["any_spread", "left_over", "need_spreads", "need_widths", "falling", "meets_down", "fitting", "chain", "_law_begin", "_law_draw", "_law_pick", "_law_word", "_law_mixed", "_law_left", "_law_basis", "_law_size", "_law_image", "_law_tagged", "_law_kernel", "_law_meet"] : List Str) ++ (["_law_truth", "_law_slot_lists", "_law_made", "_law_has_chain", "_law_chain_right"] : List Str)
theorem runA (w : World) : HandSHeadRun.RunEq R (PySem.W.view R.prog [51]) (hookY 4 fa [] [("falling", none)] exB) (fun s => obsY 4 fa [] [("falling", none)] exB (HandSHeadRun.getT s)) 6000 names w := by
  intro os
  kernel_rfl
theorem runB (w : World) : ∀ os : OsState, (HandSHeadRun.endF (HandSHeadRun.stepQ (HandSHeadRun.denQ HandSHeadRun.tabQ) R.prog w) 6000 R.prog w os).map (fun s => obsY 4 [] fn [] (fun _ => true) (HandSHeadRun.getT s)) = some (He.valX fn [] w) := by
  intro os
  kernel_rfl
theorem run (w : World) : HandSHeadRun.RunEq R (PySem.W.view R.prog [51]) hk ob 6000 names w := fun os => two_y (runA w os) (runB w os)
/-- the head, but for the walk -/
theorem hd (hc : PySem.W.WalkO (PySem.W.view (PySem.W.OpenLaw.row PySem.Challenge.rw_laneswap_k38_whole_widths).prog [51]) names (PySem.W.XL (PySem.W.view (PySem.W.OpenLaw.row PySem.Challenge.rw_laneswap_k38_whole_widths).prog [51]) []) hk.says (PySem.W.OpenLaw.row PySem.Challenge.rw_laneswap_k38_whole_widths).toRowW (HandSHeadRun.topDef (PySem.W.OpenLaw.row PySem.Challenge.rw_laneswap_k38_whole_widths).prog 51) [] fun f vs => PySem.call f vs) : PySem.Challenge.rw_laneswap_k38_whole_widths.Holds := by
  w_on; o_law
  refine HandSHeadRun.head_any (r := PySem.W.OpenLaw.row PySem.Challenge.rw_laneswap_k38_whole_widths) (q := PySem.W.view (PySem.W.OpenLaw.row PySem.Challenge.rw_laneswap_k38_whole_widths).prog [51]) (H := LaneX.hk) (ob := LaneX.ob) (M := 6000) (loose := LaneX.names) (d := HandSHeadRun.topDef (PySem.W.OpenLaw.row PySem.Challenge.rw_laneswap_k38_whole_widths).prog 51) (kwd := []) LaneX.ob_eq
    (by kernel_rfl) (fun s => by kernel_rfl) LaneX.run (by kernel_rfl) (by kernel_rfl) (by kernel_rfl) (by rfl) (by first | assumption | decide +kernel) (by decide +kernel) ⟨rfl, rfl, rfl, rfl, rfl, by decide +kernel⟩ ?hw hc
  case hw => w_witness2
theorem dp_law : (HandSHeadRun.topDef (PySem.W.OpenLaw.row PySem.Challenge.rw_laneswap_k38_whole_widths).prog 51).params.defaults = [] := by kernel_rfl
theorem nm_law : (HandSHeadRun.topDef (PySem.W.OpenLaw.row PySem.Challenge.rw_laneswap_k38_whole_widths).prog 51).name = ("law" : PySem.Str) := by kernel_rfl
end LaneX
set_option Elab.async false
set_option linter.all false
set_option maxRecDepth 100000
set_option maxHeartbeats 4000000
namespace LaneX
open PySem PySem.Spec PyProof.Rows L2
/-! ### C(y) of such a class, raised -/
theorem xi_mk {K : PySem.W.Frag} {C : Addr} {fld : Str} {H1 : Hp} {y : V} {Q : XK} (h : ∀ d, H1 d = none → Q (.ref C) (some d) (upd H1 d (.xd [(fld, y)]))) :
    ([y] : List V).length ≤ 1000 ∧ ∀ a, H1 a = none → sp_xi K C fld (.ref a :: ([y] ++ [])) (upd H1 a (exo a C none))
      (fun v H2 => v = .non ∧ ∃ (d : Addr) (fs : List (Str × V)), H2 a = some (exo a C (some d)) ∧ H2 d = some (exd d fs) ∧ H1 d = none ∧ Q (.ref C) (some d) (upd (del H2 a) d (.xd fs))) (fun _ _ _ => False) := by
  refine ⟨by show 1 ≤ 1000; decide, fun a ha => ⟨a, y, rfl, upd_same, fun dx hdx ne => ⟨rfl, dx, [(fld, y)], upd_same, (upd_ne ne).trans upd_same, ?_, ?_⟩⟩⟩
  · rw [upd_ne ne] at hdx
    exact hdx
  · have hd1 : H1 dx = none := by
      rw [upd_ne ne] at hdx
      exact hdx
    have e : upd (del (upd (upd (upd H1 a (exo a C none)) dx (exd dx [(fld, y)])) a (exo a C (some dx))) a) dx (.xd [(fld, y)]) = upd H1 dx (.xd [(fld, y)]) := by
      funext b
      by_cases hb : b = dx
      · rw [hb, upd_same, upd_same]
      · rw [upd_ne hb, upd_ne hb]
        by_cases hba : b = a
        · rw [hba, del_same, ha]
        · rw [del_ne hba, upd_ne hba, upd_ne hb, upd_ne hba]
    rw [e]
    exact h dx hd1
section
variable {X : Cx} {x xc fld : Str} {C : Addr} {p pos : Pos} {j : Nat} {e : Expr} {es : List Expr} {ta : TA}
theorem pmk_xi (T : Xi X.prog X.K X.mg C x fld) (gl : X.mg xc = some (.ref C)) (hr : Room j X.A) (ha : PA X (e :: es) ta) (hk : 2 ≤ j := by decide) (hg : Gl X xc := by rfl) (hdb : (xc == ("__debug__" : Str)) = false := by decide)
    (he : starEach (e :: es) X.env = (false, eval e X.env) :: starEach es X.env := by rfl) (hpl : (backTo pos (starEach es X.env)).any (·.1) = false := by rfl) :
    PMk X (.Call (.Name xc p) (e :: es) [] pos) (tMkO C (sp_xi X.K C fld) [] ta) := by
  obtain ⟨f, fd, h1, h2, h3, h4⟩ := T.ini
  exact pmk_oex T.T h1 h2 (h4 X.w X.base CX0 0) (hr.mono hk) h3 .nil pass0 hg gl ha hdb he hpl
end
/-! ### isinstance of a caught one that has its dict -/
theorem call_isXD {X : Cx} {a D : Addr} {oe : Obj} {pn : List (Addr × Obj)} {cls : Value} {d : Option Addr} (C : ExcC X.K D) (hz : Zc cls d oe) (hf : ∃ vs, oe.data = .fields vs) :
    CallR (X.suite a ((a, oe) :: pn)) (.builtin "isinstance") (fun xs H Q => cls = .ref D ∧ ∃ (dd : Addr) (fs : List (Str × V)), d = some dd ∧ H dd = some (.xd fs) ∧ rIsE X.K D a xs H Q) := by
  intro pins s σ H xs us Q I r h
  obtain ⟨rfl, dd, fs, rfl, ed, c, cv, b, rfl, hcv, e, q⟩ := h
  cases r with
  | cons rx rr =>
    cases rr with
    | cons rt rr =>
      cases rr
      cases rx
      have ec := hcv _ rt
      subst ec
      obtain ⟨hget, _⟩ := I.pin (a, oe) (List.mem_append.mpr (.inl List.mem_cons_self))
      obtain ⟨vs, hv⟩ := hf
      have hx : ObjOk X.prog X.w H s.heap dd (.xd fs) := I.hok dd _ ed
      obtain ⟨mA, hns, hr⟩ := hx
      obtain ⟨od, ho, hl⟩ := lookIn_ns hns
      have J : PySem.W.InstAt s.heap a oe D (some od) := ⟨hget, hz.1, by unfold PySem.W.notCls; rw [hv] <;> rfl, by rw [hz.2]; exact ho⟩
      obtain ⟨cdD, hcD, _⟩ := PySem.W.any_some C.hd
      exact PySem.W.kia_one (PySem.W.kitx_exc (by rw [hcD]; rfl) C.hg C.hk C.hs C.ha C.hn C.ht C.hm) I.kIn J e (fun z => nomatch z) fun tk => ⟨.bl b, H, I.kept (t' := tk) fun _ _ z => z, rfl, q⟩
end LaneX
set_option Elab.async false
set_option linter.all false
set_option maxRecDepth 100000
set_option maxHeartbeats 4000000
namespace LaneX
open PySem PySem.Spec PyProof.Rows L2
/-! ### several clauses `except X as n` -/
/-- the ends, slot i let go -/
def Ends.drop (D : Ends) (i : Nat) : Ends := { nx := fun σ' H' => D.nx (σ'.set i none) H', rt := D.rt, bk := fun σ' H' => D.bk (σ'.set i none) H', ct := fun σ' H' => D.ct (σ'.set i none) H' }
def wAll (K : PySem.W.Frag) (Wout : WX) (D : Ends) (n : Nat) : List (Value × Nat × (Addr → Value → Option Addr → TS)) → WX
  | [] => Wout
  | (c, i, ts) :: r => fun cls d σ H => ∃ b, PySem.W.exmOne K cls c = some b ∧ (b = true → ∀ a, H a = none → σ.length = n → ts a cls d (Ends.drop D i) (σ.set i (some (.ref a))) H) ∧ (b = false → wAll K Wout D n r cls d σ H)
inductive ClsOk (X : Cx) : List ExceptHandler → List (Value × Nat × (Addr → Value → Option Addr → TS)) → Prop
  | nil : ClsOk X [] []
  | cons {x n : Str} {c : Value} {i : Nat} {ts : Addr → Value → Option Addr → TS} {b₀ : Stmt} {suite : List Stmt} {np pos' : Pos} {hds : List ExceptHandler} {l : List (Value × Nat × (Addr → Value → Option Addr → TS))} (hc : Names X x c) (hi : X.N[i]? = some n) (hln : X.env.kindOf n = some .local)
      (hsu : ∀ (a : Addr) (oe : Obj) (cls : Value) (d : Option Addr) (pn : List (Addr × Obj)), Zc cls d oe → (∃ vs, oe.data = .fields vs) → PSs (X.suite a ((a, oe) :: pn)) (b₀ :: suite) (ts a cls d)) (r : ClsOk X hds l) :
      ClsOk X (.ExceptHandler (some (.Name x np)) (some n) (b₀ :: suite) pos' :: hds) ((c, i, ts) :: l)
section
variable {X : Cx} {body : List Stmt} {h₀ : ExceptHandler} {hds : List ExceptHandler} {l : List (Value × Nat × (Addr → Value → Option Addr → TS))} {pos : Pos} {tb : WX → TS} {Wout : WX}
theorem ps_try_all (hs : X.stack = X.env :: X.outer) (hf : X.env.frame = some X.env.locals) (hN : X.N.Nodup) (tk : Takes X Wout)
    (hb : ∀ (W : WX) (pn : List (Addr × Obj)) (xe : Value → Shared → Prop), Takes (X.tr pn xe) W → PassesOwn (model X.prog X.w) X.A X.env xe → PSs (X.tr pn xe) body (tb W))
    (hh : ClsOk X (h₀ :: hds) l) : PS X (.Try body (h₀ :: hds) [] [] pos) (fun D σ H => tb (wAll X.K Wout D X.N.length l) D σ H) := by
  refine ⟨fun pins s σ H D I h => ?_⟩
  have ok := I.ok
  have hfr : X.A.frames = some (X.env :: X.outer) := by rw [ok.frames, hs]
  refine wpAny_Try_except ?_
  refine wpAny_mono ((hb (wAll X.K Wout D X.N.length l) (X.pn ++ pins) (fun e s₁ => wpAny (model X.prog X.w) X.A (noteFrame e X.env) (fun _ s₂ => wpAny (model X.prog X.w) X.A (setFlight e none) (fun _ s₃ =>
    wpAny (model X.prog X.w) X.A (handleBy e X.env (h₀ :: hds)) (SP X pins D) X.xe s₃) X.xe s₂) X.xe s₁) (fun u s' xx => ?_) PassesOwn.looking).run [] s σ H D (I.toTry _) h) (fun f s1 hsp => ?_) (fun e s1 he => he)
  · obtain ⟨a, B, sI, pins', σ', H', cls, d, rfl, J', nb, up, sky, na, os, ag, wd⟩ := xx
    have J : Inv X pins σ' H' sI := J'.ofTry ok
    have sky' : Sky B (X.env :: X.outer) a (Zc cls d) X.env.locals s'.heap := by rw [← hs]; exact sky
    show wpAny (model X.prog X.w) X.A (noteFrame (.ref a) X.env) _ _ _
    refine Sky.land Zc.steady hfr hf sky' fun h3 fl3 up3 => ?_
    have J3 : Inv X pins σ' H' { s' with heap := h3 } := J.landed nb fl3.1 (up.trans up3) os ag
    obtain ⟨oe3, vs3, he3, hz3, hd3⟩ := fl3.there
    have notFr : ∀ {h : Heap} {o : Obj} {vs : Array Value}, h.FunFrames B (X.env :: X.outer) → h.get? a = some o → o.data = .fields vs → a ∉ frs (X.env :: X.outer) := fun {h o vs} ff e dd hm => by
      obtain ⟨_, o', e', hnf⟩ := ff.mem hm
      rw [e] at e'; cases e'
      exact hnf _ dd
    have nfr := notFr fl3.2.2.1 he3 hd3
    have nL : a ≠ X.env.locals := fun z => nfr (List.mem_filterMap.mpr ⟨X.env, List.mem_cons_self, by rw [hf, z]⟩)
    have nF : a ∉ X.fs := fun hm => by
      obtain ⟨e, he, q⟩ := List.mem_filterMap.mp hm
      exact nfr (List.mem_filterMap.mpr ⟨e, List.mem_cons_of_mem _ he, q⟩)
    have S3 := J3.suite he3 hd3 na nL nF
    have go : ∀ {hds' : List ExceptHandler} {l' : List (Value × Nat × (Addr → Value → Option Addr → TS))}, ClsOk X hds' l' → wAll X.K Wout D X.N.length l' cls d σ' H' →
        wpAny (model X.prog X.w) X.A (handleBy (.ref a) X.env hds') (SP X pins D) X.xe { s' with heap := h3 } := by
      intro hds' l' hk
      induction hk with
      | nil =>
        intro wd
        refine wpAny_handleBy_nil ?_
        obtain ⟨_, _, _, oe, vs, T, oT, ts', he, hz, hd, h1, hr⟩ := id fl3
        unfold PySem.passOn
        refine wpAny_bind (wpAny_field he hd h1 ?_)
        rw [if_neg (show ¬ ((Value.ref T == Value.none) = true) from by simp)]
        have fin : wpAny (model X.prog X.w) X.A (setFlight (.ref a) X.env.frame) (fun _ s4 => wpAny (model X.prog X.w) X.A (throw (.ref a) : Sem Flow) (SP X pins D) X.xe s4) X.xe { s' with heap := h3 } := by
          rw [hf]
          refine HandSPX.setFlight_upZ fl3 fun h4 hh4 up4 => wpAny_throw (tk _ _ ?_)
          exact ⟨a, B, sI, pins, σ', H', cls, d, rfl, J, nb, (up.trans up3).trans up4, .inr (.inr (by rw [hs]; exact hh4)), na, os, ag, wd⟩
        first
          | exact wpAny_bind (wpAny_pure (wpAny_bind fin))
          | exact wpAny_bind fin
      | @cons x n c i ts b₀ suite np pos' hds2 l2 hc hi hln hsu r ih =>
        intro wd
        obtain ⟨b, hb1, hyes, hno⟩ := wd
        refine wpAny_handleBy_cons (codeAny_handlers_test ?_) (by intro q; cases q)
        have LT : PySem.W.Looks (model X.prog X.w) h3 (typeOf (.ref a)) cls := fun A Q E s k q => wpAny_typeOf_ref (k _ _ he3) (by rw [hz3.1]; exact q)
        have LM := PySem.W.exm_one (M := model X.prog X.w) (J3.kIn) LT hb1
        have test : ∀ {Q : Value → Shared → Prop} {E : Value → Shared → Prop}, Q c { s' with heap := h3 } → wpAny (model X.prog X.w) (X.A.mark (some (.ref a))) (eval (.Name x np) X.env) Q E { s' with heap := h3 } := fun {Q E} q => by
          obtain ⟨hg, hdbg, hm | ⟨hm, hv, hnn⟩⟩ := hc
          · exact ld_glob (X := X.suite a ((a, oe3) :: (X.pn ++ pins))) S3 hg hm q hdbg
          · exact ld_blt (X := X.suite a ((a, oe3) :: (X.pn ++ pins))) S3 hg hm hv q hnn hdbg
        refine test (LM.here ?_)
        cases b with
        | true =>
          refine codeAny_handlers_suite_as ?_
          refine HandSPX.lands_againZ fl3 fun h4 fl4 up4 => ?_
          have J4 : Inv X pins σ' H' { s' with heap := h4 } := J.landed nb fl4.1 ((up.trans up3).trans up4) os ag
          obtain ⟨oe4, vs4, he4, hz4, hd4⟩ := fl4.there
          have S4 := J4.suite he4 hd4 na nL nF
          refine store_ok (X := X.suite a ((a, oe4) :: (X.pn ++ pins))) (v := .ref a) S4 hN hi (.inl hln) rfl (fun s5 S5 => ?_) (.inr hln)
          have gone : ∀ {σ6 : L2.St} {H6 : Hp} {s6 : Shared} {Q : Shared → Prop}, Inv (X.suite a ((a, oe4) :: (X.pn ++ pins))) [] σ6 H6 s6 → (∀ s7, Inv X pins (σ6.set i none) H6 s7 → Q s7) →
              wpAny (model X.prog X.w) X.A (do bindName X.env n .none; unbindBehindTheSuite X.env n pos') (fun _ s7 => Q s7) X.xe s6 := fun {σ6 H6 s6 Q} S6 hq => gone_ok (S6.unsuite ok) hN hi hln hq
          refine wpAny_mono ((hsu a oe4 cls d (X.pn ++ pins) hz4 ⟨_, hd4⟩).run [] s5 _ H' _ S5 (hyes rfl a na J.len)) (fun f s6 hsp => ?_) (fun _ _ z => False.elim z)
          cases f with
          | next =>
            obtain ⟨σ6, H6, S6, q6⟩ := hsp
            exact gone S6 fun s7 J7 => ⟨_, _, J7, q6⟩
          | brk =>
            obtain ⟨σ6, H6, S6, q6⟩ := hsp
            exact gone S6 fun s7 J7 => ⟨_, _, J7, q6⟩
          | cont =>
            obtain ⟨σ6, H6, S6, q6⟩ := hsp
            exact gone S6 fun s7 J7 => ⟨_, _, J7, q6⟩
          | ret u =>
            obtain ⟨v6, σ6, H6, S6, r6, q6⟩ := hsp
            exact gone S6 fun s7 J7 => ⟨_, _, _, J7, r6, q6⟩
        | false =>
          show wpAny _ X.A (handleBy (.ref a) X.env hds2) _ _ _
          exact ih (hno rfl)
    exact go hh wd
  · cases f with
    | next =>
      obtain ⟨σ', H', J', q⟩ := hsp
      exact wpAny_execs_nil ⟨σ', H', J'.ofTry ok, q⟩
    | brk =>
      obtain ⟨σ', H', J', q⟩ := hsp
      exact ⟨σ', H', J'.ofTry ok, q⟩
    | cont =>
      obtain ⟨σ', H', J', q⟩ := hsp
      exact ⟨σ', H', J'.ofTry ok, q⟩
    | ret u =>
      obtain ⟨v, σ', H', J', r, q⟩ := hsp
      exact ⟨v, σ', H', J'.ofTry ok, r, q⟩
end
end LaneX
set_option Elab.async false
set_option linter.all false
set_option maxRecDepth 100000
set_option maxHeartbeats 4000000
namespace LaneX
open PySem PySem.Spec PyProof.Rows L2 LamX
/-! ### lambdas that are kept -/
abbrev fnObj (fd : FuncData) : Obj := { cls := .type "function", data := .func fd }
/-- the object at f is the function fd -/
def LamO (f : Addr) (fd : FuncData) : HO := .ext fun h => h.get? f = some (fnObj fd)
/-- the object at t is the tuple of a lambda's defaults -/
def TupO (t : Addr) (dv : List Value) : HO := .ext fun h => h.get? t = some (PySem.W.kdv_tup dv)
theorem lamO_ok {P : Program} {w : World} {H : Hp} {h : Heap} {f : Addr} {fd : FuncData} (e : h.get? f = some (fnObj fd)) : ObjOk P w H h f (LamO f fd) := ⟨e, ⟨_, e⟩, fun _ _ a st => st _ a⟩
theorem tupO_ok {P : Program} {w : World} {H : Hp} {h : Heap} {t : Addr} {dv : List Value} (e : h.get? t = some (PySem.W.kdv_tup dv)) : ObjOk P w H h t (TupO t dv) := ⟨e, ⟨_, e⟩, fun _ _ a st => st _ a⟩
theorem lamO_tbl {f : Addr} {fd : FuncData} (ps : Array Value) : LamO f fd ≠ .tbl ps := fun z => by unfold LamO at z; cases z
theorem tupO_tbl {t : Addr} {dv : List Value} (ps : Array Value) : TupO t dv ≠ .tbl ps := fun z => by unfold TupO at z; cases z
abbrev lamQ (X : Cx) : Str := X.env.qual ++ "<lambda>"
/-- the function data of a lambda that X makes -/
abbrev lamFd (X : Cx) (params : Arguments) (body : Expr) (scope : Scope) (dV doc pm : Value) (c' : Addr) (ctv : Value) : FuncData :=
  PySem.W.kdv_fn "<lambda>" (lamQ X) params (.expr body) scope (cloFrom X.env.cells scope.names []) dV doc pm (.ref c') ctv
theorem put_none {H : Hp} {a b : Addr} {o : HO} (e : upd H a o b = none) : H b = none := by
  by_cases z : b = a
  · rw [z, upd_same] at e
    cases e
  · rwa [upd_ne z] at e
section
variable {X : Cx} {pins : List (Addr × Obj)} {σ : L2.St} {H : Hp} {s : Shared}
/-- the lambda's object is made, its defaults being dV; it is tracked from now on -/
theorem lam_tail {T : List (Addr × Str)} {c P : Addr} {params : Arguments} {body : Expr} {scope : Scope} {dV : Value} {pos : Pos} {E : Value → Shared → Prop} {Q : Value → Shared → Prop} (I : Inv X pins σ H s) (TB : TabB X.base X.mg c P) (hcode : X.env.code = .ref c)
    (hm : (P, lamQ X) ∈ T) (hu : ∀ p ∈ T, p.1 = P → p.2 = lamQ X) (hT : Tabs T H) (hfree : ∀ y ∈ scope.names, y.2 = .free → ∃ c, X.env.cells.lookup y.1 = some c)
    (h : ∀ (f c' : Addr) (doc pm ctv : Value) (H1 : Hp) (s' : Shared), Inv X pins σ H1 s' → ExtN H H1 → (∀ b, H1 b = none → H b = none) → Tabs T H1 → H f = none → H1 f = some (LamO f (lamFd X params body scope dV doc pm c' ctv)) → H1 c' = some (CodeO c' (lamQ X)) → Q (.ref f) s') :
    wpAny (model X.prog X.w) X.A (makeTail "<lambda>" (lamQ X) params (.expr body) scope X.env dV .none none pos pos.line) Q E s := by
  obtain ⟨ps, hP, tri, known⟩ := hT _ hm
  have bP : s.heap.BuiltinsAt X.mg P := TB.bm.keeps I.bk
  have gP : s.heap.get? P = some { cls := .none, data := .fields ps } := I.hok P _ hP
  -- a table, an object behind it
  have done : ∀ (c' : Addr) (doc ctv : Value) (H1 : Hp) (h' : Heap) (tk : Nat), Inv X pins σ H1 { s with heap := h', toks := tk } → ExtN H H1 → (∀ b, H1 b = none → H b = none) → Tabs T H1 → H1 c' = some (CodeO c' (lamQ X)) →
      Q (.ref h'.objs.size) { s with heap := h'.push (fnObj (lamFd X params body scope dV doc ((X.mg "__name__").getD .none) c' ctv)), toks := tk } := fun c' doc ctv H1 h' tk J ex fr tb co => by
    have nF : H1 h'.objs.size = none := J.hok.fresh (Nat.le_refl _)
    have old : ∀ b o, H1 b = some o → upd H1 h'.objs.size (LamO h'.objs.size (lamFd X params body scope dV doc ((X.mg "__name__").getD .none) c' ctv)) b = some o := fun b o e => (upd_ne (ne_of_none e nF)).trans e
    refine h h'.objs.size c' doc _ ctv _ _ (J.laid (a := h'.objs.size) (o := LamO _ _) (t' := tk) (fun b u e => Heap.get?_push_of_some _ e) (Nat.le_refl _) (lamO_ok (Heap.get?_push_size _ rfl))) (fun b o e n => old b o (ex b o e n)) (fun b e => fr b (put_none e)) (tb.ext old) (fr _ nF) upd_same (old _ _ co)
  cases hc : codeAmong pos ps.toList with
  | some cv =>
    obtain ⟨c', rfl, co⟩ := known pos cv hc
    refine PySem.W.kdv_makeTailHit (mg := X.mg) (c := c) (P := P) (ps := ps) (closure_ok hfree) I.ok.glob (I.mod.glob.keeps I.bk) hcode (TB.code.keeps I.bk) gP tri hc bP fun ctv doc h' tk hx _ => ?_
    exact done c' doc ctv H h' tk (I.kept hx) (ExtN.refl H) (fun _ e => e) hT co
  | none =>
    refine PySem.W.kdv_makeTail (mg := X.mg) (c := c) (P := P) (ps := ps) (closure_ok hfree) I.ok.glob (I.mod.glob.keeps I.bk) hcode (TB.code.keeps I.bk) gP tri hc TB.gP bP fun c' ctv doc h' tk hx hge hlt hrec htb => ?_
    obtain ⟨c2, oc, vs, t, ec, hoc, hd, hv⟩ := hrec
    cases ec
    have nC : H c' = none := I.hok.fresh hge
    obtain ⟨more, em⟩ : ∃ more : Array Value, more = #[rawInt pos.line, rawInt pos.col, .ref c'] := ⟨_, rfl⟩
    have J := inv_table (t' := tk) (more := more) (h' := h') I hP (fun b o hb e => hx b o hb e) (by rw [em]; exact htb) hge ⟨oc, vs, t, hoc, hd, hv⟩
    have ex : ExtN H (upd (upd H P (.tbl (ps ++ more))) c' (CodeO c' (lamQ X))) := fun b o e n => by
      have b1 : b ≠ c' := ne_of_none e nC
      have b2 : b ≠ P := fun z => by
        rw [z, hP] at e
        exact n ps (Option.some.inj e).symm
      rw [upd_ne b1, upd_ne b2]
      exact e
    have nPc : P ≠ c' := ne_of_none hP nC
    refine done c' doc ctv _ h' tk J ex (fun b e => put_none (put_none e)) (fun p hp => ?_) upd_same
    by_cases hb : p.1 = P
    · rw [hb, hu p hp hb]
      refine ⟨ps ++ more, by rw [upd_ne nPc, upd_same], ?_, fun p' cv e => ?_⟩
      · rw [em, Array.toList_append]
        exact PySem.TriplesOk_snoc _ _ _ _ tri
      · rw [em, Array.toList_append] at e
        rcases among_app _ tri e with z | z
        · obtain ⟨c0, e1, e2⟩ := known p' cv z
          exact ⟨c0, e1, ex _ _ e2 codeO_ne⟩
        · exact ⟨c', z, upd_same⟩
    · obtain ⟨ps', a1, a2, a3⟩ := hT p hp
      refine ⟨ps', by rw [upd_ne (ne_of_none a1 nC), upd_ne hb]; exact a1, a2, fun p' cv e => ?_⟩
      obtain ⟨c0, e1, e2⟩ := a3 p' cv e
      exact ⟨c0, e1, ex _ _ e2 codeO_ne⟩
end
/-- how a lambda's defaults lie: none, or one -/
inductive Dfl (H : Hp) (fd : FuncData) : List (Str × Value) → Prop
  | non (h : bindArgs fd ⟨[], []⟩ = pure []) : Dfl H fd []
  | one {t : Addr} {y : Str} {u : Value} {k : Option (Array Value) → Sem (List (Str × Value))} (hd : fd.defaults = .ref t) (ht : H t = some (TupO t [u])) (h1 : bindArgs fd ⟨[], []⟩ = seqItems? fd.defaults >>= k) (h2 : k (some #[u]) = pure [(y, u)]) : Dfl H fd [(y, u)]
theorem Dfl.mono {H H' : Hp} {fd : FuncData} {binds : List (Str × Value)} (d : Dfl H fd binds) (e : ∀ b o, H b = some o → (∃ φ, o = .ext φ) → H' b = some o) : Dfl H' fd binds := by
  cases d with
  | non h => exact .non h
  | one hd ht h1 h2 => exact .one hd (e _ _ ht ⟨_, rfl⟩) h1 h2
theorem Dfl.to {P : Program} {w : World} {H : Hp} {fd : FuncData} {binds : List (Str × Value)} {s : Shared} (d : Dfl H fd binds) (ok : HOk P w H s.heap) : BindsTo s fd ⟨[], []⟩ binds := by
  cases d with
  | non h => exact BindsTo.of_eq h
  | one hd ht h1 h2 => exact BindsTo.of_defaults hd (show s.heap.get? _ = some _ from (ok _ _ ht).1) rfl h1 h2
/-- a lambda's names: captured ones, globals, and parameters that the def has no name like -/
structure LamT (N : List Str) (sc scope : Scope) : Prop where
  kind : scope.kind = .function
  co : scope.isCoroutine = false
  gen : scope.isGenerator = false
  own : ∀ y ∈ scope.names, y.2 ≠ .cell ∧ (y.2 = .local → y.1 ∉ N)
  free : ∀ y ∈ scope.names, y.2 = .free → sc.names.lookup y.1 = some .cell ∨ sc.names.lookup y.1 = some .free
def lamTB (N : List Str) (sc scope : Scope) : Bool :=
  decide (scope.kind = .function) && !scope.isCoroutine && !scope.isGenerator && scope.names.all fun y => !decide (y.2 = .cell) && (!decide (y.2 = .local) || decide (y.1 ∉ N)) && (!decide (y.2 = .free) || decide (sc.names.lookup y.1 = some .cell) || decide (sc.names.lookup y.1 = some .free))
theorem lamT_by {N : List Str} {sc scope : Scope} (h : lamTB N sc scope = true) : LamT N sc scope := by
  unfold lamTB at h
  simp only [Bool.and_eq_true, Bool.or_eq_true, Bool.not_eq_true', decide_eq_true_eq, decide_eq_false_iff_not, List.all_eq_true] at h
  obtain ⟨⟨⟨h1, h2⟩, h3⟩, h4⟩ := h
  refine ⟨h1, h2, h3, fun y hy => ⟨(h4 y hy).1.1, fun e => ?_⟩, fun y hy e => ?_⟩
  · exact ((h4 y hy).1.2).elim (fun z => absurd e z) id
  · rcases (h4 y hy).2 with (z | z) | z
    · exact absurd e z
    · exact .inl z
    · exact .inr z
/-- at f stands a lambda of the def whose context is X; its body is told by tb -/
def LamAt (X : Cx) (k : Nat) (H : Hp) (f : Addr) (tb : XK → TE) : Prop :=
  ∃ (params : Arguments) (body : Expr) (scope : Scope) (dV doc pm : Value) (c' : Addr) (ctv : Value) (binds : List (Str × Value)),
    H f = some (LamO f (lamFd X params body scope dV doc pm c' ctv)) ∧ H c' = some (CodeO c' (lamQ X)) ∧ Dfl H (lamFd X params body scope dV doc pm c' ctv) binds ∧ LamT X.N X.env.scope scope ∧ (∀ x ∈ binds, scope.names.lookup x.1 = some .local) ∧
    ∀ (A : Around) (outer : List Env) (s : Shared) (H : Hp) (E : XK) (f c' : Addr), Room k (A.deeper (lamEnv X scope s.heap.objs.size f c')) → PE (lamCx X A outer s H E scope f c') body (tb E)
theorem LamAt.mono {X : Cx} {k : Nat} {H H' : Hp} {f : Addr} {tb : XK → TE} (l : LamAt X k H f tb) (e : ∀ b o, H b = some o → (∃ φ, o = .ext φ) → H' b = some o) : LamAt X k H' f tb := by
  obtain ⟨pa, bo, sc, dV, doc, pm, c', ctv, bi, h1, h2, h3, h4⟩ := l
  exact ⟨pa, bo, sc, dV, doc, pm, c', ctv, bi, e _ _ h1 ⟨_, rfl⟩, e _ _ h2 ⟨_, rfl⟩, h3.mono e, h4⟩
theorem LamAt.ext {X : Cx} {k : Nat} {H H' : Hp} {f : Addr} {tb : XK → TE} (l : LamAt X k H f tb) (e : ExtN H H') : LamAt X k H' f tb := l.mono fun b o h ⟨φ, z⟩ => e b o h fun ps q => by rw [z] at q; cases q
/-- a lambda, kept -/
def tLamK (X : Cx) (k : Nat) (T : List (Addr × Str)) (tb : XK → TE) : TE := fun σ H Q => Tabs T H ∧ ∀ (f : Addr) (H1 : Hp), ExtN H H1 → (∀ b, H1 b = none → H b = none) → Tabs T H1 → H f = none → LamAt X k H1 f tb → Q (.ref f) H1
section
variable {X : Cx}
theorem lamT_has {scope : Scope} {N : List Str} (L : LamT N X.env.scope scope) (ok : X.Ok) : ∀ y ∈ scope.names, y.2 = .free → ∃ c, X.env.cells.lookup y.1 = some c := fun y hy e => (L.free y hy e).elim (fun k => ok.has _ (.inl k)) fun k => ok.has _ (.inr k)
theorem pe_lamK {T : List (Addr × Str)} {c P : Addr} {k : Nat} {params : Arguments} {body : Expr} {scope : Scope} {pos : Pos} {tb : XK → TE} (TB : TabB X.base X.mg c P) (hcode : X.env.code = .ref c) (hm : (P, lamQ X) ∈ T) (hu : ∀ p ∈ T, p.1 = P → p.2 = lamQ X) (L : LamT X.N X.env.scope scope)
    (hdef : defaultsOf params X.env = ([], [])) (hbind : ∀ (q : Str) (cl : List (Str × Addr)) (doc pm cv ctv : Value), bindArgs (PySem.W.kdv_fn "<lambda>" q params (.expr body) scope cl .none doc pm cv ctv) ⟨[], []⟩ = pure [])
    (hbody : ∀ (A : Around) (outer : List Env) (s : Shared) (H : Hp) (E : XK) (f c' : Addr), Room k (A.deeper (lamEnv X scope s.heap.objs.size f c')) → PE (lamCx X A outer s H E scope f c') body (tb E)) :
    PE X (.Lambda params body scope pos) (tLamK X k T tb) := by
  refine ⟨fun pins s σ H Q I h => ?_⟩
  obtain ⟨hT, h⟩ := h
  refine PySem.W.kla_eval hdef ?_
  rw [makeFunction_eq]
  simp only [List.zip_nil_right, List.filterMap_nil, List.isEmpty_nil, if_true, pure_bind]
  refine lam_tail I TB hcode hm hu hT (lamT_has L I.ok) fun f c' doc pm ctv H1 s' J ex fr tb nf hf hc => ⟨.ref f, H1, J, rfl, h f H1 ex fr tb nf ?_⟩
  exact ⟨params, body, scope, .none, doc, pm, c', ctv, [], hf, hc, .non (hbind ..), L, fun x hx => absurd hx (by simp), hbody⟩
/-- with one default, a written integer -/
theorem pe_lamK1 {T : List (Addr × Str)} {c P : Addr} {k : Nat} {params : Arguments} {body : Expr} {scope : Scope} {pos : Pos} {tb : XK → TE} {y : Str} {i : Int} {j : Nat} {cp : Pos} (TB : TabB X.base X.mg c P) (hcode : X.env.code = .ref c) (hm : (P, lamQ X) ∈ T) (hu : ∀ p ∈ T, p.1 = P → p.2 = lamQ X) (L : LamT X.N X.env.scope scope)
    (hy : scope.names.lookup y = some .local) (hk0 : params.kw_defaults = []) (hpd : params.defaults = [.Constant (.int i) j cp])
    (hbind : ∀ (q : Str) (cl : List (Str × Addr)) (t : Addr) (doc pm cv ctv u : Value), ∃ kk, bindArgs (PySem.W.kdv_fn "<lambda>" q params (.expr body) scope cl (.ref t) doc pm cv ctv) ⟨[], []⟩ = seqItems? (.ref t) >>= kk ∧ kk (some #[u]) = pure [(y, u)])
    (hbody : ∀ (A : Around) (outer : List Env) (s : Shared) (H : Hp) (E : XK) (f c' : Addr), Room k (A.deeper (lamEnv X scope s.heap.objs.size f c')) → PE (lamCx X A outer s H E scope f c') body (tb E)) :
    PE X (.Lambda params body scope pos) (tLamK X k T tb) := by
  refine ⟨fun pins s σ H Q I h => ?_⟩
  obtain ⟨hT, h⟩ := h
  refine PySem.W.kdv_lam (by rw [hpd]; rfl) hk0 ?_
  rw [hpd]
  refine PySem.W.kdv_all1 (thn ((pe_int (X := X) (i := i) (j := j) (pos := cp)).run pins s σ H (fun _ H' => H' = H) I rfl) fun u s1 hu1 => PySem.W.kdv_all0 ?_)
  obtain ⟨_, _, I1, _, eH⟩ := hu1
  rw [eH] at I1
  rw [makeFunction_eq]
  simp only [List.zip_nil_right, List.filterMap_nil, List.isEmpty_nil, List.isEmpty_cons, Bool.false_eq_true, if_false, if_true, pure_bind]
  refine wpAny_bind (wpAny_newTextTuple ?_)
  obtain ⟨t, et⟩ : ∃ t, t = s1.heap.objs.size := ⟨_, rfl⟩
  have nT := I1.hok.fresh (Nat.le_refl s1.heap.objs.size)
  have J1 := I1.laid (a := s1.heap.objs.size) (o := TupO s1.heap.objs.size [u]) (t' := s1.toks) (h' := s1.heap.push { cls := .type "tuple", data := .seq [u].toArray }) (fun b v e => Heap.get?_push_of_some _ e) (Nat.le_refl _) (tupO_ok (Heap.get?_push_size _ rfl))
  have old := fun b o (e : H b = some o) => (upd_ne (o := TupO s1.heap.objs.size [u]) (ne_of_none e nT)).trans e
  refine lam_tail J1 TB hcode hm hu (hT.ext old) (lamT_has L I.ok) fun f c' doc pm ctv H1 s' J ex fr tb nf hf hc => ⟨.ref f, H1, J, rfl, h f H1 (fun b o e n => ex b o (old b o e) n) (fun b e => put_none (fr b e)) tb (put_none nf) ?_⟩
  obtain ⟨kk, b1, b2⟩ := hbind (lamQ X) (cloFrom X.env.cells scope.names []) s1.heap.objs.size doc pm (.ref c') ctv u
  refine ⟨params, body, scope, _, doc, pm, c', ctv, [(y, u)], hf, hc, .one rfl (ex _ _ upd_same tupO_tbl) b1 b2, L, fun x hx => ?_, hbody⟩
  rw [List.mem_singleton.mp hx]
  exact hy
end
end LaneX
set_option Elab.async false
set_option linter.all false
set_option maxRecDepth 100000
set_option maxHeartbeats 4000000
namespace LaneX
open PySem PySem.Spec PyProof.Rows L2 LamX
/-! ### sorted(xs, key=lambda at: -ws[at]) -/
/-- at f stands a lambda with told parameters and body, without defaults -/
def LamB (X : Cx) (H : Hp) (f : Addr) (params : Arguments) (body : Expr) (scope : Scope) : Prop :=
  ∃ (doc pm : Value) (c' : Addr) (ctv : Value), H f = some (LamO f (lamFd X params body scope .none doc pm c' ctv)) ∧ H c' = some (CodeO c' (lamQ X))
def tLamB (X : Cx) (T : List (Addr × Str)) (params : Arguments) (body : Expr) (scope : Scope) : TE := fun σ H Q => Tabs T H ∧ ∀ (f : Addr) (H1 : Hp), ExtN H H1 → (∀ b, H1 b = none → H b = none) → Tabs T H1 → H f = none → LamB X H1 f params body scope → Q (.ref f) H1
theorem getD_getL {l : List Nat} {i : Nat} (h : i < l.length) : (l.map vN)[i]? = some (vN (l.getD i 0)) := by rw [List.getElem?_map, List.getD_eq_getElem?_getD, List.getElem?_eq_getElem h]; rfl
/-- by falling weights -/
def fallN (ws ns : List Nat) : List Nat := ns.mergeSort fun i j => decide (-((ws.getD i 0 : Nat) : Int) ≤ -((ws.getD j 0 : Nat) : Int))
section
variable {X : Cx}
theorem pe_lamB {T : List (Addr × Str)} {c P : Addr} {params : Arguments} {body : Expr} {scope : Scope} {pos : Pos} (TB : TabB X.base X.mg c P) (hcode : X.env.code = .ref c) (hm : (P, lamQ X) ∈ T) (hu : ∀ p ∈ T, p.1 = P → p.2 = lamQ X) (L : LamT X.N X.env.scope scope)
    (hdef : defaultsOf params X.env = ([], [])) : PE X (.Lambda params body scope pos) (tLamB X T params body scope) := by
  refine ⟨fun pins s σ H Q I h => ?_⟩
  obtain ⟨hT, h⟩ := h
  refine PySem.W.kla_eval hdef ?_
  rw [makeFunction_eq]
  simp only [List.zip_nil_right, List.filterMap_nil, List.isEmpty_nil, if_true, pure_bind]
  exact lam_tail I TB hcode hm hu hT (lamT_has L I.ok) fun f c' doc pm ctv H1 s' J ex fr tb nf hf hc => ⟨.ref f, H1, J, rfl, h f H1 ex fr tb nf ⟨doc, pm, c', ctv, hf, hc⟩⟩
/-- the lambda's call: nothing that stands changes -/
theorem lam_neg {pins : List (Addr × Obj)} {σ : L2.St} {H : Hp} {s : Shared} {A : Around} {f a : Addr} {params : Arguments} {scope : Scope} {wn an : Str} {p1 p2 p3 p4 : Pos} {i : Nat} {ws : List Nat} (I : Inv X pins σ H s) (L : LamT X.N X.env.scope scope)
    (hl : LamB X H f params (.UnaryOp .USub (.Subscript (.Name wn p1) (.Name an p2) p3) p4) scope) (ha : scope.names.lookup an = some .local) (hw : scope.names.lookup wn = some .free)
    (hbind : ∀ (q : Str) (cl : List (Str × Addr)) (doc pm cv ctv v : Value), bindArgs (PySem.W.kdv_fn "<lambda>" q params (.expr (.UnaryOp .USub (.Subscript (.Name wn p1) (.Name an p2) p3) p4)) scope cl .none doc pm cv ctv) ⟨[v], []⟩ = pure [(an, v)])
    (hi : X.N[i]? = some wn) (hσ : σ[i]? = some (some (.ref a))) (hls : H a = some (.lst (ws.map vN))) {n : Nat} (hn : n < ws.length) (hz : n < 2 ^ 62) (t : Tok) (dp : A.depth < recursionLimit)
    (nd1 : (an == ("__debug__" : Str)) = false) (nd2 : (wn == ("__debug__" : Str)) = false) (nc : (wn == ("__classdict__" : Str)) = false) (h : Heap) (tk : Nat) (kp : ∀ b o, s.heap.get? b = some o → h.get? b = some o) :
    wpAny (model X.prog X.w) A (call (.ref f) [.int n t]) (PySem.W.KeyPure (.int (-((ws.getD n 0 : Nat) : Int))) { s with heap := h, toks := tk }) (fun _ _ => False) { s with heap := h, toks := tk } := by
  obtain ⟨doc, pm, c', ctv, hf, hc⟩ := hl
  have of1 : h.get? f = some (fnObj _) := kp _ _ (I.hok f _ hf).1
  have rec_ : h.CodeRec (.ref c') (lamQ X) := (NdefX.codeO_at I.hok hc).keeps kp
  have capt := lamT_has L I.ok
  have mw := PySem.mem_of_lookup hw
  have kind := L.free _ mw rfl
  obtain ⟨m, hnsX, look⟩ := I.loc
  obtain ⟨u, r, at_⟩ := look i wn (.ref a) hi hσ (kind.elim (fun z => .inr (.inl z)) fun z => .inr (.inr z))
  obtain rfl : u = Value.ref a := r
  obtain ⟨cw, hcw⟩ := capt _ mw rfl
  have cell : s.heap.IsCell cw (some (.ref a)) := by
    rcases at_ with ⟨z, _⟩ | ⟨_, c2, hc2, z⟩
    · have z : X.env.scope.names.lookup wn = some .local := z
      rcases kind with q | q <;> rw [z] at q <;> cases q
    · rw [show X.env.cells.lookup wn = some cw from hcw] at hc2
      cases hc2
      exact z
  obtain ⟨its, rv, pl, hzl⟩ := I.list (SqL.of hls)
  have run : codeAny (model X.prog X.w) A (.call (.ref f) ⟨[.int n t], []⟩) (fun r s' => ∃ v, r = .ok (.ret v) ∧ PySem.W.KeyPure (.int (-((ws.getD n 0 : Nat) : Int))) { s with heap := h, toks := tk } v s') { s with heap := h, toks := tk } := by
    refine PySem.W.kla_callFunE dp of1 rfl L.co L.gen rfl rec_ ?_
    rw [hbind]
    refine wpAny_pure (wpAny_newFunctionEnv (fun y hy => (L.own y hy).1) (fun y hy => by rw [List.mem_singleton.mp hy]; exact ha) (fun h1 hns hsb => ⟨(I.nolimit.keeps kp).fresh _ hsb, ?_⟩) L.kind)
    have keep : ∀ b o, h.get? b = some o → h1.get? b = some o := fun b o e => hsb.extBut b o (Nat.ne_of_lt (Heap.lt_size e)) (Heap.get?_push_of_some _ e)
    show codeAny _ _ (.expr _ (lamEnv X scope h.objs.size f c')) _ _
    refine PySem.W.kla_codeExpr ?_
    rw [PyProof.Rows.eval_UnaryOp]
    refine wpAny_bind (PyProof.Rows.Subscript_ ?_)
    rw [eval_Name _ _ _ nd2]
    refine wpAny_bind (wpAny_standAt (wpAny_loadName_free L.kind hw (NdefX.clo_has capt mw hcw) ⟨_, keep _ _ (kp _ _ cell.choose_spec.1), cell.choose_spec.2⟩ ?_ nc))
    rw [eval_Name _ _ _ nd1]
    refine wpAny_bind (wpAny_standAt (wpAny_loadName_local L.kind ha hns (v := .int n t) (by simp) ?_))
    obtain ⟨x, hx, rx⟩ := rv.get (getD_getL hn)
    obtain ⟨t2, rfl⟩ := rx
    obtain ⟨ol, l1, l2, l3, l4⟩ := pl.isList
    have hil : h1.IsList a its.toArray := ⟨ol, keep _ _ (kp _ _ l1), l2, l3, l4⟩
    refine subscriptTail_builtin hil.typeIs slot_list_getitem.lookup (getItem_listL hil (by omega) (by omega) (by simpa using hx) ?_)
    refine wpAny_bind (wpAny_standAt (wpAny_holding (neg_int ?_)))
    exact ⟨_, rfl, h1, _, rfl, keep, by rw [List.getD_eq_getElem?_getD]; exact .int _ _⟩
  refine wpAny_call (codeAny_mono run fun r s' hq => ?_)
  obtain ⟨v, rfl, hk⟩ := hq
  exact hk
theorem each_of {ns : List Nat} : ∀ {us : List Value}, Vals (ns.map vN) us → PySem.W.EachIs (fun v n => ∃ t, v = Value.int (n : Nat) t) us ns := by
  induction ns with
  | nil => intro us r; cases r; exact .nil
  | cons n ns ih =>
    intro us r
    cases r with
    | cons h r => exact .cons h (ih r)
theorem each_to {ns : List Nat} : ∀ {us : List Value}, PySem.W.EachIs (fun v n => ∃ t, v = Value.int (n : Nat) t) us ns → Vals (ns.map vN) us := by
  induction ns with
  | nil => intro us r; cases r; exact .nil
  | cons n ns ih =>
    intro us r
    cases r with
    | cons h r => exact .cons h (ih r)
def RNeg (T : List (Addr × Str)) (i : Nat) (σ : L2.St) (Q : VK) (x : V) (H1 : Hp) : Prop := Tabs T H1 ∧ ∃ (l a : Addr) (ns ws : List Nat), x = .ref l ∧ H1 l = some (.lst (ns.map vN)) ∧ σ[i]? = some (some (.ref a)) ∧ H1 a = some (.lst (ws.map vN)) ∧ (∀ n ∈ ns, n < ws.length) ∧ ws.length ≤ 1000000 ∧ ns.length ≤ 1000000 ∧
  ∀ (H2 : Hp) (p : Addr), ExtN H1 H2 → (∀ b, H2 b = none → H1 b = none) → Tabs T H2 → H1 p = none → H2 p = some (.lst ((fallN ws ns).map vN)) → Q (.ref p) H2
/-- sorted(e, key=lambda at: -ws[at]) -/
def tSortNeg (T : List (Addr × Str)) (i : Nat) (te : TE) : TE := fun σ H Q => te σ H (RNeg T i σ Q)
theorem pe_sortNeg {T : List (Addr × Str)} {c P : Addr} {k : Nat} {e : Expr} {te : TE} {params : Arguments} {scope : Scope} {wn an : Str} {p p1 p2 p3 p4 lp kp pos : Pos} {i : Nat} (hr : Room k X.A) (TB : TabB X.base X.mg c P) (hcode : X.env.code = .ref c) (hm : (P, lamQ X) ∈ T) (hu : ∀ p ∈ T, p.1 = P → p.2 = lamQ X) (L : LamT X.N X.env.scope scope)
    (hdef : defaultsOf params X.env = ([], []))
    (hbind : ∀ (q : Str) (cl : List (Str × Addr)) (doc pm cv ctv v : Value), bindArgs (PySem.W.kdv_fn "<lambda>" q params (.expr (.UnaryOp .USub (.Subscript (.Name wn p1) (.Name an p2) p3) p4)) scope cl .none doc pm cv ctv) ⟨[v], []⟩ = pure [(an, v)])
    (ha : scope.names.lookup an = some .local) (hw : scope.names.lookup wn = some .free) (hi : X.N[i]? = some wn)
    (hg : Gl X "sorted") (hmg : X.mg "sorted" = none) (hpa : PA X [e] (tCons te tNil))
    (nd1 : (an == ("__debug__" : Str)) = false := by decide) (nd2 : (wn == ("__debug__" : Str)) = false := by decide) (nc : (wn == ("__classdict__" : Str)) = false := by decide)
    (hst : backTo pos (starEach [e] X.env) = (false, eval e X.env) :: backTo pos (starEach [] X.env) := by rfl) (hpl : (backTo pos (starEach [e] X.env)).any (·.1) = false := by rfl) :
    PE X (.Call (.Name "sorted" p) [e] [⟨some "key", .Lambda params (.UnaryOp .USub (.Subscript (.Name wn p1) (.Name an p2) p3) p4) scope lp, kp⟩] pos) (tSortNeg T i te) := by
  refine ⟨fun pins s σ H Q I h => ?_⟩
  refine wpAny_Call_Name_kw (ld_blt (u := .builtin "sorted") I hg hmg (by decide +kernel) ?_ (by decide) (by decide))
  have h' : (tCons te tNil) σ H (fun vs H1 => match vs with | [x] => RNeg T i σ Q x H1 | _ => False) := h
  refine PyProof.Rows.callWith_kw (thn (hpa.run pos pins s σ H _ I h') fun us s1 hu1 => ?_) hst hpl rfl rfl
  obtain ⟨vs, H1, I1, r1, q1⟩ := hu1
  match vs, r1, q1 with
  | [x], r1, q1 =>
    obtain ⟨tb, l, a, ns, ws, rfl, el, hσ, ea, hn, lw, ln, kq⟩ := q1
    have hz : (tCons (tLamB X T params (.UnaryOp .USub (.Subscript (.Name wn p1) (.Name an p2) p3) p4) scope) tNil) σ H1 (fun zs H2 => match zs with | [f] => (∃ fa, f = V.ref fa ∧ ExtN H1 H2 ∧ (∀ b, H2 b = none → H1 b = none) ∧ Tabs T H2 ∧ LamB X H2 fa params (.UnaryOp .USub (.Subscript (.Name wn p1) (.Name an p2) p3) p4) scope) | _ => False) :=
      ⟨tb, fun f H2 ex fr tb2 nf la => ⟨f, rfl, ex, fr, tb2, la⟩⟩
    refine thn ((pk_cons (pe_lamB TB hcode hm hu L hdef) pk_nil).run pos pins s1 σ H1 _ I1 hz) fun wz s2 hu2 => ?_
    obtain ⟨zs, H2, I2, r2, q2⟩ := hu2
    match zs, r2, q2 with
    | [f], r2, q2 =>
      obtain ⟨fa, rfl, ex, fr, tb2, la⟩ := q2
      obtain rfl := Vals.ref1 r1
      obtain rfl := Vals.ref1 r2
      have el2 := ex _ _ el (fun ps z => by cases z)
      have ea2 := ex _ _ ea (fun ps z => by cases z)
      obtain ⟨its, rv, pl, hzl⟩ := I2.list (SqL.of el2)
      refine PySem.W.sorted_key_data (b := false) (bs := ns) (R := fun v n => ∃ t, v = Value.int (n : Nat) t) (fun n => .int (-((ws.getD n 0 : Nat) : Int))) pl.isList (each_of rv) (PySem.W.AllAlike.of fun _ _ => by simp [PySem.W.alike]) (PySem.W.Sortable.others fun _ => ⟨by simp, fun xs => by simp⟩) (by rw [sizeLine_eq]; omega) (fun x _ => ?_) (PyProof.Rows.ksk_s1 _ _) (fun _ => PyProof.Rows.ksk_l1 _ _) (fun _ => PyProof.Rows.ksk_t1 _ _) (fun v n hv hnn h tk kp => ?_) (fun out c h' tk kp fresh hD ol eo => ?_)
      · have := hr.un
        simp only [PyData.depth]
        omega
      · obtain ⟨t, rfl⟩ := hv
        exact lam_neg (A := X.A.in1.in1) I2 L la ha hw hbind hi hσ ea2 (hn n hnn) (by have := hn n hnn; omega) t (by have := hr.dp; show X.A.depth < _; omega) nd1 nd2 nc h tk kp
      · rw [PySem.W.dataLe_int] at eo
        have nf2 : H2 (s2.heap.objs.size + 1) = none := I2.hok.fresh (Nat.le_succ _)
        have lf : (fallN ws ns).length = ns.length := by unfold fallN; rw [List.length_mergeSort]
        refine ⟨.ref _, upd H2 (s2.heap.objs.size + 1) (.lst ((fallN ws ns).map vN)), I2.laid (t' := tk) (fun b o e => kp b o e) (Nat.le_succ _) ⟨by rw [List.length_map, lf, sizeLine_eq]; omega, out, c, each_to eo, hD⟩, rfl, ?_⟩
        refine kq _ _ (fun b o e n => (upd_ne (ne_of_none (ex b o e n) nf2)).trans (ex b o e n)) (fun b e => fr _ (put_none e)) (tb2.ext fun b o e => (upd_ne (ne_of_none e nf2)).trans e) (fr _ nf2) upd_same
end
end LaneX
set_option Elab.async false
set_option linter.all false
set_option maxRecDepth 100000
set_option maxHeartbeats 4000000
namespace LaneX
open PySem PySem.Spec PyProof.Rows L2
/-! ### a def whose code object is known -/
theorem fnokCc {P : Program} {w : World} {K : PySem.W.Frag} {mg : Str → Option Value} {base : Heap} {x qual : Str} {st : Stmt} {f : Addr} {fd : FuncData} {N ps : List Str} {k : Nat} {sp : Sp} (F : FnP K x qual st f fd) (S : FnScope N ps (defScope st)) (len : ∀ vs H Q E, sp vs H Q E → vs.length = ps.length)
    (hbody : ∀ (A : Around) (outer : List Env) (s : Shared) (H : Hp) (vs : List V) (Q : VK) (E : XK), Room k (A.deeper (envOfC qual (defScope st) s.heap.objs.size f fd.code)) → sp vs H Q E →
      ∃ t, PSs (cxOf CX0 P w K mg base N qual (defScope st) f fd.code A outer s H E).nox (defBody st) t ∧ t { nx := fun _ H' => Q .non H', rt := Q } (start N vs) H) : FnOk P w K mg base CX0 (k + 1) f fd ps sp := by
  obtain ⟨oc, od, dV, kV, doc, pm, an, cdv, ct, osl, rfl, lk, hcd, _, _⟩ := F.ex
  refine fn_of lk hcd S len fun A outer s H vs Q E hr h => ?_
  obtain ⟨t, h1, h2⟩ := hbody A outer s H vs Q E hr h
  exact ⟨t, PSs.nox h1, h2⟩
/-! ### what a call leaves that makes a lambda -/
structure ExF (T : List (Addr × Str)) (H H' : Hp) : Prop where
  ext : LamX.ExtN H H'
  free : ∀ b, H' b = none → H b = none
  tab : LamX.Tabs T H'
theorem ExF.of {T : List (Addr × Str)} {H H' : Hp} (s : Same H H') (t : LamX.Tabs T H) : ExF T H H' := ⟨fun b o e _ => s b o e, fun b e => s.free e, t.ext fun b o e => s b o e⟩
theorem ExF.trans {T : List (Addr × Str)} {H H1 H2 : Hp} (a : ExF T H H1) (b : ExF T H1 H2) : ExF T H H2 := ⟨fun c o h n => b.ext c o (a.ext c o h n) n, fun c h => a.free c (b.free c h), b.tab⟩
theorem ExF.same {T : List (Addr × Str)} {H H1 H2 : Hp} (a : ExF T H H1) (s : Same H1 H2) : ExF T H H2 := a.trans (ExF.of s a.tab)
theorem ExF.lst {T : List (Addr × Str)} {H H' : Hp} (a : ExF T H H') {c : Addr} {xs : List V} (h : H c = some (.lst xs)) : H' c = some (.lst xs) := a.ext _ _ h (fun ps z => by cases z)
theorem ExF.tup {T : List (Addr × Str)} {H H' : Hp} (a : ExF T H H') {c : Addr} {xs : List V} (h : H c = some (.tup xs)) : H' c = some (.tup xs) := a.ext _ _ h (fun ps z => by cases z)
theorem ExF.ins {T : List (Addr × Str)} {H H' : Hp} (a : ExF T H H') {c C dx : Addr} {fs : List (Str × V)} (h : H c = some (.ins C dx fs)) : H' c = some (.ins C dx fs) := a.ext _ _ h (fun ps z => by cases z)
section
variable {X : Cx}
/-- xs != [], whatever xs holds -/
theorem op_neEV (hu : X.A.units + 64 < cLine) : OpR X (compareOp .NotEq) (fun x y H Q => ∃ (a b : Addr) (xs : List V), x = .ref a ∧ y = .ref b ∧ H a = some (.lst xs) ∧ H b = some (.lst []) ∧ Q (.bl (!xs.isEmpty)) H) := by
  intro pins s σ H x y v u Q I rx ry h
  obtain ⟨a, b, xs, rfl, rfl, ha, hb, q⟩ := h
  cases rx
  cases ry
  obtain ⟨its, rv, pl, _⟩ := I.list (SqL.of ha)
  obtain ⟨its2, rv2, pl2, _⟩ := I.list (SqL.of hb)
  have l1 := rv.length
  have l2 := rv2.length
  cases xs with
  | nil =>
    have e1 : its = [] := List.length_eq_zero_iff.mp l1.symm
    have e2 : its2 = [] := List.length_eq_zero_iff.mp l2.symm
    subst e1 e2
    have r := SeqAt.RcNeAt.lists (A := X.A) (e := fun _ => true) pl.isList pl2.isList rfl (by omega) (fun j h1 _ => absurd h1 (by simp))
    exact PySem.EqBoolInt.of_rcne r ⟨.bl _, H, I, rfl, q⟩
  | cons z r =>
    have e2 : its2 = [] := List.length_eq_zero_iff.mp l2.symm
    subst e2
    have r := SeqAt.RcNeAt.lists_lengths (A := X.A) pl.isList pl2.isList (by
      simp only [List.length_cons] at l1
      cases its with
      | nil => simp at l1
      | cons _ _ => rfl) (by omega)
    exact PySem.EqBoolInt.of_rcne r ⟨.bl _, H, I, rfl, q⟩
/-- xs[-1] -/
theorem ix_lastL : IxR X (fun x y H Q => ∃ (p : Addr) (xs : List V) (z : V), x = .ref p ∧ y = .int (-1) ∧ H p = some (.lst xs) ∧ xs.getLast? = some z ∧ Q z H) := by
  intro value slice pins s σ H x y v u Q I rx ry h hs
  obtain ⟨p, xs, z, rfl, rfl, hq, he, q⟩ := h
  refine ix_seq value slice pins s σ H _ _ v u Q I rx ry (.inl ⟨p, xs, -1, z, rfl, rfl, SqL.of hq, ?_, q⟩) hs
  have hp : 0 < xs.length := by
    cases xs with
    | nil => cases he
    | cons _ _ => simp
  unfold atI ixN
  rw [if_neg (by decide), if_pos (by omega)]
  rw [List.getLast?_eq_getElem?] at he
  show xs[_]? = some z
  rw [← he]
  congr 1
  omega
end
/-- a comprehension over zip(xs, ys), xs numbers, ys anything, whose elements change nothing -/
theorem lc_zipN {K : PySem.W.Frag} {g : TG} {tt : TT} {te : TE} {vs : List Nat} {σ : L2.St} {H : Hp} {Q : Addr → Hp → Prop} {a b : Addr} (xs ys : List V) (v : Nat → V) (hx : H a = some (.lst xs)) (hy : H b = some (.lst ys)) (hl : xs.length = ys.length) (hlen : xs.length ≤ 1000000)
    (hs : ∀ i x y H' T, xs[i]? = some x → ys[i]? = some y → Same H H' → H' T = some (.tup [x, y]) → LcT g tt te vs σ (.ref T) H' true (v i))
    (hd : ∀ D H', H D = none → Same H H' → H' D = some (.lst ((List.range xs.length).map v)) → Q D H') : LcR g tt te vs σ Q (Itz K a b) H := by
  intro D hD
  refine lc_it (walk_zip (K := K) (a := a) (b := b) (xs := xs) (ys := ys) (n := xs.length) (by rw [hl, Nat.min_self])) (fun i H' => Same H H' ∧ H' D = some (.lst ((List.range i).map v))) ⟨same_new0 hD, upd_same⟩ (fun i H' hi hP => ⟨SqL.of (hP.1 _ _ hx), SqL.of (hP.1 _ _ hy)⟩) (fun i x H1 H2 hi hP hY => ?_) (fun H' hP => hd D H' hD hP.1 hP.2)
  obtain ⟨s1, e1⟩ := hP
  obtain ⟨T, x1, y1, rfl, hT, rfl, hx1, hy1⟩ := hY
  have s2 := same_new0 (o := .tup [x1, y1]) hT
  refine hs i x1 y1 _ T hx1 hy1 (s1.trans s2) upd_same _ _ (fun _ H4 s4 => ⟨_, s4 _ _ (s2 _ _ e1), ?_, same_put ((s1.trans s2).trans s4) hD, ?_⟩) (fun z => by cases z)
  · exact size6 (by rw [List.length_map, List.length_range]; omega)
  · rw [upd_same, List.range_succ, List.map_append]
    rfl
end LaneX
set_option Elab.async false
set_option linter.all false
set_option maxRecDepth 100000
set_option maxHeartbeats 4000000
namespace LaneX
open PySem PySem.Spec PyProof.Rows L2
/-- xs[lo:hi] of a tracked list (for within a comprehension) -/
def rSlQ : V → Option Int → Option Int → Hp → VK → Prop := fun x lo hi H Q => ∃ a xs, x = .ref a ∧ H a = some (.lst xs) ∧ ∀ p, H p = none → Q (.ref p) (upd H p (.lst (cutV xs lo hi)))
theorem sl_listK {X : Cx} : SlR X rSlQ := by
  intro pins s σ H x v vl vu lo hi sl Q I rx hs pl pu h
  obtain ⟨a, xs, rfl, hx, q⟩ := h
  exact sl_list pins s σ H _ v vl vu lo hi sl Q I rx hs pl pu ⟨a, xs, rfl, SqL.of hx, q⟩
/-! ### comprehensions whose elements draw -/
/-- what is neither a list nor the pen -/
def notL : HO → Bool
  | .lst _ => false
  | o => notD o
/-- all but lists and the pen stays -/
def Kt (H H' : Hp) : Prop := ∀ c o, H c = some o → notL o = true → H' c = some o
theorem notL_D {o : HO} (h : notL o = true) : notD o = true := by
  cases o <;> first | exact h | cases h
theorem Kt.of {H H' : Hp} (s : Kp H H') : Kt H H' := fun c o h n => s c o h (notL_D n)
theorem Kt.same {H H' : Hp} (s : Same H H') : Kt H H' := fun c o h _ => s c o h
theorem Kt.trans {H H1 H2 : Hp} (a : Kt H H1) (b : Kt H1 H2) : Kt H H2 := fun c o h n => b c o (a c o h n) n
theorem Kt.put {H : Hp} {D : Addr} {xs : List V} {o : HO} (h : H D = some (.lst xs)) : Kt H (upd H D o) := fun c u e n => (upd_ne (fun z => by rw [z, h] at e; cases e; cases n)).trans e
section
variable {K : PySem.W.Frag} {x y z : Str} {g : TG} {tt : TT} {te : TE} {vs : List Nat} {σ : L2.St} {H : Hp} {Q : Addr → Hp → Prop} {p lc : Addr} {N st : Nat}
/-- the state of such a comprehension -/
structure DrS (x y z : Str) (H : Hp) (p lc : Addr) (N st : Nat) (R : Nat → V → Hp → Prop) (D : Addr) (i : Nat) (H' : Hp) : Prop where
  kp : Kp H H'
  pn : PenAt x y z H' p lc (N + i * st)
  at_ : ∃ ys : List V, H' D = some (.lst ys) ∧ ys.length = i ∧ ∀ j v, ys[j]? = some v → R j v H'
theorem DrS.start {R : Nat → V → Hp → Prop} {D : Addr} (hpn : PenAt x y z H p lc N) (hD : H D = none) : DrS x y z H p lc N st R D 0 (upd H D (.lst [])) :=
  ⟨kp_put (Kp.refl H) hD, by rw [Nat.zero_mul]; exact hpn.put (hpn.ne hD), [], upd_same, rfl, fun j v h => by simp at h⟩
theorem DrS.step {R : Nat → V → Hp → Prop} (hR : ∀ i v H1 H2, R i v H1 → Kt H1 H2 → R i v H2) {D : Addr} {i : Nat} {H' H4 : Hp} {v : V} (hpn : PenAt x y z H p lc N) (hD : H D = none) (h : DrS x y z H p lc N st R D i H') (k : Kp H' H4) (pn : PenAt x y z H4 p lc (N + (i + 1) * st)) (r : R i v H4) (hi : i < 1000000) :
    ∃ acc, H4 D = some (.lst acc) ∧ acc.length < sizeLine ∧ DrS x y z H p lc N st R D (i + 1) (upd H4 D (.lst (acc ++ [v]))) := by
  obtain ⟨k0, _, ys, e1, e2, e3⟩ := h
  have e4 := k _ _ e1 rfl
  refine ⟨ys, e4, by rw [sizeLine_eq]; omega, kp_put (k0.trans k) hD, pn.put (hpn.ne hD), ys ++ [v], upd_same, by rw [List.length_append, e2]; rfl, fun j w hj => ?_⟩
  have kt : Kt H4 (upd H4 D (.lst (ys ++ [v]))) := Kt.put e4
  by_cases q : j < ys.length
  · rw [List.getElem?_append_left q] at hj
    exact hR _ _ _ _ (hR _ _ _ _ (e3 j w hj) (Kt.of k)) kt
  · rw [List.getElem?_append_right (by omega)] at hj
    have e0 : j - ys.length = 0 := by
      cases z : j - ys.length with
      | zero => rfl
      | succ n => rw [z] at hj; simp at hj
    rw [e0] at hj
    cases hj
    have : j = i := by omega
    subst this
    exact hR _ _ _ _ r kt
theorem lc_drawnR {n : Nat} (R : Nat → V → Hp → Prop) (hR : ∀ i v H1 H2, R i v H1 → Kt H1 H2 → R i v H2) (hn : n ≤ 1000000) (hpn : PenAt x y z H p lc N)
    (hs : ∀ i H', i < n → Kp H H' → PenAt x y z H' p lc (N + i * st) → ∀ (Z : VK) (Nx : Hp → Prop), (∀ H4 v, Kp H' H4 → PenAt x y z H4 p lc (N + (i + 1) * st) → R i v H4 → Z v H4) →
      g (vN i) (wipe σ vs) H' fun σ2 H2 => wipe σ2 vs = wipe σ vs ∧ tt σ2 H2 fun b H3 => if b = true then te σ2 H3 Z else Nx H3)
    (hd : ∀ D H' ys, H D = none → Kp H H' → H' D = some (.lst ys) → ys.length = n → (∀ i v, ys[i]? = some v → R i v H') → PenAt x y z H' p lc (N + n * st) → Q D H') : LcR g tt te vs σ Q (Itr 0 n) H := by
  intro D hD
  refine lc_range (fun i H' => DrS x y z H p lc N st R D i H') (DrS.start hpn hD) (fun i H' hi hp => ?_) (fun H' hp => ?_)
  · rw [show (0 : Int) + (i : Int) = (i : Int) by omega]
    exact hs i H' hi hp.kp hp.pn _ _ fun H4 v k pn r => hp.step hR hpn hD k pn r (by omega)
  · obtain ⟨ys, e1, e2, e3⟩ := hp.at_
    exact hd D H' ys hD hp.kp e1 e2 e3 hp.pn
theorem lc_drawnS {a : Addr} {xs : List V} (R : Nat → V → Hp → Prop) (hR : ∀ i v H1 H2, R i v H1 → Kt H1 H2 → R i v H2) (hS : Sq K H a xs) (hn : xs.length ≤ 1000000) (hpn : PenAt x y z H p lc N)
    (hs : ∀ i u H', xs[i]? = some u → Kp H H' → PenAt x y z H' p lc (N + i * st) → ∀ (Z : VK) (Nx : Hp → Prop), (∀ H4 v, Kp H' H4 → PenAt x y z H4 p lc (N + (i + 1) * st) → R i v H4 → Z v H4) →
      g u (wipe σ vs) H' fun σ2 H2 => wipe σ2 vs = wipe σ vs ∧ tt σ2 H2 fun b H3 => if b = true then te σ2 H3 Z else Nx H3)
    (hd : ∀ D H' ys, H D = none → Kp H H' → H' D = some (.lst ys) → ys.length = xs.length → (∀ i v, ys[i]? = some v → R i v H') → PenAt x y z H' p lc (N + xs.length * st) → Q D H') :
    ∃ (a' : Addr) (xs' : List V), V.ref a = .ref a' ∧ ((SqL K H a' xs' ∧ LcR g tt te vs σ Q (Itl K a') H) ∨ (SqT K H a' xs' ∧ LcR g tt te vs σ Q (Itt K a') H)) := by
  refine lc_seq hS (fun D i H' => DrS x y z H p lc N st R D i H') (fun D hD => DrS.start hpn hD) (fun D i H' hD hp => hp.kp) (fun D i u H' hD hu hp => ?_) (fun D H' hD hp => ?_)
  · have hi := (List.getElem?_eq_some_iff.mp hu).1
    exact hs i u H' hu hp.kp hp.pn _ _ fun H4 v k pn r => hp.step hR hpn hD k pn r (by omega)
  · obtain ⟨ys, e1, e2, e3⟩ := hp.at_
    exact hd D H' ys hD hp.kp e1 e2 e3 hp.pn
/-- .. over enumerate(list) -/
theorem lc_drawnE {a : Addr} {xs : List V} (R : Nat → V → Hp → Prop) (hR : ∀ i v H1 H2, R i v H1 → Kt H1 H2 → R i v H2) (hS : H a = some (.lst xs)) (hn : xs.length ≤ 1000000) (hpn : PenAt x y z H p lc N)
    (hs : ∀ i u H' T, xs[i]? = some u → Kp H H' → PenAt x y z H' p lc (N + i * st) → H' T = some (.tup [vN i, u]) → ∀ (Z : VK) (Nx : Hp → Prop), (∀ H4 v, Kp H' H4 → PenAt x y z H4 p lc (N + (i + 1) * st) → R i v H4 → Z v H4) →
      g (.ref T) (wipe σ vs) H' fun σ2 H2 => wipe σ2 vs = wipe σ vs ∧ tt σ2 H2 fun b H3 => if b = true then te σ2 H3 Z else Nx H3)
    (hd : ∀ D H' ys, H D = none → Kp H H' → H' D = some (.lst ys) → ys.length = xs.length → (∀ i v, ys[i]? = some v → R i v H') → PenAt x y z H' p lc (N + xs.length * st) → Q D H') : LcR g tt te vs σ Q (Ite K a) H := by
  intro D hD
  refine lc_it (walk_enum (K := K) (a := a) (xs := xs)) (fun i H' => DrS x y z H p lc N st R D i H') (DrS.start hpn hD) (fun i H' hi hp => SqL.of (hp.kp _ _ hS rfl)) (fun i u H' H2 hi hp hY => ?_) (fun H' hp => ?_)
  · obtain ⟨T, w0, w, rfl, hT, rfl, h0, hw⟩ := hY
    cases h0
    have s2 := same_new0 (o := .tup [.int (i : Nat), w]) hT
    have h2 : DrS x y z H p lc N st R D i (upd H' T (.tup [.int (i : Nat), w])) := by
      obtain ⟨k0, pn, ys, e1, e2, e3⟩ := hp
      exact ⟨k0.trans (Kp.of s2), pn.same s2, ys, s2 _ _ e1, e2, fun j v hj => hR _ _ _ _ (e3 j v hj) (Kt.same s2)⟩
    have hu : xs[i]? = some w := by exact hw
    have hi' := (List.getElem?_eq_some_iff.mp hu).1
    exact hs i w _ T hu h2.kp h2.pn upd_same _ _ fun H4 v k pn r => h2.step hR hpn hD k pn r (by omega)
  · obtain ⟨ys, e1, e2, e3⟩ := hp.at_
    exact hd D H' ys hD hp.kp e1 e2 e3 hp.pn
end
/-! ### comprehensions whose elements make objects -/
section
variable {K : PySem.W.Frag} {g : TG} {tt : TT} {te : TE} {vs : List Nat} {σ : L2.St} {H : Hp} {Q : Addr → Hp → Prop}
structure NwS (H : Hp) (R : Nat → V → Hp → Prop) (D : Addr) (i : Nat) (H' : Hp) : Prop where
  sm : Same H H'
  at_ : ∃ ys : List V, H' D = some (.lst ys) ∧ ys.length = i ∧ ∀ j v, ys[j]? = some v → R j v H'
theorem NwS.start {R : Nat → V → Hp → Prop} {D : Addr} (hD : H D = none) : NwS H R D 0 (upd H D (.lst [])) := ⟨same_new0 hD, [], upd_same, rfl, fun j v h => by simp at h⟩
theorem NwS.step {R : Nat → V → Hp → Prop} (hR : ∀ i v H1 H2, R i v H1 → Kt H1 H2 → R i v H2) {D : Addr} {i : Nat} {H' H4 : Hp} {v : V} (hD : H D = none) (h : NwS H R D i H') (k : Same H' H4) (r : R i v H4) (hi : i < 1000000) :
    ∃ acc, H4 D = some (.lst acc) ∧ acc.length < sizeLine ∧ NwS H R D (i + 1) (upd H4 D (.lst (acc ++ [v]))) := by
  obtain ⟨k0, ys, e1, e2, e3⟩ := h
  have e4 := k _ _ e1
  refine ⟨ys, e4, by rw [sizeLine_eq]; omega, same_put (k0.trans k) hD, ys ++ [v], upd_same, by rw [List.length_append, e2]; rfl, fun j w hj => ?_⟩
  have kt : Kt H4 (upd H4 D (.lst (ys ++ [v]))) := Kt.put e4
  by_cases q : j < ys.length
  · rw [List.getElem?_append_left q] at hj
    exact hR _ _ _ _ (hR _ _ _ _ (e3 j w hj) (Kt.same k)) kt
  · rw [List.getElem?_append_right (by omega)] at hj
    have e0 : j - ys.length = 0 := by
      cases z : j - ys.length with
      | zero => rfl
      | succ n => rw [z] at hj; simp at hj
    rw [e0] at hj
    cases hj
    have : j = i := by omega
    subst this
    exact hR _ _ _ _ r kt
theorem lc_newR {n : Nat} (R : Nat → V → Hp → Prop) (hR : ∀ i v H1 H2, R i v H1 → Kt H1 H2 → R i v H2) (hn : n ≤ 1000000)
    (hs : ∀ i H', i < n → Same H H' → ∀ (Z : VK) (Nx : Hp → Prop), (∀ H4 v, Same H' H4 → R i v H4 → Z v H4) →
      g (vN i) (wipe σ vs) H' fun σ2 H2 => wipe σ2 vs = wipe σ vs ∧ tt σ2 H2 fun b H3 => if b = true then te σ2 H3 Z else Nx H3)
    (hd : ∀ D H' ys, H D = none → Same H H' → H' D = some (.lst ys) → ys.length = n → (∀ i v, ys[i]? = some v → R i v H') → Q D H') : LcR g tt te vs σ Q (Itr 0 n) H := by
  intro D hD
  refine lc_range (fun i H' => NwS H R D i H') (NwS.start hD) (fun i H' hi hp => ?_) (fun H' hp => ?_)
  · rw [show (0 : Int) + (i : Int) = (i : Int) by omega]
    exact hs i H' hi hp.sm _ _ fun H4 v k r => hp.step hR hD k r (by omega)
  · obtain ⟨ys, e1, e2, e3⟩ := hp.at_
    exact hd D H' ys hD hp.sm e1 e2 e3
theorem lc_newS {a : Addr} {xs : List V} (R : Nat → V → Hp → Prop) (hR : ∀ i v H1 H2, R i v H1 → Kt H1 H2 → R i v H2) (hS : Sq K H a xs) (hn : xs.length ≤ 1000000)
    (hs : ∀ i u H', xs[i]? = some u → Same H H' → ∀ (Z : VK) (Nx : Hp → Prop), (∀ H4 v, Same H' H4 → R i v H4 → Z v H4) →
      g u (wipe σ vs) H' fun σ2 H2 => wipe σ2 vs = wipe σ vs ∧ tt σ2 H2 fun b H3 => if b = true then te σ2 H3 Z else Nx H3)
    (hd : ∀ D H' ys, H D = none → Same H H' → H' D = some (.lst ys) → ys.length = xs.length → (∀ i v, ys[i]? = some v → R i v H') → Q D H') :
    ∃ (a' : Addr) (xs' : List V), V.ref a = .ref a' ∧ ((SqL K H a' xs' ∧ LcR g tt te vs σ Q (Itl K a') H) ∨ (SqT K H a' xs' ∧ LcR g tt te vs σ Q (Itt K a') H)) := by
  refine lc_seq hS (fun D i H' => NwS H R D i H') (fun D hD => NwS.start hD) (fun D i H' hD hp => Kp.of hp.sm) (fun D i u H' hD hu hp => ?_) (fun D H' hD hp => ?_)
  · have hi := (List.getElem?_eq_some_iff.mp hu).1
    exact hs i u H' hu hp.sm _ _ fun H4 v k r => hp.step hR hD k r (by omega)
  · obtain ⟨ys, e1, e2, e3⟩ := hp.at_
    exact hd D H' ys hD hp.sm e1 e2 e3
end
/-- naturals by what is told of each -/
theorem nats_of {P : Nat → Nat → Prop} : ∀ {ys : List V}, (∀ i v, ys[i]? = some v → ∃ n, v = vN n ∧ P i n) → ∃ ns : List Nat, ys = ns.map vN ∧ ∀ i n, ns[i]? = some n → P i n := by
  intro ys
  induction ys generalizing P with
  | nil => exact fun _ => ⟨[], rfl, fun i n h => by simp at h⟩
  | cons y ys ih =>
    intro h
    obtain ⟨n, rfl, hn⟩ := h 0 y rfl
    obtain ⟨ns, rfl, hns⟩ := ih (P := fun i n => P (i + 1) n) fun i v hv => h (i + 1) v (by simpa using hv)
    refine ⟨n :: ns, rfl, fun i m hm => ?_⟩
    cases i with
    | zero => simp at hm; subst hm; exact hn
    | succ i => exact hns i m (by simpa using hm)
/-- objects by what is told of each -/
theorem refs_of {α : Type} {P : Nat → Addr → α → Prop} : ∀ {ys : List V}, (∀ i v, ys[i]? = some v → ∃ a z, v = V.ref a ∧ P i a z) → ∃ (as : List Addr) (zs : List α), ys = as.map V.ref ∧ as.length = zs.length ∧ ∀ (i : Nat) (a : Addr) (z : α), as[i]? = some a → zs[i]? = some z → P i a z := by
  intro ys
  induction ys generalizing P with
  | nil => exact fun _ => ⟨[], [], rfl, rfl, fun i n z h => by simp at h⟩
  | cons y ys ih =>
    intro h
    obtain ⟨n, z0, rfl, hn⟩ := h 0 y rfl
    obtain ⟨ns, zs, rfl, l, hns⟩ := ih (P := fun i n z => P (i + 1) n z) fun i v hv => h (i + 1) v (by simpa using hv)
    refine ⟨n :: ns, z0 :: zs, rfl, by rw [List.length_cons, l]; rfl, fun i m w hm hw => ?_⟩
    cases i with
    | zero => simp at hm hw; subst hm hw; exact hn
    | succ i => exact hns i m w (by simpa using hm) (by simpa using hw)
end LaneX
set_option linter.all false
namespace LaneX
/-! ### kernels, tags, meets: their sizes -/
theorem xor_cancel (a b : Nat) : a ^^^ (a ^^^ b) = b := by rw [← Nat.xor_assoc, Nat.xor_self, Nat.zero_xor]
theorem xor_cancel_right (a b : Nat) : a ^^^ b ^^^ b = a := by rw [Nat.xor_assoc, Nat.xor_self, Nat.xor_zero]
/-- a linear map of spans -/
structure Lin (φ : Nat → Nat) : Prop where
  z : φ 0 = 0
  x : ∀ a b, φ (a ^^^ b) = φ a ^^^ φ b
theorem Lin.spn {φ : Nat → Nat} (L : Lin φ) {l : List Nat} {y : Nat} (h : Spn l y) : Spn (l.map φ) (φ y) := by
  induction h with
  | zero => rw [L.z]; exact .zero
  | add hw _ ih => rw [L.x]; exact .add (List.mem_map.mpr ⟨_, hw, rfl⟩) ih
theorem Lin.back {φ : Nat → Nat} (L : Lin φ) {l : List Nat} {z : Nat} (h : Spn (l.map φ) z) : ∃ y, Spn l y ∧ φ y = z := by
  induction h with
  | zero => exact ⟨0, .zero, L.z⟩
  | add hw _ ih =>
    obtain ⟨y, hy, rfl⟩ := ih
    obtain ⟨u, hu, rfl⟩ := List.mem_map.mp hw
    exact ⟨y ^^^ u, .add hu hy, L.x _ _⟩
theorem Lin.comp {φ ψ : Nat → Nat} (L : Lin φ) (M : Lin ψ) : Lin (fun x => φ (ψ x)) := ⟨by rw [M.z, L.z], fun a b => by rw [M.x, L.x]⟩
theorem lin_clr (rows : List Nat) : Lin (clr rows) := ⟨clr_zero rows, clr_xor rows⟩
theorem lin_lft (rows : List Nat) : Lin (lft rows) := ⟨lft_zero rows, lft_xor rows⟩
theorem lin_shr (b : Nat) : Lin (fun x => x >>> b) := ⟨Nat.zero_shiftRight b, fun a c => Nat.shiftRight_xor_distrib⟩
theorem lin_mod (b : Nat) : Lin (fun x => x % 2 ^ b) := ⟨Nat.zero_mod _, fun a c => Nat.xor_mod_two_pow⟩
/-- taking away what S spans -/
structure Red (S : List Nat) (φ : Nat → Nat) : Prop where
  l : Lin φ
  s : ∀ x, Spn S (x ^^^ φ x)
  k : ∀ x, φ x = 0 ↔ Spn S x
theorem red_clr (S : List Nat) : Red S (clr (spn S)) := ⟨lin_clr _, fun x => (spn_span S _).mp (spn_clr _ x), fun x => clr_spn_zero⟩
theorem red_lft (S : List Nat) : Red S (lft (bas S)) := ⟨lin_lft _, fun x => (bas_span S _).mp (spn_lft _ x), fun x => lft_bas⟩
theorem Red.mem {S ls : List Nat} {φ : Nat → Nat} (R : Red S φ) (x : Nat) : Spn (ls.map φ) (φ x) ↔ Spn (S ++ ls) x := by
  constructor
  · intro h
    have h1 : Spn (S ++ ls) (φ x) := h.mono fun y hy => by
      obtain ⟨u, hu, rfl⟩ := List.mem_map.mp hy
      have a := ((R.s u).sub (vs := S ++ ls) fun z hz => List.mem_append_left _ hz).xor (Spn.of (List.mem_append_right S hu))
      rwa [Nat.xor_comm u, xor_cancel_right] at a
    have a := ((R.s x).sub (vs := S ++ ls) fun z hz => List.mem_append_left _ hz).xor h1
    rwa [xor_cancel_right] at a
  · intro h
    induction h with
    | zero => rw [R.l.z]; exact .zero
    | @add y u hu _ ih =>
      rw [R.l.x]
      refine ih.xor ?_
      rcases List.mem_append.mp hu with hu | hu
      · rw [(R.k u).mpr (.of hu)]; exact .zero
      · exact .of (List.mem_map.mpr ⟨u, hu, rfl⟩)
theorem rk_snoc' (a : List Nat) (w : Nat) [Decidable (Spn a w)] : rk (a ++ [w]) = if Spn a w then rk a else rk a + 1 := by
  split
  · rename_i h; exact rk_snoc_in h
  · rename_i h; exact rk_snoc_out h
theorem Red.rk {S : List Nat} {φ : Nat → Nat} (R : Red S φ) : ∀ ls, rk (ls.map φ) + rk S = rk (S ++ ls) :=
  snoc_rec (p := fun ls => LaneX.rk (ls.map φ) + LaneX.rk S = LaneX.rk (S ++ ls)) (by simp [LaneX.rk, spn]) (fun a x ih => by
    rw [List.map_append, ← List.append_assoc]
    show LaneX.rk (a.map φ ++ [φ x]) + _ = _
    by_cases h : Spn (S ++ a) x
    · rw [rk_snoc_in h, rk_snoc_in ((R.mem x).mpr h)]; exact ih
    · rw [rk_snoc_out h, rk_snoc_out (fun z => h ((R.mem x).mp z))]; omega)
/-! ### images -/
theorem imf_lin (cols : List Nat) : ∀ n, Lin (fun x => imf cols x n)
  | 0 => ⟨rfl, fun _ _ => (Nat.xor_self 0).symm⟩
  | n + 1 => by
    have ih := imf_lin cols n
    refine ⟨by show imf cols 0 (n + 1) = 0; rw [imf_succ, Nat.zero_testBit]; exact ih.z, fun a b => ?_⟩
    have e := ih.x a b
    show imf cols (a ^^^ b) (n + 1) = imf cols a (n + 1) ^^^ imf cols b (n + 1)
    simp only [imf_succ, Nat.testBit_xor] at e ⊢
    rw [e]
    generalize imf cols a n = A
    generalize imf cols b n = B
    generalize cols.getD n 0 = c
    cases a.testBit n <;> cases b.testBit n <;> simp
    · rw [Nat.xor_assoc]
    · rw [Nat.xor_assoc, Nat.xor_comm B c, ← Nat.xor_assoc]
    · rw [Nat.xor_comm A c, Nat.xor_assoc c A, ← Nat.xor_assoc A, Nat.xor_comm c, Nat.xor_assoc, Nat.xor_self, Nat.xor_zero]
theorem lin_img (cols : List Nat) : Lin (img cols) := imf_lin cols _
theorem imf_unit (cols : List Nat) (i : Nat) : ∀ n, imf cols (2 ^ i) n = if i < n then cols.getD i 0 else 0
  | 0 => by simp [imf]
  | n + 1 => by
    rw [imf_succ, imf_unit cols i n, Nat.testBit_two_pow]
    by_cases h : i = n
    · subst h; simp
    · have : (i < n + 1) ↔ i < n := by omega
      simp [h, this]
theorem img_unit (cols : List Nat) {i : Nat} (h : i < cols.length) : img cols (2 ^ i) = cols.getD i 0 := by
  unfold img
  rw [imf_unit, if_pos h]
theorem imf_map {φ : Nat → Nat} (L : Lin φ) (cols : List Nat) (x : Nat) : ∀ n, imf (cols.map φ) x n = φ (imf cols x n)
  | 0 => L.z.symm
  | n + 1 => by
    rw [imf_succ, imf_succ, imf_map L cols x n]
    have e : (cols.map φ).getD n 0 = φ (cols.getD n 0) := by
      simp only [List.getD_eq_getElem?_getD, List.getElem?_map]
      cases cols[n]? with
      | none => exact L.z.symm
      | some c => rfl
    rw [e]
    split
    · rw [L.x]
    · rfl
theorem img_map {φ : Nat → Nat} (L : Lin φ) (cols : List Nat) (x : Nat) : img (cols.map φ) x = φ (img cols x) := by
  unfold img
  rw [List.length_map, imf_map L]
/-- one bit more -/
theorem bit_split {x n : Nat} (h : x < 2 ^ (n + 1)) : x < 2 ^ n ∨ (x ^^^ 2 ^ n < 2 ^ n ∧ x.testBit n = true) := by
  by_cases q : x.testBit n = true
  · refine .inr ⟨?_, q⟩
    have h1 : x ^^^ 2 ^ n < 2 ^ (n + 1) := Nat.xor_lt_two_pow h (Nat.pow_lt_pow_right (by decide) (Nat.lt_succ_self n))
    refine Classical.byContradiction fun z => ?_
    have h3 : blen (x ^^^ 2 ^ n) ≤ n + 1 := blen_le.mpr h1
    have h4 : ¬ blen (x ^^^ 2 ^ n) ≤ n := fun y => z (blen_le.mp y)
    have h5 : blen (x ^^^ 2 ^ n) = n + 1 := by omega
    have h6 : x ^^^ 2 ^ n ≠ 0 := fun e => by rw [e] at h5; simp [blen] at h5
    have h7 := testBit_top h6
    rw [h5, Nat.add_sub_cancel, Nat.testBit_xor, q, Nat.testBit_two_pow] at h7
    simp at h7
  · refine .inl (Classical.byContradiction fun z => q ?_)
    have h3 : blen x ≤ n + 1 := blen_le.mpr h
    have h4 : ¬ blen x ≤ n := fun y => z (blen_le.mp y)
    have h5 : blen x = n + 1 := by omega
    have h6 : x ≠ 0 := fun e => by rw [e] at h5; simp [blen] at h5
    have h7 := testBit_top h6
    rwa [h5, Nat.add_sub_cancel] at h7
theorem not_bit_of_lt {x n : Nat} (h : x < 2 ^ n) : x.testBit n = false := Nat.testBit_lt_two_pow h
theorem getD_mem {cols : List Nat} {i : Nat} (h : i < cols.length) : cols.getD i 0 ∈ cols := by
  rw [List.getD_eq_getElem?_getD, List.getElem?_eq_getElem h]
  exact List.getElem_mem h
theorem getD_take {cols : List Nat} {i n : Nat} (h : i < n) (hn : n ≤ cols.length) : cols.getD i 0 ∈ cols.take n := by
  have e : (cols.take n).getD i 0 = cols.getD i 0 := by
    simp only [List.getD_eq_getElem?_getD, List.getElem?_take, h, if_true]
  rw [← e]
  exact getD_mem (by rw [List.length_take]; omega)
theorem img_span {cols : List Nat} : ∀ {n x : Nat}, n ≤ cols.length → x < 2 ^ n → Spn (cols.take n) (img cols x)
  | 0, x, hn, h => by
    have : x = 0 := by simpa using h
    rw [this, (lin_img cols).z]; exact .zero
  | n + 1, x, hn, h => by
    rcases bit_split h with h | ⟨h, _⟩
    · exact (img_span (by omega) h).sub fun w hw => List.take_subset_take_left _ (Nat.le_succ n) hw
    · have a := (img_span (n := n) (by omega) h).sub (vs := cols.take (n + 1)) fun w hw => List.take_subset_take_left _ (Nat.le_succ n) hw
      rw [(lin_img cols).x, img_unit cols hn] at a
      have b := a.xor (.of (getD_take (Nat.lt_succ_self n) hn))
      rwa [xor_cancel_right] at b
theorem span_img {cols : List Nat} {n : Nat} (hn : n ≤ cols.length) {c : Nat} (h : Spn (cols.take n) c) : ∃ x, x < 2 ^ n ∧ img cols x = c := by
  induction h with
  | zero => exact ⟨0, Nat.two_pow_pos n, (lin_img cols).z⟩
  | @add y w hw _ ih =>
    obtain ⟨x, hx, rfl⟩ := ih
    obtain ⟨i, hi, rfl⟩ := List.getElem_of_mem hw
    rw [List.length_take] at hi
    refine ⟨x ^^^ 2 ^ i, Nat.xor_lt_two_pow hx (Nat.pow_lt_pow_right (by decide) (by omega)), ?_⟩
    rw [(lin_img cols).x, img_unit cols (by omega)]
    congr 1
    rw [List.getElem_take, List.getD_eq_getElem?_getD, List.getElem?_eq_getElem (by omega)]
    rfl
/-! ### the kernel's rows -/
theorem Rws.low {R : List Nat} (A : Rws R) (b : Nat) : Rws (R.filter fun r => decide (blen r ≤ b)) := ⟨fun r hr => A.nz r (List.mem_filter.mp hr).1, A.red.sublist List.filter_sublist⟩
theorem Rws.low_span {R : List Nat} (A : Rws R) (b x : Nat) : Spn (R.filter fun r => decide (blen r ≤ b)) x ↔ Spn R x ∧ x < 2 ^ b := by
  constructor
  · intro h
    exact ⟨h.sub fun w hw => (List.mem_filter.mp hw).1, h.lt fun w hw => blen_le.mp (by simpa using (List.mem_filter.mp hw).2)⟩
  · rintro ⟨h, hx⟩
    have L := A.low b
    rw [L.span]
    generalize hl : (R.filter fun r => decide (blen r ≤ b)) = low at *
    have lt : ∀ r ∈ low, r < 2 ^ b := fun w hw => blen_le.mp (by rw [← hl] at hw; simpa using (List.mem_filter.mp hw).2)
    have h1 : Spn R (clr low x) := by
      have a := h.xor ((spn_clr low x).sub (vs := R) fun w hw => by rw [← hl] at hw; exact (List.mem_filter.mp hw).1)
      rwa [xor_cancel] at a
    have h2 : clr low x < 2 ^ b := clr_lt lt hx
    refine Classical.byContradiction fun hn => ?_
    obtain ⟨r, hr, e⟩ := A.top_mem h1 hn
    have hm : r ∈ low := by
      rw [← hl]
      exact List.mem_filter.mpr ⟨hr, decide_eq_true (by rw [e]; exact blen_le.mpr h2)⟩
    have a := clr_tops (x := x) L r hm
    rw [e, testBit_top hn] at a
    cases a
theorem add_eq_xor {n a b : Nat} (h : b < 2 ^ n) : (a <<< n) + b = (a <<< n) ^^^ b := by
  have e : a <<< n + b = a <<< n ||| b := Nat.shiftLeft_add_eq_or_of_lt h a
  rw [e]
  apply Nat.eq_of_testBit_eq
  intro i
  rw [Nat.testBit_or, Nat.testBit_xor, Nat.testBit_shiftLeft]
  by_cases q : n ≤ i
  · have : b.testBit i = false := Nat.testBit_lt_two_pow (Nat.lt_of_lt_of_le h (Nat.pow_le_pow_right (by decide) q))
    simp [this]
  · simp [q]
theorem prs_fwd (cols : List Nat) {y : Nat} (h : Spn (prs cols) y) : ∃ x, x < 2 ^ cols.length ∧ y = (img cols x <<< cols.length) ^^^ x := by
  induction h with
  | zero => exact ⟨0, Nat.two_pow_pos _, by rw [(lin_img cols).z]; simp⟩
  | @add y w hw _ ih =>
    obtain ⟨x, hx, rfl⟩ := ih
    obtain ⟨i, hi, rfl⟩ := List.mem_map.mp hw
    have hi := List.mem_range.mp hi
    have hu : 2 ^ i < 2 ^ cols.length := Nat.pow_lt_pow_right (by decide) hi
    refine ⟨x ^^^ 2 ^ i, Nat.xor_lt_two_pow hx hu, ?_⟩
    rw [(lin_img cols).x, img_unit cols hi, Nat.one_shiftLeft, add_eq_xor hu, Nat.shiftLeft_xor_distrib, xor4]
theorem prs_bwd (cols : List Nat) : ∀ {n x : Nat}, n ≤ cols.length → x < 2 ^ n → Spn (prs cols) ((img cols x <<< cols.length) ^^^ x)
  | 0, x, hn, h => by
    have : x = 0 := by simpa using h
    rw [this, (lin_img cols).z]
    simp only [Nat.zero_shiftLeft, Nat.xor_self]
    exact .zero
  | n + 1, x, hn, h => by
    rcases bit_split h with h | ⟨h, _⟩
    · exact prs_bwd cols (by omega) h
    · have a := prs_bwd cols (n := n) (by omega) h
      have hu : 2 ^ n < 2 ^ cols.length := Nat.pow_lt_pow_right (by decide) hn
      have b : Spn (prs cols) ((cols.getD n 0 <<< cols.length) ^^^ 2 ^ n) := by
        rw [← add_eq_xor hu]
        refine .of (List.mem_map.mpr ⟨n, List.mem_range.mpr hn, ?_⟩)
        rw [Nat.one_shiftLeft]
      have c := a.xor b
      rw [(lin_img cols).x, img_unit cols hn, Nat.shiftLeft_xor_distrib, xor4, xor_cancel_right, xor_cancel_right] at c
      exact c
theorem ker_span (cols : List Nat) (x : Nat) : Spn (ker cols) x ↔ x < 2 ^ cols.length ∧ img cols x = 0 := by
  unfold ker prd
  rw [(spn_rws (prs cols)).low_span, spn_span]
  constructor
  · rintro ⟨h, hx⟩
    obtain ⟨y, hy, e⟩ := prs_fwd cols h
    have e2 : x >>> cols.length = img cols y := by
      rw [e, Nat.shiftRight_xor_distrib, Nat.shiftLeft_shiftRight, Nat.shiftRight_eq_div_pow, Nat.div_eq_of_lt hy, Nat.xor_zero]
    rw [Nat.shiftRight_eq_div_pow, Nat.div_eq_of_lt hx] at e2
    rw [← e2] at e
    simp only [Nat.zero_shiftLeft, Nat.zero_xor] at e
    rw [e]
    exact ⟨hy, e2.symm⟩
  · rintro ⟨hx, e⟩
    have a := prs_bwd cols (Nat.le_refl _) hx
    rw [e] at a
    simp only [Nat.zero_shiftLeft, Nat.zero_xor] at a
    exact ⟨a, hx⟩
/-! ### the tags -/
theorem tgl_fst : ∀ (rows : List (Nat × Nat)) (st : Nat × Nat), (tgl rows st).1 = lft (rows.map Prod.fst) st.1
  | [], _ => rfl
  | r :: rs, st => by
    show (tgl rs _).1 = lft _ _
    rw [tgl_fst rs]
    show _ = lft (rs.map Prod.fst) (if st.1.testBit (low r.1) = true then st.1 ^^^ r.1 else st.1)
    dsimp only
    split <;> rfl
theorem tgl_keep {p : Nat × Nat → Prop} (hx : ∀ a b, p a → p b → p (a.1 ^^^ b.1, a.2 ^^^ b.2)) : ∀ {rows : List (Nat × Nat)} {st : Nat × Nat}, (∀ r ∈ rows, p r) → p st → p (tgl rows st)
  | [], _, _, h => h
  | r :: rs, st, hr, h => by
    show p (tgl rs _)
    refine tgl_keep hx (fun s hs => hr s (.tail _ hs)) ?_
    dsimp only
    split
    · exact hx _ _ h (hr r (.head _))
    · exact h
theorem tgl_snd {n : Nat} : ∀ {rows : List (Nat × Nat)} {st : Nat × Nat}, (∀ r ∈ rows, r.2 < 2 ^ n) → (tgl rows st).2 ^^^ st.2 < 2 ^ n
  | [], st, _ => by show st.2 ^^^ st.2 < 2 ^ n; rw [Nat.xor_self]; exact Nat.two_pow_pos n
  | r :: rs, st, hr => by
    show (tgl rs _).2 ^^^ st.2 < 2 ^ n
    dsimp only
    split
    · have ih := tgl_snd (rows := rs) (st := (st.1 ^^^ r.1, st.2 ^^^ r.2)) fun s hs => hr s (.tail _ hs)
      have a := Nat.xor_lt_two_pow ih (hr r (.head _))
      dsimp only at a
      rwa [← Nat.xor_assoc, xor_cancel_right] at a
    · exact tgl_snd fun s hs => hr s (.tail _ hs)
/-- what holds of the tags of n columns -/
structure Tgi (cols : List Nat) (n : Nat) : Prop where
  im : ∀ r ∈ (tgs cols n).1, img cols r.2 = r.1 ∧ r.2 < 2 ^ n
  lw : Lws ((tgs cols n).1.map Prod.fst)
  sp : ∀ x, Spn ((tgs cols n).1.map Prod.fst) x ↔ Spn (cols.take n) x
  im0 : ∀ t ∈ (tgs cols n).2, img cols t = 0 ∧ t < 2 ^ n
  ind : Ind (tgs cols n).2
  all : ∀ x, x < 2 ^ n → img cols x = 0 → Spn (tgs cols n).2 x
theorem tgi (cols : List Nat) : ∀ n, n ≤ cols.length → Tgi cols n
  | 0, _ => ⟨fun r h => (by cases h), Lws.nil, fun x => Iff.rfl, fun t h => (by cases h), .nil, fun x h _ => (by
      have : x = 0 := by simpa using h
      rw [this]; exact .zero)⟩
  | n + 1, hn => by
    have I := tgi cols n (by omega)
    have hc := getD_take (Nat.lt_succ_self n) hn
    have ic : img cols (1 <<< n) = cols.getD n 0 := by rw [Nat.one_shiftLeft, img_unit cols hn]
    have mono : 2 ^ n ≤ 2 ^ (n + 1) := Nat.pow_le_pow_right (by decide) (Nat.le_succ n)
    have hu : 1 <<< n < 2 ^ (n + 1) := by rw [Nat.one_shiftLeft]; exact Nat.pow_lt_pow_right (by decide) (Nat.lt_succ_self n)
    have tk : cols.take (n + 1) = cols.take n ++ [cols.getD n 0] := by
      rw [List.take_succ, List.getD_eq_getElem?_getD, List.getElem?_eq_getElem (by omega)]; rfl
    have e1 := tgl_fst (tgs cols n).1 (cols.getD n 0, 1 <<< n)
    have e2 : img cols (tgl (tgs cols n).1 (cols.getD n 0, 1 <<< n)).2 = (tgl (tgs cols n).1 (cols.getD n 0, 1 <<< n)).1 ∧ (tgl (tgs cols n).1 (cols.getD n 0, 1 <<< n)).2 < 2 ^ (n + 1) :=
      tgl_keep (p := fun q => img cols q.2 = q.1 ∧ q.2 < 2 ^ (n + 1)) (fun a b ha hb => ⟨by show img cols (a.2 ^^^ b.2) = a.1 ^^^ b.1; rw [(lin_img cols).x, ha.1, hb.1], Nat.xor_lt_two_pow ha.2 hb.2⟩) (fun r hr => ⟨(I.im r hr).1, Nat.lt_of_lt_of_le (I.im r hr).2 mono⟩) ⟨ic, hu⟩
    have e3 : (tgl (tgs cols n).1 (cols.getD n 0, 1 <<< n)).2 ^^^ (1 <<< n) < 2 ^ n := tgl_snd (st := (cols.getD n 0, 1 <<< n)) fun r hr => (I.im r hr).2
    have bs := bstep_span ((tgs cols n).1.map Prod.fst) (cols.getD n 0)
    have bw := I.lw.step (cols.getD n 0)
    have sp' : ∀ x, Spn (bstep ((tgs cols n).1.map Prod.fst) (cols.getD n 0)) x ↔ Spn (cols.take (n + 1)) x := fun x => by rw [bs, tk, span_app I.sp]
    have stp := tgs_succ cols n
    generalize htl : tgl (tgs cols n).1 (cols.getD n 0, 1 <<< n) = tl at *
    have e1' : tl.1 = lft ((tgs cols n).1.map Prod.fst) (cols.getD n 0) := e1
    by_cases z : tl.1 = 0
    · rw [if_pos z] at stp
      have ez : bstep ((tgs cols n).1.map Prod.fst) (cols.getD n 0) = (tgs cols n).1.map Prod.fst := by unfold bstep; rw [if_pos (by rw [← e1']; exact z)]
      rw [ez] at sp'
      refine ⟨?_, ?_, ?_, ?_, ?_, ?_⟩ <;> rw [stp]
      · exact fun r hr => ⟨(I.im r hr).1, Nat.lt_of_lt_of_le (I.im r hr).2 mono⟩
      · exact I.lw
      · exact sp'
      · intro t ht
        rcases List.mem_append.mp ht with ht | ht
        · exact ⟨(I.im0 t ht).1, Nat.lt_of_lt_of_le (I.im0 t ht).2 mono⟩
        · rcases List.mem_singleton.mp ht with rfl
          exact ⟨e2.1.trans z, e2.2⟩
      · refine .snoc I.ind fun hs => ?_
        have lt := hs.lt fun w hw => (I.im0 w hw).2
        have a := Nat.xor_lt_two_pow lt e3
        rw [xor_cancel, Nat.one_shiftLeft] at a
        exact Nat.lt_irrefl _ a
      · intro x hx h0
        have sub : ∀ w ∈ (tgs cols n).2, w ∈ (tgs cols n).2 ++ [tl.2] := fun w hw => List.mem_append_left _ hw
        rcases bit_split hx with h | ⟨h, _⟩
        · exact (I.all x h h0).sub sub
        · have a : x ^^^ tl.2 < 2 ^ n := by
            have := Nat.xor_lt_two_pow h e3
            rwa [Nat.one_shiftLeft, Nat.xor_comm tl.2, Nat.xor_assoc, xor_cancel] at this
          have b := (I.all _ a (by rw [(lin_img cols).x, h0, e2.1, z]; rfl)).sub sub
          have c := b.xor (.of (List.mem_append_right _ (List.mem_singleton_self tl.2)))
          rwa [xor_cancel_right] at c
    · rw [if_neg z] at stp
      have ez : bstep ((tgs cols n).1.map Prod.fst) (cols.getD n 0) = (tgs cols n).1.map Prod.fst ++ [tl.1] := by unfold bstep; rw [if_neg (by rw [← e1']; exact z), ← e1']
      rw [ez] at sp' bw
      refine ⟨?_, ?_, ?_, ?_, ?_, ?_⟩ <;> rw [stp]
      · intro r hr
        rcases List.mem_append.mp hr with hr | hr
        · exact ⟨(I.im r hr).1, Nat.lt_of_lt_of_le (I.im r hr).2 mono⟩
        · rcases List.mem_singleton.mp hr with rfl
          exact e2
      · rw [List.map_append]; exact bw
      · rw [List.map_append]; exact sp'
      · exact fun t ht => ⟨(I.im0 t ht).1, Nat.lt_of_lt_of_le (I.im0 t ht).2 mono⟩
      · exact I.ind
      · intro x hx h0
        rcases bit_split hx with h | ⟨h, _⟩
        · exact I.all x h h0
        · exfalso
          have a := img_span (cols := cols) (n := n) (by omega) h
          rw [(lin_img cols).x, h0, Nat.zero_xor, img_unit cols hn, ← I.sp, I.lw.span] at a
          exact z (e1'.trans a)
theorem tgd_span (cols : List Nat) (x : Nat) : Spn (tgd cols).2 x ↔ x < 2 ^ cols.length ∧ img cols x = 0 := by
  have I := tgi cols cols.length (Nat.le_refl _)
  constructor
  · intro h
    refine ⟨h.lt fun w hw => (I.im0 w hw).2, ?_⟩
    induction h with
    | zero => exact (lin_img cols).z
    | add hw _ ih => rw [(lin_img cols).x, ih, (I.im0 _ hw).1]; rfl
  · exact fun h => I.all x h.1 h.2
theorem tgd_len (cols : List Nat) : (tgd cols).2.length + rk cols = cols.length := by
  have I := tgi cols cols.length (Nat.le_refl _)
  have a := I.lw.rk
  have b : rk ((tgs cols cols.length).1.map Prod.fst) = rk cols := rk_eq fun x => by rw [I.sp, List.take_length]
  rw [List.length_map] at a
  have c := tgs_len cols cols.length
  unfold tgd
  omega
theorem tgd_rk (cols : List Nat) : rk (tgd cols).2 = (tgd cols).2.length := (tgi cols cols.length (Nat.le_refl _)).ind.rk
theorem ker_len_eq (cols : List Nat) : (ker cols).length + rk cols = cols.length := by
  have a : rk (ker cols) = rk (tgd cols).2 := rk_eq fun x => by rw [ker_span, tgd_span]
  rw [spn_id (ker_rws cols), tgd_rk] at a
  have := tgd_len cols
  omega
end LaneX
set_option linter.all false
namespace LaneX
/-! ### twins, partners -/
theorem span_clr_img (S ls : List Nat) (x : Nat) : Spn (ker (ls.map (clr (spn S)))) x ↔ x < 2 ^ ls.length ∧ Spn S (img ls x) := by
  rw [ker_span, List.length_map, img_map (lin_clr _), clr_spn_zero]
theorem span_tag (S ls : List Nat) (x : Nat) : Spn (tgd (ls.map (lft (bas S)))).2 x ↔ x < 2 ^ ls.length ∧ Spn S (img ls x) := by
  rw [tgd_span, List.length_map, img_map (lin_lft _), lft_bas]
theorem ksz (S ls : List Nat) : (spn (ker (ls.map (clr (spn S))))).length + rk (S ++ ls) = ls.length + rk S := by
  have a := ker_len_eq (ls.map (clr (spn S)))
  have b := (red_clr S).rk ls
  have c := spn_id (ker_rws (ls.map (clr (spn S))))
  unfold rk at c
  rw [List.length_map] at a
  omega
theorem tsz (S ls : List Nat) : (tgd (ls.map (lft (bas S)))).2.length + rk (S ++ ls) = ls.length + rk S := by
  have a := tgd_len (ls.map (lft (bas S)))
  have b := (red_lft S).rk ls
  rw [List.length_map] at a
  omega
theorem app_spn (A ws : List Nat) (x : Nat) : Spn (A ++ spn ws) x ↔ Spn (A ++ ws) x := span_app2 (fun _ => Iff.rfl) (fun z => spn_span ws z)
theorem rk_app_spn (A ws : List Nat) : rk (A ++ spn ws) = rk (A ++ ws) := rk_eq (app_spn A ws)
theorem twn_span (ss ls : List Nat) (x : Nat) : Spn (twn ss ls) x ↔ x < 2 ^ ls.length ∧ Spn ss (img ls x) := by
  unfold twn
  rw [spn_span, span_clr_img]
theorem prt_span (ss ls ws : List Nat) (x : Nat) : Spn (prt ss ls (spn ws)) x ↔ x < 2 ^ ls.length ∧ Spn (ss ++ ws) (img ls x) := by
  unfold prt prw
  rw [spn_span, span_clr_img, app_spn]
theorem twn_size (ss ls : List Nat) : (twn ss ls).length + rk (ss ++ ls) = ls.length + rk ss := ksz ss ls
theorem prt_size (ss ls ws : List Nat) : (prt ss ls (spn ws)).length + rk (ss ++ ws ++ ls) = ls.length + rk (ss ++ ws) := by
  have a := ksz (ss ++ spn ws) ls
  rw [rk_app_spn] at a
  have b : rk (ss ++ spn ws ++ ls) = rk (ss ++ ws ++ ls) := rk_eq fun x => span_app fun z => app_spn ss ws z
  rw [b] at a
  exact a
theorem twn_tag (ss ls : List Nat) : (twn ss ls).length = (tgd (ls.map (lft (bas ss)))).2.length := by
  have a := twn_size ss ls
  have b := tsz ss ls
  omega
theorem prt_rk (ss ls ws : List Nat) : rk (prt ss ls (spn ws)) = (prt ss ls (spn ws)).length := spn_id (spn_rws _)
theorem prt_tag (ss ls ws : List Nat) : (prt ss ls (spn ws)).length = rk (tgd (ls.map (lft (bas (ss ++ ws))))).2 := by
  rw [← prt_rk]
  exact rk_eq fun x => by rw [prt_span, span_tag]
theorem prt_tag2 (ss ls ws : List Nat) : rk ((tgd (ls.map (lft (bas (ss ++ ws))))).2 ++ prt ss ls (spn ws)) = (prt ss ls (spn ws)).length := by
  rw [← prt_rk]
  refine Nat.le_antisymm (rk_le fun x hx => ?_) (rk_right _ _)
  rcases List.mem_append.mp hx with hx | hx
  · rw [prt_span, ← span_tag]; exact .of hx
  · exact .of hx
/-! ### completing -/
theorem cms_span {A : List Nat} (R : Rws A) (B : List Nat) : (∀ x, Spn (cms A B).1 x ↔ Spn (A ++ B) x) ∧ (∀ x, Spn (cms A B).1 x ↔ Spn (A ++ (cms A B).2) x) := by
  refine snoc_rec (p := fun B => (∀ x, Spn (cms A B).1 x ↔ Spn (A ++ B) x) ∧ (∀ x, Spn (cms A B).1 x ↔ Spn (A ++ (cms A B).2) x)) ⟨fun x => by simp [cms], fun x => by simp [cms]⟩ (fun a r ih => ?_) B
  have R' := cms_rws R a
  rw [cms_snoc, ← List.append_assoc]
  split
  · rename_i h
    have hr := (ih.1 r).mp (R'.span.mpr h)
    refine ⟨fun x => ?_, ih.2⟩
    rw [ih.1 x]
    constructor
    · exact fun hx => hx.sub fun w hw => List.mem_append_left _ hw
    · refine fun hx => hx.mono fun y hy => ?_
      rcases List.mem_append.mp hy with hy | hy
      · exact .of hy
      · rcases List.mem_singleton.mp hy with rfl; exact hr
  · refine ⟨fun x => ?_, fun x => ?_⟩
    · rw [grw_span, span_app ih.1]
    · show Spn (grw _ _) x ↔ Spn (A ++ ((cms A a).2 ++ [r])) x
      rw [grw_span, span_app ih.2, List.append_assoc]
theorem cmpl_len {A : List Nat} (R : Rws A) (B : List Nat) : (cmpl A B).length + rk A = rk (A ++ B) := by
  unfold cmpl
  refine snoc_rec (p := fun B => (cms A B).2.length + rk A = rk (A ++ B)) (by simp [cms]) (fun a r ih => ?_) B
  have R' := cms_rws R a
  have S := (cms_span R a).1
  rw [cms_snoc, ← List.append_assoc]
  split
  · rename_i h
    rw [rk_snoc_in ((S r).mp (R'.span.mpr h))]; exact ih
  · rename_i h
    rw [rk_snoc_out fun z => h (R'.span.mp ((S r).mpr z)), List.length_append]
    simp only [List.length_cons, List.length_nil]
    omega
theorem cmpl_mem {A : List Nat} (B : List Nat) : ∀ x ∈ cmpl A B, x ∈ B := by
  unfold cmpl
  refine snoc_rec (p := fun B => ∀ x ∈ (cms A B).2, x ∈ B) (fun x hx => by cases hx) (fun a r ih x hx => ?_) B
  rw [cms_snoc] at hx
  split at hx
  · exact List.mem_append_left _ (ih x hx)
  · rcases List.mem_append.mp hx with hx | hx
    · exact List.mem_append_left _ (ih x hx)
    · exact List.mem_append_right _ hx
theorem cmpl_ind {A : List Nat} (R : Rws A) (B : List Nat) {φ : Nat → Nat} (L : Lin φ) : (∀ y, Spn B y → φ y = 0 → Spn A y) → Ind ((cmpl A B).map φ) := by
  unfold cmpl
  refine snoc_rec (p := fun B => (∀ y, Spn B y → φ y = 0 → Spn A y) → Ind ((cms A B).2.map φ)) (fun _ => .nil) (fun a r ih k => ?_) B
  have R' := cms_rws R a
  have S := (cms_span R a).2
  have ih := ih fun y hy => k y (hy.sub fun w hw => List.mem_append_left _ hw)
  have mem := cmpl_mem (A := A) a
  unfold cmpl at mem
  rw [cms_snoc]
  split
  · exact ih
  · rename_i h
    show Ind (((cms A a).2 ++ [r]).map φ)
    rw [List.map_append]
    refine .snoc ih fun hs => h (R'.span.mp ((S r).mpr ?_))
    obtain ⟨y, hy, e⟩ := L.back hs
    have hyr : Spn A (y ^^^ r) := by
      refine k _ ?_ (by rw [L.x, e, Nat.xor_self])
      exact (hy.sub fun w hw => List.mem_append_left _ (mem w hw)).xor (.of (List.mem_append_right _ (List.mem_singleton_self r)))
    have c := (hyr.sub (vs := A ++ (cms A a).2) fun w hw => List.mem_append_left _ hw).xor (hy.sub (vs := A ++ (cms A a).2) fun w hw => List.mem_append_right _ hw)
    rwa [Nat.xor_comm y r, xor_cancel_right] at c
/-! ### meets -/
theorem Rws.ind {rows : List Nat} (R : Rws rows) : Ind rows := by
  have : ∀ n (l : List Nat), l.length = n → Rws l → Ind l := by
    intro n
    induction n with
    | zero => intro l hl _; rw [List.length_eq_zero_iff.mp hl]; exact .nil
    | succ n ih =>
      intro l hl L
      have hne : l ≠ [] := fun e => by rw [e] at hl; cases hl
      have e := List.dropLast_concat_getLast hne
      rw [← e] at L ⊢
      have hp := List.pairwise_append.mp L.red
      have L' : Rws l.dropLast := ⟨fun r hr => L.nz r (List.mem_append_left _ hr), hp.1⟩
      refine .snoc (ih _ (by rw [List.length_dropLast, hl]; rfl) L') fun hs => ?_
      have z := L'.span.mp hs
      rw [clr_of_none fun r hr => (hp.2.2 r hr _ (List.mem_singleton_self _)).2] at z
      exact L.nz _ (List.mem_append_right _ (List.mem_singleton_self _)) z
  exact this _ rows rfl R
theorem shl_shr (b x : Nat) : (x <<< b) >>> b = x := Nat.shiftLeft_shiftRight x b
theorem shl_mod (b x : Nat) : (x <<< b) % 2 ^ b = 0 := by rw [Nat.shiftLeft_eq]; exact Nat.mul_mod_left _ _
theorem map_shl_shr (b : Nat) (B : List Nat) : (B.map fun r => r <<< b).map (fun x => x >>> b) = B := by
  rw [List.map_map]
  conv => rhs; rw [← List.map_id B]
  exact List.map_congr_left fun x _ => shl_shr b x
theorem ind_shl (b : Nat) {B : List Nat} (h : Ind B) : Ind (B.map fun r => r <<< b) := by
  induction h with
  | nil => exact .nil
  | @snoc a w _ hw ih =>
    rw [List.map_append]
    refine .snoc ih fun hs => hw ?_
    have a := (lin_shr b).spn hs
    rw [map_shl_shr] at a
    dsimp only at a
    rwa [shl_shr] at a
theorem ind_pairs (b : Nat) {A B : List Nat} (hB : Ind B) (hA : Ind A) (lt : ∀ x ∈ A, x < 2 ^ b) : Ind ((B.map fun r => r <<< b) ++ A.map fun r => (r <<< b) + r) := by
  induction hA with
  | nil => simpa using ind_shl b hB
  | @snoc a w _ hw ih =>
    have ih := ih fun x hx => lt x (List.mem_append_left _ hx)
    have hwl := lt w (List.mem_append_right _ (List.mem_singleton_self w))
    rw [List.map_append, ← List.append_assoc]
    refine .snoc ih fun hs => hw ?_
    have q := (lin_mod b).spn hs
    have pm : ∀ r, r < 2 ^ b → (r <<< b + r) % 2 ^ b = r := fun r hr => by
      rw [Nat.add_mod, shl_mod, Nat.zero_add, Nat.mod_mod, Nat.mod_eq_of_lt hr]
    dsimp only at q
    rw [pm w hwl] at q
    refine q.mono fun y hy => ?_
    obtain ⟨z, hz, rfl⟩ := List.mem_map.mp hy
    rcases List.mem_append.mp hz with hz | hz
    · obtain ⟨r, hr, rfl⟩ := List.mem_map.mp hz
      rw [shl_mod]; exact .zero
    · obtain ⟨r, hr, rfl⟩ := List.mem_map.mp hz
      rw [pm r (lt r (List.mem_append_left _ hr))]; exact .of hr
theorem blen_shr (b r : Nat) : blen (r >>> b) = blen r - b := by
  by_cases h : blen r ≤ b
  · have : r >>> b = 0 := by rw [Nat.shiftRight_eq_div_pow, Nat.div_eq_of_lt (blen_le.mp h)]
    rw [this, show blen r - b = 0 by omega]; rfl
  · have hr : r ≠ 0 := fun e => by rw [e] at h; simp [blen] at h
    have t : (r >>> b).testBit (blen r - b - 1) = true := by
      rw [Nat.testBit_shiftRight, show b + (blen r - b - 1) = blen r - 1 by omega]; exact testBit_top hr
    have h1 : ¬ blen (r >>> b) ≤ blen r - b - 1 := fun z => by rw [testBit_ge z] at t; cases t
    have h2 : blen (r >>> b) ≤ blen r - b := by
      rw [blen_le, Nat.shiftRight_eq_div_pow, Nat.div_lt_iff_lt_mul (Nat.two_pow_pos b), ← Nat.pow_add, show blen r - b + b = blen r by omega]
      exact lt_blen r
    omega
theorem Rws.high {R : List Nat} (A : Rws R) (b : Nat) : Rws ((R.filter fun r => !decide (blen r ≤ b)).map fun x => x >>> b) := by
  have hb : ∀ r ∈ R.filter fun r => !decide (blen r ≤ b), b < blen r := fun r hr => by
    have := (List.mem_filter.mp hr).2
    simp at this
    omega
  refine ⟨fun r hr => ?_, ?_⟩
  · obtain ⟨x, hx, rfl⟩ := List.mem_map.mp hr
    intro e
    have a := blen_shr b x
    rw [e] at a
    have := hb x hx
    have : blen 0 = 0 := rfl
    omega
  · rw [List.pairwise_map]
    refine (A.red.sublist List.filter_sublist).imp_of_mem fun {x y} hx hy h => ?_
    have a := hb x hx
    have c := hb y hy
    rw [blen_shr, blen_shr, Nat.testBit_shiftRight, Nat.testBit_shiftRight, show b + (blen y - b - 1) = blen y - 1 by omega, show b + (blen x - b - 1) = blen x - 1 by omega]
    exact h
theorem filter_two (p : Nat → Bool) : ∀ R : List Nat, (R.filter p).length + (R.filter fun r => !p r).length = R.length
  | [] => rfl
  | r :: rs => by
    have := filter_two p rs
    cases h : p r <;> simp [List.filter_cons, h] <;> omega
theorem Rws.split {R : List Nat} (A : Rws R) (b : Nat) : (R.filter fun r => decide (blen r ≤ b)).length + rk (R.map fun x => x >>> b) = R.length := by
  have a := spn_id (A.high b)
  rw [List.length_map] at a
  have e : rk (R.map fun x => x >>> b) = rk ((R.filter fun r => !decide (blen r ≤ b)).map fun x => x >>> b) := by
    refine Nat.le_antisymm (rk_le fun x hx => ?_) (rk_le fun x hx => ?_)
    · obtain ⟨r, hr, rfl⟩ := List.mem_map.mp hx
      by_cases h : blen r ≤ b
      · rw [Nat.shiftRight_eq_div_pow, Nat.div_eq_of_lt (blen_le.mp h)]; exact .zero
      · exact .of (List.mem_map.mpr ⟨r, List.mem_filter.mpr ⟨hr, by simpa using h⟩, rfl⟩)
    · obtain ⟨r, hr, rfl⟩ := List.mem_map.mp hx
      exact .of (List.mem_map.mpr ⟨r, (List.mem_filter.mp hr).1, rfl⟩)
  have := filter_two (fun r => decide (blen r ≤ b)) R
  omega
theorem mtd_len {b : Nat} {A B : List Nat} (RA : Rws A) (RB : Rws B) (lt : ∀ x ∈ A, x < 2 ^ b) : (mtd b A B).length + rk (A ++ B) = A.length + B.length := by
  have a := (spn_rws (mts b A B)).split b
  have r1 : (spn (mts b A B)).length = A.length + B.length := by
    have e : rk (mts b A B) = rk ((B.map fun r => r <<< b) ++ A.map fun r => (r <<< b) + r) := rk_perm List.perm_append_comm
    have i := (ind_pairs b RB.ind RA.ind lt).rk
    rw [← e] at i
    show rk (mts b A B) = _
    rw [i]
    simp
    omega
  have r2 : rk ((spn (mts b A B)).map fun x => x >>> b) = rk (A ++ B) := by
    have e1 : ∀ x, Spn ((spn (mts b A B)).map fun x => x >>> b) x ↔ Spn ((mts b A B).map fun x => x >>> b) x := fun x => by
      constructor
      · intro h
        obtain ⟨y, hy, rfl⟩ := (lin_shr b).back h
        exact (lin_shr b).spn ((spn_span _ y).mp hy)
      · intro h
        obtain ⟨y, hy, rfl⟩ := (lin_shr b).back h
        exact (lin_shr b).spn ((spn_span _ y).mpr hy)
    rw [rk_eq e1]
    unfold mts
    rw [List.map_append, map_shl_shr, List.map_map]
    have e2 : A.map ((fun x => x >>> b) ∘ fun r => (r <<< b) + r) = A := by
      conv => rhs; rw [← List.map_id A]
      refine List.map_congr_left fun x hx => ?_
      show (x <<< b + x) >>> b = x
      rw [add_eq_xor (lt x hx), Nat.shiftRight_xor_distrib, shl_shr, Nat.shiftRight_eq_div_pow, Nat.div_eq_of_lt (lt x hx), Nat.xor_zero]
    rw [e2]
  rw [r1, r2] at a
  exact a
/-! ### what the law asks -/
theorem kpt_eq {b : Nat} {ss ws : List Nat} (hs : ∀ x ∈ ss, x < 2 ^ b) : kpt b ss (spn ws) = ((rk (ss ++ ws) - rk ws : Nat) : Int) := by
  have a := mtd_len (b := b) (spn_rws ss) (spn_rws ws) (spn_lt hs)
  have c : rk (spn ss ++ spn ws) = rk (ss ++ ws) := rk_eq fun x => span_app2 (fun z => spn_span ss z) (fun z => spn_span ws z)
  have d := spn_id (mtd_rws b (spn ss) (spn ws))
  have e1 : (spn (mtd b (spn ss) (spn ws))).length = (mtd b (spn ss) (spn ws)).length := d
  have e2 : (spn ss).length = rk ss := rfl
  have e3 : (spn ws).length = rk ws := rfl
  have r := rk_right ss ws
  unfold kpt
  rw [e1, e2]
  rw [c, e2, e3] at a
  omega
theorem twn_sub_prt (ss ls ws : List Nat) : rk (twn ss ls ++ prt ss ls (spn ws)) = rk (prt ss ls (spn ws)) := by
  refine Nat.le_antisymm (rk_le fun x hx => ?_) (rk_right _ _)
  rcases List.mem_append.mp hx with hx | hx
  · have := (twn_span ss ls x).mp (.of hx)
    exact (prt_span ss ls ws x).mpr ⟨this.1, this.2.sub fun w hw => List.mem_append_left _ hw⟩
  · exact .of hx
theorem ldr_size {b : Nat} {ss ls ws : List Nat} (hs : ∀ x ∈ ss, x < 2 ^ b) (hl : ∀ x ∈ ls, x < 2 ^ b) (hw : ∀ x ∈ ws, x < 2 ^ b) (hb : b ≤ rk (ss ++ ls)) : (ldr ss ls (spn ws)).length = rk (ss ++ ws) - rk ss := by
  have a := cmpl_len (spn_rws (ker (ls.map (clr (spn ss))))) (prt ss ls (spn ws))
  have a' : (ldr ss ls (spn ws)).length + rk (twn ss ls) = rk (twn ss ls ++ prt ss ls (spn ws)) := a
  rw [twn_sub_prt, prt_rk] at a'
  have c : rk (twn ss ls) = (twn ss ls).length := spn_id (spn_rws _)
  have d := twn_size ss ls
  have e := prt_size ss ls ws
  have f : rk (ss ++ ls) = b := Nat.le_antisymm (rk_le_bits fun x hx => (List.mem_append.mp hx).elim (hs x) (hl x)) hb
  have g : rk (ss ++ ws ++ ls) = b := by
    refine Nat.le_antisymm (rk_le_bits fun x hx => ?_) (Nat.le_trans hb (rk_le fun x hx => ?_))
    · rcases List.mem_append.mp hx with hx | hx
      · exact (List.mem_append.mp hx).elim (hs x) (hw x)
      · exact hl x hx
    · rcases List.mem_append.mp hx with hx | hx
      · exact .of (List.mem_append_left _ (List.mem_append_left _ hx))
      · exact .of (List.mem_append_right _ hx)
  have h := rk_left ss ws
  omega
theorem ldr_mem {ss ls ws : List Nat} {x : Nat} (h : x ∈ ldr ss ls (spn ws)) : x < 2 ^ ls.length ∧ lft (bas (ss ++ ws)) (img ls x) = 0 := by
  have := (prt_span ss ls ws x).mp (.of (cmpl_mem _ x h))
  exact ⟨this.1, lft_bas.mpr this.2⟩
theorem ldr_rk (ss ls ws : List Nat) : rk ((ldr ss ls (spn ws)).map fun x => lft (bas ss) (img ls x)) = (ldr ss ls (spn ws)).length := by
  have L : Lin (fun x => lft (bas ss) (img ls x)) := (lin_lft _).comp (lin_img ls)
  have := (cmpl_ind (A := twn ss ls) (spn_rws _) (prt ss ls (spn ws)) L fun y hy e => (twn_span ss ls y).mpr ⟨((prt_span ss ls ws y).mp hy).1, lft_bas.mp e⟩).rk
  rw [List.length_map] at this
  exact this
theorem smr_eq {b : Nat} {ss ls ws : List Nat} (hs : ∀ x ∈ ss, x < 2 ^ b) (hl : ∀ x ∈ ls, x < 2 ^ b) (hw : ∀ x ∈ ws, x < 2 ^ b) (hb : b ≤ rk (ss ++ ls)) :
    smr b ss ls (spn ws) = rdf ((rk (ss ++ ws) - rk ws) - (tgd (ls.map (lft (bas ss)))).2.length) (rk (ss ++ ws) - rk ss) := by
  unfold smr
  rw [kpt_eq hs, ldr_size hs hl hw hb, ← twn_tag]
  congr 1
  omega
/-! ### the fewest rounds -/
/-- what is reached -/
def rch (b l t : Nat) : Nat → Nat
  | 0 => 1 <<< b
  | i + 1 => rch b l t i + min (rch b l t i) (1 <<< (l + t))
theorem rch_dbl {b l t : Nat} : ∀ i, i ≤ l + t + 1 - b → b ≤ l + t ∨ i = 0 → rch b l t i = 2 ^ (b + i)
  | 0, _, _ => Nat.one_shiftLeft b
  | i + 1, h, hb => by
    have hb' : b ≤ l + t := by omega
    have ih := rch_dbl (b := b) (l := l) (t := t) i (by omega) (.inl hb')
    show rch b l t i + min (rch b l t i) (1 <<< (l + t)) = _
    rw [ih, Nat.one_shiftLeft, Nat.min_eq_left (Nat.pow_le_pow_right (by decide) (by omega)), ← Nat.add_assoc, Nat.pow_succ]
    omega
theorem rch_ge {b l t d : Nat} (h : 2 ^ (l + t) ≤ rch b l t d) : ∀ j, rch b l t (d + j) = rch b l t d + j * 2 ^ (l + t)
  | 0 => by simp
  | j + 1 => by
    have ih := rch_ge h j
    show rch b l t (d + j) + min (rch b l t (d + j)) (1 <<< (l + t)) = _
    rw [Nat.one_shiftLeft, Nat.min_eq_right (by rw [ih]; exact Nat.le_trans h (Nat.le_add_right _ _)), ih, Nat.succ_mul]
    omega
theorem rch_lt {b l t r : Nat} (h : rch b l t r = 2 ^ (b + l)) : ∀ i, i < r → rch b l t i < 2 ^ (b + l) := by
  have up : ∀ i j, i ≤ j → rch b l t i ≤ rch b l t j := by
    intro i j hij
    induction hij with
    | refl => exact Nat.le_refl _
    | step _ ih => exact Nat.le_trans ih (Nat.le_add_right _ _)
  have pos : ∀ i, 0 < rch b l t i := fun i => Nat.lt_of_lt_of_le (by show 0 < 1 <<< b; rw [Nat.one_shiftLeft]; exact Nat.two_pow_pos b) (up 0 i (Nat.zero_le _))
  intro i hi
  have a := up (i + 1) r hi
  have c : rch b l t (i + 1) = rch b l t i + min (rch b l t i) (1 <<< (l + t)) := rfl
  have d : 0 < min (rch b l t i) (1 <<< (l + t)) := by
    rw [Nat.one_shiftLeft]
    have := pos i
    have := Nat.two_pow_pos (l + t)
    omega
  omega
theorem rch_rdf (b l t : Nat) : rch b l t (rdf (b - t) l) = 2 ^ (b + l) := by
  by_cases h : b ≤ t
  · have e : rdf (b - t) l = l := by
      rw [show b - t = 0 by omega]
      unfold rdf
      split
      · have : l = 0 := by omega
        subst this; rfl
      · simp
    rw [e, rch_dbl l (by omega) (.inl (by omega))]
  · obtain ⟨a, rfl⟩ : ∃ a, b = t + a := ⟨b - t, by omega⟩
    rw [show t + a - t = a by omega]
    unfold rdf
    split
    · rename_i hl
      obtain ⟨c, rfl⟩ : ∃ c, a = l + c := ⟨a - l, by omega⟩
      have q := rch_ge (b := t + (l + c)) (l := l) (t := t) (d := 0) (by show _ ≤ 1 <<< _; rw [Nat.one_shiftLeft]; exact Nat.pow_le_pow_right (by decide) (by omega)) (1 <<< (l + c) - 1 <<< (l + c - l))
      rw [Nat.zero_add] at q
      rw [q, show l + c - l = c by omega]
      show 1 <<< _ + _ = _
      rw [Nat.one_shiftLeft, Nat.one_shiftLeft, Nat.one_shiftLeft, Nat.sub_mul, ← Nat.pow_add, ← Nat.pow_add]
      have m : 2 ^ (c + (l + t)) ≤ 2 ^ (l + c + (l + t)) := Nat.pow_le_pow_right (by decide) (by omega)
      have e1 : t + (l + c) = c + (l + t) := by omega
      have e2 : c + (l + t) + l = l + c + (l + t) := by omega
      rw [e1, e2]
      omega
    · rename_i hl
      obtain ⟨c, rfl⟩ : ∃ c, l = a + c := ⟨l - a, by omega⟩
      have q0 : rch (t + a) (a + c) t c = 2 ^ (t + a + c) := rch_dbl c (by omega) (.inl (by omega))
      have q := rch_ge (b := t + a) (l := a + c) (t := t) (d := c) (by rw [q0]; exact Nat.pow_le_pow_right (by decide) (by omega)) (2 ^ a - 1)
      have p := Nat.two_pow_pos a
      rw [Nat.one_shiftLeft, show 2 ^ a - 1 + (a + c) - a = c + (2 ^ a - 1) by omega, q, q0, Nat.sub_mul, Nat.one_mul, ← Nat.pow_add]
      have e1 : t + a + c = a + c + t := by omega
      have e2 : t + a + (a + c) = a + (a + c + t) := by omega
      have m : 2 ^ (a + c + t) ≤ 2 ^ (a + (a + c + t)) := Nat.pow_le_pow_right (by decide) (by omega)
      rw [e1, e2]
      omega
theorem rdf_small {n l : Nat} (h : n ≤ 5) (hl : l ≤ 300) : rdf n l < 400 := by
  unfold rdf
  have : 2 ^ n ≤ 2 ^ 5 := Nat.pow_le_pow_right (by decide) h
  rw [Nat.one_shiftLeft]
  split
  · exact Nat.lt_of_le_of_lt (Nat.sub_le _ _) (by omega)
  · omega
theorem fewest_ok {b l t : Nat} (hl : l ≤ 300) : b ≤ 5 → rdf (b - t) l < 400 ∧ 1 <<< (b + l) ≤ rch b l t (rdf (b - t) l) ∧ ∀ i, i < rdf (b - t) l → rch b l t i < 1 <<< (b + l) := fun hb => by
  have h := rch_rdf b l t
  refine ⟨rdf_small (by omega) hl, ?_, ?_⟩
  · rw [h, Nat.one_shiftLeft]; exact Nat.le_refl _
  · rw [Nat.one_shiftLeft]; exact rch_lt h
end LaneX
set_option linter.all false
namespace LaneX
/-! ### numbers by their bits -/
def bitsOf (f : Nat → Bool) : Nat → Nat
  | 0 => 0
  | n + 1 => bitsOf f n ^^^ (if f n = true then 2 ^ n else 0)
theorem bitsOf_lt (f : Nat → Bool) : ∀ n, bitsOf f n < 2 ^ n
  | 0 => Nat.zero_lt_one
  | n + 1 => by
    have h := bitsOf_lt f n
    have m : 2 ^ n ≤ 2 ^ (n + 1) := Nat.pow_le_pow_right (by decide) (Nat.le_succ n)
    unfold bitsOf
    refine Nat.xor_lt_two_pow (Nat.lt_of_lt_of_le h m) ?_
    split
    · exact Nat.pow_lt_pow_right (by decide) (Nat.lt_succ_self n)
    · exact Nat.two_pow_pos _
theorem bitsOf_bit (f : Nat → Bool) : ∀ n i, (bitsOf f n).testBit i = (decide (i < n) && f i)
  | 0, i => by simp [bitsOf]
  | n + 1, i => by
    unfold bitsOf
    rw [Nat.testBit_xor, bitsOf_bit f n i]
    by_cases e : i = n
    · subst e
      cases h : f i
      · simp
      · simp [Nat.testBit_two_pow]
    · have : (i < n + 1) ↔ i < n := by omega
      cases h : f n
      · simp [this]
      · simp [this, Nat.testBit_two_pow, show ¬ n = i from fun z => e z.symm]
theorem bitsOf_xor (f g : Nat → Bool) (n : Nat) : bitsOf (fun i => f i ^^ g i) n = bitsOf f n ^^^ bitsOf g n := by
  apply Nat.eq_of_testBit_eq
  intro i
  rw [Nat.testBit_xor, bitsOf_bit, bitsOf_bit, bitsOf_bit]
  cases decide (i < n) <;> simp
theorem imf_congr {cols : List Nat} {x y : Nat} : ∀ {n}, (∀ i, i < n → x.testBit i = y.testBit i) → imf cols x n = imf cols y n
  | 0, _ => rfl
  | n + 1, h => by rw [imf_succ, imf_succ, imf_congr fun i hi => h i (by omega), h n (by omega)]
theorem img_congr {cols : List Nat} {x y : Nat} (h : ∀ i, i < cols.length → x.testBit i = y.testBit i) : img cols x = img cols y := imf_congr h
theorem imf_cols {P Q : List Nat} {x : Nat} : ∀ {n}, (∀ i, i < n → P.getD i 0 = Q.getD i 0) → imf P x n = imf Q x n
  | 0, _ => rfl
  | n + 1, h => by rw [imf_succ, imf_succ, imf_cols fun i hi => h i (by omega), h n (by omega)]
/-- columns one by one added -/
theorem imf_add {P Q R : List Nat} {x : Nat} : ∀ {n}, (∀ i, i < n → R.getD i 0 = P.getD i 0 ^^^ Q.getD i 0) → imf R x n = imf P x n ^^^ imf Q x n
  | 0, _ => (Nat.xor_self 0).symm
  | n + 1, h => by
    rw [imf_succ, imf_succ, imf_succ, imf_add fun i hi => h i (by omega), h n (by omega)]
    split
    · rw [xor4]
    · rfl
/-! ### the coefficients of rows in a word -/
def cof (R : List Nat) (l : Nat) : Nat := bitsOf (fun i => l.testBit (blen (R.getD i 0) - 1)) R.length
theorem cof_lt (R : List Nat) (l : Nat) : cof R l < 2 ^ R.length := bitsOf_lt _ _
theorem cof_bit {R : List Nat} {l i : Nat} (h : i < R.length) : (cof R l).testBit i = l.testBit (blen (R.getD i 0) - 1) := by
  unfold cof
  rw [bitsOf_bit, decide_eq_true h]; rfl
theorem cof_xor (R : List Nat) (x y : Nat) : cof R (x ^^^ y) = cof R x ^^^ cof R y := by
  unfold cof
  rw [← bitsOf_xor]
  congr 1
  funext i
  rw [Nat.testBit_xor]
theorem clr_take {R : List Nat} (A : Rws R) (l : Nat) : ∀ k, k ≤ R.length → clr (R.take k) l = l ^^^ imf R (cof R l) k
  | 0, _ => by show l = l ^^^ 0; rw [Nat.xor_zero]
  | k + 1, h => by
    have tk : R.take (k + 1) = R.take k ++ [R.getD k 0] := by
      rw [List.take_succ, List.getD_eq_getElem?_getD, List.getElem?_eq_getElem (by omega)]; rfl
    have ih := clr_take A l k (by omega)
    rw [tk, clr_append, imf_succ]
    show clr [R.getD k 0] _ = _
    rw [clr_cons]
    show _ ^^^ bx _ _ = _
    have red := A.red
    have hb : (clr (R.take k) l).testBit (blen (R.getD k 0) - 1) = l.testBit (blen (R.getD k 0) - 1) := by
      refine clr_bit fun r hr => ?_
      have e : R = R.take k ++ R.drop k := (List.take_append_drop k R).symm
      rw [e] at red
      have := (List.pairwise_append.mp red).2.2 r hr (R.getD k 0) (by
        rw [List.getD_eq_getElem?_getD, List.getElem?_eq_getElem (by omega), List.drop_eq_getElem_cons (by omega)]
        exact .head _)
      exact this.1
    rw [hb, ← cof_bit (by omega), ih]
    cases (cof R l).testBit k
    · simp [bx]
    · simp only [bx, if_true]
      rw [Nat.xor_assoc]
theorem img_cof {R : List Nat} (A : Rws R) (l : Nat) : img R (cof R l) = l ^^^ clr R l := by
  have := clr_take A l R.length (Nat.le_refl _)
  rw [List.take_length] at this
  rw [this, xor_cancel]
  rfl
theorem clr_idem {R : List Nat} (A : Rws R) (l : Nat) : clr R (clr R l) = clr R l := clr_of_none fun r hr => clr_tops A r hr
theorem getD_mem' {R : List Nat} {i : Nat} (h : i < R.length) : R.getD i 0 ∈ R := getD_mem h
theorem cof_clr {R : List Nat} (A : Rws R) (l : Nat) : cof R (clr R l) = 0 := by
  apply Nat.eq_of_testBit_eq
  intro i
  rw [Nat.zero_testBit]
  by_cases h : i < R.length
  · rw [cof_bit h]; exact clr_tops A _ (getD_mem h)
  · exact Nat.testBit_lt_two_pow (Nat.lt_of_lt_of_le (cof_lt R _) (Nat.pow_le_pow_right (by decide) (by omega)))
theorem imf_bit {R : List Nat} {t c : Nat} : ∀ {n}, (∀ i, i < n → (R.getD i 0).testBit t = false) → (imf R c n).testBit t = false
  | 0, _ => Nat.zero_testBit _
  | n + 1, h => by
    have ih := imf_bit (c := c) fun i hi => h i (Nat.lt_succ_of_lt hi)
    rw [imf_succ]
    split
    · rw [Nat.testBit_xor, ih, h n (Nat.lt_succ_self n)]; rfl
    · exact ih
theorem Rws.getD_bit {R : List Nat} (A : Rws R) {i j : Nat} (hi : i < R.length) (hj : j < R.length) (h : i ≠ j) : (R.getD i 0).testBit (blen (R.getD j 0) - 1) = false := by
  have e : ∀ k, k < R.length → R.getD k 0 = R[k]?.getD 0 := fun k _ => List.getD_eq_getElem?_getD
  have p := List.pairwise_iff_getElem.mp A.red
  rw [List.getD_eq_getElem?_getD, List.getD_eq_getElem?_getD, List.getElem?_eq_getElem hi, List.getElem?_eq_getElem hj]
  show R[i].testBit (blen R[j] - 1) = false
  rcases Nat.lt_or_ge i j with q | q
  · exact (p i j hi hj q).1
  · exact (p j i hj hi (by omega)).2
theorem imf_top {R : List Nat} (A : Rws R) {j c : Nat} (hj : j < R.length) : ∀ n, n ≤ R.length → (imf R c n).testBit (blen (R.getD j 0) - 1) = (decide (j < n) && c.testBit j)
  | 0, _ => by show (0 : Nat).testBit _ = _; simp
  | n + 1, hn => by
    have ih := imf_top A (c := c) hj n (by omega)
    rw [imf_succ]
    by_cases e : j = n
    · subst e
      have z : decide (j < j) = false := by simp
      rw [z, Bool.false_and] at ih
      have t := testBit_top (A.nz _ (getD_mem hj))
      cases q : c.testBit j
      · rw [if_neg (by simp), ih]; simp
      · rw [if_pos rfl, Nat.testBit_xor, ih, t]; simp
    · have b := A.getD_bit (i := n) (j := j) (by omega) hj (fun z => e z.symm)
      have d : (j < n + 1) ↔ j < n := by omega
      cases q : c.testBit n
      · rw [if_neg (by simp), ih]; simp [d]
      · rw [if_pos rfl, Nat.testBit_xor, ih, b]; simp [d]
theorem cof_img {R : List Nat} (A : Rws R) {c : Nat} (h : c < 2 ^ R.length) : cof R (img R c) = c := by
  apply Nat.eq_of_testBit_eq
  intro i
  by_cases hi : i < R.length
  · rw [cof_bit hi]
    unfold img
    rw [imf_top A hi _ (Nat.le_refl _), decide_eq_true hi]; rfl
  · have m : 2 ^ R.length ≤ 2 ^ i := Nat.pow_le_pow_right (by decide) (by omega)
    rw [Nat.testBit_lt_two_pow (Nat.lt_of_lt_of_le (cof_lt R _) m), Nat.testBit_lt_two_pow (Nat.lt_of_lt_of_le h m)]
theorem clr_img {R : List Nat} (A : Rws R) (c : Nat) : clr R (img R c) = 0 := by
  rw [← A.span]
  have : ∀ n, n ≤ R.length → Spn R (imf R c n) := by
    intro n
    induction n with
    | zero => intro _; exact .zero
    | succ n ih =>
      intro h
      rw [imf_succ]
      split
      · exact (ih (by omega)).xor (.of (getD_mem h))
      · exact ih (by omega)
  exact this _ (Nat.le_refl _)
/-! ### a word cleared stays as short -/
theorem clr_lt' {k : Nat} : ∀ {rows : List Nat} {w : Nat}, w < 2 ^ k → clr rows w < 2 ^ k
  | [], w, h => h
  | r :: rs, w, h => by
    rw [clr_cons]
    refine clr_lt' ?_
    cases q : w.testBit (blen r - 1) with
    | false => simpa [bx] using h
    | true =>
      simp only [bx, if_true]
      refine Nat.xor_lt_two_pow h ?_
      by_cases z : r = 0
      · rw [z]; exact Nat.two_pow_pos k
      · rw [← blen_le]
        have b := blen_pos z
        refine Classical.byContradiction fun n => ?_
        rw [testBit_ge (n := w) (i := blen r - 1) (Nat.le_trans (blen_le.mpr h) (by omega))] at q
        cases q
/-! ### solving -/
def slv (ss : List Nat) (g : Nat) : Nat := clr (prd ss) (g <<< ss.length)
theorem slv_ok {ss : List Nat} {g : Nat} (h : Spn ss g) : slv ss g < 2 ^ ss.length ∧ img ss (slv ss g) = g := by
  have h' : Spn (ss.take ss.length) g := by rw [List.take_length]; exact h
  obtain ⟨x, hx, rfl⟩ := span_img (Nat.le_refl _) h'
  have R := spn_rws (prs ss)
  have e1 : img ss x <<< ss.length = ((img ss x <<< ss.length) ^^^ x) ^^^ x := (xor_cancel_right _ _).symm
  have e2 : slv ss (img ss x) = clr (prd ss) x := by
    have z : clr (prd ss) ((img ss x <<< ss.length) ^^^ x) = 0 := R.span.mp ((spn_span _ _).mpr (prs_bwd ss (Nat.le_refl _) hx))
    unfold slv
    rw [e1, clr_xor, z, Nat.zero_xor]
  have h2 : clr (prd ss) x < 2 ^ ss.length := clr_lt' hx
  rw [e2]
  refine ⟨h2, ?_⟩
  have h3 := (spn_span (prs ss) _).mp (spn_clr (prd ss) x)
  have h4 : Spn (ker ss) (x ^^^ clr (prd ss) x) := by
    unfold ker prd
    rw [R.low_span, spn_span]
    exact ⟨h3, Nat.xor_lt_two_pow hx h2⟩
  have h5 := ((ker_span ss _).mp h4).2
  rw [(lin_img ss).x] at h5
  exact (xor_eq_zero h5).symm
/-! ### writes -/
section
variable (ss ls : List Nat)
def wmn : Nat := min (spn ss).length (twn ss ls).length
def wgoal (i : Nat) (tw : Nat) : Nat := img ls tw ^^^ (if i < wmn ss ls then (spn ss).getD i 0 else 0)
def wtn (i : Nat) (tw : Nat) : Nat × Nat := (blen tw - 1, slv ss (wgoal ss ls i tw))
def wts : List (Nat × Nat) := (List.range (twn ss ls).length).map fun i => wtn ss ls i ((twn ss ls).getD i 0)
def wst : List Nat := ((spn ss).drop (wmn ss ls)).map (slv ss)
def wslot (n l : Nat) : Nat := (wts ss ls).foldl (fun s p => if l.testBit p.1 = true then s ^^^ p.2 else s) (img (wst ss ls) n)
def went (n l : Nat) : Nat := img ss (wslot ss ls n l) ^^^ img ls l
end
section
variable {ss ls : List Nat}
theorem wfold {ps : List (Nat × Nat)} {l s : Nat} : ps.foldl (fun s p => if l.testBit p.1 = true then s ^^^ p.2 else s) s = s ^^^ img (ps.map Prod.snd) (bitsOf (fun i => l.testBit (ps.getD i (0, 0)).1) ps.length) := by
  have : ∀ k, k ≤ ps.length → (ps.take k).foldl (fun s p => if l.testBit p.1 = true then s ^^^ p.2 else s) s = s ^^^ imf (ps.map Prod.snd) (bitsOf (fun i => l.testBit (ps.getD i (0, 0)).1) ps.length) k := by
    intro k
    induction k with
    | zero => intro _; show s = s ^^^ 0; rw [Nat.xor_zero]
    | succ k ih =>
      intro h
      have tk : ps.take (k + 1) = ps.take k ++ [ps.getD k (0, 0)] := by
        rw [List.take_succ, List.getD_eq_getElem?_getD, List.getElem?_eq_getElem (by omega)]; rfl
      have e : (ps.map Prod.snd).getD k 0 = (ps.getD k (0, 0)).2 := by
        simp only [List.getD_eq_getElem?_getD, List.getElem?_map, List.getElem?_eq_getElem (show k < ps.length by omega)]
        rfl
      rw [tk, List.foldl_append, ih (by omega), imf_succ, bitsOf_bit, decide_eq_true (show k < ps.length by omega), e]
      show (if _ then _ else _) = _
      simp only [Bool.true_and]
      split
      · rw [Nat.xor_assoc]
      · rfl
  have q := this ps.length (Nat.le_refl _)
  rw [List.take_length] at q
  rw [q]
  unfold img
  rw [List.length_map]
theorem twn_rws (ss ls : List Nat) : Rws (twn ss ls) := spn_rws _
theorem wgoal_in (i : Nat) {tw : Nat} (h : tw ∈ twn ss ls) : Spn ss (wgoal ss ls i tw) := by
  refine ((twn_span ss ls tw).mp (.of h)).2.xor ?_
  split
  · rename_i hi
    rw [← spn_span]
    exact .of (getD_mem (by unfold wmn at hi; omega))
  · exact .zero
theorem wts_len : (wts ss ls).length = (twn ss ls).length := by simp [wts]
theorem wts_get {i : Nat} (h : i < (twn ss ls).length) : (wts ss ls).getD i (0, 0) = wtn ss ls i ((twn ss ls).getD i 0) := by
  unfold wts
  rw [List.getD_eq_getElem?_getD, List.getElem?_map, List.getElem?_range h]
  rfl
theorem wslot_eq (n l : Nat) : wslot ss ls n l = img (wst ss ls) n ^^^ img ((wts ss ls).map Prod.snd) (cof (twn ss ls) l) := by
  unfold wslot
  rw [wfold]
  congr 1
  refine img_congr fun i hi => ?_
  rw [List.length_map, wts_len] at hi
  rw [bitsOf_bit, wts_len, decide_eq_true hi, wts_get hi, cof_bit hi]
  rfl
theorem wst_lt : ∀ x ∈ wst ss ls, x < 2 ^ ss.length := fun x hx => by
  obtain ⟨r, hr, rfl⟩ := List.mem_map.mp hx
  exact (slv_ok ((spn_span ss r).mp (.of (List.mem_of_mem_drop hr)))).1
theorem wts_lt : ∀ p ∈ wts ss ls, p.2 < 2 ^ ss.length := fun p hp => by
  obtain ⟨i, hi, rfl⟩ := List.mem_map.mp hp
  exact (slv_ok (wgoal_in i (getD_mem (List.mem_range.mp hi)))).1
theorem imf_lt {b : Nat} {cs : List Nat} (h : ∀ c ∈ cs, c < 2 ^ b) (x : Nat) : ∀ n, imf cs x n < 2 ^ b
  | 0 => Nat.two_pow_pos b
  | n + 1 => by
    rw [imf_succ]
    split
    · refine Nat.xor_lt_two_pow (imf_lt h x n) ?_
      rw [List.getD_eq_getElem?_getD]
      cases q : cs[n]? with
      | none => exact Nat.two_pow_pos b
      | some c => exact h c (List.mem_of_getElem? q)
    · exact imf_lt h x n
theorem wslot_lt (n l : Nat) : wslot ss ls n l < 2 ^ ss.length := by
  rw [wslot_eq]
  refine Nat.xor_lt_two_pow (imf_lt wst_lt _ _) (imf_lt (fun c hc => ?_) _ _)
  obtain ⟨p, hp, rfl⟩ := List.mem_map.mp hc
  exact wts_lt p hp
theorem img_self_map {ss cols : List Nat} (h : ∀ r ∈ cols, Spn ss r) (x : Nat) : img ss (img (cols.map (slv ss)) x) = img cols x := by
  rw [← img_map (lin_img ss), List.map_map]
  unfold img
  rw [List.length_map]
  refine imf_cols fun i hi => ?_
  simp only [List.getD_eq_getElem?_getD, List.getElem?_map, List.getElem?_eq_getElem hi]
  exact (slv_ok (h _ (List.getElem_mem hi))).2
theorem went_eq (n l : Nat) : went ss ls n l = img ((spn ss).drop (wmn ss ls)) n ^^^ img ((spn ss).take (wmn ss ls)) (cof (twn ss ls) l) ^^^ img ls (clr (twn ss ls) l) := by
  unfold went
  rw [wslot_eq, (lin_img ss).x]
  have e1 : img ss (img (wst ss ls) n) = img ((spn ss).drop (wmn ss ls)) n := img_self_map (fun r hr => (spn_span ss r).mp (.of (List.mem_of_mem_drop hr))) n
  have e2 : img ss (img ((wts ss ls).map Prod.snd) (cof (twn ss ls) l)) = img ls (img (twn ss ls) (cof (twn ss ls) l)) ^^^ img ((spn ss).take (wmn ss ls)) (cof (twn ss ls) l) := by
    have a : (wts ss ls).map Prod.snd = ((List.range (twn ss ls).length).map fun i => wgoal ss ls i ((twn ss ls).getD i 0)).map (slv ss) := by
      unfold wts
      rw [List.map_map, List.map_map]
      rfl
    rw [a, img_self_map (fun r hr => by
      obtain ⟨i, hi, rfl⟩ := List.mem_map.mp hr
      exact wgoal_in i (getD_mem (List.mem_range.mp hi))), ← img_map (lin_img ls)]
    unfold img
    rw [List.length_map, List.length_map, List.length_range, List.length_take]
    have pad : ∀ k c, wmn ss ls ≤ k → imf ((spn ss).take (wmn ss ls)) c (min (wmn ss ls) (spn ss).length) = imf ((spn ss).take (wmn ss ls)) c k := by
      intro k c hk
      have m : min (wmn ss ls) (spn ss).length = wmn ss ls := by unfold wmn; omega
      rw [m]
      induction k with
      | zero => rw [show wmn ss ls = 0 by omega]
      | succ k ih =>
        by_cases q : wmn ss ls = k + 1
        · rw [q]
        · rw [imf_succ, ← ih (by omega)]
          have z : ((spn ss).take (wmn ss ls)).getD k 0 = 0 := by
            rw [List.getD_eq_getElem?_getD, List.getElem?_eq_none (by rw [List.length_take]; omega)]; rfl
          rw [z, Nat.xor_zero, ite_self]
    rw [pad (twn ss ls).length _ (by unfold wmn; omega)]
    refine imf_add fun i hi => ?_
    have g1 : ((List.range (twn ss ls).length).map fun i => wgoal ss ls i ((twn ss ls).getD i 0)).getD i 0 = wgoal ss ls i ((twn ss ls).getD i 0) := by
      rw [List.getD_eq_getElem?_getD, List.getElem?_map, List.getElem?_range hi]; rfl
    have g2 : ((twn ss ls).map (img ls)).getD i 0 = img ls ((twn ss ls).getD i 0) := by
      simp only [List.getD_eq_getElem?_getD, List.getElem?_map, List.getElem?_eq_getElem hi]
      rfl
    have g3 : ((spn ss).take (wmn ss ls)).getD i 0 = if i < wmn ss ls then (spn ss).getD i 0 else 0 := by
      simp only [List.getD_eq_getElem?_getD, List.getElem?_take]
      split <;> rfl
    rw [g1]
    show _ = ((twn ss ls).map (img ls)).getD i 0 ^^^ _
    rw [g2, g3]
    rfl
  rw [e1, e2, img_cof (twn_rws ss ls), (lin_img ls).x]
  generalize img ((spn ss).drop (wmn ss ls)) n = A
  generalize img ((spn ss).take (wmn ss ls)) (cof (twn ss ls) l) = B
  generalize img ls (clr (twn ss ls) l) = C
  generalize img ls l = D
  have q : D ^^^ C ^^^ B ^^^ D = B ^^^ C := by
    rw [Nat.xor_comm (D ^^^ C ^^^ B) D, Nat.xor_assoc D C B, xor_cancel, Nat.xor_comm]
  rw [Nat.xor_assoc A, q, Nat.xor_assoc A]
theorem img_app {P Q : List Nat} {x y : Nat} (h : x < 2 ^ P.length) : img (P ++ Q) (x ^^^ (y <<< P.length)) = img P x ^^^ img Q y := by
  have h1 : ∀ k, k ≤ P.length → imf (P ++ Q) (x ^^^ (y <<< P.length)) k = imf P x k := by
    intro k hk
    rw [imf_cols (P := P ++ Q) (Q := P) (fun i hi => by simp only [List.getD_eq_getElem?_getD, List.getElem?_append_left (show i < P.length by omega)])]
    refine imf_congr fun i hi => ?_
    rw [Nat.testBit_xor, Nat.testBit_shiftLeft]
    have : ¬ (P.length ≤ i) := by omega
    simp [this]
  have h2 : ∀ k, imf (P ++ Q) (x ^^^ (y <<< P.length)) (P.length + k) = imf P x P.length ^^^ imf Q y k := by
    intro k
    induction k with
    | zero => rw [Nat.add_zero, h1 _ (Nat.le_refl _)]; show _ = _ ^^^ 0; rw [Nat.xor_zero]
    | succ k ih =>
      rw [← Nat.add_assoc, imf_succ, imf_succ, ih]
      have g : (P ++ Q).getD (P.length + k) 0 = Q.getD k 0 := by
        simp only [List.getD_eq_getElem?_getD, List.getElem?_append_right (Nat.le_add_right P.length k), Nat.add_sub_cancel_left]
      have t : (x ^^^ (y <<< P.length)).testBit (P.length + k) = y.testBit k := by
        rw [Nat.testBit_xor, Nat.testBit_shiftLeft, Nat.testBit_lt_two_pow (Nat.lt_of_lt_of_le h (Nat.pow_le_pow_right (by decide) (Nat.le_add_right _ _)))]
        simp
      rw [g, t]
      split
      · rw [Nat.xor_assoc]
      · rfl
  unfold img
  rw [List.length_append, h2]
theorem ind_inj {A : List Nat} (h : rk A = A.length) {x : Nat} (hx : x < 2 ^ A.length) (e : img A x = 0) : x = 0 := by
  have k := ker_len_eq A
  have z : ker A = [] := List.length_eq_zero_iff.mp (by omega)
  have s := (ker_span A x).mpr ⟨hx, e⟩
  rw [z] at s
  exact s.nil
theorem in_full {ws : List Nat} {b e : Nat} (h : ∀ w ∈ ws, w < 2 ^ b) (hb : b ≤ rk ws) (he : e < 2 ^ b) : Spn ws e := by
  refine Classical.byContradiction fun n => ?_
  have a := rk_snoc_out n
  have c := rk_le_bits (ws := ws ++ [e]) (b := b) fun w hw => by
    rcases List.mem_append.mp hw with hw | hw
    · exact h w hw
    · rcases List.mem_singleton.mp hw with rfl; exact he
  omega
theorem span_split {a b : List Nat} {e : Nat} (h : Spn (a ++ b) e) : ∃ s q, Spn a s ∧ Spn b q ∧ e = s ^^^ q := by
  induction h with
  | zero => exact ⟨0, 0, .zero, .zero, rfl⟩
  | @add y w hw _ ih =>
    obtain ⟨s, q, hs, hq, rfl⟩ := ih
    rcases List.mem_append.mp hw with hw | hw
    · exact ⟨s ^^^ w, q, .add hw hs, hq, by rw [Nat.xor_assoc, Nat.xor_assoc, Nat.xor_comm q w]⟩
    · exact ⟨s, q ^^^ w, hs, .add hw hq, by rw [Nat.xor_assoc]⟩
section
variable {b : Nat} (hs : ∀ x ∈ ss, x < 2 ^ b) (hl : ∀ x ∈ ls, x < 2 ^ b) (hb : b ≤ rk (ss ++ ls))
include hs hl hb
theorem wcount : (spn ss).length - wmn ss ls = b - ls.length := by
  have a := twn_size ss ls
  have f : rk (ss ++ ls) = b := Nat.le_antisymm (rk_le_bits fun x hx => (List.mem_append.mp hx).elim (hs x) (hl x)) hb
  have e2 : (spn ss).length = rk ss := rfl
  unfold wmn
  omega
theorem went_surj {e : Nat} (he : e < 2 ^ b) : ∃ n l, n < 2 ^ (b - ls.length) ∧ l < 2 ^ ls.length ∧ went ss ls n l = e := by
  have wc := wcount hs hl hb
  have R := twn_rws ss ls
  have A := spn_rws ss
  obtain ⟨s, q, h1, h2, rfl⟩ := span_split (in_full (fun w hw => (List.mem_append.mp hw).elim (hs w) (hl w)) hb he)
  have h2' : Spn (ls.take ls.length) q := by rw [List.take_length]; exact h2
  obtain ⟨l0, hl0, rfl⟩ := span_img (Nat.le_refl _) h2'
  have tb : ∀ r ∈ twn ss ls, r < 2 ^ ls.length := fun r hr => ((twn_span ss ls r).mp (.of hr)).1
  have hc : clr (twn ss ls) l0 < 2 ^ ls.length := clr_lt tb hl0
  -- what is left lies in the slot space
  have h3 : Spn ss (s ^^^ img ls l0 ^^^ img ls (clr (twn ss ls) l0)) := by
    rw [Nat.xor_assoc, ← (lin_img ls).x]
    exact h1.xor ((twn_span ss ls _).mp (spn_clr _ l0)).2
  have h4 : Spn ((spn ss).take (spn ss).length) (s ^^^ img ls l0 ^^^ img ls (clr (twn ss ls) l0)) := by rw [List.take_length, spn_span]; exact h3
  obtain ⟨x, hx, ex⟩ := span_img (Nat.le_refl _) h4
  have m1 : wmn ss ls ≤ (spn ss).length := by unfold wmn; omega
  have m2 : wmn ss ls ≤ (twn ss ls).length := by unfold wmn; omega
  have tl : ((spn ss).take (wmn ss ls)).length = wmn ss ls := by rw [List.length_take]; omega
  have cl : x % 2 ^ wmn ss ls < 2 ^ wmn ss ls := Nat.mod_lt _ (Nat.two_pow_pos _)
  have cl2 : x % 2 ^ wmn ss ls < 2 ^ (twn ss ls).length := Nat.lt_of_lt_of_le cl (Nat.pow_le_pow_right (by decide) m2)
  refine ⟨x >>> wmn ss ls, clr (twn ss ls) l0 ^^^ img (twn ss ls) (x % 2 ^ wmn ss ls), ?_, Nat.xor_lt_two_pow hc (imf_lt tb _ _), ?_⟩
  · rw [Nat.shiftRight_eq_div_pow, ← wc]
    rw [Nat.div_lt_iff_lt_mul (Nat.two_pow_pos _), ← Nat.pow_add, show (spn ss).length - wmn ss ls + wmn ss ls = (spn ss).length by omega]
    exact hx
  · rw [went_eq, cof_xor, cof_clr R, Nat.zero_xor, cof_img R cl2, clr_xor, clr_idem R, clr_img R, Nat.xor_zero]
    have q := img_app (P := (spn ss).take (wmn ss ls)) (Q := (spn ss).drop (wmn ss ls)) (x := x % 2 ^ wmn ss ls) (y := x >>> wmn ss ls) (by rw [tl]; exact cl)
    rw [List.take_append_drop, tl, Nat.xor_comm (x % _), ← add_eq_xor cl, Nat.shiftRight_eq_div_pow, Nat.shiftLeft_eq, Nat.mul_comm, Nat.div_add_mod, ex] at q
    rw [Nat.shiftRight_eq_div_pow, Nat.xor_comm (img _ _) (img _ _), ← q, xor_cancel_right]
theorem went_zero (ht : ls.length ≤ b) {n l : Nat} (hn : n < 2 ^ (b - ls.length)) (hl2 : l < 2 ^ ls.length) (h : went ss ls n l = 0) : n = 0 ∧ l = 0 := by
  have wc := wcount hs hl hb
  have R := twn_rws ss ls
  have A := spn_rws ss
  have a := twn_size ss ls
  have f : rk (ss ++ ls) = b := Nat.le_antisymm (rk_le_bits fun x hx => (List.mem_append.mp hx).elim (hs x) (hl x)) hb
  have e2 : (spn ss).length = rk ss := rfl
  have m : wmn ss ls = (twn ss ls).length := by unfold wmn; omega
  have m1 : wmn ss ls ≤ (spn ss).length := by unfold wmn; omega
  have tl : ((spn ss).take (wmn ss ls)).length = wmn ss ls := by rw [List.length_take]; omega
  have tb : ∀ r ∈ twn ss ls, r < 2 ^ ls.length := fun r hr => ((twn_span ss ls r).mp (.of hr)).1
  have cl : cof (twn ss ls) l < 2 ^ ((spn ss).take (wmn ss ls)).length := by rw [tl, m]; exact cof_lt _ _
  rw [went_eq] at h
  have q := img_app (Q := (spn ss).drop (wmn ss ls)) (y := n) cl
  rw [List.take_append_drop, tl] at q
  rw [Nat.xor_comm (img ((spn ss).drop _) _), ← q] at h
  have h' := xor_eq_zero h
  have sA : ∀ x k, k ≤ (spn ss).length → Spn ss (imf (spn ss) x k) := by
    intro x k
    induction k with
    | zero => intro _; exact .zero
    | succ k ih =>
      intro hk
      rw [imf_succ]
      split
      · exact (ih (by omega)).xor ((spn_span ss _).mp (.of (getD_mem hk)))
      · exact ih (by omega)
  have hz : clr (twn ss ls) l = 0 := by
    have s1 : Spn (twn ss ls) (clr (twn ss ls) l) := (twn_span ss ls _).mpr ⟨clr_lt tb hl2, by rw [← h']; exact sA _ _ (Nat.le_refl _)⟩
    have s2 := R.span.mp s1
    rwa [clr_idem R] at s2
  rw [hz, (lin_img ls).z] at h'
  have big : cof (twn ss ls) l ^^^ (n <<< wmn ss ls) < 2 ^ (spn ss).length := by
    refine Nat.xor_lt_two_pow (Nat.lt_of_lt_of_le cl (Nat.pow_le_pow_right (by decide) (by rw [tl]; exact m1))) ?_
    rw [Nat.shiftLeft_eq, show (spn ss).length = (b - ls.length) + wmn ss ls by omega, Nat.pow_add]
    exact Nat.mul_lt_mul_of_pos_right hn (Nat.two_pow_pos _)
  have z := ind_inj (spn_id A) big h'
  have n0 : n = 0 := by
    have := congrArg (fun x => x >>> wmn ss ls) z
    simp only [Nat.shiftRight_xor_distrib, Nat.shiftLeft_shiftRight, Nat.zero_shiftRight] at this
    rw [Nat.shiftRight_eq_div_pow, Nat.div_eq_of_lt (by rw [tl] at cl; exact cl), Nat.zero_xor] at this
    exact this
  rw [n0, Nat.zero_shiftLeft, Nat.xor_zero] at z
  have il := img_cof R l
  rw [z, (lin_img _).z, hz, Nat.xor_zero] at il
  exact ⟨n0, il.symm⟩
theorem went_inj (ht : ls.length ≤ b) {n l n' l' : Nat} (hn : n < 2 ^ (b - ls.length)) (hl2 : l < 2 ^ ls.length) (hn' : n' < 2 ^ (b - ls.length)) (hl2' : l' < 2 ^ ls.length) (h : went ss ls n l = went ss ls n' l') : n = n' ∧ l = l' := by
  have e : went ss ls (n ^^^ n') (l ^^^ l') = 0 := by
    have : went ss ls (n ^^^ n') (l ^^^ l') = went ss ls n l ^^^ went ss ls n' l' := by
      rw [went_eq, went_eq, went_eq, cof_xor, clr_xor, (lin_img _).x, (lin_img _).x, (lin_img _).x]
      rw [xor4 (img _ n), xor4 (_ ^^^ _) (_ ^^^ _)]
    rw [this, h, Nat.xor_self]
  obtain ⟨a, c⟩ := went_zero hs hl hb ht (Nat.xor_lt_two_pow hn hn') (Nat.xor_lt_two_pow hl2 hl2') e
  exact ⟨xor_eq_zero a, xor_eq_zero c⟩
end
end
end LaneX
set_option linter.all false
namespace LaneX
/-! ### the sums that lanes hold, step by step (k36) -/
theorem span_snoc {A : List Nat} {w x : Nat} : Spn (A ++ [w]) x ↔ Spn A x ∨ Spn A (x ^^^ w) := by
  constructor
  · intro h
    obtain ⟨s, q, h1, h2, rfl⟩ := span_split h
    have : q = 0 ∨ q = w := by
      clear h
      induction h2 with
      | zero => exact .inl rfl
      | add hw _ ih =>
        rcases List.mem_singleton.mp hw with rfl
        rcases ih with rfl | rfl
        · rw [Nat.zero_xor]; exact .inr rfl
        · rw [Nat.xor_self]; exact .inl rfl
    rcases this with rfl | rfl
    · rw [Nat.xor_zero]; exact .inl h1
    · rw [xor_cancel_right]; exact .inr h1
  · rintro (h | h)
    · exact h.sub fun z hz => List.mem_append_left _ hz
    · have a : Spn (A ++ [w]) (x ^^^ w) := h.sub fun z hz => List.mem_append_left _ hz
      have b : Spn (A ++ [w]) w := .of (List.mem_append_right _ (List.mem_singleton_self _))
      have := a.xor b
      rwa [xor_cancel_right] at this
/-- an entry that a lane knows of behind the steps P -/
def Ent (ss ls P : List Nat) (L e : Nat) : Prop := Spn (ss ++ P.map (img ls)) (e ^^^ img ls L)
theorem ent_nil {ss ls : List Nat} {L e : Nat} : Ent ss ls [] L e ↔ ∃ s, s < 2 ^ ss.length ∧ img ls L ^^^ img ss s = e := by
  unfold Ent
  rw [List.map_nil, List.append_nil]
  constructor
  · intro h
    obtain ⟨x, hx, e1⟩ := span_img (cols := ss) (Nat.le_refl _) (by rwa [List.take_length])
    refine ⟨x, hx, ?_⟩
    rw [e1, Nat.xor_comm e, xor_cancel]
  · rintro ⟨s, hs, rfl⟩
    rw [Nat.xor_comm, xor_cancel]
    have := img_span (cols := ss) (Nat.le_refl _) hs
    rwa [List.take_length] at this
theorem ent_snoc {ss ls P : List Nat} {p L e : Nat} : Ent ss ls (P ++ [p]) L e ↔ Ent ss ls P L e ∨ Ent ss ls P (L ^^^ p) e := by
  unfold Ent
  rw [List.map_append, List.map_singleton, ← List.append_assoc, span_snoc, (lin_img ls).x, Nat.xor_assoc]
theorem ent_apart {ss ls P : List Nat} {p L e : Nat} (hp : ¬ Spn (ss ++ P.map (img ls)) (img ls p)) (h1 : Ent ss ls P L e) (h2 : Ent ss ls P (L ^^^ p) e) : False := by
  refine hp ?_
  have := Spn.xor h1 h2
  rw [(lin_img ls).x] at this
  have e1 : e ^^^ img ls L ^^^ (e ^^^ (img ls L ^^^ img ls p)) = img ls p := by
    rw [← Nat.xor_assoc e, xor_cancel]
  rwa [e1] at this
theorem ent_lt {b : Nat} {ss ls P : List Nat} (hs : ∀ x ∈ ss, x < 2 ^ b) (hl : ∀ x ∈ ls, x < 2 ^ b) {L e : Nat} (h : Ent ss ls P L e) : e < 2 ^ b := by
  have a : e ^^^ img ls L < 2 ^ b := Spn.lt h fun w hw => by
    rcases List.mem_append.mp hw with hw | hw
    · exact hs w hw
    · obtain ⟨p, _, rfl⟩ := List.mem_map.mp hw
      exact imf_lt hl _ _
  have b1 : img ls L < 2 ^ b := imf_lt hl _ _
  have := Nat.xor_lt_two_pow a b1
  rwa [xor_cancel_right] at this
/-- steps that are independent beside the slots -/
def Fre (ss ls P : List Nat) : Prop := rk (ss ++ P.map (img ls)) = rk ss + P.length
theorem Fre.perm {ss ls P Q : List Nat} (h : Fre ss ls P) (p : Q.Perm P) : Fre ss ls Q := by
  unfold Fre at *
  rw [p.length_eq, ← h]
  exact rk_perm ((p.map _).append_left ss)
theorem Fre.head {ss ls P Q : List Nat} (h : Fre ss ls (P ++ Q)) : Fre ss ls P := by
  unfold Fre at *
  rw [List.map_append, ← List.append_assoc, List.length_append] at h
  have a := rk_app_len (ss ++ P.map (img ls)) (Q.map (img ls))
  have b := rk_app_len ss (P.map (img ls))
  rw [List.length_map] at a b
  omega
theorem Fre.out {ss ls P : List Nat} {p : Nat} (h : Fre ss ls (P ++ [p])) : ¬ Spn (ss ++ P.map (img ls)) (img ls p) := by
  intro z
  have a := h.head
  unfold Fre at *
  rw [List.map_append, List.map_singleton, ← List.append_assoc, rk_snoc_in z, List.length_append] at h
  simp only [List.length_singleton] at h
  omega
theorem ldr_free (ss ls ws : List Nat) : Fre ss ls (ldr ss ls (spn ws)) := by
  have a := (red_lft ss).rk ((ldr ss ls (spn ws)).map (img ls))
  rw [List.map_map] at a
  have b := ldr_rk ss ls ws
  unfold Fre
  have e : (fun x => lft (bas ss) (img ls x)) = lft (bas ss) ∘ img ls := rfl
  rw [e] at b
  omega
theorem ldr_spans {b : Nat} {ss ls ws : List Nat} (hs : ∀ x ∈ ss, x < 2 ^ b) (hl : ∀ x ∈ ls, x < 2 ^ b) (hw : ∀ x ∈ ws, x < 2 ^ b) (hb : b ≤ rk (ss ++ ls)) {w : Nat} (h : Spn ws w) : Spn (ss ++ (ldr ss ls (spn ws)).map (img ls)) w := by
  have wl : w < 2 ^ b := h.lt hw
  obtain ⟨s, q, h1, h2, rfl⟩ := span_split (in_full (ws := ss ++ ls) (fun w hw => (List.mem_append.mp hw).elim (hs w) (hl w)) hb wl)
  obtain ⟨x, hx, rfl⟩ := span_img (cols := ls) (Nat.le_refl _) (by rwa [List.take_length])
  have px : Spn (ss ++ ws) (img ls x) := by
    have a : Spn (ss ++ ws) (s ^^^ img ls x) := h.sub fun z hz => List.mem_append_right _ hz
    have c : Spn (ss ++ ws) s := h1.sub fun z hz => List.mem_append_left _ hz
    have := c.xor a
    rwa [xor_cancel] at this
  have pp : Spn (prt ss ls (spn ws)) x := (prt_span ss ls ws x).mpr ⟨hx, px⟩
  have R : Rws (twn ss ls) := spn_rws _
  have cs := cms_span R (prt ss ls (spn ws))
  have q2 : Spn (twn ss ls ++ ldr ss ls (spn ws)) x := (cs.2 x).mp ((cs.1 x).mpr (pp.sub fun z hz => List.mem_append_right _ hz))
  obtain ⟨t, y, ht, hy, rfl⟩ := span_split q2
  have i1 : Spn ss (img ls t) := ((twn_span ss ls t).mp ht).2
  have i2 : Spn ((ldr ss ls (spn ws)).map (img ls)) (img ls y) := (lin_img ls).spn hy
  rw [(lin_img ls).x, ← Nat.xor_assoc]
  exact ((h1.xor i1).sub fun z hz => List.mem_append_left _ hz).xor (i2.sub fun z hz => List.mem_append_right _ hz)
theorem coset_span {ws : List Nat} {x y : Nat} : lft (bas ws) x = lft (bas ws) y ↔ Spn ws (x ^^^ y) := by
  rw [← lft_bas, lft_xor]
  exact ⟨fun h => by rw [h, Nat.xor_self], fun h => xor_eq_zero h⟩
/-- behind all steps a lane knows of all entries of the cosets of which it holds one -/
theorem ent_all {b : Nat} {ss ls ws P : List Nat} (hs : ∀ x ∈ ss, x < 2 ^ b) (hl : ∀ x ∈ ls, x < 2 ^ b) (hw : ∀ x ∈ ws, x < 2 ^ b) (hb : b ≤ rk (ss ++ ls)) (hP : P.Perm (ldr ss ls (spn ws))) {L e0 e : Nat} (h0 : Ent ss ls [] L e0)
    (he : lft (bas ws) e = lft (bas ws) e0) : Ent ss ls P L e := by
  have a := ldr_spans hs hl hw hb (coset_span.mp he)
  have c : Spn (ss ++ P.map (img ls)) (e ^^^ e0) := a.sub fun z hz => by
    rcases List.mem_append.mp hz with hz | hz
    · exact List.mem_append_left _ hz
    · exact List.mem_append_right _ ((hP.map (img ls)).mem_iff.mpr hz)
  unfold Ent at *
  rw [List.map_nil, List.append_nil] at h0
  have d := c.xor (h0.sub (vs := ss ++ P.map (img ls)) fun z hz => List.mem_append_left _ hz)
  have e1 : e ^^^ e0 ^^^ (e0 ^^^ img ls L) = e ^^^ img ls L := by rw [Nat.xor_assoc, xor_cancel]
  rwa [e1] at d
/-- with one of the steps left out it lacks one of them -/
theorem ent_less {b : Nat} {ss ls ws P : List Nat} {p : Nat} (hs : ∀ x ∈ ss, x < 2 ^ b) (hl : ∀ x ∈ ls, x < 2 ^ b) (hw : ∀ x ∈ ws, x < 2 ^ b) (hP : ldr ss ls (spn ws) = p :: P) {L e0 : Nat} (h0 : Ent ss ls [] L e0) :
    ∃ e, e < 2 ^ b ∧ lft (bas ws) e = lft (bas ws) e0 ∧ ¬ Ent ss ls P L e := by
  have F : Fre ss ls (P ++ [p]) := (ldr_free ss ls ws).perm (by rw [hP]; exact List.perm_append_comm)
  have hp : p ∈ ldr ss ls (spn ws) := by rw [hP]; exact List.mem_cons_self
  have m := lft_bas.mp (ldr_mem hp).2
  obtain ⟨s, w, h1, h2, e1⟩ := span_split m
  refine ⟨e0 ^^^ w, Nat.xor_lt_two_pow (ent_lt hs hl h0) (h2.lt hw), coset_span.mpr ?_, fun z => F.out ?_⟩
  · rw [Nat.xor_comm e0, xor_cancel_right]; exact h2
  · unfold Ent at *
    rw [List.map_nil, List.append_nil] at h0
    have d := (z.xor (h0.sub (vs := ss ++ P.map (img ls)) fun z hz => List.mem_append_left _ hz)).xor (h1.sub (vs := ss ++ P.map (img ls)) fun z hz => List.mem_append_left _ hz)
    have e2 : e0 ^^^ w ^^^ img ls L ^^^ (e0 ^^^ img ls L) ^^^ s = img ls p := by
      rw [e1, Nat.xor_assoc e0 w, xor4, Nat.xor_self, Nat.zero_xor, xor_cancel_right, Nat.xor_comm]
    rwa [e2] at d
/-! ### masks -/
/-- the word with ones where p, below n -/
def mask (p : Nat → Bool) (n : Nat) : Nat := (((List.range n).filter p).map fun i => 1 <<< i).sum
theorem mask_bits (p : Nat → Bool) : ∀ n, mask p n = bitsOf p n
  | 0 => rfl
  | n + 1 => by
    have ih := mask_bits p n
    unfold mask at *
    rw [List.range_succ, List.filter_append, List.map_append, List.sum_append, ih]
    apply Nat.eq_of_testBit_eq
    intro i
    rw [bitsOf_bit]
    have lt := bitsOf_lt p n
    by_cases h : p n = true
    · have e : ((List.filter p [n]).map fun i => 1 <<< i).sum = 2 ^ n := by simp [h, Nat.one_shiftLeft]
      rw [e, Nat.add_comm]
      by_cases hi : i = n
      · subst hi
        rw [Nat.testBit_two_pow_add_eq, bitsOf_bit]
        simp [h]
      · rcases Nat.lt_or_gt_of_ne hi with hi | hi
        · rw [Nat.testBit_two_pow_add_gt hi, bitsOf_bit]
          have : i < n + 1 := by omega
          simp [hi, this]
        · rw [Nat.testBit_lt_two_pow]
          · simp; omega
          · have : 2 ^ (n + 1) ≤ 2 ^ i := Nat.pow_le_pow_right (by decide) hi
            rw [Nat.pow_succ] at this
            omega
    · have e : ((List.filter p [n]).map fun i => 1 <<< i).sum = 0 := by simp [h]
      rw [e, Nat.add_zero, bitsOf_bit]
      by_cases hi : i = n
      · subst hi; simp [h]
      · have : (i < n) ↔ (i < n + 1) := by omega
        simp [this]
theorem mask_bit (p : Nat → Bool) (n i : Nat) : (mask p n).testBit i = (decide (i < n) && p i) := by rw [mask_bits, bitsOf_bit]
theorem mask_lt (p : Nat → Bool) (n : Nat) : mask p n < 2 ^ n := by rw [mask_bits]; exact bitsOf_lt _ _
/-- m is the word of the entries of E whose coset is c -/
def Msk (rows : List Nat) (E : Nat → Prop) (c m : Nat) : Prop := ∀ e, m.testBit e = true ↔ E e ∧ lft rows e = c
theorem Msk.or {rows : List Nat} {E F : Nat → Prop} {c m n : Nat} (h : Msk rows E c m) (g : Msk rows F c n) : Msk rows (fun e => E e ∨ F e) c (m ||| n) := fun e => by
  rw [Nat.testBit_or, Bool.or_eq_true, h e, g e]
  constructor
  · rintro (⟨a, b⟩ | ⟨a, b⟩)
    · exact ⟨.inl a, b⟩
    · exact ⟨.inr a, b⟩
  · rintro ⟨a | a, b⟩
    · exact .inl ⟨a, b⟩
    · exact .inr ⟨a, b⟩
theorem Msk.and {rows : List Nat} {E F : Nat → Prop} {c m n : Nat} (h : Msk rows E c m) (g : Msk rows F c n) (d : ∀ e, E e → F e → False) : m &&& n = 0 := by
  apply Nat.eq_of_testBit_eq
  intro e
  rw [Nat.zero_testBit, Nat.testBit_and]
  cases h1 : m.testBit e with
  | false => rfl
  | true =>
    cases h2 : n.testBit e with
    | false => rfl
    | true => exact (d e ((h e).mp h1).1 ((g e).mp h2).1).elim
theorem Msk.zero {rows : List Nat} {E : Nat → Prop} {c : Nat} (h : ∀ e, E e → lft rows e ≠ c) : Msk rows E c 0 := fun e => by
  rw [Nat.zero_testBit]
  exact ⟨fun z => (by cases z), fun z => (h e z.1 z.2).elim⟩
theorem Msk.congr {rows : List Nat} {E F : Nat → Prop} {c m : Nat} (h : Msk rows E c m) (g : ∀ e, E e ↔ F e) : Msk rows F c m := fun e => by rw [h e, g e]
theorem Msk.unit {rows : List Nat} (e : Nat) : Msk rows (fun x => x = e) (lft rows e) (1 <<< e) := fun x => by
  rw [unit_bit, decide_eq_true_iff]
  exact ⟨fun h => by subst h; exact ⟨rfl, rfl⟩, fun h => h.1.symm⟩
theorem Msk.whole {rows : List Nat} {E : Nat → Prop} {c m n : Nat} (h : Msk rows E c m) (lt : ∀ e, E e → e < n) (all : ∀ e, e < n → lft rows e = c → E e) : m = mask (fun e => decide (lft rows e = c)) n := by
  apply Nat.eq_of_testBit_eq
  intro e
  rw [mask_bit, Bool.eq_iff_iff, h e, Bool.and_eq_true, decide_eq_true_iff, decide_eq_true_iff]
  exact ⟨fun z => ⟨lt e z.1, z.2⟩, fun z => ⟨all e z.1 z.2, z.2⟩⟩
theorem Msk.less {rows : List Nat} {E : Nat → Prop} {c m n : Nat} (h : Msk rows E c m) (ex : ∃ e, e < n ∧ lft rows e = c ∧ ¬ E e) : m ≠ mask (fun e => decide (lft rows e = c)) n := by
  obtain ⟨e, h1, h2, h3⟩ := ex
  rintro rfl
  have := (h e).mp (by rw [mask_bit]; simp [h1, h2])
  exact h3 this.1
end LaneX
set_option linter.all false
namespace LaneX
/-! ### drawn words that can be undone (k17 and the laws behind it) -/
theorem rk_of_inj {A : List Nat} (h : ∀ x, x < 2 ^ A.length → img A x = 0 → x = 0) : rk A = A.length := by
  have k := ker_len_eq A
  have z : ker A = [] := by
    cases e : ker A with
    | nil => rfl
    | cons r l =>
      have m : r ∈ ker A := by rw [e]; exact List.mem_cons_self
      have s := (ker_span A r).mp (.of m)
      exact absurd (h r s.1 s.2) ((ker_rws A).nz r m)
  rw [z] at k
  simpa using k
theorem imf_none {A : List Nat} {x : Nat} : ∀ n, (∀ i, i < n → x.testBit i = false) → imf A x n = 0
  | 0, _ => rfl
  | n + 1, h => by
    rw [imf_succ, h n (Nat.lt_succ_self n), if_neg (by decide)]
    exact imf_none n fun i hi => h i (Nat.lt_succ_of_lt hi)
/-- bit t stays where the columns behind n are 0 at it, or are not taken -/
theorem imf_stay {A : List Nat} {x t m : Nat} : ∀ k, (∀ i, m ≤ i → i < m + k → x.testBit i = true → (A.getD i 0).testBit t = false) → (imf A x (m + k)).testBit t = (imf A x m).testBit t
  | 0, _ => rfl
  | k + 1, h => by
    have ih := imf_stay k fun i h1 h2 h3 => h i h1 (by omega) h3
    show (imf A x (m + k + 1)).testBit t = _
    rw [imf_succ]
    by_cases e : x.testBit (m + k) = true
    · rw [if_pos e, Nat.testBit_xor, h (m + k) (by omega) (by omega) e, ih]; simp
    · rw [if_neg e, ih]
theorem low_below {n i : Nat} (h : n ≠ 0) (hi : i < low n) : n.testBit i = false := by
  induction n using Nat.strongRecOn generalizing i with
  | ind n ih =>
    unfold low at hi
    rw [dif_neg h] at hi
    split at hi
    · omega
    · rename_i h2
      cases i with
      | zero => rw [Nat.testBit_zero]; simp; omega
      | succ i =>
        rw [Nat.testBit_succ]
        exact ih (n / 2) (by omega) (by omega) (by omega)
/-- the columns' lowest bits are 0, 1, 2 .. -/
theorem rk_highs {A : List Nat} (h1 : ∀ i, i < A.length → (A.getD i 0).testBit i = true) (h2 : ∀ i j, i < A.length → j < i → (A.getD i 0).testBit j = false) : rk A = A.length := by
  refine rk_of_inj fun x hx e => Classical.byContradiction fun nz => ?_
  have lb := low_bit nz
  have ll : low x < A.length := by
    refine Nat.lt_of_not_le fun q => ?_
    have := Nat.testBit_lt_two_pow (Nat.lt_of_lt_of_le hx (Nat.pow_le_pow_right (by decide) q))
    rw [this] at lb; cases lb
  have a : imf A x (low x + 1) = A.getD (low x) 0 := by
    rw [imf_succ, if_pos lb, imf_none _ fun i hi => low_below nz hi, Nat.zero_xor]
  have c := imf_stay (A := A) (x := x) (t := low x) (m := low x + 1) (A.length - (low x + 1)) fun i h3 h4 _ => h2 i _ (by omega) (by omega)
  rw [show low x + 1 + (A.length - (low x + 1)) = A.length by omega, a, h1 _ ll] at c
  have d : (img A x).testBit (low x) = true := c
  rw [e] at d
  simp at d
/-- the columns' highest bits are 0, 1, 2 .. -/
theorem rk_lows {A : List Nat} (h1 : ∀ i, i < A.length → (A.getD i 0).testBit i = true) (h2 : ∀ i j, i < A.length → i < j → (A.getD i 0).testBit j = false) : rk A = A.length := by
  refine rk_of_inj fun x hx e => Classical.byContradiction fun nz => ?_
  have tb := testBit_top nz
  have tl : blen x - 1 < A.length := by
    have := blen_le.mpr hx
    have := blen_pos nz
    omega
  have a : (imf A x (blen x - 1)).testBit (blen x - 1) = false := by
    have c := imf_stay (A := A) (x := x) (t := blen x - 1) (m := 0) (blen x - 1) fun i _ h4 _ => h2 i _ (by omega) (by omega)
    rw [Nat.zero_add] at c
    rw [c]; exact Nat.zero_testBit _
  have a2 : (imf A x (blen x - 1 + 1)).testBit (blen x - 1) = true := by
    rw [imf_succ, if_pos tb, Nat.testBit_xor, a, h1 _ tl]; rfl
  have c := imf_stay (A := A) (x := x) (t := blen x - 1) (m := blen x - 1 + 1) (A.length - (blen x - 1 + 1)) fun i h3 h4 h5 => by
    rw [testBit_ge (by omega)] at h5; cases h5
  rw [show blen x - 1 + 1 + (A.length - (blen x - 1 + 1)) = A.length by omega, a2] at c
  have d : (img A x).testBit (blen x - 1) = true := c
  rw [e] at d
  simp at d
/-- M: as many words as bits, that can be undone -/
structure Mix (b : Nat) (M : List Nat) : Prop where
  len : M.length = b
  lt : ∀ x ∈ M, x < 2 ^ b
  rk : rk M = b
theorem Mix.perm {b : Nat} {M N : List Nat} (h : Mix b M) (p : N.Perm M) : Mix b N := ⟨p.length_eq.trans h.len, fun x hx => h.lt x (p.mem_iff.mp hx), (rk_perm p).trans h.rk⟩
theorem mix_units (b : Nat) : Mix b (units b) := ⟨by simp [units], fun x hx => by
  obtain ⟨i, hi, rfl⟩ := List.mem_map.mp hx
  rw [Nat.one_shiftLeft]
  exact Nat.pow_lt_pow_right (by decide) (List.mem_range.mp hi), units_rk b⟩
theorem mix_comp {b : Nat} {A B : List Nat} (hA : Mix b A) (hB : Mix b B) : Mix b (B.map (img A)) := by
  have l : (B.map (img A)).length = b := by rw [List.length_map, hB.len]
  refine ⟨l, fun x hx => ?_, ?_⟩
  · obtain ⟨y, _, rfl⟩ := List.mem_map.mp hx
    exact imf_lt hA.lt _ _
  · rw [rk_of_inj fun x hx e => ?_, l]
    rw [img_map (lin_img A)] at e
    rw [l] at hx
    have lt : img B x < 2 ^ A.length := by rw [hA.len]; exact imf_lt hB.lt _ _
    have z := ind_inj (by rw [hA.rk, hA.len]) lt e
    exact ind_inj (by rw [hB.rk, hB.len]) (by rw [hB.len]; exact hx) z
def hiw (w i : Nat) : Nat := 1 <<< i ||| (w >>> (i + 1)) <<< (i + 1)
def low' (w i : Nat) : Nat := 1 <<< i ||| (w &&& (1 <<< i - 1))
theorem hiw_bit (w i j : Nat) : (hiw w i).testBit j = (decide (i = j) || (decide (i + 1 ≤ j) && w.testBit j)) := by
  unfold hiw
  rw [Nat.testBit_or, unit_bit, Nat.testBit_shiftLeft]
  by_cases h : i + 1 ≤ j
  · rw [Nat.testBit_shiftRight, show i + 1 + (j - (i + 1)) = j by omega]
  · have : decide (j ≥ i + 1) = false := by simp; omega
    rw [this]; simp
theorem low'_bit (w i j : Nat) : (low' w i).testBit j = (decide (i = j) || (decide (j < i) && w.testBit j)) := by
  unfold low'
  rw [Nat.testBit_or, unit_bit, Nat.testBit_and, Nat.one_shiftLeft, Nat.testBit_two_pow_sub_one, Bool.and_comm (w.testBit j)]
theorem lt_of_bits {x b : Nat} (h : ∀ j, b ≤ j → x.testBit j = false) : x < 2 ^ b := Nat.lt_of_not_le fun q => by
  have nz : x ≠ 0 := fun z => by rw [z] at q; have := Nat.two_pow_pos b; omega
  have : b < blen x := Nat.lt_of_not_le fun z => by have := blen_le.mp z; omega
  have t := testBit_top nz
  rw [h _ (by omega)] at t; cases t
theorem hiw_lt {w i b : Nat} (hw : w < 2 ^ b) (hi : i < b) : hiw w i < 2 ^ b := lt_of_bits fun j hj => by
  rw [hiw_bit, Nat.testBit_lt_two_pow (Nat.lt_of_lt_of_le hw (Nat.pow_le_pow_right (by decide) hj))]
  have : decide (i = j) = false := by simp; omega
  rw [this]; simp
theorem low'_lt {w i b : Nat} (hi : i < b) : low' w i < 2 ^ b := lt_of_bits fun j hj => by
  rw [low'_bit]
  have : decide (i = j) = false := by simp; omega
  have : decide (j < i) = false := by simp; omega
  simp [*]
theorem map_range_getD (f : Nat → Nat) {b i : Nat} (h : i < b) : ((List.range b).map f).getD i 0 = f i := by
  rw [List.getD_eq_getElem?_getD, List.getElem?_map, List.getElem?_range h]; rfl
theorem mix_highs {b : Nat} {w : Nat → Nat} (hw : ∀ i, i < b → w i < 2 ^ b) : Mix b ((List.range b).map fun i => hiw (w i) i) := by
  have l : ((List.range b).map fun i => hiw (w i) i).length = b := by simp
  refine ⟨l, fun x hx => ?_, ?_⟩
  · obtain ⟨i, hi, rfl⟩ := List.mem_map.mp hx
    exact hiw_lt (hw i (List.mem_range.mp hi)) (List.mem_range.mp hi)
  · rw [rk_highs (fun i hi => ?_) (fun i j hi hj => ?_), l]
    · rw [l] at hi
      rw [map_range_getD _ hi, hiw_bit]; simp
    · rw [l] at hi
      rw [map_range_getD _ hi, hiw_bit]
      have : decide (i = j) = false := by simp; omega
      have : decide (i + 1 ≤ j) = false := by simp; omega
      simp [*]
theorem mix_lows {b : Nat} (w : Nat → Nat) : Mix b ((List.range b).map fun i => low' (w i) i) := by
  have l : ((List.range b).map fun i => low' (w i) i).length = b := by simp
  refine ⟨l, fun x hx => ?_, ?_⟩
  · obtain ⟨i, hi, rfl⟩ := List.mem_map.mp hx
    exact low'_lt (List.mem_range.mp hi)
  · rw [rk_lows (fun i hi => ?_) (fun i j hi hj => ?_), l]
    · rw [l] at hi
      rw [map_range_getD _ hi, low'_bit]; simp
    · rw [l] at hi
      rw [map_range_getD _ hi, low'_bit]
      have : decide (i = j) = false := by simp; omega
      have : decide (j < i) = false := by simp; omega
      simp [*]
/-- a list taken in another order -/
theorem perm_order {b : Nat} {o M : List Nat} (p : o.Perm (List.range b)) (l : M.length = b) : (o.map fun i => M.getD i 0).Perm M := by
  have a := p.map fun i => M.getD i 0
  have e : (List.range b).map (fun i => M.getD i 0) = M := by
    refine List.ext_getElem (by simp [l]) fun i h1 h2 => ?_
    rw [List.getElem_map, List.getElem_range, List.getD_eq_getElem?_getD, List.getElem?_eq_getElem h2]; rfl
  rwa [e] at a
/-- sums by words that can be undone span the same -/
theorem Mix.span {b : Nat} {M W : List Nat} (h : Mix b M) (l : W.length = b) (x : Nat) : Spn (M.map (img W)) x ↔ Spn W x := by
  constructor
  · intro hx
    refine hx.mono fun y hy => ?_
    obtain ⟨z, hz, rfl⟩ := List.mem_map.mp hy
    have := img_span (cols := W) (Nat.le_refl _) (by rw [l]; exact h.lt z hz)
    rwa [List.take_length] at this
  · intro hx
    obtain ⟨y, hy, rfl⟩ := span_img (cols := W) (Nat.le_refl _) (by rwa [List.take_length])
    exact (lin_img W).spn (in_full h.lt (Nat.le_of_eq h.rk.symm) (by rw [← l]; exact hy))
theorem img_in (W : List Nat) {z : Nat} (h : z < 2 ^ W.length) : Spn W (img W z) := by
  have := img_span (cols := W) (Nat.le_refl _) h
  rwa [List.take_length] at this
/-- one more word of the span, anywhere -/
theorem span_more {A B : List Nat} {w : Nat} (p : B.Perm (w :: A)) (h : Spn A w) (x : Nat) : Spn B x ↔ Spn A x := by
  constructor
  · intro hx
    refine hx.mono fun y hy => ?_
    rcases List.mem_cons.mp (p.mem_iff.mp hy) with rfl | hy
    · exact h
    · exact .of hy
  · exact fun hx => hx.sub fun y hy => p.mem_iff.mpr (List.mem_cons_of_mem _ hy)
/-- each word with a sum of others: beside these the same span -/
theorem span_shift {S A : List Nat} {n : Nat} {f g : Nat → Nat} (h : ∀ i, i < n → Spn S (f i ^^^ g i)) (x : Nat) : Spn (S ++ (List.range n).map f) x ↔ Spn (S ++ (List.range n).map g) x := by
  have one : ∀ {f g : Nat → Nat}, (∀ i, i < n → Spn S (f i ^^^ g i)) → ∀ x, Spn (S ++ (List.range n).map f) x → Spn (S ++ (List.range n).map g) x := by
    intro f g h x hx
    refine hx.mono fun y hy => ?_
    rcases List.mem_append.mp hy with hy | hy
    · exact .of (List.mem_append_left _ hy)
    · obtain ⟨i, hi, rfl⟩ := List.mem_map.mp hy
      have a : Spn (S ++ (List.range n).map g) (f i ^^^ g i) := (h i (List.mem_range.mp hi)).sub fun z hz => List.mem_append_left _ hz
      have c : Spn (S ++ (List.range n).map g) (g i) := .of (List.mem_append_right _ (List.mem_map.mpr ⟨i, hi, rfl⟩))
      have := a.xor c
      rwa [xor_cancel_right] at this
  exact ⟨one h x, one (fun i hi => by rw [Nat.xor_comm]; exact h i hi) x⟩
end LaneX
set_option linter.all false
namespace LaneX
/-! ### the law's own rows by min (k17 and others) -/
def les (rows : List Nat) (w : Nat) : Nat := rows.foldl (fun l r => min l (l ^^^ r)) w
theorem lt_bit {x y i : Nat} (hx : x.testBit i = false) (hy : y.testBit i = true) (h : ∀ j, i < j → x.testBit j = y.testBit j) : x < y := by
  have e1 : x >>> (i + 1) = y >>> (i + 1) := by
    apply Nat.eq_of_testBit_eq
    intro j
    rw [Nat.testBit_shiftRight, Nat.testBit_shiftRight]
    exact h _ (by omega)
  rw [Nat.shiftRight_eq_div_pow, Nat.shiftRight_eq_div_pow] at e1
  have p := Nat.two_pow_pos i
  have q : (2 : Nat) ^ (i + 1) = 2 * 2 ^ i := by rw [Nat.pow_succ]; omega
  have a : x % 2 ^ (i + 1) < 2 ^ i := by
    refine lt_of_bits fun j hj => ?_
    rw [Nat.testBit_mod_two_pow]
    by_cases z : j < i + 1
    · have : j = i := by omega
      subst this; simp [hx]
    · simp [z]
  have c : 2 ^ i ≤ y % 2 ^ (i + 1) := by
    refine Nat.ge_two_pow_of_testBit ?_
    rw [Nat.testBit_mod_two_pow, hy]; simp
  have d1 := Nat.div_add_mod x (2 ^ (i + 1))
  have d2 := Nat.div_add_mod y (2 ^ (i + 1))
  rw [e1] at d1
  omega
theorem min_xor {l r : Nat} (h : r ≠ 0) : min l (l ^^^ r) = if l.testBit (blen r - 1) = true then l ^^^ r else l := by
  have t := testBit_top h
  have above : ∀ j, blen r - 1 < j → (l ^^^ r).testBit j = l.testBit j := fun j hj => by
    rw [Nat.testBit_xor, testBit_ge (n := r) (by omega)]; simp
  by_cases e : l.testBit (blen r - 1) = true
  · rw [if_pos e]
    have : l ^^^ r < l := lt_bit (i := blen r - 1) (by rw [Nat.testBit_xor, e, t]; rfl) e fun j hj => above j hj
    omega
  · rw [if_neg e]
    have e' : l.testBit (blen r - 1) = false := by simpa using e
    have : l < l ^^^ r := lt_bit (i := blen r - 1) e' (by rw [Nat.testBit_xor, e', t]; rfl) fun j hj => (above j hj).symm
    omega
theorem les_clr : ∀ {rows : List Nat} (w : Nat), (∀ r ∈ rows, r ≠ 0) → les rows w = clr rows w
  | [], w, _ => rfl
  | r :: rs, w, h => by
    have ih := les_clr (rows := rs) (min w (w ^^^ r)) fun s hs => h s (List.mem_cons_of_mem _ hs)
    show les rs (min w (w ^^^ r)) = clr rs (if w.testBit (blen r - 1) = true then w ^^^ r else w)
    rw [ih, min_xor (h r List.mem_cons_self)]
def rwstep (rows : List Nat) (w : Nat) : List Nat := if clr rows w = 0 then rows else rows ++ [clr rows w]
def rws (ws : List Nat) : List Nat := ws.foldl rwstep []
theorem rws_snoc (a : List Nat) (w : Nat) : rws (a ++ [w]) = rwstep (rws a) w := List.foldl_append ..
/-- none is 0, later ones are 0 at the highest bits of earlier ones -/
structure Hws (rows : List Nat) : Prop where
  nz : ∀ r ∈ rows, r ≠ 0
  red : rows.Pairwise fun r s => s.testBit (blen r - 1) = false
theorem Hws.nil : Hws [] := ⟨fun _ h => (by cases h), .nil⟩
theorem Hws.tops : ∀ {rows : List Nat} {x : Nat}, Hws rows → ∀ r ∈ rows, (clr rows x).testBit (blen r - 1) = false
  | [], x, _, r, h => by cases h
  | s :: rs, x, R, r, h => by
    have hp := List.pairwise_cons.mp R.red
    have R' : Hws rs := ⟨fun t ht => R.nz t (.tail _ ht), hp.2⟩
    rw [clr_cons]
    rcases List.mem_cons.mp h with rfl | h
    · rw [clr_bit fun t ht => hp.1 t ht, Nat.testBit_xor]
      have := testBit_top (R.nz r (.head _))
      cases q : x.testBit (blen r - 1) <;> simp [bx, this]
    · exact R'.tops r h
theorem Hws.self : ∀ {rows : List Nat}, Hws rows → ∀ r ∈ rows, clr rows r = 0
  | [], _, r, h => by cases h
  | s :: rs, R, r, h => by
    have hp := List.pairwise_cons.mp R.red
    have R' : Hws rs := ⟨fun t ht => R.nz t (.tail _ ht), hp.2⟩
    rw [clr_cons]
    rcases List.mem_cons.mp h with rfl | h
    · rw [testBit_top (R.nz r (.head _))]
      simp [bx, clr_zero]
    · rw [hp.1 r h]
      simp only [bx, Bool.false_eq_true, if_false, Nat.xor_zero]
      exact R'.self r h
theorem Hws.span {rows : List Nat} (R : Hws rows) {x : Nat} : Spn rows x ↔ clr rows x = 0 := by
  constructor
  · intro h
    induction h with
    | zero => exact clr_zero rows
    | add hw _ ih => rw [clr_xor, ih, R.self _ hw]; rfl
  · intro h
    have := spn_clr rows x
    rwa [h, Nat.xor_zero] at this
theorem Hws.step {rows : List Nat} (R : Hws rows) (w : Nat) : Hws (rwstep rows w) := by
  unfold rwstep
  split
  · exact R
  · rename_i h
    refine ⟨fun r hr => ?_, List.pairwise_append.mpr ⟨R.red, by simp, fun r hr s hs => ?_⟩⟩
    · rcases List.mem_append.mp hr with hr | hr
      · exact R.nz r hr
      · rcases List.mem_singleton.mp hr with rfl; exact h
    · rcases List.mem_singleton.mp hs with rfl
      exact R.tops r hr
theorem Hws.ind {rows : List Nat} (R : Hws rows) : Ind rows := by
  have : ∀ n (l : List Nat), l.length = n → Hws l → Ind l := by
    intro n
    induction n with
    | zero => intro l hl _; rw [List.length_eq_zero_iff.mp hl]; exact .nil
    | succ n ih =>
      intro l hl L
      have hne : l ≠ [] := fun e => by rw [e] at hl; cases hl
      have e := List.dropLast_concat_getLast hne
      rw [← e] at L ⊢
      have hp := List.pairwise_append.mp L.red
      have L' : Hws l.dropLast := ⟨fun r hr => L.nz r (List.mem_append_left _ hr), hp.1⟩
      refine .snoc (ih _ (by rw [List.length_dropLast, hl]; rfl) L') fun hs => ?_
      have z := L'.span.mp hs
      rw [clr_of_none fun r hr => hp.2.2 r hr _ (List.mem_singleton_self _)] at z
      exact L.nz _ (List.mem_append_right _ (List.mem_singleton_self _)) z
  exact this _ rows rfl R
theorem rws_hws (ws : List Nat) : Hws (rws ws) := snoc_rec (p := fun l => Hws (rws l)) Hws.nil (fun a x ih => by rw [rws_snoc]; exact ih.step x) ws
/-- a word against what is left of it -/
theorem span_trade {rows : List Nat} {w l : Nat} (h : Spn rows (w ^^^ l)) (x : Nat) : Spn (rows ++ [l]) x ↔ Spn (rows ++ [w]) x := by
  rw [span_snoc, span_snoc]
  have e : ∀ a c : Nat, Spn rows (a ^^^ c) → Spn rows (x ^^^ a) → Spn rows (x ^^^ c) := fun a c h1 h2 => by
    have := h2.xor h1
    rwa [Nat.xor_assoc, xor_cancel] at this
  constructor
  · rintro (z | z)
    · exact .inl z
    · exact .inr (e l w (by rw [Nat.xor_comm]; exact h) z)
  · rintro (z | z)
    · exact .inl z
    · exact .inr (e w l h z)
theorem rwstep_span (rows : List Nat) (w x : Nat) : Spn (rwstep rows w) x ↔ Spn (rows ++ [w]) x := by
  have hw := spn_clr rows w
  unfold rwstep
  split
  · rename_i h
    rw [h, Nat.xor_zero] at hw
    rw [span_snoc]
    constructor
    · exact .inl
    · rintro (z | z)
      · exact z
      · have := z.xor hw
        rwa [xor_cancel_right] at this
  · exact span_trade hw x
theorem rws_span (ws : List Nat) : ∀ x, Spn (rws ws) x ↔ Spn ws x := snoc_rec (p := fun l => ∀ x, Spn (rws l) x ↔ Spn l x) (fun x => Iff.rfl) (fun a w ih x => by rw [rws_snoc, rwstep_span, span_app ih]) ws
theorem rws_len (ws : List Nat) : (rws ws).length = rk ws := by rw [← (rws_hws ws).ind.rk]; exact rk_eq (rws_span ws)
theorem rws_len_le (ws : List Nat) : (rws ws).length ≤ ws.length := by rw [rws_len]; exact rk_len ws
/-! ### all sums of some words -/
def sev (rows : List Nat) : List Nat := rows.foldl (fun f w => f ++ f.map fun x => x ^^^ w) [0]
theorem sev_snoc (a : List Nat) (w : Nat) : sev (a ++ [w]) = sev a ++ (sev a).map fun x => x ^^^ w := List.foldl_append ..
theorem sev_len (rows : List Nat) : (sev rows).length = 2 ^ rows.length := snoc_rec (p := fun l => (sev l).length = 2 ^ l.length) rfl (fun a w ih => by
  rw [sev_snoc, List.length_append, List.length_map, ih, List.length_append, List.length_singleton, Nat.pow_succ]; omega) rows
theorem sev_mem (rows : List Nat) : ∀ x, x ∈ sev rows ↔ Spn rows x := snoc_rec (p := fun l => ∀ x, x ∈ sev l ↔ Spn l x) (fun x => by
    show x ∈ [0] ↔ _
    rw [List.mem_singleton]
    exact ⟨fun h => by rw [h]; exact .zero, fun h => h.nil⟩) (fun a w ih x => by
  rw [sev_snoc, List.mem_append, ih, span_snoc]
  constructor
  · rintro (h | h)
    · exact .inl h
    · obtain ⟨y, hy, rfl⟩ := List.mem_map.mp h
      rw [xor_cancel_right]
      exact .inr ((ih y).mp hy)
  · rintro (h | h)
    · exact .inl h
    · exact .inr (List.mem_map.mpr ⟨_, (ih _).mpr h, xor_cancel_right x w⟩)) rows
theorem nodup_xor {l : List Nat} (h : l.Nodup) (w : Nat) : (l.map fun x => x ^^^ w).Nodup := by
  unfold List.Nodup
  rw [List.pairwise_map]
  exact h.imp fun n e => n (by have := congrArg (· ^^^ w) e; simpa [xor_cancel_right] using this)
theorem nodup_xorL {l : List Nat} (h : l.Nodup) (w : Nat) : (l.map fun x => w ^^^ x).Nodup := by
  have : (l.map fun x => w ^^^ x) = l.map fun x => x ^^^ w := List.map_congr_left fun x _ => Nat.xor_comm w x
  rw [this]; exact nodup_xor h w
theorem sev_nodup {rows : List Nat} (h : Ind rows) : (sev rows).Nodup := by
  induction h with
  | nil => show [0].Nodup; simp
  | @snoc a w _ hw ih =>
    rw [sev_snoc]
    refine List.nodup_append.mpr ⟨ih, nodup_xor ih w, fun x hx y hy e => hw ?_⟩
    subst e
    obtain ⟨z, hz, e⟩ := List.mem_map.mp hy
    have c := ((sev_mem a _).mp hx).xor ((sev_mem a _).mp hz)
    rw [← e] at c
    have e2 : z ^^^ w ^^^ z = w := by rw [Nat.xor_comm z w, xor_cancel_right]
    rwa [e2] at c
/-! ### the meet, as a span -/
theorem mtd_span {b : Nat} {A B : List Nat} (lt : ∀ x ∈ A, x < 2 ^ b) (x : Nat) : Spn (mtd b A B) x ↔ Spn A x ∧ Spn B x := by
  have L1 : Lin (fun r => (r <<< b) ^^^ r) := ⟨by simp, fun a c => by rw [Nat.shiftLeft_xor_distrib, xor4]⟩
  have L2 : Lin (fun r => r <<< b) := ⟨by simp, fun a c => Nat.shiftLeft_xor_distrib⟩
  have e1 : (A.map fun r => (r <<< b) + r) = A.map fun r => (r <<< b) ^^^ r := List.map_congr_left fun r hr => add_eq_xor (lt r hr)
  unfold mtd
  rw [(spn_rws _).low_span, spn_span]
  unfold mts
  rw [e1]
  constructor
  · rintro ⟨h, hx⟩
    obtain ⟨p, q, h1, h2, rfl⟩ := span_split h
    obtain ⟨y, hy, rfl⟩ := L1.back h1
    obtain ⟨z, hz, rfl⟩ := L2.back h2
    have hyb := hy.lt lt
    have e2 : (y <<< b ^^^ y) ^^^ z <<< b = ((y ^^^ z) <<< b) ^^^ y := by
      rw [Nat.shiftLeft_xor_distrib, Nat.xor_assoc, Nat.xor_comm y, ← Nat.xor_assoc]
    have hx' : ((y ^^^ z) <<< b) ^^^ y < 2 ^ b := by rw [← e2]; exact hx
    have hs : (y ^^^ z) <<< b < 2 ^ b := by
      have := Nat.xor_lt_two_pow hx' hyb
      rwa [xor_cancel_right] at this
    have z0 : y ^^^ z = 0 := by
      rw [Nat.shiftLeft_eq] at hs
      have pb := Nat.two_pow_pos b
      rcases Nat.eq_zero_or_pos (y ^^^ z) with h0 | h0
      · exact h0
      · have : 1 * 2 ^ b ≤ (y ^^^ z) * 2 ^ b := Nat.mul_le_mul_right _ h0
        omega
    show Spn A ((y <<< b ^^^ y) ^^^ z <<< b) ∧ Spn B ((y <<< b ^^^ y) ^^^ z <<< b)
    rw [e2, z0, Nat.zero_shiftLeft, Nat.zero_xor]
    exact ⟨hy, by rw [xor_eq_zero z0]; exact hz⟩
  · rintro ⟨h1, h2⟩
    refine ⟨?_, h1.lt lt⟩
    have a := (L1.spn h1).sub (vs := A.map (fun r => (r <<< b) ^^^ r) ++ B.map fun r => r <<< b) fun z hz => List.mem_append_left _ hz
    have c := (L2.spn h2).sub (vs := A.map (fun r => (r <<< b) ^^^ r) ++ B.map fun r => r <<< b) fun z hz => List.mem_append_right _ hz
    have d := a.xor c
    have e3 : (x <<< b ^^^ x) ^^^ x <<< b = x := by rw [Nat.xor_comm (x <<< b) x, xor_cancel_right]
    have d' : Spn (A.map (fun r => (r <<< b) ^^^ r) ++ B.map fun r => r <<< b) ((x <<< b ^^^ x) ^^^ x <<< b) := d
    rwa [e3] at d'
/-! ### what a lane lacks, by counting -/
theorem len_of_mem {l m : List Nat} (h1 : l.Nodup) (h2 : m.Nodup) (h : ∀ x, x ∈ l ↔ x ∈ m) : l.length = m.length :=
  Nat.le_antisymm (nodup_sub_len h1 fun x hx => (h x).mp hx) (nodup_sub_len h2 fun x hx => (h x).mpr hx)
theorem filter_not_len (l : List Nat) (p : Nat → Bool) : (l.filter fun x => !p x).length = l.length - (l.filter p).length := by
  have := filter_two p l
  omega
section
variable {b : Nat} {ss os : List Nat}
def shr (ss os : List Nat) : Nat := rk ss + rk os - rk (ss ++ os)
theorem mtd_shr (hs : ∀ x ∈ ss, x < 2 ^ b) : (mtd b (spn ss) (spn os)).length = shr ss os := by
  have a := mtd_len (b := b) (spn_rws ss) (spn_rws os) (spn_lt hs)
  have e : rk (spn ss ++ spn os) = rk (ss ++ os) := rk_eq fun x => span_app2 (spn_span ss) (spn_span os)
  rw [e] at a
  unfold shr
  have h1 : (spn ss).length = rk ss := rfl
  have h2 : (spn os).length = rk os := rfl
  omega
/-- of the sums of os those that lie in a coset of ss -/
theorem count_in (hs : ∀ x ∈ ss, x < 2 ^ b) {T : List Nat} (nd : T.Nodup) (mem : ∀ x, x ∈ T ↔ Spn os x) {d : Nat} (hd : Spn (ss ++ os) d) {q : Nat → Bool} (hq : ∀ w, q w = true ↔ Spn ss (d ^^^ w)) : (T.filter q).length = 2 ^ shr ss os := by
  obtain ⟨s, o, h1, h2, rfl⟩ := span_split hd
  rw [← mtd_shr hs, ← sev_len]
  have e : (sev (mtd b (spn ss) (spn os))).length = ((sev (mtd b (spn ss) (spn os))).map fun x => x ^^^ o).length := by simp
  rw [e]
  refine len_of_mem (nd.filter _) (nodup_xor (sev_nodup (mtd_rws _ _ _).ind) o) fun x => ?_
  rw [List.mem_filter, mem, hq, List.mem_map]
  have key : ∀ y, Spn (mtd b (spn ss) (spn os)) y ↔ Spn ss y ∧ Spn os y := fun y => by rw [mtd_span (spn_lt hs), spn_span, spn_span]
  constructor
  · rintro ⟨h3, h4⟩
    refine ⟨x ^^^ o, (sev_mem _ _).mpr ((key _).mpr ⟨?_, h3.xor h2⟩), xor_cancel_right _ _⟩
    have := h1.xor h4
    rw [Nat.xor_assoc, xor_cancel, Nat.xor_comm] at this
    exact this
  · rintro ⟨y, hy, rfl⟩
    have := (key y).mp ((sev_mem _ _).mp hy)
    refine ⟨this.2.xor h2, ?_⟩
    have e : s ^^^ o ^^^ (y ^^^ o) = s ^^^ y := by rw [xor4, Nat.xor_self, Nat.xor_zero]
    rw [e]
    exact h1.xor this.1
theorem count_out {T : List Nat} (mem : ∀ x, x ∈ T ↔ Spn os x) {d : Nat} (hd : ¬ Spn (ss ++ os) d) {q : Nat → Bool} (hq : ∀ w, q w = true ↔ Spn ss (d ^^^ w)) : (T.filter q).length = 0 := by
  rw [List.length_eq_zero_iff, List.filter_eq_nil_iff]
  intro w hw z
  refine hd ?_
  have a := ((hq w).mp z).sub (vs := ss ++ os) fun y hy => List.mem_append_left _ hy
  have c := ((mem w).mp hw).sub (vs := ss ++ os) fun y hy => List.mem_append_right _ hy
  have := a.xor c
  rwa [xor_cancel_right] at this
end
/-- the entries of a lane, by listing -/
def lot (ss ls : List Nat) (L : Nat) : List Nat := (sev (rws ss)).map fun w => img ls L ^^^ w
theorem sevr_mem (ss : List Nat) (x : Nat) : x ∈ sev (rws ss) ↔ Spn ss x := by rw [sev_mem, rws_span]
theorem lot_mem (ss ls : List Nat) (L e : Nat) : e ∈ lot ss ls L ↔ Spn ss (img ls L ^^^ e) := by
  unfold lot
  rw [List.mem_map]
  constructor
  · rintro ⟨w, hw, rfl⟩
    rw [xor_cancel]; exact (sevr_mem ss w).mp hw
  · intro h
    exact ⟨_, (sevr_mem ss _).mpr h, xor_cancel _ _⟩
def lsm (ls ps : List Nat) : List Nat := (List.range ls.length).map fun i => ls.getD i 0 ^^^ ps.getD i 0
theorem lsm_len (ls ps : List Nat) : (lsm ls ps).length = ls.length := by simp [lsm]
theorem img_lsm {ls ps : List Nat} (h : ls.length = ps.length) (L : Nat) : img (lsm ls ps) L = img ls L ^^^ img ps L := by
  unfold img
  rw [lsm_len, ← h]
  exact imf_add fun i hi => map_range_getD _ hi
def due (ss ls os ps : List Nat) (L : Nat) : Nat := ((lot os ps L).filter fun e => !decide (e ∈ lot ss ls L)).length
open Classical in
theorem due_eq {b : Nat} {ss ls os ps : List Nat} (hs : ∀ x ∈ ss, x < 2 ^ b) (h : ls.length = ps.length) (L : Nat) : due ss ls os ps L = if Spn (ss ++ os) (img (lsm ls ps) L) then 2 ^ rk os - 2 ^ shr ss os else 2 ^ rk os := by
  unfold due
  rw [filter_not_len]
  have nd := sev_nodup (rws_hws os).ind
  have hq : ∀ w, (fun w => decide (img ps L ^^^ w ∈ lot ss ls L)) w = true ↔ Spn ss (img (lsm ls ps) L ^^^ w) := fun w => by
    rw [decide_eq_true_iff, lot_mem, img_lsm h, Nat.xor_assoc]
  have e : ((lot os ps L).filter fun e => decide (e ∈ lot ss ls L)).length = ((sev (rws os)).filter fun w => decide (img ps L ^^^ w ∈ lot ss ls L)).length := by
    unfold lot
    rw [List.filter_map, List.length_map]
    rfl
  have l : (lot os ps L).length = 2 ^ rk os := by
    unfold lot
    rw [List.length_map, sev_len, rws_len]
  rw [e, l]
  split
  · rename_i hd
    rw [count_in hs nd (sevr_mem os) hd hq]
  · rename_i hd
    rw [count_out (sevr_mem os) hd hq, Nat.sub_zero]
/-! ### the least lane that keeps nothing -/
/-- j is the least bit that is no row's highest -/
def Mis (rows : List Nat) (j : Nat) : Prop := (∀ i, i < j → ∃ r ∈ rows, blen r - 1 = i) ∧ ∀ r ∈ rows, blen r - 1 ≠ j
theorem mis_le {rows : List Nat} {j : Nat} (h : ∀ i, i < j → ∃ r ∈ rows, blen r - 1 = i) : j ≤ rows.length := by
  have := nodup_sub_len (l := List.range j) (m := rows.map fun r => blen r - 1) List.nodup_range fun i hi => by
    obtain ⟨r, hr, e⟩ := h i (List.mem_range.mp hi)
    exact List.mem_map.mpr ⟨r, hr, e⟩
  simpa using this
theorem Mis.below {rows : List Nat} (R : Rws rows) {j : Nat} (h : Mis rows j) {x : Nat} (hx : x < 2 ^ j) : Spn rows x := by
  have F := R.low j
  have l : j ≤ (rows.filter fun r => decide (blen r ≤ j)).length := mis_le fun i hi => by
    obtain ⟨r, hr, e⟩ := h.1 i hi
    have := blen_pos (R.nz r hr)
    exact ⟨r, List.mem_filter.mpr ⟨hr, decide_eq_true (by omega)⟩, e⟩
  have := in_full (ws := rows.filter fun r => decide (blen r ≤ j)) (b := j) (fun w hw => blen_le.mp (of_decide_eq_true (List.mem_filter.mp hw).2)) (by rw [spn_id F]; exact l) hx
  exact this.sub fun z hz => (List.mem_filter.mp hz).1
theorem Mis.at_ {rows : List Nat} (R : Rws rows) {j : Nat} (h : Mis rows j) : ¬ Spn rows (2 ^ j) := fun z => by
  obtain ⟨r, hr, e⟩ := R.top_mem z (Nat.ne_of_gt (Nat.two_pow_pos j))
  have e2 : blen (2 ^ j) = j + 1 := by rw [← Nat.one_shiftLeft]; exact blen_unit j
  exact h.2 r hr (by omega)
theorem allin_img {S W : List Nat} (h : ∀ w ∈ W, Spn S w) (L : Nat) : Spn S (img W L) := by
  unfold img
  generalize W.length = n
  induction n with
  | zero => exact .zero
  | succ n ih =>
    rw [imf_succ]
    split
    · refine ih.xor ?_
      by_cases hn : n < W.length
      · exact h _ (getD_mem hn)
      · rw [List.getD_eq_getElem?_getD, List.getElem?_eq_none (by omega)]; exact .zero
    · exact ih
open Classical in
/-- fewest rounds -/
noncomputable def fwr (ss ls os ps : List Nat) : Nat := if ∀ w ∈ lsm ls ps, Spn (ss ++ os) w then 2 ^ rk os - 2 ^ shr ss os else 2 ^ rk os
section
variable {b : Nat} {ss ls os ps : List Nat} (hs : ∀ x ∈ ss, x < 2 ^ b) (hl : ls.length = ps.length)
include hs hl
open Classical in
theorem due_le (L : Nat) : due ss ls os ps L ≤ fwr ss ls os ps := by
  rw [due_eq hs hl]
  unfold fwr
  by_cases h : ∀ w ∈ lsm ls ps, Spn (ss ++ os) w
  · rw [if_pos h, if_pos (allin_img h L)]; exact Nat.le_refl _
  · rw [if_neg h]
    split
    · exact Nat.sub_le _ _
    · exact Nat.le_refl _
theorem due_all (h : ∀ w ∈ lsm ls ps, Spn (ss ++ os) w) (L : Nat) : due ss ls os ps L = fwr ss ls os ps := by
  rw [due_eq hs hl]
  unfold fwr
  rw [if_pos h, if_pos (allin_img h L)]
theorem due_short {j : Nat} (h : ¬ ∀ w ∈ lsm ls ps, Spn (ss ++ os) w) (hj : Mis (ker ((lsm ls ps).map (clr (spn (ss ++ os))))) j) :
    j < ls.length ∧ due ss ls os ps (2 ^ j) = fwr ss ls os ps ∧ ∀ L, L < 2 ^ j → due ss ls os ps L ≠ fwr ss ls os ps := by
  have R := ker_rws ((lsm ls ps).map (clr (spn (ss ++ os))))
  have sp := span_clr_img (ss ++ os) (lsm ls ps)
  rw [lsm_len] at sp
  have jl : j < ls.length := by
    refine Nat.lt_of_not_le fun q => h fun w hw => ?_
    obtain ⟨i, hi, rfl⟩ := List.mem_map.mp hw
    have hi := List.mem_range.mp hi
    have u := (sp (2 ^ i)).mp (hj.below R (Nat.pow_lt_pow_right (by decide) (by omega)))
    have e := img_unit (lsm ls ps) (i := i) (by rw [lsm_len]; exact hi)
    have u2 := u.2
    rw [e] at u2
    have e2 : (lsm ls ps).getD i 0 = ls.getD i 0 ^^^ ps.getD i 0 := map_range_getD _ hi
    rwa [e2] at u2
  refine ⟨jl, ?_, fun L hL => ?_⟩
  · rw [due_eq hs hl]
    unfold fwr
    rw [if_neg h, if_neg fun z => hj.at_ R ((sp _).mpr ⟨Nat.pow_lt_pow_right (by decide) jl, z⟩)]
  · rw [due_eq hs hl]
    unfold fwr
    rw [if_neg h, if_pos ((sp _).mp (hj.below R hL)).2]
    have := Nat.two_pow_pos (rk os)
    have := Nat.two_pow_pos (shr ss os)
    omega
end
end LaneX
set_option linter.all false
namespace LaneX
/-! ### the lane of a word; steps of hops (k24) -/
theorem slv_xor (cs : List Nat) (g h : Nat) : slv cs (g ^^^ h) = slv cs g ^^^ slv cs h := by
  unfold slv
  rw [Nat.shiftLeft_xor_distrib, clr_xor]
theorem slv_zero (cs : List Nat) : slv cs 0 = 0 := by unfold slv; rw [Nat.zero_shiftLeft, clr_zero]
theorem lin_slv (cs : List Nat) : Lin (slv cs) := ⟨slv_zero cs, slv_xor cs⟩
/-- the columns of the lanes, beside the slots -/
def lcs (ss ls : List Nat) : List Nat := ls.map (clr (spn ss))
theorem lcs_len (ss ls : List Nat) : (lcs ss ls).length = ls.length := by simp [lcs]
/-- the least lane that holds a word -/
def lno (ss ls : List Nat) (w : Nat) : Nat := slv (lcs ss ls) (clr (spn ss) w)
theorem lin_lno (ss ls : List Nat) : Lin (lno ss ls) := (lin_slv _).comp (lin_clr _)
/-- a lane's word beside the slots -/
def lph (ss ls : List Nat) (x : Nat) : Nat := clr (spn ss) (img ls x)
theorem lin_lph (ss ls : List Nat) : Lin (lph ss ls) := (lin_clr _).comp (lin_img ls)
theorem lph_zero {ss ls : List Nat} {x : Nat} : lph ss ls x = 0 ↔ Spn ss (img ls x) := clr_spn_zero
theorem img_lcs (ss ls : List Nat) (x : Nat) : img (lcs ss ls) x = lph ss ls x := img_map (lin_clr _) ls x
section
variable {b : Nat} {ss ls : List Nat} (hs : ∀ x ∈ ss, x < 2 ^ b) (hl : ∀ x ∈ ls, x < 2 ^ b) (hb : b ≤ rk (ss ++ ls))
include hs hl hb
theorem lcs_span {w : Nat} (hw : w < 2 ^ b) : Spn (lcs ss ls) (clr (spn ss) w) := by
  refine ((red_clr ss).mem w).mpr (in_full (fun z hz => ?_) hb hw)
  rcases List.mem_append.mp hz with hz | hz
  · exact hs z hz
  · exact hl z hz
theorem lno_ok {w : Nat} (hw : w < 2 ^ b) : lno ss ls w < 2 ^ ls.length ∧ lph ss ls (lno ss ls w) = clr (spn ss) w := by
  have a := slv_ok (lcs_span hs hl hb hw)
  rw [lcs_len, img_lcs] at a
  exact a
theorem lno_span {w : Nat} (hw : w < 2 ^ b) : Spn ss (img ls (lno ss ls w) ^^^ w) := by
  have a := (lno_ok hs hl hb hw).2
  unfold lph at a
  rw [← clr_spn_zero, clr_xor, a, Nat.xor_self]
end
/-- the distances that hops must go -/
def dst (ss ls os ps : List Nat) : List Nat := os.map (lno ss ls) ++ (List.range ps.length).map fun i => lno ss ls (ps.getD i 0) ^^^ 2 ^ i
def nst (ss ls os ps : List Nat) : List Nat := cmpl (twn ss ls) (spn (twn ss ls ++ dst ss ls os ps))
theorem map_span {φ : Nat → Nat} (L : Lin φ) {A B : List Nat} (h : ∀ x, Spn A x ↔ Spn B x) (z : Nat) : Spn (A.map φ) z ↔ Spn (B.map φ) z := by
  constructor
  · intro hz
    obtain ⟨y, hy, rfl⟩ := L.back hz
    exact L.spn ((h y).mp hy)
  · intro hz
    obtain ⟨y, hy, rfl⟩ := L.back hz
    exact L.spn ((h y).mpr hy)
theorem twn_lt {ss ls : List Nat} {x : Nat} (h : Spn (twn ss ls) x) : x < 2 ^ ls.length := ((twn_span ss ls x).mp h).1
theorem twn_ker {ss ls : List Nat} {x : Nat} (h : Spn (twn ss ls) x) : lph ss ls x = 0 := lph_zero.mpr ((twn_span ss ls x).mp h).2
section
variable {b : Nat} {ss ls os ps : List Nat} (hs : ∀ x ∈ ss, x < 2 ^ b) (hl : ∀ x ∈ ls, x < 2 ^ b) (hb : b ≤ rk (ss ++ ls)) (ho : ∀ x ∈ os, x < 2 ^ b) (hp : ∀ x ∈ ps, x < 2 ^ b) (hn : ls.length = ps.length)
include hs hl hb ho hp hn
theorem dst_lt : ∀ x ∈ dst ss ls os ps, x < 2 ^ ls.length := fun x hx => by
  rcases List.mem_append.mp hx with hx | hx
  · obtain ⟨w, hw, rfl⟩ := List.mem_map.mp hx
    exact (lno_ok hs hl hb (ho w hw)).1
  · obtain ⟨i, hi, rfl⟩ := List.mem_map.mp hx
    have hi := List.mem_range.mp hi
    exact Nat.xor_lt_two_pow (lno_ok hs hl hb (hp _ (getD_mem hi))).1 (Nat.pow_lt_pow_right (by decide) (by omega))
theorem dst_lph : (dst ss ls os ps).map (lph ss ls) = (os ++ lsm ls ps).map (clr (spn ss)) := by
  unfold dst
  rw [List.map_append, List.map_map, List.map_append]
  congr 1
  · exact List.map_congr_left fun w hw => (lno_ok hs hl hb (ho w hw)).2
  · unfold lsm
    rw [List.map_map, List.map_map, hn]
    refine List.map_congr_left fun i hi => ?_
    have hi := List.mem_range.mp hi
    show lph ss ls (lno ss ls (ps.getD i 0) ^^^ 2 ^ i) = clr (spn ss) (ls.getD i 0 ^^^ ps.getD i 0)
    rw [(lin_lph ss ls).x, (lno_ok hs hl hb (hp _ (getD_mem hi))).2, clr_xor, Nat.xor_comm]
    congr 1
    unfold lph
    rw [img_unit ls (by omega)]
theorem all_lt {x : Nat} (h : Spn (twn ss ls ++ dst ss ls os ps) x) : x < 2 ^ ls.length := h.lt fun w hw => by
  rcases List.mem_append.mp hw with hw | hw
  · exact twn_lt (.of hw)
  · exact dst_lt hs hl hb ho hp hn w hw
/-- as many steps as the words that slots do not lead to -/
theorem nst_len : (nst ss ls os ps).length = rk (ss ++ (os ++ lsm ls ps)) - rk ss := by
  have R : Rws (twn ss ls) := spn_rws _
  have i := cmpl_ind R (spn (twn ss ls ++ dst ss ls os ps)) (lin_lph ss ls) fun y hy z => by
    have hy := (spn_span _ y).mp hy
    exact (twn_span ss ls y).mpr ⟨all_lt hs hl hb ho hp hn hy, lph_zero.mp z⟩
  have a : rk ((nst ss ls os ps).map (lph ss ls)) = (nst ss ls os ps).length := by
    have := i.rk
    rw [List.length_map] at this
    exact this
  have e : ∀ z, Spn ((nst ss ls os ps).map (lph ss ls)) z ↔ Spn ((dst ss ls os ps).map (lph ss ls)) z := fun z => by
    have cs := cms_span R (spn (twn ss ls ++ dst ss ls os ps))
    have key : ∀ x, Spn (twn ss ls ++ nst ss ls os ps) x ↔ Spn (twn ss ls ++ dst ss ls os ps) x := fun x => by
      have c1 := cs.1 x
      have c2 := cs.2 x
      have c3 : Spn (twn ss ls ++ spn (twn ss ls ++ dst ss ls os ps)) x ↔ Spn (twn ss ls ++ dst ss ls os ps) x := by
        constructor
        · refine fun h => h.mono fun y hy => ?_
          rcases List.mem_append.mp hy with hy | hy
          · exact .of (List.mem_append_left _ hy)
          · exact (spn_span _ y).mp (.of hy)
        · exact fun h => ((spn_span _ x).mpr h).sub fun y hy => List.mem_append_right _ hy
      exact c2.symm.trans (c1.trans c3)
    have dropT : ∀ (D : List Nat), Spn ((twn ss ls ++ D).map (lph ss ls)) z ↔ Spn (D.map (lph ss ls)) z := fun D => by
      rw [List.map_append]
      constructor
      · refine fun h => h.mono fun y hy => ?_
        rcases List.mem_append.mp hy with hy | hy
        · obtain ⟨t, ht, rfl⟩ := List.mem_map.mp hy
          rw [twn_ker (.of ht)]; exact .zero
        · exact .of hy
      · exact fun h => h.sub fun y hy => List.mem_append_right _ hy
    rw [← dropT, map_span (lin_lph ss ls) key, dropT]
  have r := rk_eq e
  rw [dst_lph hs hl hb ho hp hn] at r
  have q := (red_clr ss).rk (os ++ lsm ls ps)
  omega
theorem nst_mem : ∀ x ∈ nst ss ls os ps, x < 2 ^ ls.length := fun x hx => all_lt hs hl hb ho hp hn ((spn_span _ x).mp (.of (cmpl_mem _ x hx)))
theorem nst_span (x : Nat) : Spn (nst ss ls os ps ++ twn ss ls) x ↔ Spn (twn ss ls ++ dst ss ls os ps) x := by
  have R : Rws (twn ss ls) := spn_rws _
  have cs := cms_span R (spn (twn ss ls ++ dst ss ls os ps))
  rw [span_swap]
  refine (cs.2 x).symm.trans ((cs.1 x).trans ?_)
  constructor
  · refine fun h => h.mono fun y hy => ?_
    rcases List.mem_append.mp hy with hy | hy
    · exact .of (List.mem_append_left _ hy)
    · exact (spn_span _ y).mp (.of hy)
  · exact fun h => ((spn_span _ x).mpr h).sub fun y hy => List.mem_append_right _ hy
/-- a wanted entry's lane is reached by the steps -/
theorem reach {lane e : Nat} (h : lane < 2 ^ ls.length) (he : Spn os (e ^^^ img ps lane)) : Spn (nst ss ls os ps ++ twn ss ls) (lane ^^^ lno ss ls e) := by
  rw [nst_span hs hl hb ho hp hn]
  -- lane ^ lno (img ps lane) by the distances of the lanes
  have a : ∀ n, n ≤ ps.length → ∀ x, x < 2 ^ n → Spn (dst ss ls os ps) (x ^^^ lno ss ls (img ps x)) := by
    intro n
    induction n with
    | zero =>
      intro _ x hx
      have : x = 0 := by simpa using hx
      subst this
      rw [(lin_img ps).z, (lin_lno ss ls).z, Nat.xor_zero]; exact .zero
    | succ n ih =>
      intro hn' x hx
      rcases bit_split hx with q | ⟨q, hb'⟩
      · exact ih (by omega) x q
      · have i1 := ih (by omega) _ q
        have i2 : Spn (dst ss ls os ps) (lno ss ls (ps.getD n 0) ^^^ 2 ^ n) := .of (List.mem_append_right _ (List.mem_map.mpr ⟨n, List.mem_range.mpr (by omega), rfl⟩))
        have i3 := i1.xor i2
        rw [(lin_img ps).x, img_unit ps (by omega), (lin_lno ss ls).x] at i3
        have e1 : x ^^^ 2 ^ n ^^^ (lno ss ls (img ps x) ^^^ lno ss ls (ps.getD n 0)) ^^^ (lno ss ls (ps.getD n 0) ^^^ 2 ^ n) = x ^^^ lno ss ls (img ps x) := by
          rw [Nat.xor_comm (lno ss ls (ps.getD n 0)) (2 ^ n), xor4, xor_cancel_right, xor_cancel_right]
        rwa [e1] at i3
  have b1 := a ps.length (Nat.le_refl _) lane (by rw [← hn]; exact h)
  have b2 : Spn (dst ss ls os ps) (lno ss ls (e ^^^ img ps lane)) := ((lin_lno ss ls).spn he).sub fun z hz => List.mem_append_left _ hz
  have c := b1.xor b2
  rw [(lin_lno ss ls).x] at c
  have e2 : lane ^^^ lno ss ls (img ps lane) ^^^ (lno ss ls e ^^^ lno ss ls (img ps lane)) = lane ^^^ lno ss ls e := by rw [xor4, Nat.xor_self, Nat.xor_zero]
  rw [e2] at c
  exact c.sub fun z hz => List.mem_append_right _ hz
end
/-! ### a route -/
/-- the lanes of a route -/
def rte (st : List Nat) (lane c : Nat) (k : Nat) : Nat := (lane ^^^ img st c) ^^^ imf st c k
theorem rte_zero (st : List Nat) (lane c : Nat) : rte st lane c 0 = lane ^^^ img st c := by
  unfold rte
  have : imf st c 0 = 0 := rfl
  rw [this, Nat.xor_zero]
theorem rte_last (st : List Nat) (lane c : Nat) : rte st lane c st.length = lane := by
  unfold rte
  have : imf st c st.length = img st c := rfl
  rw [this, xor_cancel_right]
theorem rte_step (st : List Nat) (lane c k : Nat) : rte st lane c (k + 1) = if c.testBit k = true then rte st lane c k ^^^ st.getD k 0 else rte st lane c k := by
  unfold rte
  rw [imf_succ]
  split
  · rw [Nat.xor_assoc (lane ^^^ img st c)]
  · rfl
theorem rte_lt {st : List Nat} {n lane c : Nat} (h : ∀ x ∈ st, x < 2 ^ n) (hl : lane < 2 ^ n) (k : Nat) : rte st lane c k < 2 ^ n :=
  Nat.xor_lt_two_pow (Nat.xor_lt_two_pow hl (imf_lt h _ _)) (imf_lt h _ _)
/-- the first part of a sum -/
theorem img_mask {P Q : List Nat} {x : Nat} (h : x < 2 ^ (P ++ Q).length) : ∃ y, y < 2 ^ Q.length ∧ img (P ++ Q) x = img P (x &&& (2 ^ P.length - 1)) ^^^ img Q y := by
  have e1 : x &&& (2 ^ P.length - 1) = x % 2 ^ P.length := Nat.and_two_pow_sub_one_eq_mod x P.length
  have lt : x % 2 ^ P.length < 2 ^ P.length := Nat.mod_lt _ (Nat.two_pow_pos _)
  refine ⟨x >>> P.length, ?_, ?_⟩
  · rw [Nat.shiftRight_eq_div_pow, Nat.div_lt_iff_lt_mul (Nat.two_pow_pos _), ← Nat.pow_add, Nat.add_comm, ← List.length_append]
    exact h
  · rw [e1, ← img_app lt]
    congr 1
    apply Nat.eq_of_testBit_eq
    intro i
    rw [Nat.testBit_xor, Nat.testBit_mod_two_pow, Nat.testBit_shiftLeft, Nat.testBit_shiftRight]
    by_cases hi : i < P.length
    · have : decide (i ≥ P.length) = false := by simp; omega
      rw [this]; simp [hi]
    · have : decide (i ≥ P.length) = true := by simp; omega
      rw [this, show P.length + (i - P.length) = i by omega]; simp [hi]
end LaneX
set_option linter.all false
namespace LaneX
/-! ### plans of rounds (k18, k19) -/
theorem img_inj {A : List Nat} (h : rk A = A.length) {x : Nat} (hx : x < 2 ^ A.length) (z : img A x = 0) : x = 0 := by
  have k := ker_len_eq A
  have e : ker A = [] := List.length_eq_zero_iff.mp (by omega)
  have := (ker_span A x).mpr ⟨hx, z⟩
  rw [e] at this
  exact this.nil
theorem img_inj2 {A : List Nat} (h : rk A = A.length) {x y : Nat} (hx : x < 2 ^ A.length) (hy : y < 2 ^ A.length) (z : img A x = img A y) : x = y :=
  xor_eq_zero (img_inj h (Nat.xor_lt_two_pow hx hy) (by rw [(lin_img A).x, z, Nat.xor_self]))
/-- what solved tells of a word that is no sum -/
theorem slv_none {cs : List Nat} {g : Nat} (h : ¬ Spn cs g) : 2 ^ cs.length ≤ slv cs g := by
  refine Nat.le_of_not_lt fun z => h ?_
  have a := spn_clr (prd cs) (g <<< cs.length)
  have a : Spn (prs cs) (g <<< cs.length ^^^ slv cs g) := (spn_span _ _).mp a
  obtain ⟨x, hx, e⟩ := prs_fwd cs a
  have e2 := congrArg (fun y => y >>> cs.length) e
  simp only [Nat.shiftRight_xor_distrib, shl_shr] at e2
  rw [Nat.shiftRight_eq_zero _ _ z, Nat.shiftRight_eq_zero _ _ hx, Nat.xor_zero, Nat.xor_zero] at e2
  rw [e2]
  exact img_in cs hx
/-- the part of a word in the first rows -/
def pin (R O : List Nat) (w : Nat) : Nat := img R (slv (R ++ O) w &&& (2 ^ R.length - 1))
theorem pin_ok {R O : List Nat} {w : Nat} (h : Spn (R ++ O) w) : Spn R (pin R O w) ∧ Spn O (w ^^^ pin R O w) := by
  obtain ⟨a, e⟩ := slv_ok h
  obtain ⟨y, hy, e2⟩ := img_mask a
  rw [e] at e2
  have lt : slv (R ++ O) w &&& (2 ^ R.length - 1) < 2 ^ R.length := by
    rw [Nat.and_two_pow_sub_one_eq_mod]; exact Nat.mod_lt _ (Nat.two_pow_pos _)
  refine ⟨img_in R lt, ?_⟩
  have e3 : w ^^^ pin R O w = img O y := by
    unfold pin
    conv => lhs; lhs; rw [e2]
    rw [Nat.xor_comm, xor_cancel]
  rw [e3]
  exact img_in O hy
theorem img_diff {A B S : List Nat} (hl : A.length = B.length) (h : ∀ i, i < A.length → Spn S (A.getD i 0 ^^^ B.getD i 0)) (x : Nat) : Spn S (img A x ^^^ img B x) := by
  rw [← img_lsm hl]
  refine allin_img (fun w hw => ?_) x
  obtain ⟨i, hi, rfl⟩ := List.mem_map.mp hw
  exact h i (List.mem_range.mp hi)
theorem imf_at {A B : List Nat} {x : Nat} : ∀ {n}, (∀ i, i < n → x.testBit i = true → A.getD i 0 = B.getD i 0) → imf A x n = imf B x n
  | 0, _ => rfl
  | n + 1, h => by
    rw [imf_succ, imf_succ, imf_at fun i hi => h i (by omega)]
    split
    · rename_i z
      rw [h n (by omega) z]
    · rfl
theorem img_at {A B : List Nat} {x : Nat} (hl : A.length = B.length) (h : ∀ i, i < A.length → x.testBit i = true → A.getD i 0 = B.getD i 0) : img A x = img B x := by
  unfold img
  rw [← hl]
  exact imf_at h
theorem Rws.rk {R : List Nat} (h : Rws R) : rk R = R.length := spn_id h
/-- A with what completes it to B -/
theorem base_of {A B : List Nat} (R : Rws A) (h : ∀ x ∈ A, Spn B x) : (∀ x, Spn (A ++ cmpl A B) x ↔ Spn B x) ∧ LaneX.rk (A ++ cmpl A B) = (A ++ cmpl A B).length ∧ (A ++ cmpl A B).length = LaneX.rk B := by
  have cs := cms_span R B
  have e : ∀ x, Spn (A ++ B) x ↔ Spn B x := fun x => ⟨fun z => z.mono fun y hy => by
    rcases List.mem_append.mp hy with hy | hy
    · exact h y hy
    · exact .of hy, fun z => z.sub fun y hy => List.mem_append_right _ hy⟩
  have e2 : ∀ x, Spn (A ++ cmpl A B) x ↔ Spn B x := fun x => ((cs.2 x).symm.trans (cs.1 x)).trans (e x)
  have l := cmpl_len R B
  rw [rk_eq e, R.rk] at l
  have l2 : (A ++ cmpl A B).length = LaneX.rk B := by rw [List.length_append]; omega
  exact ⟨e2, (rk_eq e2).trans l2.symm, l2⟩
/-! ### starts that lanes keep -/
def kst (R O ls ps : List Nat) : List Nat := (List.range ls.length).map fun i => ls.getD i 0 ^^^ pin R O ((lsm ls ps).getD i 0)
theorem kst_len (R O ls ps : List Nat) : (kst R O ls ps).length = ls.length := by simp [kst]
theorem kst_at (R O ls ps : List Nat) {i : Nat} (h : i < ls.length) : (kst R O ls ps).getD i 0 = ls.getD i 0 ^^^ pin R O ((lsm ls ps).getD i 0) := map_range_getD _ h
theorem lsm_at {ls ps : List Nat} {i : Nat} (h : i < ls.length) : (lsm ls ps).getD i 0 = ls.getD i 0 ^^^ ps.getD i 0 := map_range_getD _ h
theorem kst_ok {ss ls os ps : List Nat} (hl : ls.length = ps.length) (h : ∀ w ∈ lsm ls ps, Spn (ss ++ os) w) (x : Nat) :
    Spn ss (img (kst (spn ss) (spn os) ls ps) x ^^^ img ls x) ∧ Spn os (img (kst (spn ss) (spn os) ls ps) x ^^^ img ps x) := by
  have key : ∀ i, i < ls.length → Spn ss (pin (spn ss) (spn os) ((lsm ls ps).getD i 0)) ∧ Spn os ((lsm ls ps).getD i 0 ^^^ pin (spn ss) (spn os) ((lsm ls ps).getD i 0)) := fun i hi => by
    have m : (lsm ls ps).getD i 0 ∈ lsm ls ps := getD_mem (by rw [lsm_len]; exact hi)
    have p := pin_ok (R := spn ss) (O := spn os) ((span_app2 (spn_span ss) (spn_span os)).mpr (h _ m))
    exact ⟨(spn_span ss _).mp p.1, (spn_span os _).mp p.2⟩
  constructor
  · refine img_diff (kst_len _ _ _ _) (fun i hi => ?_) x
    rw [kst_len] at hi
    rw [kst_at _ _ _ _ hi, Nat.xor_comm (ls.getD i 0), xor_cancel_right]
    exact (key i hi).1
  · refine img_diff (by rw [kst_len, hl]) (fun i hi => ?_) x
    rw [kst_len] at hi
    have k2 := (key i hi).2
    rw [lsm_at hi] at k2
    rw [kst_at _ _ _ _ hi, lsm_at hi, Nat.xor_assoc, Nat.xor_comm (pin _ _ _), ← Nat.xor_assoc]
    exact k2
theorem kst_lt {b : Nat} {ss ls os ps : List Nat} (hs : ∀ x ∈ ss, x < 2 ^ b) (hL : ∀ x ∈ ls, x < 2 ^ b) (h : ∀ w ∈ lsm ls ps, Spn (ss ++ os) w) : ∀ x ∈ kst (spn ss) (spn os) ls ps, x < 2 ^ b := fun x hx => by
  obtain ⟨i, hi, rfl⟩ := List.mem_map.mp hx
  have hi := List.mem_range.mp hi
  have m : (lsm ls ps).getD i 0 ∈ lsm ls ps := getD_mem (by rw [lsm_len]; exact hi)
  have p := pin_ok (R := spn ss) (O := spn os) ((span_app2 (spn_span ss) (spn_span os)).mpr (h _ m))
  exact Nat.xor_lt_two_pow (hL _ (getD_mem hi)) (((spn_span ss _).mp p.1).lt hs)
/-! ### starts that span, with the slots, all -/
def wvl (ps I G W : List Nat) (i : Nat) : Nat := G.getD i 0 ^^^ W.getD i 0 ^^^ img ps (I.getD i 0 ^^^ 1 <<< (blen (I.getD i 0) - 1))
def wsf (ps I G W : List Nat) (k : Nat) : List Nat := (List.range k).foldl (fun st i => st.set (blen (I.getD i 0) - 1) (wvl ps I G W i)) ps
theorem wsf_succ (ps I G W : List Nat) (k : Nat) : wsf ps I G W (k + 1) = (wsf ps I G W k).set (blen (I.getD k 0) - 1) (wvl ps I G W k) := by
  unfold wsf
  rw [List.range_succ, List.foldl_append]
  rfl
theorem wsf_len (ps I G W : List Nat) : ∀ k, (wsf ps I G W k).length = ps.length
  | 0 => rfl
  | k + 1 => by rw [wsf_succ, List.length_set, wsf_len ps I G W k]
theorem getD_set' (F : List Nat) (i j v : Nat) (hi : i < F.length) : (F.set i v).getD j 0 = if j = i then v else F.getD j 0 := by
  simp only [List.getD_eq_getElem?_getD, List.getElem?_set]
  by_cases h : i = j
  · subst h; simp [hi]
  · rw [if_neg h, if_neg (fun z => h z.symm)]
theorem tops_ne {I : List Nat} (R : Rws I) {i j : Nat} (hi : i < I.length) (hj : j < I.length) (h : i ≠ j) : blen (I.getD i 0) - 1 ≠ blen (I.getD j 0) - 1 := fun z => by
  have n1 := blen_pos (R.nz _ (getD_mem hi))
  have n2 := blen_pos (R.nz _ (getD_mem hj))
  have e : blen (I.getD i 0) = blen (I.getD j 0) := by omega
  have nd := R.tops_nodup
  have e1 : (I.map blen)[i]? = some (blen (I.getD i 0)) := by
    rw [List.getElem?_map, List.getElem?_eq_getElem hi, List.getD_eq_getElem?_getD, List.getElem?_eq_getElem hi]; rfl
  have e2 : (I.map blen)[j]? = some (blen (I.getD j 0)) := by
    rw [List.getElem?_map, List.getElem?_eq_getElem hj, List.getD_eq_getElem?_getD, List.getElem?_eq_getElem hj]; rfl
  exact h ((List.getElem?_inj (by rw [List.length_map]; exact hi) nd).mp (by rw [e1, e2, e]))
theorem tops_bit {I : List Nat} (R : Rws I) {i j : Nat} (hi : i < I.length) (hj : j < I.length) (h : i ≠ j) : (I.getD i 0).testBit (blen (I.getD j 0) - 1) = false := by
  have p := R.red
  rw [List.pairwise_iff_getElem] at p
  have e1 : I.getD i 0 = I[i] := by rw [List.getD_eq_getElem?_getD, List.getElem?_eq_getElem hi]; rfl
  have e2 : I.getD j 0 = I[j] := by rw [List.getD_eq_getElem?_getD, List.getElem?_eq_getElem hj]; rfl
  rw [e1, e2]
  rcases Nat.lt_or_gt_of_ne h with z | z
  · exact (p i j hi hj z).1
  · exact (p j i hj hi z).2
section
variable {ps I G W : List Nat} (R : Rws I) (hI : ∀ x ∈ I, x < 2 ^ ps.length)
include R hI
theorem wsf_at : ∀ k, k ≤ I.length → (∀ i, i < k → (wsf ps I G W k).getD (blen (I.getD i 0) - 1) 0 = wvl ps I G W i) ∧ ∀ j, (∀ i, i < k → j ≠ blen (I.getD i 0) - 1) → (wsf ps I G W k).getD j 0 = ps.getD j 0
  | 0, _ => ⟨fun i hi => absurd hi (Nat.not_lt_zero _), fun j _ => rfl⟩
  | k + 1, hk => by
    obtain ⟨h1, h2⟩ := wsf_at k (by omega)
    have tl : blen (I.getD k 0) - 1 < (wsf ps I G W k).length := by
      rw [wsf_len]
      have a := blen_le.mpr (hI _ (getD_mem (show k < I.length by omega)))
      have b := blen_pos (R.nz _ (getD_mem (show k < I.length by omega)))
      omega
    rw [wsf_succ]
    refine ⟨fun i hi => ?_, fun j hj => ?_⟩
    · rw [getD_set' _ _ _ _ tl]
      by_cases e : i = k
      · subst e; rw [if_pos rfl]
      · rw [if_neg (tops_ne R (by omega) (by omega) e)]
        exact h1 i (by omega)
    · rw [getD_set' _ _ _ _ tl, if_neg (hj k (by omega))]
      exact h2 j fun i hi => hj i (by omega)
theorem wsf_row {k i : Nat} (hk : k ≤ I.length) (hi : i < k) : img (wsf ps I G W k) (I.getD i 0) = G.getD i 0 ^^^ W.getD i 0 := by
  obtain ⟨h1, h2⟩ := wsf_at R hI k hk
  have nz := R.nz _ (getD_mem (show i < I.length by omega))
  have lt := hI _ (getD_mem (show i < I.length by omega))
  have a := blen_le.mpr lt
  have b := blen_pos nz
  have tb := testBit_top nz
  generalize hx : I.getD i 0 = x at *
  generalize ht : blen x - 1 = t at *
  have e1 : x = 2 ^ t ^^^ (x ^^^ 2 ^ t) := by rw [Nat.xor_comm x, xor_cancel]
  have e2 : img (wsf ps I G W k) (2 ^ t) = wvl ps I G W i := by
    rw [img_unit _ (by rw [wsf_len]; omega)]
    have := h1 i hi
    rwa [hx, ht] at this
  have e3 : img (wsf ps I G W k) (x ^^^ 2 ^ t) = img ps (x ^^^ 2 ^ t) := by
    refine img_at (wsf_len _ _ _ _ _) fun j _ hb => h2 j fun m hm z => ?_
    rw [Nat.testBit_xor, Nat.testBit_two_pow] at hb
    by_cases e : m = i
    · subst e
      rw [hx, ht] at z
      subst z
      rw [tb] at hb
      simp at hb
    · have q := tops_bit R (show i < I.length by omega) (show m < I.length by omega) (Ne.symm e)
      have q2 := tops_ne R (show i < I.length by omega) (show m < I.length by omega) (Ne.symm e)
      rw [hx, ← z] at q
      rw [hx, ht, ← z] at q2
      rw [q] at hb
      simp [q2] at hb
  conv => lhs; rw [e1]
  rw [(lin_img _).x, e2, e3]
  unfold wvl
  rw [hx, ht, Nat.one_shiftLeft, xor_cancel_right]
theorem wsf_to {O : List Nat} {k : Nat} (hk : k ≤ I.length) (h : ∀ i, i < k → Spn O (img ps (I.getD i 0) ^^^ G.getD i 0) ∧ Spn O (W.getD i 0)) : ∀ j, j < ps.length → Spn O ((wsf ps I G W k).getD j 0 ^^^ ps.getD j 0) := fun j hj => by
  obtain ⟨h1, h2⟩ := wsf_at (G := G) (W := W) R hI k hk
  by_cases e : ∃ i, i < k ∧ j = blen (I.getD i 0) - 1
  · obtain ⟨i, hi, rfl⟩ := e
    rw [h1 i hi]
    unfold wvl
    have a := h i hi
    rw [← img_unit ps hj, Nat.xor_assoc, ← (lin_img ps).x, Nat.one_shiftLeft, Nat.xor_assoc (I.getD i 0), Nat.xor_self, Nat.xor_zero]
    have := a.1.xor a.2
    have e : G.getD i 0 ^^^ W.getD i 0 ^^^ img ps (I.getD i 0) = img ps (I.getD i 0) ^^^ G.getD i 0 ^^^ W.getD i 0 := by
      rw [Nat.xor_comm, ← Nat.xor_assoc]
    rw [e]
    exact this
  · rw [h2 j fun i hi z => e ⟨i, hi, z⟩, Nat.xor_self]
    exact .zero
end
/-- the lanes that want what slots of both lead to -/
def wdi (ss os ps : List Nat) : List Nat := ker (ps.map (clr (spn (spn ss ++ spn os))))
def wdg (ss os ps : List Nat) : List Nat := (wdi ss os ps).map fun x => pin (spn ss) (spn os) (img ps x)
def wdw (ss os : List Nat) : List Nat := cmpl (spn ss) (spn os)
def wds (ss os ps : List Nat) : List Nat := wsf ps (wdi ss os ps) (wdg ss os ps) (wdw ss os) (wdw ss os).length
theorem both_sp (ss os : List Nat) (x : Nat) : Spn (spn ss ++ spn os) x ↔ Spn (ss ++ os) x := span_app2 (spn_span ss) (spn_span os)
theorem wdi_span (ss os ps : List Nat) (x : Nat) : Spn (wdi ss os ps) x ↔ x < 2 ^ ps.length ∧ Spn (ss ++ os) (img ps x) := by
  unfold wdi
  rw [span_clr_img, both_sp]
theorem wdi_rws (ss os ps : List Nat) : Rws (wdi ss os ps) := ker_rws _
theorem wds_len (ss os ps : List Nat) : (wds ss os ps).length = ps.length := wsf_len _ _ _ _ _
theorem wdg_at {ss os ps : List Nat} {i : Nat} (h : i < (wdi ss os ps).length) : (wdg ss os ps).getD i 0 = pin (spn ss) (spn os) (img ps ((wdi ss os ps).getD i 0)) := by
  unfold wdg
  simp only [List.getD_eq_getElem?_getD, List.getElem?_map, List.getElem?_eq_getElem h]
  rfl
section
variable {b : Nat} {ss ls os ps : List Nat} (hs : ∀ x ∈ ss, x < 2 ^ b) (hL : ∀ x ∈ ls, x < 2 ^ b) (ho : ∀ x ∈ os, x < 2 ^ b) (hp : ∀ x ∈ ps, x < 2 ^ b) (hl : ls.length = ps.length) (hb : b ≤ rk (ss ++ ls)) (hb2 : b ≤ rk (os ++ ps))
include hs ho hp hl hb in
theorem wdw_le : (wdw ss os).length ≤ (wdi ss os ps).length := by
  have a := ksz (spn ss ++ spn os) ps
  have e1 : (spn (ker (ps.map (clr (spn (spn ss ++ spn os)))))).length = (wdi ss os ps).length := (wdi_rws ss os ps).rk
  have c := cmpl_len (spn_rws ss) (spn os)
  have e2 : rk (spn ss ++ spn os ++ ps) ≤ b := rk_le_bits fun x hx => by
    rcases List.mem_append.mp hx with hx | hx
    · rcases List.mem_append.mp hx with hx | hx
      · exact spn_lt hs x hx
      · exact spn_lt ho x hx
    · exact hp x hx
  have e3 := rk_app_len ss ls
  rw [rk_spn] at c
  have e4 : (wdw ss os).length = (cmpl (spn ss) (spn os)).length := rfl
  omega
theorem wdi_in {i : Nat} (h : i < (wdi ss os ps).length) : Spn ss ((wdg ss os ps).getD i 0) ∧ Spn os (img ps ((wdi ss os ps).getD i 0) ^^^ (wdg ss os ps).getD i 0) := by
  have a := ((wdi_span ss os ps _).mp (.of (getD_mem h))).2
  have p := pin_ok (R := spn ss) (O := spn os) ((both_sp ss os _).mpr a)
  rw [wdg_at h]
  exact ⟨(spn_span ss _).mp p.1, (spn_span os _).mp p.2⟩
theorem wdw_in {i : Nat} (h : i < (wdw ss os).length) : Spn os ((wdw ss os).getD i 0) := (spn_span os _).mp (.of (cmpl_mem _ _ (getD_mem h)))
theorem wdi_lt : ∀ x ∈ wdi ss os ps, x < 2 ^ ps.length := fun x hx => ((wdi_span ss os ps x).mp (.of hx)).1
include hs ho hp hl hb
theorem wds_to (x : Nat) : Spn os (img (wds ss os ps) x ^^^ img ps x) := by
  have le := wdw_le hs ho hp hl hb
  refine img_diff (wds_len ss os ps) (fun i hi => ?_) x
  rw [wds_len] at hi
  exact wsf_to (wdi_rws ss os ps) wdi_lt le (fun m hm => ⟨(wdi_in (by omega)).2, wdw_in hm⟩) i hi
theorem wds_at {i : Nat} (hi : i < ps.length) : Spn os ((wds ss os ps).getD i 0 ^^^ ps.getD i 0) :=
  wsf_to (wdi_rws ss os ps) wdi_lt (wdw_le hs ho hp hl hb) (fun m hm => ⟨(wdi_in (by have := wdw_le hs ho hp hl hb; omega)).2, wdw_in hm⟩) i hi
theorem wds_lt : ∀ x ∈ wds ss os ps, x < 2 ^ b := fun x hx => by
  obtain ⟨i, hi, rfl⟩ := List.mem_iff_getElem.mp hx
  have hi' : i < ps.length := by rwa [wds_len] at hi
  have a := wds_at hs ho hp hl hb hi'
  have e : (wds ss os ps).getD i 0 = (wds ss os ps)[i] := by rw [List.getD_eq_getElem?_getD, List.getElem?_eq_getElem hi]; rfl
  rw [e] at a
  have q := Nat.xor_lt_two_pow (a.lt ho) (hp _ (getD_mem hi'))
  rwa [xor_cancel_right] at q
include hb2
/-- with the slots they span all -/
theorem wds_all : b ≤ rk (ss ++ wds ss os ps) := by
  have le := wdw_le hs ho hp hl hb
  have key : ∀ i, i < (wdw ss os).length → Spn (ss ++ wds ss os ps) ((wdw ss os).getD i 0) := fun i hi => by
    have r := wsf_row (G := wdg ss os ps) (W := wdw ss os) (wdi_rws ss os ps) wdi_lt le hi
    have a : Spn (ss ++ wds ss os ps) (img (wds ss os ps) ((wdi ss os ps).getD i 0)) := by
      refine (img_in _ ?_).sub fun y hy => List.mem_append_right _ hy
      rw [wds_len]
      exact wdi_lt _ (getD_mem (by omega))
    have r' : img (wds ss os ps) ((wdi ss os ps).getD i 0) = (wdg ss os ps).getD i 0 ^^^ (wdw ss os).getD i 0 := r
    rw [r'] at a
    have g : Spn (ss ++ wds ss os ps) ((wdg ss os ps).getD i 0) := (wdi_in (ss := ss) (os := os) (ps := ps) (i := i) (by omega)).1.sub fun y hy => List.mem_append_left _ hy
    have := g.xor a
    rwa [xor_cancel] at this
  have cs := cms_span (spn_rws ss) (spn os)
  have os_in : ∀ x, Spn os x → Spn (ss ++ wds ss os ps) x := fun x hx => by
    have h1 : Spn (spn ss ++ spn os) x := ((spn_span os x).mpr hx).sub fun y hy => List.mem_append_right _ hy
    have h2 := (cs.2 x).mp ((cs.1 x).mpr h1)
    refine h2.mono fun y hy => ?_
    rcases List.mem_append.mp hy with hy | hy
    · exact ((spn_span ss y).mp (.of hy)).sub fun z hz => List.mem_append_left _ hz
    · obtain ⟨i, hi, rfl⟩ := List.mem_iff_getElem.mp hy
      have e : (wdw ss os).getD i 0 = (cms (spn ss) (spn os)).2[i] := by
        have hi' : i < (wdw ss os).length := hi
        rw [List.getD_eq_getElem?_getD, List.getElem?_eq_getElem hi']; rfl
      rw [← e]
      exact key i hi
  refine Nat.le_trans hb2 (rk_le fun x hx => ?_)
  rcases List.mem_append.mp hx with hx | hx
  · exact os_in x (.of hx)
  · obtain ⟨i, hi, rfl⟩ := List.mem_iff_getElem.mp hx
    have a := os_in _ (wds_at hs ho hp hl hb hi)
    have c : Spn (ss ++ wds ss os ps) ((wds ss os ps).getD i 0) := (Spn.of (getD_mem (by rw [wds_len]; exact hi))).sub fun z hz => List.mem_append_right _ hz
    have d := c.xor a
    rw [xor_cancel] at d
    have e : ps.getD i 0 = ps[i] := by rw [List.getD_eq_getElem?_getD, List.getElem?_eq_getElem hi]; rfl
    rwa [e] at d
end
/-! ### lanes that show -/
def shi (b : Nat) (ss st : List Nat) : List Nat := mtd b (spn st) (spn ss)
def sho (b : Nat) (ss st : List Nat) : List Nat := cmpl (shi b ss st) (spn st)
def shL (b : Nat) (ss ls st : List Nat) : List Nat := (twn ss ls).take (shi b ss st).length ++ (sho b ss st).map (lno ss ls)
def shn (b : Nat) (ss ls st : List Nat) : List Nat := st.map fun w => img (shL b ss ls st) (slv (shi b ss st ++ sho b ss st) w)
section
variable {b : Nat} {ss ls st : List Nat} (hs : ∀ x ∈ ss, x < 2 ^ b) (hL : ∀ x ∈ ls, x < 2 ^ b) (hS : ∀ x ∈ st, x < 2 ^ b) (hl : st.length = ls.length) (hb : b ≤ rk (ss ++ ls)) (hst : b ≤ rk (ss ++ st))
include hS in
theorem shi_span (x : Nat) : Spn (shi b ss st) x ↔ Spn st x ∧ Spn ss x := by
  unfold shi
  rw [mtd_span (spn_lt hS), spn_span, spn_span]
include hS in
theorem sh_base : (∀ x, Spn (shi b ss st ++ sho b ss st) x ↔ Spn st x) ∧ rk (shi b ss st ++ sho b ss st) = (shi b ss st ++ sho b ss st).length := by
  have a := base_of (A := shi b ss st) (B := spn st) (mtd_rws _ _ _) fun x hx => (spn_span st x).mpr ((shi_span hS x).mp (.of hx)).1
  exact ⟨fun x => (a.1 x).trans (spn_span st x), a.2.1⟩
include hs hL hS hl hb hst
theorem shi_le : (shi b ss st).length ≤ (twn ss ls).length := by
  have a := mtd_len (b := b) (spn_rws st) (spn_rws ss) (spn_lt hS)
  have t := twn_size ss ls
  have e : rk (spn st ++ spn ss) = rk (ss ++ st) := rk_eq fun x => (both_sp st ss x).trans (span_swap st ss x)
  have e1 : (spn st).length = rk st := rfl
  have e2 : (spn ss).length = rk ss := rfl
  have e3 := rk_len st
  have e4 : (shi b ss st).length = (mtd b (spn st) (spn ss)).length := rfl
  have e5 : rk (ss ++ ls) ≤ b := rk_le_bits fun x hx => by
    rcases List.mem_append.mp hx with hx | hx
    · exact hs x hx
    · exact hL x hx
  omega
theorem shL_len : (shL b ss ls st).length = (shi b ss st ++ sho b ss st).length := by
  have := shi_le hs hL hS hl hb hst
  unfold shL
  rw [List.length_append, List.length_append, List.length_take, List.length_map]
  omega
theorem sho_lt : ∀ x ∈ sho b ss st, x < 2 ^ b := fun x hx => ((spn_span st x).mp (.of (cmpl_mem _ x hx))).lt hS
theorem shL_lt : ∀ x ∈ shL b ss ls st, x < 2 ^ ls.length := fun x hx => by
  rcases List.mem_append.mp hx with hx | hx
  · exact twn_lt (.of (List.mem_of_mem_take hx))
  · obtain ⟨w, hw, rfl⟩ := List.mem_map.mp hx
    exact (lno_ok hs hL hb (sho_lt hs hL hS hl hb hst w hw)).1
theorem sh_from (c : Nat) : Spn ss (img ls (img (shL b ss ls st) c) ^^^ img (shi b ss st ++ sho b ss st) c) := by
  have le := shi_le hs hL hS hl hb hst
  rw [← img_map (lin_img ls)]
  refine img_diff (by rw [List.length_map, shL_len hs hL hS hl hb hst]) (fun i hi => ?_) c
  rw [List.length_map, shL_len hs hL hS hl hb hst, List.length_append] at hi
  have tl : ((twn ss ls).take (shi b ss st).length).length = (shi b ss st).length := by rw [List.length_take]; omega
  by_cases z : i < (shi b ss st).length
  · have e1 : (shL b ss ls st).getD i 0 = (twn ss ls).getD i 0 := by
      unfold shL
      simp only [List.getD_eq_getElem?_getD, List.getElem?_append_left (show i < ((twn ss ls).take (shi b ss st).length).length by omega), List.getElem?_take, if_pos z]
    have e2 : (shi b ss st ++ sho b ss st).getD i 0 = (shi b ss st).getD i 0 := by
      simp only [List.getD_eq_getElem?_getD, List.getElem?_append_left z]
    have e3 : ((shL b ss ls st).map (img ls)).getD i 0 = img ls ((shL b ss ls st).getD i 0) := by
      have : i < (shL b ss ls st).length := by rw [shL_len hs hL hS hl hb hst, List.length_append]; omega
      simp only [List.getD_eq_getElem?_getD, List.getElem?_map, List.getElem?_eq_getElem this]; rfl
    rw [e3, e1, e2]
    exact ((twn_span ss ls _).mp (.of (getD_mem (by omega)))).2.xor ((shi_span hS _).mp (.of (getD_mem z))).2
  · have e1 : (shL b ss ls st).getD i 0 = lno ss ls ((sho b ss st).getD (i - (shi b ss st).length) 0) := by
      unfold shL
      have : i - (shi b ss st).length < (sho b ss st).length := by omega
      simp only [List.getD_eq_getElem?_getD, List.getElem?_append_right (show ((twn ss ls).take (shi b ss st).length).length ≤ i by omega), tl, List.getElem?_map, List.getElem?_eq_getElem this]
      rfl
    have e2 : (shi b ss st ++ sho b ss st).getD i 0 = (sho b ss st).getD (i - (shi b ss st).length) 0 := by
      simp only [List.getD_eq_getElem?_getD, List.getElem?_append_right (show (shi b ss st).length ≤ i by omega)]
    have e3 : ((shL b ss ls st).map (img ls)).getD i 0 = img ls ((shL b ss ls st).getD i 0) := by
      have : i < (shL b ss ls st).length := by rw [shL_len hs hL hS hl hb hst, List.length_append]; omega
      simp only [List.getD_eq_getElem?_getD, List.getElem?_map, List.getElem?_eq_getElem this]; rfl
    rw [e3, e1, e2]
    exact lno_span hs hL hb (sho_lt hs hL hS hl hb hst _ (getD_mem (by omega)))
theorem lin_sh : Lin fun w => img (shL b ss ls st) (slv (shi b ss st ++ sho b ss st) w) := (lin_img _).comp (lin_slv _)
theorem shn_img (x : Nat) : img (shn b ss ls st) x = img (shL b ss ls st) (slv (shi b ss st ++ sho b ss st) (img st x)) := img_map (lin_sh hs hL hS hl hb hst) st x
theorem shn_from {x : Nat} (hx : x < 2 ^ st.length) : Spn ss (img ls (img (shn b ss ls st) x) ^^^ img st x) := by
  rw [shn_img hs hL hS hl hb hst]
  have a := slv_ok (((sh_base (b := b) (ss := ss) hS).1 _).mpr (img_in st hx))
  have c := sh_from hs hL hS hl hb hst (slv (shi b ss st ++ sho b ss st) (img st x))
  rwa [a.2] at c
theorem shn_lt : ∀ x ∈ shn b ss ls st, x < 2 ^ ls.length := fun x hx => by
  obtain ⟨w, _, rfl⟩ := List.mem_map.mp hx
  exact imf_lt (shL_lt hs hL hS hl hb hst) _ _
theorem shn_inj {x y : Nat} (hx : x < 2 ^ st.length) (hy : y < 2 ^ st.length) (h : img (shn b ss ls st) x = img (shn b ss ls st) y) : img st x = img st y := by
  have z : x ^^^ y < 2 ^ st.length := Nat.xor_lt_two_pow hx hy
  have e : img (shn b ss ls st) (x ^^^ y) = 0 := by rw [(lin_img _).x, h, Nat.xor_self]
  have fr := shn_from hs hL hS hl hb hst z
  rw [e, (lin_img ls).z, Nat.zero_xor] at fr
  rw [shn_img hs hL hS hl hb hst] at e
  have inst := img_in st z
  obtain ⟨c1, c2⟩ := slv_ok (((sh_base (b := b) (ss := ss) hS).1 _).mpr inst)
  have inner : Spn (shi b ss st) (img st (x ^^^ y)) := (shi_span hS _).mpr ⟨inst, fr⟩
  obtain ⟨w, hw, e2⟩ := span_img (cols := shi b ss st) (Nat.le_refl _) (by rw [List.take_length]; exact inner)
  have e3 : img (shi b ss st ++ sho b ss st) w = img (shi b ss st) w := by
    have := img_app (P := shi b ss st) (Q := sho b ss st) (y := 0) hw
    rwa [Nat.zero_shiftLeft, Nat.xor_zero, (lin_img _).z, Nat.xor_zero] at this
  have hw2 : w < 2 ^ (shi b ss st ++ sho b ss st).length := Nat.lt_of_lt_of_le hw (Nat.pow_le_pow_right (by decide) (by rw [List.length_append]; omega))
  have e4 : slv (shi b ss st ++ sho b ss st) (img st (x ^^^ y)) = w := img_inj2 (sh_base hS).2 c1 hw2 (by rw [c2, e3, e2])
  rw [e4] at e
  have le := shi_le hs hL hS hl hb hst
  have tl : ((twn ss ls).take (shi b ss st).length).length = (shi b ss st).length := by rw [List.length_take]; omega
  have e5 : img (shL b ss ls st) w = img ((twn ss ls).take (shi b ss st).length) w := by
    have := img_app (P := (twn ss ls).take (shi b ss st).length) (Q := (sho b ss st).map (lno ss ls)) (x := w) (y := 0) (by rw [tl]; exact hw)
    rwa [Nat.zero_shiftLeft, Nat.xor_zero, (lin_img _).z, Nat.xor_zero] at this
  rw [e5] at e
  have R : Rws ((twn ss ls).take (shi b ss st).length) := by
    have A : Rws (twn ss ls) := spn_rws _
    exact ⟨fun r hr => A.nz r (List.mem_of_mem_take hr), A.red.sublist (List.take_sublist _ _)⟩
  have w0 := img_inj R.rk (by rw [tl]; exact hw) e
  rw [w0, (lin_img _).z] at e2
  have := e2.symm
  rw [(lin_img st).x] at this
  exact xor_eq_zero this
end
/-! ### a plan -/
structure Pln (b : Nat) (ss ls os ps st sh wd : List Nat) (sk : Nat) : Prop where
  sl : st.length = ls.length
  hl : sh.length = ls.length
  wl : wd.length = rk os
  sm : ∀ x ∈ st, x < 2 ^ b
  hm : ∀ x ∈ sh, x < 2 ^ ls.length
  wm : ∀ x ∈ wd, x < 2 ^ b
  wi : rk wd = wd.length
  ws : ∀ x, Spn wd x ↔ Spn os x
  to : ∀ x, Spn os (img st x ^^^ img ps x)
  fr : ∀ x, x < 2 ^ ls.length → Spn ss (img ls (img sh x) ^^^ img st x)
  inj : ∀ x y, x < 2 ^ ls.length → y < 2 ^ ls.length → img sh x = img sh y → img st x = img st y
  sk1 : 2 ^ wd.length - sk = fwr ss ls os ps
  sk2 : sk ≤ 2 ^ wd.length
  low : ∀ f x, f < sk → Spn ss (img wd f ^^^ (img st x ^^^ img ls x))
  high : ∀ f x, sk ≤ f → f < 2 ^ wd.length → x < 2 ^ ls.length → sk ≠ 0 → ¬ Spn ss (img wd f ^^^ (img st x ^^^ img ls x))
theorem img_units {n x : Nat} (h : x < 2 ^ n) : img ((List.range n).map fun i => 1 <<< i) x = x := by
  have key : ∀ m, m ≤ n → imf ((List.range n).map fun i => 1 <<< i) x m = x % 2 ^ m := by
    intro m
    induction m with
    | zero => intro _; simp [imf, Nat.mod_one]
    | succ m ih =>
      intro hm
      rw [imf_succ, ih (by omega), map_range_getD _ (by omega), Nat.one_shiftLeft]
      apply Nat.eq_of_testBit_eq
      intro j
      rw [Nat.testBit_mod_two_pow]
      split
      · rename_i z
        rw [Nat.testBit_xor, Nat.testBit_mod_two_pow, Nat.testBit_two_pow]
        by_cases e : m = j
        · subst e; simp [z]
        · by_cases e2 : j < m
          · simp [e, e2, show j < m + 1 by omega]
          · simp [e, e2, show ¬ j < m + 1 by omega]
      · rename_i z
        rw [Nat.testBit_mod_two_pow]
        by_cases e : j = m
        · subst e; simp [z]
        · by_cases e2 : j < m
          · simp [e2, show j < m + 1 by omega]
          · simp [e2, show ¬ j < m + 1 by omega]
  unfold img
  rw [List.length_map, List.length_range, key n (Nat.le_refl _), Nat.mod_eq_of_lt h]
section
variable {b : Nat} {ss ls os ps : List Nat} (hs : ∀ x ∈ ss, x < 2 ^ b) (hL : ∀ x ∈ ls, x < 2 ^ b) (ho : ∀ x ∈ os, x < 2 ^ b) (hp : ∀ x ∈ ps, x < 2 ^ b) (hl : ls.length = ps.length) (hb : b ≤ rk (ss ++ ls)) (hb2 : b ≤ rk (os ++ ps))
def kwd (b : Nat) (ss os : List Nat) : List Nat := mtd b (spn ss) (spn os) ++ cmpl (mtd b (spn ss) (spn os)) (spn os)
include hs hL ho hl
theorem pln_keep (h : ∀ w ∈ lsm ls ps, Spn (ss ++ os) w) : Pln b ss ls os ps (kst (spn ss) (spn os) ls ps) ((List.range ls.length).map fun i => 1 <<< i) (kwd b ss os) (2 ^ (mtd b (spn ss) (spn os)).length) := by
  have key : ∀ y, Spn (mtd b (spn ss) (spn os)) y ↔ Spn ss y ∧ Spn os y := fun y => by rw [mtd_span (spn_lt hs), spn_span, spn_span]
  have B := base_of (A := mtd b (spn ss) (spn os)) (B := spn os) (mtd_rws _ _ _) fun x hx => (spn_span os x).mpr ((key x).mp (.of hx)).2
  have wl : (kwd b ss os).length = rk os := B.2.2.trans (rk_spn os)
  have ws : ∀ x, Spn (kwd b ss os) x ↔ Spn os x := fun x => (B.1 x).trans (spn_span os x)
  have ml := mtd_shr (os := os) hs
  have mle : (mtd b (spn ss) (spn os)).length ≤ (kwd b ss os).length := by unfold kwd; rw [List.length_append]; omega
  have ap : ∀ f, f < 2 ^ (mtd b (spn ss) (spn os)).length → img (kwd b ss os) f = img (mtd b (spn ss) (spn os)) f := fun f hf => by
    have := img_app (P := mtd b (spn ss) (spn os)) (Q := cmpl (mtd b (spn ss) (spn os)) (spn os)) (y := 0) hf
    rwa [Nat.zero_shiftLeft, Nat.xor_zero, (lin_img _).z, Nat.xor_zero] at this
  have ks := fun x => kst_ok hl h x
  refine ⟨kst_len _ _ _ _, by simp, wl, kst_lt hs hL h, fun x hx => ?_, fun x hx => ((ws x).mp (.of hx)).lt ho, B.2.1, ws, fun x => (ks x).2, fun x hx => ?_, fun x y hx hy z => ?_, ?_, Nat.pow_le_pow_right (by decide) mle, fun f x hf => ?_, fun f x h1 h2 hx _ z => ?_⟩
  · obtain ⟨i, hi, rfl⟩ := List.mem_map.mp hx
    rw [Nat.one_shiftLeft]
    exact Nat.pow_lt_pow_right (by decide) (List.mem_range.mp hi)
  · rw [img_units hx, Nat.xor_comm]
    exact (ks x).1
  · rw [img_units hx, img_units hy] at z
    rw [z]
  · rw [wl, ml]
    unfold fwr
    rw [if_pos h]
  · rw [ap f hf]
    exact ((key _).mp (img_in _ hf)).1.xor (ks x).1
  · have z1 := z.xor (ks x).1
    rw [xor_cancel_right] at z1
    have z2 : Spn (mtd b (spn ss) (spn os)) (img (kwd b ss os) f) := (key _).mpr ⟨z1, (ws _).mp (img_in _ h2)⟩
    obtain ⟨w, hw, e⟩ := span_img (cols := mtd b (spn ss) (spn os)) (Nat.le_refl _) (by rw [List.take_length]; exact z2)
    have hw2 : w < 2 ^ (kwd b ss os).length := Nat.lt_of_lt_of_le hw (Nat.pow_le_pow_right (by decide) mle)
    have := img_inj2 B.2.1 h2 hw2 (e.symm.trans (ap w hw).symm)
    omega
include hp hb hb2
theorem pln_wide (h : ¬ ∀ w ∈ lsm ls ps, Spn (ss ++ os) w) : Pln b ss ls os ps (wds ss os ps) (shn b ss ls (wds ss os ps)) (spn os) 0 := by
  have hS := wds_lt hs ho hp hl hb
  have hl2 : (wds ss os ps).length = ls.length := (wds_len ss os ps).trans hl.symm
  have al := wds_all hs ho hp hl hb hb2
  refine ⟨hl2, by unfold shn; rw [List.length_map, hl2], rfl, hS, shn_lt hs hL hS hl2 hb al, spn_lt ho, (spn_rws os).rk, spn_span os, wds_to hs ho hp hl hb, fun x hx => shn_from hs hL hS hl2 hb al (by rw [hl2]; exact hx), fun x y hx hy z => shn_inj hs hL hS hl2 hb al (by rw [hl2]; exact hx) (by rw [hl2]; exact hy) z, ?_, Nat.zero_le _, fun f x hf => absurd hf (Nat.not_lt_zero _), fun f x _ _ _ z => absurd rfl z⟩
  unfold fwr
  rw [if_neg h, Nat.sub_zero]
  rfl
end
end LaneX
set_option linter.all false
namespace LaneX
/-! ### what a plan of rounds tells -/
section
variable {b : Nat} {ss ls os ps st sh wd : List Nat} {sk : Nat} (pn : Pln b ss ls os ps st sh wd sk) (hs : ∀ x ∈ ss, x < 2 ^ b) (hL : ∀ x ∈ ls, x < 2 ^ b) (hb : b ≤ rk (ss ++ ls))
include pn
theorem Pln.wlt (n : Nat) : img wd n < 2 ^ b := imf_lt pn.wm _ _
theorem Pln.win {n : Nat} (h : n < 2 ^ wd.length) : Spn os (img wd n) := (pn.ws _).mp (img_in _ h)
theorem Pln.want {L n : Nat} (h : n < 2 ^ wd.length) : Spn os ((img st L ^^^ img wd n) ^^^ img ps L) := by
  have a := (pn.to L).xor (pn.win h)
  have e : img st L ^^^ img ps L ^^^ img wd n = (img st L ^^^ img wd n) ^^^ img ps L := by
    rw [Nat.xor_assoc, Nat.xor_comm (img ps L), ← Nat.xor_assoc]
  rwa [e] at a
theorem Pln.one {f g : Nat} (hf : f < 2 ^ wd.length) (hg : g < 2 ^ wd.length) (h : img wd f = img wd g) : f = g := img_inj2 pn.wi hf hg h
theorem Pln.in_wanted {L e : Nat} : Spn os (e ^^^ img st L) ↔ Spn os (e ^^^ img ps L) := by
  constructor
  · intro h
    have := h.xor (pn.to L)
    have e2 : e ^^^ img st L ^^^ (img st L ^^^ img ps L) = e ^^^ img ps L := by rw [Nat.xor_assoc, xor_cancel]
    rwa [e2] at this
  · intro h
    have := h.xor (pn.to L)
    have e2 : e ^^^ img ps L ^^^ (img st L ^^^ img ps L) = e ^^^ img st L := by rw [xor4, Nat.xor_self, Nat.xor_zero]
    rwa [e2] at this
include hs hL hb
theorem Pln.src {L : Nat} (n : Nat) : img sh L ^^^ lno ss ls (img wd n) < 2 ^ ls.length :=
  Nat.xor_lt_two_pow (imf_lt pn.hm _ _) (lno_ok hs hL hb (pn.wlt n)).1
theorem Pln.hold {L : Nat} (n : Nat) (h : L < 2 ^ ls.length) : Spn ss ((img st L ^^^ img wd n) ^^^ img ls (img sh L ^^^ lno ss ls (img wd n))) := by
  rw [(lin_img ls).x]
  have a := (pn.fr L h).xor (lno_span hs hL hb (pn.wlt n))
  have e : img ls (img sh L) ^^^ img st L ^^^ (img ls (lno ss ls (img wd n)) ^^^ img wd n) = (img st L ^^^ img wd n) ^^^ (img ls (img sh L) ^^^ img ls (lno ss ls (img wd n))) := by
    rw [xor4, Nat.xor_comm]
  rwa [e] at a
end
/-! ### the least lane that keeps nothing -/
/-- the lanes of one bit that keep nothing -/
def sty (ss ls os ps : List Nat) : List Nat := (List.range ls.length).filter fun i => !decide (clr (rws (ss ++ os)) (ls.getD i 0 ^^^ ps.getD i 0) = 0)
theorem clr_rws' {ws : List Nat} {x : Nat} : clr (rws ws) x = 0 ↔ Spn ws x := by rw [← (rws_hws ws).span, rws_span]
section
variable {b : Nat} {ss ls os ps : List Nat} (hs : ∀ x ∈ ss, x < 2 ^ b) (hl : ls.length = ps.length)
theorem sty_nil : sty ss ls os ps = [] ↔ ∀ w ∈ lsm ls ps, Spn (ss ++ os) w := by
  unfold sty
  rw [List.filter_eq_nil_iff]
  constructor
  · intro h w hw
    obtain ⟨i, hi, rfl⟩ := List.mem_map.mp hw
    have := h i hi
    simp only [Bool.not_eq_true', Bool.not_eq_true, decide_eq_false_iff_not, Decidable.not_not] at this
    exact clr_rws'.mp (by simpa using this)
  · intro h i hi
    have := clr_rws'.mpr (h _ (List.mem_map.mpr ⟨i, hi, rfl⟩))
    rw [decide_eq_true this]; decide
theorem head_least : ∀ {l : List Nat} {n : Nat} {p : Nat → Bool} {j : Nat} {r : List Nat}, (List.range n).filter p = j :: r → j < n ∧ p j = true ∧ ∀ i, i < j → p i = false := by
  intro l n p j r h
  have m : j ∈ (List.range n).filter p := by rw [h]; exact .head _
  have m' := List.mem_filter.mp m
  refine ⟨List.mem_range.mp m'.1, m'.2, fun i hi => ?_⟩
  cases q : p i with
  | false => rfl
  | true =>
    have mi : i ∈ (List.range n).filter p := List.mem_filter.mpr ⟨List.mem_range.mpr (by have := List.mem_range.mp m'.1; omega), q⟩
    rw [h] at mi
    have sorted : ((List.range n).filter p).Pairwise (· < ·) := List.Pairwise.filter _ List.pairwise_lt_range
    rw [h] at sorted
    rcases List.mem_cons.mp mi with e | e
    · omega
    · have := (List.pairwise_cons.mp sorted).1 i e
      omega
include hs hl
theorem sty_due {j : Nat} {r : List Nat} (h : sty ss ls os ps = j :: r) : j < ls.length ∧ due ss ls os ps (2 ^ j) = fwr ss ls os ps ∧ ∀ L, L < 2 ^ j → due ss ls os ps L ≠ fwr ss ls os ps := by
  obtain ⟨h1, h2, h3⟩ := head_least (l := []) h
  have at_ : ∀ i, i < ls.length → img (lsm ls ps) (2 ^ i) = ls.getD i 0 ^^^ ps.getD i 0 := fun i hi => by rw [img_unit _ (by rw [lsm_len]; exact hi), lsm_at hi]
  have out : ¬ Spn (ss ++ os) (img (lsm ls ps) (2 ^ j)) := by
    rw [at_ j h1, ← clr_rws']
    simpa using h2
  have nall : ¬ ∀ w ∈ lsm ls ps, Spn (ss ++ os) w := fun z => by
    rw [← sty_nil, h] at z
    cases z
  have e1 : fwr ss ls os ps = 2 ^ rk os := by unfold fwr; rw [if_neg nall]
  refine ⟨h1, ?_, fun L hL => ?_⟩
  · rw [due_eq hs hl, if_neg out, e1]
  · have inn : Spn (ss ++ os) (img (lsm ls ps) L) := by
      have key : ∀ n, n ≤ j → ∀ x, x < 2 ^ n → Spn (ss ++ os) (img (lsm ls ps) x) := by
        intro n
        induction n with
        | zero =>
          intro _ x hx
          have : x = 0 := by simpa using hx
          subst this
          rw [(lin_img _).z]; exact .zero
        | succ n ih =>
          intro hn x hx
          rcases bit_split hx with q | ⟨q, _⟩
          · exact ih (by omega) x q
          · have a := ih (by omega) _ q
            have c : Spn (ss ++ os) (img (lsm ls ps) (2 ^ n)) := by
              rw [at_ n (by omega), ← clr_rws']
              simpa using h3 n (by omega)
            have d := a.xor c
            rwa [← (lin_img _).x, xor_cancel_right] at d
      exact key j (Nat.le_refl _) L hL
    rw [due_eq hs hl, if_pos inn, e1]
    have := Nat.two_pow_pos (shr ss os)
    have := Nat.two_pow_pos (rk os)
    omega
/-- the short lane is told -/
theorem short_is {L : Nat} (h1 : due ss ls os ps L = fwr ss ls os ps) (h2 : ∀ i, i < L → due ss ls os ps i ≠ fwr ss ls os ps) : L = match sty ss ls os ps with | [] => 0 | j :: _ => 2 ^ j := by
  cases q : sty ss ls os ps with
  | nil =>
    have a := sty_nil.mp q
    refine Classical.byContradiction fun z => ?_
    exact h2 0 (by simp at z; omega) (due_all hs hl a 0)
  | cons j r =>
    obtain ⟨_, d1, d2⟩ := sty_due hs hl q
    show L = 2 ^ j
    rcases Nat.lt_trichotomy L (2 ^ j) with z | z | z
    · exact absurd h1 (d2 L z)
    · exact z
    · exact absurd d1 (h2 _ z)
end
end LaneX
set_option linter.all false
namespace LaneX
/-! ### side by side (k62) -/
def jn (n : Nat) (A B : List Nat) : List Nat := A ++ B.map fun x => x <<< n
theorem jn_len (n : Nat) (A B : List Nat) : (jn n A B).length = A.length + B.length := by simp [jn]
theorem lin_shl (n : Nat) : Lin fun x => x <<< n := ⟨Nat.zero_shiftLeft n, fun a b => Nat.shiftLeft_xor_distrib⟩
theorem low_split {n a b c d : Nat} (ha : a < 2 ^ n) (hc : c < 2 ^ n) (h : a ^^^ b <<< n = c ^^^ d <<< n) : a = c ∧ b = d := by
  have e1 := congrArg (fun x => x >>> n) h
  simp only [Nat.shiftRight_xor_distrib, shl_shr] at e1
  rw [Nat.shiftRight_eq_zero _ _ ha, Nat.shiftRight_eq_zero _ _ hc, Nat.zero_xor, Nat.zero_xor] at e1
  subst e1
  have e2 := congrArg (fun x => x ^^^ b <<< n) h
  simp only [xor_cancel_right] at e2
  exact ⟨e2, rfl⟩
theorem jn_span {n : Nat} {A B : List Nat} (x : Nat) : Spn (jn n A B) x ↔ ∃ a b, Spn A a ∧ Spn B b ∧ x = a ^^^ b <<< n := by
  constructor
  · intro h
    obtain ⟨a, c, h1, h2, rfl⟩ := span_split h
    obtain ⟨b, h3, rfl⟩ := (lin_shl n).back h2
    exact ⟨a, b, h1, h3, rfl⟩
  · rintro ⟨a, b, h1, h2, rfl⟩
    exact (h1.sub fun y hy => List.mem_append_left _ hy).xor (((lin_shl n).spn h2).sub fun y hy => List.mem_append_right _ hy)
theorem jn_in {n : Nat} {A B : List Nat} (hA : ∀ x ∈ A, x < 2 ^ n) {a b : Nat} (ha : a < 2 ^ n) : Spn (jn n A B) (a ^^^ b <<< n) ↔ Spn A a ∧ Spn B b := by
  rw [jn_span]
  constructor
  · rintro ⟨c, d, h1, h2, e⟩
    obtain ⟨rfl, rfl⟩ := low_split ha (h1.lt hA) e
    exact ⟨h1, h2⟩
  · rintro ⟨h1, h2⟩
    exact ⟨a, b, h1, h2, rfl⟩
theorem jn_ind {n : Nat} {A B : List Nat} (hA : ∀ x ∈ A, x < 2 ^ n) (iA : Ind A) (iB : Ind B) : Ind (jn n A B) := by
  induction iB with
  | nil => simpa [jn] using iA
  | snoc h1 h2 ih =>
    rename_i a w
    have e : jn n A (a ++ [w]) = jn n A a ++ [w <<< n] := by simp [jn]
    rw [e]
    refine .snoc ih fun z => h2 ?_
    have z' : Spn (jn n A a) (0 ^^^ w <<< n) := by rw [Nat.zero_xor]; exact z
    exact ((jn_in hA (Nat.two_pow_pos n)).mp z').2
theorem jn_rk {n : Nat} {A B : List Nat} (hA : ∀ x ∈ A, x < 2 ^ n) : rk (jn n A B) = rk A + rk B := by
  have e : rk (jn n A B) = rk (jn n (spn A) (spn B)) := rk_eq fun x => by
    rw [jn_span, jn_span]
    constructor
    · rintro ⟨a, b, h1, h2, rfl⟩
      exact ⟨a, b, (spn_span A a).mpr h1, (spn_span B b).mpr h2, rfl⟩
    · rintro ⟨a, b, h1, h2, rfl⟩
      exact ⟨a, b, (spn_span A a).mp h1, (spn_span B b).mp h2, rfl⟩
  rw [e, (jn_ind (spn_lt hA) (spn_rws A).ind (spn_rws B).ind).rk, jn_len]
  rfl
/-- two and two, side by side -/
theorem jn_app {n : Nat} {A B C D : List Nat} (x : Nat) : Spn (jn n A B ++ jn n C D) x ↔ Spn (jn n (A ++ C) (B ++ D)) x := by
  have p : (jn n A B ++ jn n C D).Perm (jn n (A ++ C) (B ++ D)) := by
    unfold jn
    rw [List.map_append, List.append_assoc, List.append_assoc]
    refine List.Perm.append_left A ?_
    rw [← List.append_assoc, ← List.append_assoc]
    exact List.Perm.append_right _ List.perm_append_comm
  exact ⟨fun h => h.sub fun w hw => p.mem_iff.mp hw, fun h => h.sub fun w hw => p.mem_iff.mpr hw⟩
theorem jn_lt {n m : Nat} {A B : List Nat} (hA : ∀ x ∈ A, x < 2 ^ n) (hB : ∀ x ∈ B, x < 2 ^ m) : ∀ x ∈ jn n A B, x < 2 ^ (n + m) := fun x hx => by
  rcases List.mem_append.mp hx with hx | hx
  · exact Nat.lt_of_lt_of_le (hA x hx) (Nat.pow_le_pow_right (by decide) (by omega))
  · obtain ⟨y, hy, rfl⟩ := List.mem_map.mp hx
    rw [Nat.shiftLeft_eq, Nat.pow_add, Nat.mul_comm (2 ^ n)]
    exact Nat.mul_lt_mul_of_pos_right (hB y hy) (Nat.two_pow_pos n)
theorem jn_img {n : Nat} {A B : List Nat} {x y : Nat} (h : x < 2 ^ A.length) : img (jn n A B) (x ^^^ y <<< A.length) = img A x ^^^ img B y <<< n := by
  unfold jn
  rw [img_app h, img_map (lin_shl n)]
theorem shr_le' (ss os : List Nat) : shr ss os ≤ rk os ∧ shr ss os ≤ rk ss ∧ rk (ss ++ os) + shr ss os = rk ss + rk os := by
  have a := rk_app ss os
  have b := rk_left ss os
  have c := rk_right ss os
  unfold shr
  omega
theorem jn_shr {n : Nat} {A B C D : List Nat} (hA : ∀ x ∈ A, x < 2 ^ n) (hC : ∀ x ∈ C, x < 2 ^ n) : shr (jn n A B) (jn n C D) = shr A C + shr B D := by
  have a := shr_le' A C
  have b := shr_le' B D
  have c := shr_le' (jn n A B) (jn n C D)
  have e : rk (jn n A B ++ jn n C D) = rk (A ++ C) + rk (B ++ D) := by
    rw [rk_eq jn_app, jn_rk fun x hx => by
      rcases List.mem_append.mp hx with hx | hx
      · exact hA x hx
      · exact hC x hx]
  have r1 := jn_rk (B := B) hA
  have r2 := jn_rk (B := D) hC
  omega
section
variable {n m : Nat} {s1 l1 o1 p1 s2 l2 o2 p2 : List Nat} (hs1 : ∀ x ∈ s1, x < 2 ^ n) (hl1 : ∀ x ∈ l1, x < 2 ^ n) (ho1 : ∀ x ∈ o1, x < 2 ^ n) (hp1 : ∀ x ∈ p1, x < 2 ^ n) (hs2 : ∀ x ∈ s2, x < 2 ^ m) (e1 : l1.length = p1.length) (e2 : l2.length = p2.length)
/-- what a lane holds of what it wants -/
noncomputable def hld (ss ls os ps : List Nat) (L : Nat) : Nat := 2 ^ rk os - due ss ls os ps L
open Classical in
theorem hld_eq {b : Nat} {ss ls os ps : List Nat} (hs : ∀ x ∈ ss, x < 2 ^ b) (h : ls.length = ps.length) (L : Nat) : hld ss ls os ps L = if Spn (ss ++ os) (img ls L ^^^ img ps L) then 2 ^ shr ss os else 0 := by
  have a := Nat.pow_le_pow_right (n := 2) (by decide) (shr_le' ss os).1
  unfold hld
  rw [due_eq hs h, img_lsm h]
  generalize 2 ^ shr ss os = u at *
  generalize 2 ^ rk os = v at *
  split
  · omega
  · omega
include hs1 hl1 ho1 hp1 hs2 e1 e2
theorem jn_due {x y : Nat} (hx : x < 2 ^ l1.length) : due (jn n s1 s2) (jn n l1 l2) (jn n o1 o2) (jn n p1 p2) (x ^^^ y <<< l1.length) = 2 ^ rk o1 * 2 ^ rk o2 - hld s1 l1 o1 p1 x * hld s2 l2 o2 p2 y := by
  have E : (jn n l1 l2).length = (jn n p1 p2).length := by rw [jn_len, jn_len, e1, e2]
  have hJ : ∀ x ∈ jn n s1 s2, x < 2 ^ (n + m) := jn_lt hs1 hs2
  rw [due_eq hJ E, img_lsm E, jn_img hx]
  have hx' : x < 2 ^ p1.length := by rw [← e1]; exact hx
  have eP : img (jn n p1 p2) (x ^^^ y <<< l1.length) = img p1 x ^^^ img p2 y <<< n := by rw [e1]; exact jn_img hx'
  rw [eP, xor4, ← Nat.shiftLeft_xor_distrib, hld_eq hs1 e1, hld_eq hs2 e2, jn_rk ho1, jn_shr hs1 ho1, Nat.pow_add, Nat.pow_add]
  have hSO : ∀ z ∈ s1 ++ o1, z < 2 ^ n := fun z hz => by
    rcases List.mem_append.mp hz with hz | hz
    · exact hs1 z hz
    · exact ho1 z hz
  have lt : img l1 x ^^^ img p1 x < 2 ^ n := Nat.xor_lt_two_pow (imf_lt hl1 _ _) (imf_lt hp1 _ _)
  have key : Spn (jn n s1 s2 ++ jn n o1 o2) ((img l1 x ^^^ img p1 x) ^^^ (img l2 y ^^^ img p2 y) <<< n) ↔ Spn (s1 ++ o1) (img l1 x ^^^ img p1 x) ∧ Spn (s2 ++ o2) (img l2 y ^^^ img p2 y) := by
    rw [jn_app, jn_in hSO lt]
  by_cases q1 : Spn (s1 ++ o1) (img l1 x ^^^ img p1 x)
  · by_cases q2 : Spn (s2 ++ o2) (img l2 y ^^^ img p2 y)
    · rw [if_pos (key.mpr ⟨q1, q2⟩), if_pos q1, if_pos q2]
    · rw [if_neg (fun z => q2 (key.mp z).2), if_neg q2, Nat.mul_zero, Nat.sub_zero]
  · rw [if_neg (fun z => q1 (key.mp z).1), if_neg q1, Nat.zero_mul, Nat.sub_zero]
end
theorem fwr_self (ss ls : List Nat) : fwr ss ls ss ls = 0 := by
  have h : ∀ w ∈ lsm ls ls, Spn (ss ++ ss) w := fun w hw => by
    obtain ⟨i, _, rfl⟩ := List.mem_map.mp hw
    rw [Nat.xor_self]; exact .zero
  have e : rk (ss ++ ss) = rk ss := rk_eq fun x => ⟨fun h => h.sub fun w hw => (List.mem_append.mp hw).elim id id, fun h => h.sub fun w hw => List.mem_append_left _ hw⟩
  unfold fwr
  rw [if_pos h]
  unfold shr
  rw [e, Nat.add_sub_cancel, Nat.sub_self]
theorem fwr_le (ss ls os ps : List Nat) : fwr ss ls os ps ≤ 2 ^ rk os := by
  unfold fwr
  split
  · exact Nat.sub_le _ _
  · exact Nat.le_refl _
section
variable {n m : Nat} {s1 l1 o1 p1 s2 l2 o2 p2 : List Nat} (hs1 : ∀ x ∈ s1, x < 2 ^ n) (hl1 : ∀ x ∈ l1, x < 2 ^ n) (ho1 : ∀ x ∈ o1, x < 2 ^ n) (hp1 : ∀ x ∈ p1, x < 2 ^ n) (e1 : l1.length = p1.length) (e2 : l2.length = p2.length)
theorem jn_at1 {n : Nat} {A B : List Nat} {i : Nat} (h : i < A.length) : (jn n A B).getD i 0 = A.getD i 0 := by
  unfold jn
  simp only [List.getD_eq_getElem?_getD, List.getElem?_append_left h]
theorem jn_at2 {n : Nat} {A B : List Nat} {i : Nat} (h : i < B.length) : (jn n A B).getD (A.length + i) 0 = B.getD i 0 <<< n := by
  unfold jn
  simp only [List.getD_eq_getElem?_getD, List.getElem?_append_right (Nat.le_add_right _ _), Nat.add_sub_cancel_left, List.getElem?_map, List.getElem?_eq_getElem h]
  rfl
include hs1 hl1 ho1 hp1 e1 e2
theorem jn_hold (h : ∀ w ∈ lsm (jn n l1 l2) (jn n p1 p2), Spn (jn n s1 s2 ++ jn n o1 o2) w) : (∀ w ∈ lsm l1 p1, Spn (s1 ++ o1) w) ∧ ∀ w ∈ lsm l2 p2, Spn (s2 ++ o2) w := by
  have hSO : ∀ z ∈ s1 ++ o1, z < 2 ^ n := fun z hz => by
    rcases List.mem_append.mp hz with hz | hz
    · exact hs1 z hz
    · exact ho1 z hz
  constructor
  · intro w hw
    obtain ⟨i, hi, rfl⟩ := List.mem_map.mp hw
    have hi := List.mem_range.mp hi
    have a := h _ (List.mem_map.mpr ⟨i, List.mem_range.mpr (by rw [jn_len]; omega), rfl⟩)
    rw [jn_at1 hi, jn_at1 (by omega), jn_app] at a
    have lt : l1.getD i 0 ^^^ p1.getD i 0 < 2 ^ n := Nat.xor_lt_two_pow (hl1 _ (getD_mem hi)) (hp1 _ (getD_mem (by omega)))
    have b : Spn (jn n (s1 ++ o1) (s2 ++ o2)) ((l1.getD i 0 ^^^ p1.getD i 0) ^^^ 0 <<< n) := by rw [Nat.zero_shiftLeft, Nat.xor_zero]; exact a
    exact ((jn_in hSO lt).mp b).1
  · intro w hw
    obtain ⟨i, hi, rfl⟩ := List.mem_map.mp hw
    have hi := List.mem_range.mp hi
    have a := h _ (List.mem_map.mpr ⟨l1.length + i, List.mem_range.mpr (by rw [jn_len]; omega), rfl⟩)
    have q : (jn n p1 p2).getD (l1.length + i) 0 = p2.getD i 0 <<< n := by rw [e1]; exact jn_at2 (by omega)
    rw [jn_at2 hi, q, ← Nat.shiftLeft_xor_distrib, jn_app] at a
    have b : Spn (jn n (s1 ++ o1) (s2 ++ o2)) (0 ^^^ (l2.getD i 0 ^^^ p2.getD i 0) <<< n) := by rw [Nat.zero_xor]; exact a
    exact ((jn_in hSO (Nat.two_pow_pos n)).mp b).2
theorem jn_fwr : fwr s1 l1 o1 p1 ≤ fwr (jn n s1 s2) (jn n l1 l2) (jn n o1 o2) (jn n p1 p2) ∧ fwr s2 l2 o2 p2 ≤ fwr (jn n s1 s2) (jn n l1 l2) (jn n o1 o2) (jn n p1 p2) := by
  have r := jn_rk (B := o2) ho1
  have p1' : 1 ≤ 2 ^ rk o1 := Nat.two_pow_pos _
  have p2' : 1 ≤ 2 ^ rk o2 := Nat.two_pow_pos _
  by_cases h : ∀ w ∈ lsm (jn n l1 l2) (jn n p1 p2), Spn (jn n s1 s2 ++ jn n o1 o2) w
  · obtain ⟨h1, h2⟩ := jn_hold hs1 hl1 ho1 hp1 e1 e2 h
    have e : fwr (jn n s1 s2) (jn n l1 l2) (jn n o1 o2) (jn n p1 p2) = 2 ^ rk o1 * 2 ^ rk o2 - 2 ^ shr s1 o1 * 2 ^ shr s2 o2 := by
      unfold fwr
      rw [if_pos h, r, jn_shr hs1 ho1, Nat.pow_add, Nat.pow_add]
    have f1 : fwr s1 l1 o1 p1 = 2 ^ rk o1 - 2 ^ shr s1 o1 := by unfold fwr; rw [if_pos h1]
    have f2 : fwr s2 l2 o2 p2 = 2 ^ rk o2 - 2 ^ shr s2 o2 := by unfold fwr; rw [if_pos h2]
    have q1 := Nat.pow_le_pow_right (n := 2) (by decide) (shr_le' s1 o1).1
    have q2 := Nat.pow_le_pow_right (n := 2) (by decide) (shr_le' s2 o2).1
    have p3 : 1 ≤ 2 ^ shr s1 o1 := Nat.two_pow_pos _
    have p4 : 1 ≤ 2 ^ shr s2 o2 := Nat.two_pow_pos _
    rw [e, f1, f2]
    generalize 2 ^ rk o1 = R1 at *
    generalize 2 ^ rk o2 = R2 at *
    generalize 2 ^ shr s1 o1 = S1 at *
    generalize 2 ^ shr s2 o2 = S2 at *
    have m1 : S1 * S2 ≤ S1 * R2 := Nat.mul_le_mul_left _ q2
    have m2 : S1 * S2 ≤ R1 * S2 := Nat.mul_le_mul_right _ q1
    have m3 : R1 - S1 ≤ (R1 - S1) * R2 := Nat.le_mul_of_pos_right _ (by omega)
    have m4 : R2 - S2 ≤ R1 * (R2 - S2) := Nat.le_mul_of_pos_left _ (by omega)
    have m5 : (R1 - S1) * R2 = R1 * R2 - S1 * R2 := Nat.sub_mul _ _ _
    have m6 : R1 * (R2 - S2) = R1 * R2 - R1 * S2 := Nat.mul_sub _ _ _
    rw [m5] at m3
    rw [m6] at m4
    constructor <;> omega
  · have e : fwr (jn n s1 s2) (jn n l1 l2) (jn n o1 o2) (jn n p1 p2) = 2 ^ rk o1 * 2 ^ rk o2 := by
      unfold fwr
      rw [if_neg h, r, Nat.pow_add]
    rw [e]
    have f1 := fwr_le s1 l1 o1 p1
    have f2 := fwr_le s2 l2 o2 p2
    exact ⟨Nat.le_trans f1 (Nat.le_mul_of_pos_right _ (by omega)), Nat.le_trans f2 (Nat.le_mul_of_pos_left _ (by omega))⟩
end
/-- the rank of words that span all -/
theorem rk_all {b : Nat} {A : List Nat} (h : ∀ x ∈ A, x < 2 ^ b) (hb : b ≤ rk A) : rk A = b := Nat.le_antisymm (rk_le_bits h) hb
section
variable {n m : Nat} {s1 l1 s2 l2 : List Nat} (hs1 : ∀ x ∈ s1, x < 2 ^ n) (hl1 : ∀ x ∈ l1, x < 2 ^ n) (hs2 : ∀ x ∈ s2, x < 2 ^ m) (hl2 : ∀ x ∈ l2, x < 2 ^ m) (hb1 : n ≤ rk (s1 ++ l1)) (hb2 : m ≤ rk (s2 ++ l2))
include hs1 hl1
theorem two_lt : ∀ x ∈ s1 ++ l1, x < 2 ^ n := fun x hx => by
  rcases List.mem_append.mp hx with hx | hx
  · exact hs1 x hx
  · exact hl1 x hx
theorem jn_rk2 : rk (jn n s1 s2 ++ jn n l1 l2) = rk (s1 ++ l1) + rk (s2 ++ l2) := by rw [rk_eq jn_app, jn_rk (two_lt hs1 hl1)]
include hb1 hb2
/-- side by side they are onto -/
theorem jn_full : n + m ≤ rk (jn n s1 s2 ++ jn n l1 l2) := by
  rw [jn_rk2 hs1 hl1]; omega
include hs2 hl2
/-- copies -/
theorem jn_copies : (ker (jn n s1 s2 ++ jn n l1 l2)).length = (ker (s1 ++ l1)).length + (ker (s2 ++ l2)).length := by
  have a := ker_len_eq (jn n s1 s2 ++ jn n l1 l2)
  have b := ker_len_eq (s1 ++ l1)
  have c := ker_len_eq (s2 ++ l2)
  rw [jn_rk2 hs1 hl1, List.length_append, jn_len, jn_len] at a
  rw [List.length_append] at b c
  have q1 := rk_len (s1 ++ l1)
  have q2 := rk_len (s2 ++ l2)
  omega
/-- partners of words of the first one -/
theorem jn_partners {ws : List Nat} (hw : ∀ x ∈ ws, x < 2 ^ n) : (prt (jn n s1 s2) (jn n l1 l2) (spn ws)).length = (prt s1 l1 (spn ws)).length + (twn s2 l2).length := by
  have a := prt_size (jn n s1 s2) (jn n l1 l2) ws
  have b := prt_size s1 l1 ws
  have c := twn_size s2 l2
  have hsw : ∀ x ∈ s1 ++ ws, x < 2 ^ n := two_lt hs1 hw
  have e : ∀ x, Spn (jn n s1 s2 ++ ws) x ↔ Spn (jn n (s1 ++ ws) s2) x := fun x => by
    have p : (jn n s1 s2 ++ ws).Perm (jn n (s1 ++ ws) s2) := by
      unfold jn
      rw [List.append_assoc, List.append_assoc]
      exact List.Perm.append_left _ List.perm_append_comm
    exact ⟨fun h => h.sub fun w hw => p.mem_iff.mp hw, fun h => h.sub fun w hw => p.mem_iff.mpr hw⟩
  have r1 : rk (jn n s1 s2 ++ ws) = rk (s1 ++ ws) + rk s2 := by rw [rk_eq e, jn_rk hsw]
  have r2 : rk (jn n s1 s2 ++ ws ++ jn n l1 l2) = rk (s1 ++ ws ++ l1) + rk (s2 ++ l2) := by
    rw [rk_eq fun x => span_app e, rk_eq jn_app, jn_rk (two_lt hsw hl1)]
  have f1 : rk (s1 ++ ws ++ l1) ≤ l1.length + rk (s1 ++ ws) := by have := rk_app_len (s1 ++ ws) l1; omega
  rw [r1, r2, jn_len] at a
  omega
end
/-- no rounds for an empty space -/
theorem smr_nil {b : Nat} {ss ls : List Nat} (hs : ∀ x ∈ ss, x < 2 ^ b) (hl : ∀ x ∈ ls, x < 2 ^ b) (hb : b ≤ rk (ss ++ ls)) : smr b ss ls (spn []) = 0 := by
  have l := ldr_size (ws := []) hs hl (fun x hx => by cases hx) hb
  rw [List.append_nil, Nat.sub_self] at l
  unfold smr
  rw [l]
  unfold rdf
  rw [if_pos (Nat.zero_le _), Nat.sub_zero, Nat.sub_self]
end LaneX
set_option linter.all false
namespace LaneX
/-! ### words added to one another, words beside one another -/
theorem add_beside {n a b : Nat} (h : a < 2 ^ n) : a + b * 2 ^ n = a ^^^ b <<< n := by
  rw [← Nat.shiftLeft_eq, Nat.add_comm, add_eq_xor h, Nat.xor_comm]
theorem beside_lt {n m a b : Nat} (ha : a < 2 ^ n) (hb : b < 2 ^ m) : a ^^^ b <<< n < 2 ^ (n + m) := by
  refine Nat.xor_lt_two_pow (Nat.lt_of_lt_of_le ha (Nat.pow_le_pow_right (by decide) (Nat.le_add_right _ _))) ?_
  rw [Nat.shiftLeft_eq, Nat.pow_add, Nat.mul_comm]
  exact Nat.mul_lt_mul_of_pos_left hb (Nat.two_pow_pos n)
theorem set_span {M : List Nat} {i j : Nat} (hi : i < M.length) (hj : j < M.length) (ne : i ≠ j) (x : Nat) : Spn (M.set j (M.getD j 0 ^^^ M.getD i 0)) x ↔ Spn M x := by
  have gi : (M.set j (M.getD j 0 ^^^ M.getD i 0)).getD i 0 = M.getD i 0 := by rw [getD_set' _ _ _ _ hj, if_neg ne]
  have gj : (M.set j (M.getD j 0 ^^^ M.getD i 0)).getD j 0 = M.getD j 0 ^^^ M.getD i 0 := by rw [getD_set' _ _ _ _ hj, if_pos rfl]
  have l : (M.set j (M.getD j 0 ^^^ M.getD i 0)).length = M.length := List.length_set
  have gk : ∀ k, k ≠ j → (M.set j (M.getD j 0 ^^^ M.getD i 0)).getD k 0 = M.getD k 0 := fun k e => by rw [getD_set' _ _ _ _ hj, if_neg e]
  have at_ : ∀ (L : List Nat) (w : Nat), w ∈ L → ∃ k, k < L.length ∧ L.getD k 0 = w := fun L w hw => by
    obtain ⟨k, hk, e⟩ := List.getElem_of_mem hw
    exact ⟨k, hk, by rw [List.getD_eq_getElem?_getD, List.getElem?_eq_getElem hk, ← e]; rfl⟩
  constructor
  · intro h
    refine h.mono fun w hw => ?_
    obtain ⟨k, hk, rfl⟩ := at_ _ w hw
    rw [l] at hk
    rw [getD_set' _ _ _ _ hj]
    split
    · exact (Spn.of (getD_mem hj)).xor (.of (getD_mem hi))
    · exact .of (getD_mem hk)
  · intro h
    refine h.mono fun w hw => ?_
    obtain ⟨k, hk, rfl⟩ := at_ _ w hw
    have m : ∀ k, k < M.length → (M.set j (M.getD j 0 ^^^ M.getD i 0)).getD k 0 ∈ M.set j (M.getD j 0 ^^^ M.getD i 0) := fun k hk => getD_mem (by rw [l]; exact hk)
    generalize M.set j (M.getD j 0 ^^^ M.getD i 0) = N at *
    by_cases e : k = j
    · subst e
      have a := (Spn.of (m k hj)).xor (Spn.of (m i hi))
      rwa [gj, gi, Nat.xor_assoc, Nat.xor_self, Nat.xor_zero] at a
    · have g := gk k e
      rw [← g]
      exact .of (m k hk)
theorem mix_step {b : Nat} {M : List Nat} (h : Mix b M) {i j : Nat} (hi : i < b) (hj : j < b) (ne : i ≠ j) : Mix b (M.set j (M.getD j 0 ^^^ M.getD i 0)) := by
  have l := h.len
  have sp := set_span (M := M) (by omega) (by omega) ne
  refine ⟨by rw [List.length_set, l], fun x hx => ((sp x).mp (.of hx)).lt h.lt, by rw [rk_eq sp, h.rk]⟩
theorem prt_twice (ss ls ws : List Nat) : (prt ss ls (spn (spn ws))).length = (prt ss ls (spn ws)).length := by
  have a := prt_size ss ls ws
  have b := prt_size ss ls (spn ws)
  have e : ∀ x, Spn (ss ++ spn ws) x ↔ Spn (ss ++ ws) x := fun x => span_app2 (fun _ => Iff.rfl) (spn_span ws)
  have e2 : ∀ x, Spn (ss ++ spn ws ++ ls) x ↔ Spn (ss ++ ws ++ ls) x := fun x => span_app e
  rw [rk_eq e, rk_eq e2] at b
  omega
end LaneX
set_option linter.all false
namespace LaneX
/-! ### maps by their columns -/
theorem xz {a c : Nat} (h : a ^^^ c = 0) : a = c := by
  have := congrArg (· ^^^ c) h
  simp only [Nat.xor_assoc, Nat.xor_self, Nat.xor_zero, Nat.zero_xor] at this
  exact this
theorem two1 (i : Nat) : 1 <<< i = 2 ^ i := Nat.one_shiftLeft i
def colsf (b : Nat) (f : Nat → Nat) : List Nat := (List.range b).map fun i => f (1 <<< i)
theorem colsf_len (b : Nat) (f : Nat → Nat) : (colsf b f).length = b := by simp [colsf]
theorem colsf_at {b i : Nat} (f : Nat → Nat) (h : i < b) : (colsf b f).getD i 0 = f (1 <<< i) := by
  unfold colsf
  rw [List.getD_eq_getElem?_getD, List.getElem?_map, List.getElem?_range h]
  rfl
theorem colsf_img {b x : Nat} {f : Nat → Nat} (L : Lin f) (h : x < 2 ^ b) : img (colsf b f) x = f x := by
  have e : colsf b f = ((List.range b).map fun i => 1 <<< i).map f := by unfold colsf; rw [List.map_map]; rfl
  rw [e, img_map L, img_units h]
theorem getD_ext {M N : List Nat} (hl : M.length = N.length) (h : ∀ i, i < M.length → M.getD i 0 = N.getD i 0) : M = N := by
  refine List.ext_getElem hl fun i h1 h2 => ?_
  have := h i h1
  rwa [List.getD_eq_getElem?_getD, List.getD_eq_getElem?_getD, List.getElem?_eq_getElem h1, List.getElem?_eq_getElem h2] at this
theorem ext_cols {b : Nat} {M N : List Nat} (hM : M.length = b) (hN : N.length = b) (h : ∀ x, x < 2 ^ b → img M x = img N x) : M = N :=
  getD_ext (hM.trans hN.symm) fun i hi => by
    have := h (2 ^ i) (Nat.pow_lt_pow_right (by decide) (by omega))
    rwa [img_unit M hi, img_unit N (by omega)] at this
theorem mix_of {b : Nat} {F : List Nat} (len : F.length = b) (lt : ∀ x ∈ F, x < 2 ^ b) (inj : ∀ x, x < 2 ^ b → img F x = 0 → x = 0) : Mix b F :=
  ⟨len, lt, by rw [rk_of_inj (by rw [len]; exact inj), len]⟩
theorem Mix.inj0 {b : Nat} {M : List Nat} (h : Mix b M) {x : Nat} (hx : x < 2 ^ b) (e : img M x = 0) : x = 0 := img_inj (by rw [h.rk, h.len]) (by rw [h.len]; exact hx) e
theorem Mix.inj {b : Nat} {M : List Nat} (h : Mix b M) {x y : Nat} (hx : x < 2 ^ b) (hy : y < 2 ^ b) (e : img M x = img M y) : x = y := img_inj2 (by rw [h.rk, h.len]) (by rw [h.len]; exact hx) (by rw [h.len]; exact hy) e
theorem Mix.img_lt {b : Nat} {M : List Nat} (h : Mix b M) (x : Nat) : img M x < 2 ^ b := imf_lt h.lt _ _
theorem colsf_lt {b c : Nat} {f : Nat → Nat} (h : ∀ x, x < 2 ^ b → f x < 2 ^ c) : ∀ x ∈ colsf b f, x < 2 ^ c := fun x hx => by
  obtain ⟨i, hi, rfl⟩ := List.mem_map.mp hx
  exact h _ (by rw [two1]; exact Nat.pow_lt_pow_right (by decide) (List.mem_range.mp hi))
theorem mix_colsf {b : Nat} {f : Nat → Nat} (L : Lin f) (lt : ∀ x, x < 2 ^ b → f x < 2 ^ b) (inj : ∀ x, x < 2 ^ b → f x = 0 → x = 0) : Mix b (colsf b f) :=
  mix_of (colsf_len b f) (colsf_lt lt) fun x hx e => inj x hx (by rw [← colsf_img L hx]; exact e)
/-- words that are as many independent ones as there are bits span all -/
theorem span_of_rk {b : Nat} {A : List Nat} (lt : ∀ x ∈ A, x < 2 ^ b) (h : b ≤ rk A) {w : Nat} (hw : w < 2 ^ b) : Spn A w := by
  by_cases z : Spn A w
  · exact z
  · have a := rk_snoc_out z
    have c := rk_le_bits (ws := A ++ [w]) (b := b) fun x hx => by
      rcases List.mem_append.mp hx with hx | hx
      · exact lt x hx
      · rw [List.mem_singleton.mp hx]; exact hw
    omega
theorem Mix.all {b : Nat} {M : List Nat} (h : Mix b M) {w : Nat} (hw : w < 2 ^ b) : Spn M w := span_of_rk h.lt (by rw [h.rk]; exact Nat.le_refl _) hw
/-! ### undoing -/
def inv (b : Nat) (M : List Nat) : List Nat := (List.range b).map fun i => slv M (1 <<< i)
theorem inv_cols (b : Nat) (M : List Nat) : inv b M = colsf b (slv M) := rfl
section
variable {b : Nat} {M : List Nat} (h : Mix b M)
include h
theorem slv_lt' {x : Nat} (hx : x < 2 ^ b) : slv M x < 2 ^ b := by
  have := (slv_ok (h.all hx)).1
  rwa [h.len] at this
theorem inv_right {x : Nat} (hx : x < 2 ^ b) : img M (img (inv b M) x) = x := by
  rw [inv_cols, colsf_img (lin_slv M) hx]
  exact (slv_ok (h.all hx)).2
theorem inv_mix : Mix b (inv b M) := mix_colsf (lin_slv M) (fun x hx => slv_lt' h hx) fun x hx e => by
  have := (slv_ok (h.all hx)).2
  rw [e, (lin_img M).z] at this
  exact this.symm
theorem inv_left {x : Nat} (hx : x < 2 ^ b) : img (inv b M) (img M x) = x :=
  h.inj ((inv_mix h).img_lt _) hx (by rw [inv_right h (h.img_lt x)])
end
theorem img_comp (M N : List Nat) (x : Nat) : img (N.map (img M)) x = img M (img N x) := img_map (lin_img M) N x
/-! ### slots and lanes -/
def lo (s x : Nat) : Nat := x &&& (1 <<< s - 1)
theorem lo_mod (s x : Nat) : lo s x = x % 2 ^ s := by unfold lo; rw [two1, Nat.and_two_pow_sub_one_eq_mod]
theorem lo_lt (s x : Nat) : lo s x < 2 ^ s := by rw [lo_mod]; exact Nat.mod_lt _ (Nat.two_pow_pos s)
theorem lin_lo (s : Nat) : Lin (lo s) := ⟨by rw [lo_mod]; exact Nat.zero_mod _, fun a b => by rw [lo_mod, lo_mod, lo_mod]; exact Nat.xor_mod_two_pow⟩
theorem lo_of_lt {s x : Nat} (h : x < 2 ^ s) : lo s x = x := by rw [lo_mod, Nat.mod_eq_of_lt h]
theorem lo_shl (s y : Nat) : lo s (y <<< s) = 0 := by rw [lo_mod, Nat.shiftLeft_eq, Nat.mul_mod_left]
theorem hi_lt {s b x : Nat} (hs : s ≤ b) (h : x < 2 ^ b) : x >>> s < 2 ^ (b - s) := by
  rw [Nat.shiftRight_eq_div_pow]
  refine Nat.div_lt_of_lt_mul ?_
  rw [← Nat.pow_add, show s + (b - s) = b by omega]
  exact h
theorem hi_of_lt {s x : Nat} (h : x < 2 ^ s) : x >>> s = 0 := by rw [Nat.shiftRight_eq_div_pow, Nat.div_eq_of_lt h]
theorem hi_shl (s y : Nat) : (y <<< s) >>> s = y := Nat.shiftLeft_shiftRight ..
theorem lo_hi (s x : Nat) : lo s x ^^^ (x >>> s) <<< s = x := by
  rw [← add_beside (lo_lt s x), lo_mod, Nat.shiftRight_eq_div_pow, Nat.mul_comm]
  exact Nat.mod_add_div x (2 ^ s)
theorem shl_lt {s b y : Nat} (hs : s ≤ b) (h : y < 2 ^ (b - s)) : y <<< s < 2 ^ b := by
  rw [Nat.shiftLeft_eq, show (2 : Nat) ^ b = 2 ^ (b - s) * 2 ^ s by rw [← Nat.pow_add, Nat.sub_add_cancel hs]]
  exact Nat.mul_lt_mul_of_pos_right h (Nat.two_pow_pos s)
theorem zero_of {s x : Nat} (h1 : lo s x = 0) (h2 : x >>> s = 0) : x = 0 := by
  rw [← lo_hi s x, h1, h2, Nat.zero_shiftLeft, Nat.xor_zero]
def AA (s : Nat) (M : List Nat) : List Nat := (M.take s).map (lo s)
def CC (s : Nat) (M : List Nat) : List Nat := (M.take s).map fun x => x >>> s
def DD (s : Nat) (M : List Nat) : List Nat := (M.drop s).map fun x => x >>> s
def evb (s : Nat) (M : List Nat) : Bool := (M.drop s).all fun x => decide (lo s x = 0)
/-- how many slot moves of a split must be uneven -/
def unv (b s : Nat) (M : List Nat) : Nat := if evb s M = true then 0 else if rk (AA s M) = s then 1 else if rk (DD s M) = b - s then 1 else 2
section
variable {b s : Nat} {M : List Nat} (h : M.length = b) (hs : s ≤ b)
include h hs
theorem AA_len : (AA s M).length = s := by unfold AA; rw [List.length_map, List.length_take]; omega
theorem CC_len : (CC s M).length = s := by unfold CC; rw [List.length_map, List.length_take]; omega
theorem DD_len : (DD s M).length = b - s := by unfold DD; rw [List.length_map, List.length_drop]; omega
theorem img_take {x : Nat} (hx : x < 2 ^ s) : img (M.take s) x = img M x := by
  have l : (M.take s).length = s := by rw [List.length_take]; omega
  have := img_app (P := M.take s) (Q := M.drop s) (x := x) (y := 0) (by rw [l]; exact hx)
  rw [List.take_append_drop, Nat.zero_shiftLeft, Nat.xor_zero, (lin_img _).z, Nat.xor_zero] at this
  exact this.symm
theorem img_drop (y : Nat) : img (M.drop s) y = img M (y <<< s) := by
  have l : (M.take s).length = s := by rw [List.length_take]; omega
  have := img_app (P := M.take s) (Q := M.drop s) (x := 0) (y := y) (Nat.two_pow_pos _)
  rw [List.take_append_drop, Nat.zero_xor, (lin_img _).z, Nat.zero_xor, l] at this
  exact this.symm
theorem AA_img {x : Nat} (hx : x < 2 ^ s) : img (AA s M) x = lo s (img M x) := by unfold AA; rw [img_map (lin_lo s), img_take h hs hx]
theorem CC_img {x : Nat} (hx : x < 2 ^ s) : img (CC s M) x = img M x >>> s := by unfold CC; rw [img_map (lin_shr s), img_take h hs hx]
theorem DD_img (y : Nat) : img (DD s M) y = img M (y <<< s) >>> s := by unfold DD; rw [img_map (lin_shr s), img_drop h hs]
theorem ev_iff : evb s M = true ↔ ∀ y, y < 2 ^ (b - s) → lo s (img M (y <<< s)) = 0 := by
  unfold evb
  rw [List.all_eq_true]
  constructor
  · intro e y hy
    rw [← img_drop h hs, ← img_map (lin_lo s)]
    have : Spn ((M.drop s).map (lo s)) (img ((M.drop s).map (lo s)) y) := img_in _ (by rw [List.length_map, List.length_drop, h]; exact hy)
    have z := this.mono (vs := []) fun w hw => by
      obtain ⟨x, hx, rfl⟩ := List.mem_map.mp hw
      rw [of_decide_eq_true (e x hx)]
      exact .zero
    exact z.nil
  · intro e w hw
    obtain ⟨i, hi, rfl⟩ := List.getElem_of_mem hw
    rw [List.length_drop, h] at hi
    have := e (2 ^ i) (Nat.pow_lt_pow_right (by decide) hi)
    rw [← img_drop h hs, img_unit _ (by rw [List.length_drop, h]; exact hi)] at this
    refine decide_eq_true ?_
    rw [List.getD_eq_getElem?_getD, List.getElem?_eq_getElem (by rw [List.length_drop, h]; exact hi)] at this
    exact this
theorem alone_slots : rk (AA s M) = s ↔ ∀ x, x < 2 ^ s → lo s (img M x) = 0 → x = 0 := by
  have l := AA_len h hs
  constructor
  · intro e x hx z
    exact img_inj (by rw [e, l]) (by rw [l]; exact hx) (by rw [AA_img h hs hx]; exact z)
  · intro e
    have := rk_of_inj (A := AA s M) fun x hx z => e x (by rw [← l]; exact hx) (by rw [← AA_img h hs (by rw [← l]; exact hx)]; exact z)
    rw [this, l]
theorem alone_lanes : rk (DD s M) = b - s ↔ ∀ y, y < 2 ^ (b - s) → img M (y <<< s) >>> s = 0 → y = 0 := by
  have l := DD_len h hs
  constructor
  · intro e y hy z
    exact img_inj (by rw [e, l]) (by rw [l]; exact hy) (by rw [DD_img h hs]; exact z)
  · intro e
    have := rk_of_inj (A := DD s M) fun x hx z => e x (by rw [← l]; exact hx) (by rw [← DD_img h hs]; exact z)
    rw [this, l]
end
def KL (b s : Nat) (M : List Nat) : Prop := ∀ x, x < 2 ^ b → img M x >>> s = x >>> s
def KS (b s : Nat) (M : List Nat) : Prop := ∀ x, x < 2 ^ b → lo s (img M x) = lo s x
structure Spl (b s : Nat) (M F X L : List Nat) : Prop where
  f : Mix b F
  k : Mix b X
  l : Mix b L
  kf : KL b s F
  kk : KS b s X
  kl : KL b s L
  all : ∀ x, x < 2 ^ b → img L (img X (img F x)) = img M x
  un : (if evb s F = true then 0 else 1) + (if evb s L = true then 0 else 1) = unv b s M
/-! ### the first way -/
def ahd1 (b s : Nat) (M : List Nat) : List Nat := colsf b fun x => lo s (img M x) ^^^ (x >>> s) <<< s
theorem lin2 {f g : Nat → Nat} (F : Lin f) (G : Lin g) : Lin fun x => f x ^^^ g x := ⟨by rw [F.z, G.z]; rfl, fun a b => by rw [F.x, G.x, xor4]⟩
theorem lin_ahd1 (s : Nat) (M : List Nat) : Lin fun x => lo s (img M x) ^^^ (x >>> s) <<< s := lin2 ((lin_lo s).comp (lin_img M)) ((lin_shl s).comp (lin_shr s))
theorem beside_lo {s a c : Nat} (h : a < 2 ^ s) : lo s (a ^^^ c <<< s) = a := by rw [(lin_lo s).x, lo_of_lt h, lo_shl, Nat.xor_zero]
theorem beside_hi {s a c : Nat} (h : a < 2 ^ s) : (a ^^^ c <<< s) >>> s = c := by rw [(lin_shr s).x, hi_of_lt h, hi_shl, Nat.zero_xor]
theorem beside_lt' {s b a c : Nat} (hs : s ≤ b) (ha : a < 2 ^ s) (hc : c < 2 ^ (b - s)) : a ^^^ c <<< s < 2 ^ b := Nat.xor_lt_two_pow (Nat.lt_of_lt_of_le ha (Nat.pow_le_pow_right (by decide) hs)) (shl_lt hs hc)
theorem units_img {b x : Nat} (h : x < 2 ^ b) : img (units b) x = x := img_units h
theorem kl_units (b s : Nat) : KL b s (units b) := fun x hx => by rw [units_img hx]
section
variable {b s : Nat} {M : List Nat} (h : Mix b M) (hs : s ≤ b)
include h hs
theorem ahd1_mix (ha : rk (AA s M) = s) : Mix b (ahd1 b s M) := by
  refine mix_colsf (lin_ahd1 s M) (fun x hx => beside_lt' hs (lo_lt s _) (hi_lt hs hx)) fun x hx e => ?_
  have e1 : lo s (img M x) = 0 := by have := congrArg (lo s) e; rwa [beside_lo (lo_lt s _), (lin_lo s).z] at this
  have e2 : x >>> s = 0 := by have := congrArg (fun y => y >>> s) e; simp only [beside_hi (lo_lt s _), Nat.zero_shiftRight] at this; exact this
  refine (alone_slots h.len hs).mp ha x ?_ e1
  have := lo_hi s x
  rw [e2, Nat.zero_shiftLeft, Nat.xor_zero] at this
  rw [← this]
  exact lo_lt s x
theorem ahd1_img {x : Nat} (hx : x < 2 ^ b) : img (ahd1 b s M) x = lo s (img M x) ^^^ (x >>> s) <<< s := colsf_img (lin_ahd1 s M) hx
theorem evb_ahd1 : evb s (ahd1 b s M) = evb s M := by
  rw [Bool.eq_iff_iff, ev_iff (show (ahd1 b s M).length = b from colsf_len b _) hs, ev_iff h.len hs]
  constructor
  · intro e y hy
    have := e y hy
    rwa [ahd1_img h hs (shl_lt hs hy), beside_lo (lo_lt s _)] at this
  · intro e y hy
    rw [ahd1_img h hs (shl_lt hs hy), beside_lo (lo_lt s _)]
    exact e y hy
omit h in
theorem evb_units : evb s (units b) = true := by
  have l : (units b).length = b := by simp [units]
  rw [ev_iff l hs]
  intro y hy
  rw [units_img (shl_lt hs hy), lo_shl]
theorem spl_one (ha : rk (AA s M) = s) : Spl b s M (ahd1 b s M) ((inv b (ahd1 b s M)).map (img M)) (units b) := by
  have F := ahd1_mix h hs ha
  have I := inv_mix F
  refine ⟨F, mix_comp h I, mix_units b, fun x hx => ?_, fun x hx => ?_, kl_units b s, fun x hx => ?_, ?_⟩
  · rw [ahd1_img h hs hx, beside_hi (lo_lt s _)]
  · rw [img_comp]
    have e := inv_right F hx
    have l := I.img_lt x
    generalize img (inv b (ahd1 b s M)) x = y at *
    rw [ahd1_img h hs l] at e
    have := congrArg (lo s) e
    rwa [beside_lo (lo_lt s _)] at this
  · rw [img_comp, inv_left F hx, units_img (h.img_lt x)]
  · rw [evb_ahd1 h hs, evb_units hs, if_pos rfl, Nat.add_zero]
    unfold unv
    by_cases e : evb s M = true
    · rw [if_pos e, if_pos e]
    · rw [if_neg e, if_neg e, if_pos ha]
end
/-! ### the second way -/
def ahd2 (b s : Nat) (G : List Nat) : List Nat := colsf b fun x => x ^^^ img G (x >>> s)
def crs (b s : Nat) (N : List Nat) : List Nat := colsf b fun x => lo s x ^^^ (img N x >>> s) <<< s
theorem lin_id : Lin fun x => x := ⟨rfl, fun _ _ => rfl⟩
theorem lin_ahd2 (s : Nat) (G : List Nat) : Lin fun x => x ^^^ img G (x >>> s) := lin2 lin_id ((lin_img G).comp (lin_shr s))
theorem lin_crs (s : Nat) (N : List Nat) : Lin fun x => lo s x ^^^ (img N x >>> s) <<< s := lin2 (lin_lo s) ((lin_shl s).comp ((lin_shr s).comp (lin_img N)))
/-- what is asked of the filling -/
structure Fil (b s : Nat) (M G : List Nat) : Prop where
  len : G.length = b - s
  lt : ∀ g ∈ G, g < 2 ^ s
  all : ∀ y, y < 2 ^ (b - s) → img M (y <<< s) >>> s = img M (img G y) >>> s → y = 0
  z : rk (DD s M) = b - s → ∀ g ∈ G, g = 0
section
variable {b s : Nat} {M G : List Nat} (h : Mix b M) (hs : s ≤ b) (f : Fil b s M G)
theorem ahd2_img {x : Nat} (hx : x < 2 ^ b) : img (ahd2 b s G) x = x ^^^ img G (x >>> s) := colsf_img (lin_ahd2 s G) hx
theorem crs_img {N : List Nat} {x : Nat} (hx : x < 2 ^ b) : img (crs b s N) x = lo s x ^^^ (img N x >>> s) <<< s := colsf_img (lin_crs s N) hx
include f
theorem g_lt (y : Nat) : img G y < 2 ^ s := imf_lt f.lt _ _
theorem ahd2_hi {x : Nat} (hx : x < 2 ^ b) : img (ahd2 b s G) x >>> s = x >>> s := by
  rw [ahd2_img hx, (lin_shr s).x, hi_of_lt (g_lt f _), Nat.xor_zero]
include hs
theorem ahd2_lt {x : Nat} (hx : x < 2 ^ b) : x ^^^ img G (x >>> s) < 2 ^ b := Nat.xor_lt_two_pow hx (Nat.lt_of_lt_of_le (g_lt f _) (Nat.pow_le_pow_right (by decide) hs))
theorem ahd2_mix : Mix b (ahd2 b s G) := by
  refine mix_colsf (lin_ahd2 s G) (fun x hx => ahd2_lt hs f hx) fun x hx e => ?_
  have e2 : x >>> s = 0 := by
    have := congrArg (fun y => y >>> s) e
    simp only [(lin_shr s).x, hi_of_lt (g_lt f _), Nat.xor_zero, Nat.zero_shiftRight] at this
    exact this
  rw [e2, (lin_img G).z, Nat.xor_zero] at e
  exact e
theorem ahd2_twice {x : Nat} (hx : x < 2 ^ b) : img (ahd2 b s G) (img (ahd2 b s G) x) = x := by
  have e : img (ahd2 b s G) x < 2 ^ b := by rw [ahd2_img hx]; exact ahd2_lt hs f hx
  rw [ahd2_img e, ahd2_hi f hx, ahd2_img hx, Nat.xor_assoc, Nat.xor_self, Nat.xor_zero]
include h
/-- the move behind the filling -/
theorem thr_mix : Mix b ((ahd2 b s G).map (img M)) := mix_comp h (ahd2_mix hs f)
theorem thr_img {x : Nat} (hx : x < 2 ^ b) : img ((ahd2 b s G).map (img M)) x = img M (x ^^^ img G (x >>> s)) := by rw [img_comp, ahd2_img hx]
theorem crs_mix : Mix b (crs b s ((ahd2 b s G).map (img M))) := by
  have Tm := thr_mix h hs f
  refine mix_colsf (lin_crs s _) (fun x hx => beside_lt' hs (lo_lt s _) (hi_lt hs (Tm.img_lt x))) fun x hx e => ?_
  have e1 : lo s x = 0 := by have := congrArg (lo s) e; rwa [beside_lo (lo_lt s _), (lin_lo s).z] at this
  have e2 : img ((ahd2 b s G).map (img M)) x >>> s = 0 := by have := congrArg (fun y => y >>> s) e; simp only [beside_hi (lo_lt s _), Nat.zero_shiftRight] at this; exact this
  have ex : (x >>> s) <<< s = x := by have := lo_hi s x; rwa [e1, Nat.zero_xor] at this
  rw [thr_img h hs f hx, (lin_img M).x, (lin_shr s).x] at e2
  have := f.all (x >>> s) (hi_lt hs hx) (by rw [ex]; exact xz e2)
  rw [this, Nat.zero_shiftLeft] at ex
  exact ex.symm
theorem spl_two (hc : rk (AA s M) = s → rk (DD s M) = b - s) : Spl b s M (ahd2 b s G) (crs b s ((ahd2 b s G).map (img M))) ((inv b (crs b s ((ahd2 b s G).map (img M)))).map (img ((ahd2 b s G).map (img M)))) := by
  have Am := ahd2_mix hs f
  have Tm := thr_mix h hs f
  have Km := crs_mix h hs f
  have ti := fun {x : Nat} (hx : x < 2 ^ b) => thr_img h hs f hx
  generalize hT : (ahd2 b s G).map (img M) = T at *
  have I := inv_mix Km
  have Lm := mix_comp Tm I
  have lk : ∀ x, x < 2 ^ b → img ((inv b (crs b s T)).map (img T)) (img (crs b s T) x) = img T x := fun x hx => by rw [img_comp, inv_left Km hx]
  have klL : KL b s ((inv b (crs b s T)).map (img T)) := fun x hx => by
    rw [img_comp]
    have e := inv_right Km hx
    have l := I.img_lt x
    generalize img (inv b (crs b s T)) x = y at *
    rw [crs_img l] at e
    have := congrArg (fun y => y >>> s) e
    simp only [beside_hi (lo_lt s _)] at this
    exact this
  generalize (inv b (crs b s T)).map (img T) = L at *
  refine ⟨Am, Km, Lm, fun x hx => ahd2_hi f hx, fun x hx => ?_, klL, fun x hx => ?_, ?_⟩
  · rw [crs_img hx, beside_lo (lo_lt s _)]
  · rw [lk _ (Am.img_lt x), ← hT, img_comp, ahd2_twice hs f hx]
  · have g0 : evb s (ahd2 b s G) = true ↔ ∀ y, y < 2 ^ (b - s) → img G y = 0 := by
      rw [ev_iff Am.len hs]
      constructor
      · intro e y hy
        have := e y hy
        rwa [ahd2_img (shl_lt hs hy), (lin_lo s).x, lo_shl, Nat.zero_xor, hi_shl, lo_of_lt (g_lt f _)] at this
      · intro e y hy
        rw [ahd2_img (shl_lt hs hy), hi_shl, e y hy, Nat.xor_zero, lo_shl]
    by_cases hd : rk (DD s M) = b - s
    · -- lanes alone: nothing is filled
      have gz := f.z hd
      have gi : ∀ y, y < 2 ^ (b - s) → img G y = 0 := fun y hy => by
        have := (img_in G (z := y) (by rw [f.len]; exact hy)).mono (vs := []) fun w hw => by rw [gz w hw]; exact .zero
        exact this.nil
      have ta : ∀ x, x < 2 ^ b → img T x = img M x := fun x hx => by rw [ti hx, gi _ (hi_lt hs hx), Nat.xor_zero]
      rw [if_pos (g0.mpr gi), Nat.zero_add]
      have el : evb s L = evb s M := by
        rw [Bool.eq_iff_iff, ev_iff Lm.len hs, ev_iff h.len hs]
        have al := (alone_lanes h.len hs).mp hd
        constructor
        · intro e y hy
          have hx := shl_lt hs hy
          have k1 := lk _ hx
          rw [crs_img hx, lo_shl, Nat.zero_xor, ta _ hx] at k1
          rw [← k1]
          exact e _ (hi_lt hs (h.img_lt _))
        · intro e y hy
          -- some lane leads to y
          have sp : Spn (DD s M) y := span_of_rk (b := b - s) (fun x hx => by
            obtain ⟨w, hw, rfl⟩ := List.mem_map.mp hx
            exact hi_lt hs (h.lt w (List.mem_of_mem_drop hw))) (by rw [hd]; exact Nat.le_refl _) hy
          obtain ⟨z, hz, ez⟩ := span_img (cols := DD s M) (Nat.le_refl _) (by rw [List.take_length]; exact sp)
          rw [DD_len h.len hs] at hz
          rw [DD_img h.len hs] at ez
          have hx := shl_lt hs hz
          have k1 := lk _ hx
          rw [crs_img hx, lo_shl, Nat.zero_xor, ta _ hx, ez] at k1
          rw [k1]
          exact e z hz
      rw [el]
      unfold unv
      by_cases ev : evb s M = true
      · rw [if_pos ev, if_pos ev]
      · rw [if_neg ev, if_neg ev]
        by_cases ha : rk (AA s M) = s
        · rw [if_pos ha]
        · rw [if_neg ha, if_pos hd]
    · have ha : ¬ rk (AA s M) = s := fun e => hd (hc e)
      have nev : ¬ evb s M = true := fun ev => hd ((alone_lanes h.len hs).mpr fun y hy e => by
        have e1 := (ev_iff h.len hs).mp ev y hy
        have := h.inj0 (shl_lt hs hy) (zero_of e1 e)
        have e2 := hi_shl s y
        rw [this, Nat.zero_shiftRight] at e2
        exact e2.symm)
      have n1 : ¬ evb s (ahd2 b s G) = true := fun ev => hd ((alone_lanes h.len hs).mpr fun y hy e => f.all y hy (by rw [g0.mp ev y hy, (lin_img M).z, e, Nat.zero_shiftRight]))
      have n2 : ¬ evb s L = true := fun ev => ha ((alone_slots h.len hs).mpr fun x hx e => by
        have hb : x < 2 ^ b := Nat.lt_of_lt_of_le hx (Nat.pow_le_pow_right (by decide) hs)
        have k1 := lk x hb
        rw [crs_img hb, lo_of_lt hx, ti hb, hi_of_lt hx, (lin_img G).z, Nat.xor_zero, (lin_img L).x] at k1
        have k2 := congrArg (lo s) k1
        rw [(lin_lo s).x, (ev_iff Lm.len hs).mp ev _ (hi_lt hs (h.img_lt x)), Nat.xor_zero, e] at k2
        have k3 := klL x hb
        rw [hi_of_lt hx] at k3
        exact Lm.inj0 hb (zero_of k2 k3))
      rw [if_neg n1, if_neg n2]
      unfold unv
      rw [if_neg nev, if_neg ha, if_neg hd]
end
end LaneX
set_option linter.all false
namespace LaneX
/-! ### the filling -/
theorem img_set {G : List Nat} {t v : Nat} (ht : t < G.length) (z : G.getD t 0 = 0) (y : Nat) : img (G.set t v) y = img G y ^^^ (if y.testBit t = true then v else 0) := by
  have l : (G.set t v).length = G.length := List.length_set
  have keep : ∀ x : Nat, x.testBit t = false → img (G.set t v) x = img G x := fun x hx => img_at l fun i hi hb => by
    rw [getD_set' _ _ _ _ ht, if_neg]
    rintro rfl
    rw [hb] at hx
    cases hx
  by_cases e : y.testBit t = true
  · have f : (y ^^^ 2 ^ t).testBit t = false := by rw [Nat.testBit_xor, e, Nat.testBit_two_pow_self]; rfl
    have a : y = (y ^^^ 2 ^ t) ^^^ 2 ^ t := by rw [Nat.xor_assoc, Nat.xor_self, Nat.xor_zero]
    have b1 : img (G.set t v) y = img (G.set t v) (y ^^^ 2 ^ t) ^^^ img (G.set t v) (2 ^ t) := by rw [← (lin_img _).x, ← a]
    have b2 : img G y = img G (y ^^^ 2 ^ t) ^^^ img G (2 ^ t) := by rw [← (lin_img _).x, ← a]
    rw [if_pos e, b1, b2, keep _ f, img_unit _ (by rw [l]; exact ht), img_unit _ ht, getD_set' _ _ _ _ ht, if_pos rfl, z, Nat.xor_zero]
  · rw [if_neg e, Nat.xor_zero]
    exact keep y (by cases h : y.testBit t <;> simp_all)
/-- the top of a row of the kernel -/
def tp (s : Nat) (M : List Nat) (j : Nat) : Nat := blen ((ker (DD s M)).getD j 0) - 1
structure Flg (b s : Nat) (M : List Nat) (n a : Nat) (R G : List Nat) : Prop where
  len : G.length = b - s
  lt : ∀ g ∈ G, g < 2 ^ s
  rw_ : Rws R
  rl : R.length = rk (DD s M) + a
  d : ∀ w ∈ DD s M, Spn R w
  g : ∀ y, y < 2 ^ (b - s) → Spn R (img (CC s M) (img G y))
  i : ∀ y, y < 2 ^ (b - s) → Spn (DD s M) (img (CC s M) (img G y)) → ∀ j, j < a → y.testBit (tp s M j) = false
  o : ∀ y, y < 2 ^ (b - s) → (∀ j, j < a → y.testBit (tp s M j) = false) → img G y = 0
  le : a ≤ (ker (DD s M)).length
  c : a < (ker (DD s M)).length → ∀ k, k < n → Spn R ((CC s M).getD k 0)
section
variable {b s : Nat} {M : List Nat} (h : Mix b M) (hs : s ≤ b)
theorem img_zeros (n y : Nat) : img (List.replicate n 0) y = 0 := by
  have : ∀ w ∈ List.replicate n 0, Spn ([] : List Nat) w := fun w hw => by rw [List.eq_of_mem_replicate hw]; exact .zero
  exact (allin_img this y).nil
include h hs
theorem tp_lt {j : Nat} (hj : j < (ker (DD s M)).length) : tp s M j < b - s := by
  have m : (ker (DD s M)).getD j 0 ∈ ker (DD s M) := getD_mem hj
  have a := ker_blen _ _ m
  rw [DD_len h.len hs] at a
  have z := (ker_rws (DD s M)).nz _ m
  have := blen_pos z
  unfold tp
  omega
theorem tp_ne {i j : Nat} (hi : i < (ker (DD s M)).length) (hj : j < (ker (DD s M)).length) (e : i ≠ j) : tp s M i ≠ tp s M j := fun z => by
  have a := (ker_rws (DD s M)).getD_bit hi hj e
  have m : (ker (DD s M)).getD i 0 ∈ ker (DD s M) := getD_mem hi
  have nz := (ker_rws (DD s M)).nz _ m
  unfold tp at z
  rw [← z] at a
  rw [testBit_top nz] at a
  cases a
theorem flg_start : Flg b s M 0 0 (spn (DD s M)) (List.replicate (b - s) 0) := by
  refine ⟨by simp, fun g hg => by rw [List.eq_of_mem_replicate hg]; exact Nat.two_pow_pos s, spn_rws _, rfl, fun w hw => (spn_span _ _).mpr (.of hw), fun y _ => ?_, fun y _ _ j hj => absurd hj (Nat.not_lt_zero _), fun y _ _ => img_zeros _ _, Nat.zero_le _, fun _ k hk => absurd hk (Nat.not_lt_zero _)⟩
  rw [img_zeros, (lin_img _).z]
  exact .zero
theorem flg_skip {n a : Nat} {R G : List Nat} (f : Flg b s M n a R G) (hn : n < s) (e : a < (ker (DD s M)).length → clr R ((CC s M).getD n 0) = 0) : Flg b s M (n + 1) a R G := by
  refine ⟨f.len, f.lt, f.rw_, f.rl, f.d, f.g, f.i, f.o, f.le, fun ha k hk => ?_⟩
  by_cases z : k < n
  · exact f.c ha k z
  · have : k = n := by omega
    subst this
    exact f.rw_.span.mpr (e ha)
theorem flg_take {n a : Nat} {R G : List Nat} (f : Flg b s M n a R G) (hn : n < s) (ha : a < (ker (DD s M)).length) (e : clr R ((CC s M).getD n 0) ≠ 0) : Flg b s M (n + 1) (a + 1) (grw R ((CC s M).getD n 0)) (G.set (tp s M a) (1 <<< n)) := by
  have tl := tp_lt h hs ha
  have gl : tp s M a < G.length := by rw [f.len]; exact tl
  have ln : (1 <<< n) < 2 ^ s := by rw [two1]; exact Nat.pow_lt_pow_right (by decide) hn
  have z : G.getD (tp s M a) 0 = 0 := by
    rw [← img_unit _ gl]
    refine f.o _ (Nat.pow_lt_pow_right (by decide) tl) fun j hj => ?_
    rw [Nat.testBit_two_pow]
    exact decide_eq_false (tp_ne h hs ha (by omega) (by omega))
  have is := fun y => img_set (v := 1 <<< n) gl z y
  have cu : img (CC s M) (1 <<< n) = (CC s M).getD n 0 := by rw [two1, img_unit _ (by rw [CC_len h.len hs]; exact hn)]
  have ci : ∀ y, img (CC s M) (img (G.set (tp s M a) (1 <<< n)) y) = img (CC s M) (img G y) ^^^ (if y.testBit (tp s M a) = true then (CC s M).getD n 0 else 0) := fun y => by
    rw [is, (lin_img _).x]
    split
    · rw [cu]
    · rw [(lin_img _).z]
  have sub : ∀ w, Spn R w → Spn (grw R ((CC s M).getD n 0)) w := fun w hw => (grw_span _ _).mpr (hw.sub fun x hx => List.mem_append_left _ hx)
  have own : Spn (grw R ((CC s M).getD n 0)) ((CC s M).getD n 0) := (grw_span _ _).mpr (.of (List.mem_append_right _ (List.mem_singleton_self _)))
  refine ⟨by rw [List.length_set, f.len], fun g hg => ?_, grw_rws f.rw_ _, by rw [grw_length, if_neg e, f.rl]; omega, fun w hw => sub w (f.d w hw), fun y hy => ?_, fun y hy hD => ?_, fun y hy hz => ?_, by omega, fun _ k hk => ?_⟩
  · rcases List.mem_or_eq_of_mem_set hg with hg | rfl
    · exact f.lt g hg
    · exact ln
  · rw [ci]
    refine (sub _ (f.g y hy)).xor ?_
    split
    · exact own
    · exact .zero
  · rw [ci] at hD
    have q : y.testBit (tp s M a) = false := by
      cases t : y.testBit (tp s M a) with
      | false => rfl
      | true =>
        rw [t, if_pos rfl] at hD
        have w1 : Spn R (img (CC s M) (img G y) ^^^ (CC s M).getD n 0) := hD.mono f.d
        have w2 := (f.g y hy).xor w1
        rw [← Nat.xor_assoc, Nat.xor_self, Nat.zero_xor] at w2
        exact absurd (f.rw_.span.mp w2) e
    rw [q, if_neg (by decide), Nat.xor_zero] at hD
    intro j hj
    by_cases z : j < a
    · exact f.i y hy hD j z
    · have : j = a := by omega
      rw [this]; exact q
  · rw [is, hz a (Nat.lt_succ_self a), if_neg (by decide), Nat.xor_zero]
    exact f.o y hy fun j hj => hz j (by omega)
  · by_cases z : k < n
    · exact sub _ (f.c ha k z)
    · have : k = n := by omega
      subst this
      exact own
/-- in the end all rows of the kernel have got a slot -/
theorem flg_end {a : Nat} {R G : List Nat} (f : Flg b s M s a R G) : Fil b s M G := by
  have ld := DD_len h.len hs
  have full : b - s ≤ rk (CC s M ++ DD s M) := by
    refine rk_full fun u hu => ?_
    obtain ⟨i, hi, rfl⟩ := List.mem_map.mp hu
    have hi := List.mem_range.mp hi
    have w := h.all (w := (1 <<< i) <<< s) (shl_lt hs (by rw [two1]; exact Nat.pow_lt_pow_right (by decide) hi))
    have w2 := (lin_shr s).spn w
    rw [hi_shl] at w2
    have e : M.map (fun x => x >>> s) = CC s M ++ DD s M := by
      unfold CC DD
      rw [← List.map_append, List.take_append_drop]
    rwa [e] at w2
  have ka := ker_len_eq (DD s M)
  have ae : a = (ker (DD s M)).length := by
    have := f.le
    by_cases z : a < (ker (DD s M)).length
    · have r := rk_le (a := CC s M ++ DD s M) (b := R) fun x hx => by
        rcases List.mem_append.mp hx with hx | hx
        · obtain ⟨k, hk, e⟩ := List.getElem_of_mem hx
          have := f.c z k (by rw [← CC_len h.len hs]; exact hk)
          rw [List.getD_eq_getElem?_getD, List.getElem?_eq_getElem hk] at this
          rw [← e]
          exact this
        · exact f.d x hx
      rw [f.rw_.rk, f.rl] at r
      omega
    · omega
  refine ⟨f.len, f.lt, fun y hy e => ?_, fun hd g hg => ?_⟩
  · have gl : img G y < 2 ^ s := imf_lt f.lt _ _
    have e' : img (DD s M) y = img (CC s M) (img G y) := by rw [DD_img h.len hs, CC_img h.len hs gl]; exact e
    have t := f.i y hy (by rw [← e']; exact img_in _ (by rw [ld]; exact hy))
    have z := f.o y hy t
    rw [z, (lin_img _).z] at e'
    have k : Spn (ker (DD s M)) y := (ker_span _ _).mpr ⟨by rw [ld]; exact hy, e'⟩
    have c0 := (ker_rws (DD s M)).span.mp k
    rw [clr_of_none fun r hr => ?_] at c0
    · exact c0
    · obtain ⟨j, hj, e⟩ := List.getElem_of_mem hr
      have := t j (by omega)
      unfold tp at this
      rw [List.getD_eq_getElem?_getD, List.getElem?_eq_getElem hj] at this
      rw [← e]
      exact this
  · have a0 : a = 0 := by omega
    obtain ⟨j, hj, e⟩ := List.getElem_of_mem hg
    have := f.o (2 ^ j) (Nat.pow_lt_pow_right (by decide) (by rw [← f.len]; exact hj)) fun i hi => absurd hi (by omega)
    rw [img_unit _ hj, List.getD_eq_getElem?_getD, List.getElem?_eq_getElem hj] at this
    rw [← e]
    exact this
end
end LaneX
set_option linter.all false
namespace LaneX
/-! ### what the questions about a move answer -/
def klb (b s : Nat) (M : List Nat) : Bool := (List.range b).all fun i => decide (M.getD i 0 >>> s = (1 <<< i) >>> s)
def ksb (b s : Nat) (M : List Nat) : Bool := (List.range b).all fun i => decide (lo s (M.getD i 0) = lo s (1 <<< i))
theorem unit_hi {s i : Nat} : (1 <<< i) >>> s = if i < s then 0 else 1 <<< (i - s) := by
  by_cases h : i < s
  · rw [if_pos h, two1]
    exact hi_of_lt (Nat.pow_lt_pow_right (by decide) h)
  · rw [if_neg h]
    have e : i = (i - s) + s := by omega
    conv => lhs; rw [e, Nat.shiftLeft_add, hi_shl]
theorem unit_lo {s i : Nat} : lo s (1 <<< i) = if i < s then 1 <<< i else 0 := by
  by_cases h : i < s
  · rw [if_pos h]
    exact lo_of_lt (by rw [two1]; exact Nat.pow_lt_pow_right (by decide) h)
  · rw [if_neg h]
    have e : i = (i - s) + s := by omega
    conv => lhs; rw [e, Nat.shiftLeft_add, lo_shl]
theorem units_len (b : Nat) : (units b).length = b := by simp [units]
theorem units_at {b i : Nat} (h : i < b) : (units b).getD i 0 = 1 <<< i := by
  unfold units
  rw [List.getD_eq_getElem?_getD, List.getElem?_map, List.getElem?_range h]
  rfl
theorem app_at {A B : List Nat} {i : Nat} : (A ++ B).getD i 0 = if i < A.length then A.getD i 0 else B.getD (i - A.length) 0 := by
  by_cases h : i < A.length
  · rw [if_pos h, List.getD_eq_getElem?_getD, List.getElem?_append_left h, List.getD_eq_getElem?_getD]
  · rw [if_neg h, List.getD_eq_getElem?_getD, List.getElem?_append_right (by omega), List.getD_eq_getElem?_getD]
theorem zeros_at (n i : Nat) : (List.replicate n 0).getD i 0 = 0 := by
  rw [List.getD_eq_getElem?_getD, List.getElem?_replicate]
  split <;> rfl
theorem map_at {M : List Nat} {f : Nat → Nat} {i : Nat} (h : i < M.length) : (M.map f).getD i 0 = f (M.getD i 0) := by
  rw [List.getD_eq_getElem?_getD, List.getElem?_map, List.getD_eq_getElem?_getD, List.getElem?_eq_getElem h]
  rfl
theorem dec_list {A B : List Nat} {b : Nat} (ha : A.length = b) (hb : B.length = b) : decide (A = B) = (List.range b).all fun i => decide (A.getD i 0 = B.getD i 0) := by
  rw [Bool.eq_iff_iff, decide_eq_true_iff, List.all_eq_true]
  constructor
  · rintro rfl i _
    exact decide_eq_true rfl
  · intro h
    exact getD_ext (ha.trans hb.symm) fun i hi => of_decide_eq_true (h i (List.mem_range.mpr (by omega)))
theorem all_congr {b : Nat} {p q : Nat → Bool} (h : ∀ i, i < b → p i = q i) : (List.range b).all p = (List.range b).all q := by
  rw [Bool.eq_iff_iff, List.all_eq_true, List.all_eq_true]
  exact ⟨fun z i hi => by rw [← h i (List.mem_range.mp hi)]; exact z i hi, fun z i hi => by rw [h i (List.mem_range.mp hi)]; exact z i hi⟩
section
variable {b s : Nat} {M : List Nat} (h : M.length = b) (hs : s ≤ b)
include h hs
theorem klb_eq : decide (M.map (fun x => x >>> s) = List.replicate s 0 ++ units (b - s)) = klb b s M := by
  rw [dec_list (b := b) (by rw [List.length_map, h]) (by rw [List.length_append, List.length_replicate, units_len]; omega)]
  refine all_congr fun i hi => ?_
  rw [map_at (by omega), app_at, List.length_replicate, zeros_at, unit_hi]
  by_cases z : i < s
  · rw [if_pos z, if_pos z]
  · rw [if_neg z, if_neg z, units_at (by omega)]
theorem ksb_eq : decide (M.map (lo s) = units s ++ List.replicate (b - s) 0) = ksb b s M := by
  rw [dec_list (b := b) (by rw [List.length_map, h]) (by rw [List.length_append, List.length_replicate, units_len]; omega)]
  refine all_congr fun i hi => ?_
  rw [map_at (by omega), app_at, units_len, unit_lo]
  by_cases z : i < s
  · rw [if_pos z, if_pos z, units_at z]
  · rw [if_neg z, if_neg z, zeros_at]
omit hs in
theorem klb_true (k : KL b s M) : klb b s M = true := by
  unfold klb
  rw [List.all_eq_true]
  intro i hi
  have hi := List.mem_range.mp hi
  have := k (2 ^ i) (Nat.pow_lt_pow_right (by decide) hi)
  rw [img_unit _ (by omega)] at this
  exact decide_eq_true (by rw [two1]; exact this)
omit hs in
theorem ksb_true (k : KS b s M) : ksb b s M = true := by
  unfold ksb
  rw [List.all_eq_true]
  intro i hi
  have hi := List.mem_range.mp hi
  have := k (2 ^ i) (Nat.pow_lt_pow_right (by decide) hi)
  rw [img_unit _ (by omega)] at this
  exact decide_eq_true (by rw [two1]; exact this)
end
/-! ### the lists that are built -/
section
variable {b s : Nat} {M : List Nat} (h : M.length = b) (hs : s ≤ b)
include h hs
theorem ahd1_at {i : Nat} (hi : i < b) : (ahd1 b s M).getD i 0 = lo s (M.getD i 0) ^^^ (if i < s then 0 else 1 <<< i) := by
  unfold ahd1
  rw [colsf_at _ hi, two1, img_unit _ (by omega), ← two1, unit_hi]
  by_cases z : i < s
  · rw [if_pos z, if_pos z, Nat.zero_shiftLeft]
  · rw [if_neg z, if_neg z, ← Nat.shiftLeft_add, show i - s + s = i by omega]
omit h in
theorem ahd2_eq {G : List Nat} (hG : G.length = b - s) : units s ++ (List.range (b - s)).map (fun i => 1 <<< (s + i) ^^^ G.getD i 0) = ahd2 b s G := by
  have l : (ahd2 b s G).length = b := colsf_len b _
  refine getD_ext (by rw [List.length_append, units_len, List.length_map, List.length_range, l]; omega) fun i hi => ?_
  rw [List.length_append, units_len, List.length_map, List.length_range] at hi
  have hb : i < b := by omega
  unfold ahd2
  rw [app_at, units_len, colsf_at _ hb, unit_hi]
  by_cases z : i < s
  · rw [if_pos z, if_pos z, units_at z, (lin_img G).z, Nat.xor_zero]
  · rw [if_neg z, if_neg z, two1 (i - s), img_unit _ (by omega), List.getD_eq_getElem?_getD, List.getElem?_map, List.getElem?_range (by omega)]
    show 1 <<< (s + (i - s)) ^^^ _ = _
    rw [show s + (i - s) = i by omega]
/-- after n turns -/
def mid (s : Nat) (N : List Nat) (n : Nat) : List Nat := (List.range N.length).map fun i => (N.getD i 0 >>> s) <<< s ^^^ (if i < n then 1 <<< i else 0)
omit h hs in
theorem mid_zero (N : List Nat) : (N.map fun x => x >>> s).map (fun x => x <<< s) = mid s N 0 := by
  unfold mid
  refine getD_ext (by simp) fun i hi => ?_
  rw [List.length_map, List.length_map] at hi
  rw [map_at (by rw [List.length_map]; exact hi), map_at hi, List.getD_eq_getElem?_getD (l := List.map _ (List.range _)), List.getElem?_map, List.getElem?_range hi]
  show _ = _ ^^^ _
  rw [if_neg (by omega), Nat.xor_zero]
omit h hs in
theorem mid_len (N : List Nat) (n : Nat) : (mid s N n).length = N.length := by simp [mid]
omit h hs in
theorem mid_at {N : List Nat} {n i : Nat} (hi : i < N.length) : (mid s N n).getD i 0 = (N.getD i 0 >>> s) <<< s ^^^ (if i < n then 1 <<< i else 0) := by
  unfold mid
  rw [List.getD_eq_getElem?_getD, List.getElem?_map, List.getElem?_range hi]
  rfl
omit h hs in
theorem mid_succ {N : List Nat} {n : Nat} (hn : n < N.length) : (mid s N n).set n ((mid s N n).getD n 0 ^^^ 1 <<< n) = mid s N (n + 1) := by
  refine getD_ext (by rw [List.length_set, mid_len, mid_len]) fun i hi => ?_
  rw [List.length_set, mid_len] at hi
  rw [getD_set' _ _ _ _ (by rw [mid_len]; exact hn), mid_at (n := n + 1) hi]
  by_cases e : i = n
  · subst e
    rw [if_pos rfl, mid_at hi, if_neg (by omega), Nat.xor_zero, if_pos (by omega)]
  · rw [if_neg e, mid_at hi]
    by_cases z : i < n
    · rw [if_pos z, if_pos (by omega)]
    · rw [if_neg z, if_neg (by omega)]
theorem mid_crs : mid s M s = crs b s M := by
  have l : (crs b s M).length = b := colsf_len b _
  refine getD_ext (by rw [mid_len, l, h]) fun i hi => ?_
  rw [mid_len] at hi
  unfold crs
  rw [mid_at hi, colsf_at _ (by omega), unit_lo, two1, img_unit _ hi, ← two1, Nat.xor_comm]
end
/-! ### moves that are drawn -/
theorem mix_slot {s l : Nat} {A B : List Nat} (hA : Mix s A) (hB : B.length = l) (lt : ∀ x ∈ B, x < 2 ^ s) : Mix (s + l) (A ++ (List.range l).map fun i => 1 <<< (s + i) ^^^ B.getD i 0) := by
  have la := hA.len
  have e : A ++ (List.range l).map (fun i => 1 <<< (s + i) ^^^ B.getD i 0) = colsf (s + l) fun x => (img A (lo s x) ^^^ img B (x >>> s)) ^^^ (x >>> s) <<< s := by
    refine getD_ext (by rw [List.length_append, List.length_map, List.length_range, colsf_len, la]) fun i hi => ?_
    rw [List.length_append, List.length_map, List.length_range, la] at hi
    rw [app_at, colsf_at _ hi, unit_lo, unit_hi, la]
    by_cases z : i < s
    · rw [if_pos z, if_pos z, if_pos z, (lin_img B).z, Nat.zero_shiftLeft, Nat.xor_zero, Nat.xor_zero, two1, img_unit _ (by omega)]
    · rw [if_neg z, if_neg z, if_neg z, (lin_img A).z, Nat.zero_xor, two1, img_unit _ (by omega), List.getD_eq_getElem?_getD, List.getElem?_map, List.getElem?_range (by omega)]
      show 1 <<< (s + (i - s)) ^^^ _ = _
      rw [← two1, ← Nat.shiftLeft_add, show i - s + s = s + (i - s) by omega, Nat.xor_comm]
  rw [e]
  have L : Lin fun x => (img A (lo s x) ^^^ img B (x >>> s)) ^^^ (x >>> s) <<< s := lin2 (lin2 ((lin_img A).comp (lin_lo s)) ((lin_img B).comp (lin_shr s))) ((lin_shl s).comp (lin_shr s))
  have al : ∀ x, img A (lo s x) ^^^ img B (x >>> s) < 2 ^ s := fun x => Nat.xor_lt_two_pow (imf_lt hA.lt _ _) (imf_lt lt _ _)
  refine mix_colsf L (fun x hx => beside_lt' (Nat.le_add_right _ _) (al x) (hi_lt (Nat.le_add_right _ _) hx)) fun x hx z => ?_
  have e2 : x >>> s = 0 := by have := congrArg (fun y => y >>> s) z; simp only [beside_hi (al x), Nat.zero_shiftRight] at this; exact this
  rw [e2, (lin_img B).z, Nat.zero_shiftLeft, Nat.xor_zero, Nat.xor_zero] at z
  exact zero_of (hA.inj0 (lo_lt s x) z) e2
theorem mix_lane {s l : Nat} {A B : List Nat} (hA : Mix l A) (hB : B.length = s) (lt : ∀ x ∈ B, x < 2 ^ l) : Mix (s + l) ((List.range s).map (fun i => 1 <<< i ^^^ B.getD i 0 <<< s) ++ A.map fun x => x <<< s) := by
  have la := hA.len
  have e : (List.range s).map (fun i => 1 <<< i ^^^ B.getD i 0 <<< s) ++ A.map (fun x => x <<< s) = colsf (s + l) fun x => lo s x ^^^ (img B (lo s x) ^^^ img A (x >>> s)) <<< s := by
    refine getD_ext (by rw [List.length_append, List.length_map, List.length_range, colsf_len, List.length_map, la]) fun i hi => ?_
    rw [List.length_append, List.length_map, List.length_range, List.length_map, la] at hi
    rw [app_at, colsf_at _ hi, unit_lo, unit_hi, List.length_map, List.length_range]
    by_cases z : i < s
    · rw [if_pos z, if_pos z, if_pos z, (lin_img A).z, Nat.xor_zero, List.getD_eq_getElem?_getD, List.getElem?_map, List.getElem?_range z]
      show 1 <<< i ^^^ _ = _
      rw [two1, img_unit _ (by omega)]
    · rw [if_neg z, if_neg z, if_neg z, (lin_img B).z, Nat.zero_xor, Nat.zero_xor, map_at (by omega), two1, img_unit _ (by omega)]
  rw [e]
  have L : Lin fun x => lo s x ^^^ (img B (lo s x) ^^^ img A (x >>> s)) <<< s := lin2 (lin_lo s) ((lin_shl s).comp (lin2 ((lin_img B).comp (lin_lo s)) ((lin_img A).comp (lin_shr s))))
  have al : ∀ x, img B (lo s x) ^^^ img A (x >>> s) < 2 ^ l := fun x => Nat.xor_lt_two_pow (imf_lt lt _ _) (imf_lt hA.lt _ _)
  refine mix_colsf L (fun x hx => beside_lt' (Nat.le_add_right _ _) (lo_lt s x) (by rw [Nat.add_sub_cancel_left]; exact al x)) fun x hx z => ?_
  have e1 : lo s x = 0 := by have := congrArg (lo s) z; rwa [beside_lo (lo_lt s x), (lin_lo s).z] at this
  have e2 : img B (lo s x) ^^^ img A (x >>> s) = 0 := by have := congrArg (fun y => y >>> s) z; simp only [beside_hi (lo_lt s x), Nat.zero_shiftRight] at this; exact this
  rw [e1, (lin_img B).z, Nat.zero_xor] at e2
  refine zero_of e1 (hA.inj0 ?_ e2)
  have := hi_lt (Nat.le_add_right s l) hx
  rwa [Nat.add_sub_cancel_left] at this
theorem mix_order {b : Nat} {o : List Nat} (p : o.Perm (List.range b)) : Mix b (o.map fun i => 1 <<< i) := (mix_units b).perm (p.map _)
/-- undoing a move behind another one -/
theorem inv_behind {b : Nat} {G M : List Nat} (hG : Mix b G) (hM : Mix b M) : (M.map (img G)).map (img (inv b G)) = M :=
  ext_cols (by rw [List.length_map, List.length_map, hM.len]) hM.len fun x hx => by rw [img_comp, img_comp, inv_left hG (hM.img_lt x)]
theorem spl_cols {b s : Nat} {M F X L : List Nat} (hM : M.length = b) (h : Spl b s M F X L) : (F.map (img X)).map (img L) = M :=
  ext_cols (by rw [List.length_map, List.length_map, h.f.len]) hM fun x hx => by rw [img_comp, img_comp, h.all x hx]
end LaneX
set_option linter.all false
namespace LaneX
/-! ### odd meetings -/
/-- 1 for an odd number of ones -/
def par (k n : Nat) : Nat := imf (List.replicate k 1) n k
theorem rep_at {k i : Nat} (h : i < k) : (List.replicate k 1).getD i 0 = 1 := by
  rw [List.getD_eq_getElem?_getD, List.getElem?_replicate, if_pos h]
  rfl
theorem par_img (k n : Nat) : par k n = img (List.replicate k 1) n := by
  unfold par img
  rw [List.length_replicate]
theorem par_succ (k n : Nat) : par (k + 1) n = par k n ^^^ (if n.testBit k = true then 1 else 0) := by
  unfold par
  have e : imf (List.replicate (k + 1) 1) n k = imf (List.replicate k 1) n k := imf_cols fun i hi => by rw [rep_at (by omega), rep_at hi]
  rw [imf_succ, e]
  split
  · rw [rep_at (Nat.lt_succ_self k)]
  · rw [Nat.xor_zero]
theorem par_lin (k : Nat) : Lin (par k) := imf_lin _ _
theorem par_01 (n : Nat) : ∀ k, par k n = 0 ∨ par k n = 1
  | 0 => .inl rfl
  | k + 1 => by
    rw [par_succ]
    rcases par_01 n k with h | h <;> rw [h] <;> split <;> simp
theorem par_more {k n : Nat} (h : n < 2 ^ k) : ∀ j, k ≤ j → par j n = par k n
  | 0, hj => by
    have : k = 0 := by omega
    subst this
    rfl
  | j + 1, hj => by
    by_cases e : k = j + 1
    · rw [e]
    · rw [par_succ, par_more h j (by omega), Nat.testBit_lt_two_pow (Nat.lt_of_lt_of_le h (Nat.pow_le_pow_right (by decide) (by omega)))]
      simp
/-- whether a word meets a test oddly -/
def od (w t : Nat) : Bool := decide (par (blen (w &&& t)) (w &&& t) = 1)
theorem od_of {w t k : Nat} (h : w < 2 ^ k) : od w t = decide (par k (w &&& t) = 1) := by
  have l : w &&& t < 2 ^ k := Nat.lt_of_le_of_lt Nat.and_le_left h
  unfold od
  rw [par_more (blen_le.mp (Nat.le_refl _)) k (blen_le.mpr l)]
theorem and_lin (t : Nat) : Lin fun x => x &&& t := ⟨Nat.zero_and t, fun a b => Nat.and_xor_distrib_right⟩
/-- as a sum -/
def pt (k t x : Nat) : Nat := par k (x &&& t)
theorem pt_lin (k t : Nat) : Lin (pt k t) := (par_lin k).comp (and_lin t)
theorem pt_01 (k t x : Nat) : pt k t x = 0 ∨ pt k t x = 1 := par_01 _ _
theorem od_pt {k t x : Nat} (h : x < 2 ^ k) : od x t = decide (pt k t x = 1) := od_of h
/-- an exchange -/
def xch (k w t y : Nat) : Nat := if pt k t y = 1 then y ^^^ w else y
theorem xch_lin (k w t : Nat) : Lin (xch k w t) := by
  have L := pt_lin k t
  refine ⟨by unfold xch; rw [L.z]; simp, fun a b => ?_⟩
  unfold xch
  rw [L.x]
  rcases pt_01 k t a with ha | ha <;> rcases pt_01 k t b with hb | hb <;> rw [ha, hb] <;> simp
  · rw [Nat.xor_assoc]
  · rw [Nat.xor_assoc, Nat.xor_comm b w, Nat.xor_assoc]
  · rw [xor4, Nat.xor_self, Nat.xor_zero]
theorem xch_twice {k w t : Nat} (h : pt k t w = 0) (y : Nat) : xch k w t (xch k w t y) = y := by
  have L := pt_lin k t
  unfold xch
  rcases pt_01 k t y with hy | hy
  · simp [hy]
  · simp [hy, L.x, h, Nat.xor_assoc]
/-- the sums of places and images -/
def dcl (b : Nat) (N : List Nat) : List Nat := colsf b fun x => img N x ^^^ x
def drf (b s : Nat) (N : List Nat) : List Nat := (List.range b).map fun i => (N.getD i 0 ^^^ 1 <<< i) >>> s
theorem dcl_lin (N : List Nat) : Lin fun x => img N x ^^^ x := lin2 (lin_img N) lin_id
theorem drf_len (b s : Nat) (N : List Nat) : (drf b s N).length = b := by simp [drf]
theorem drf_eq {b s : Nat} {N : List Nat} (h : N.length = b) : drf b s N = (dcl b N).map fun x => x >>> s := by
  unfold drf dcl colsf
  rw [List.map_map]
  refine List.map_congr_left fun i hi => ?_
  show _ = (img N (1 <<< i) ^^^ 1 <<< i) >>> s
  rw [two1, img_unit _ (by rw [h]; exact List.mem_range.mp hi)]
theorem drf_img {b s : Nat} {N : List Nat} (h : N.length = b) {x : Nat} (hx : x < 2 ^ b) : img (drf b s N) x = (img N x ^^^ x) >>> s := by
  rw [drf_eq h, img_map (lin_shr s), dcl, colsf_img (dcl_lin N) hx]
theorem shl_rk (s : Nat) (A : List Nat) : rk (A.map fun x => x <<< s) = rk A := by
  have := jn_rk (n := s) (A := []) (B := A) (fun x hx => by cases hx)
  have e : rk ([] : List Nat) = 0 := rfl
  rw [e, Nat.zero_add] at this
  exact this
theorem ks_drift {b s : Nat} {N : List Nat} (k : KS b s N) {x : Nat} (hx : x < 2 ^ b) : ((img N x ^^^ x) >>> s) <<< s = img N x ^^^ x := by
  have := lo_hi s (img N x ^^^ x)
  rwa [(lin_lo s).x, k x hx, Nat.xor_self, Nat.zero_xor] at this
theorem drf_rk {b s : Nat} {N : List Nat} (h : N.length = b) (k : KS b s N) : rk (drf b s N) = rk (dcl b N) := by
  have e : dcl b N = (drf b s N).map fun x => x <<< s := by
    rw [drf_eq h, List.map_map]
    unfold dcl colsf
    rw [List.map_map]
    refine List.map_congr_left fun i hi => ?_
    show _ = ((img N (1 <<< i) ^^^ 1 <<< i) >>> s) <<< s
    rw [ks_drift k (by rw [two1]; exact Nat.pow_lt_pow_right (by decide) (List.mem_range.mp hi))]
  rw [e, shl_rk]
/-- slot moves ahead and behind change nothing -/
theorem drf_spl {b s : Nat} {M F X L : List Nat} (hM : M.length = b) (sp : Spl b s M F X L) : rk (drf b s M) = rk (drf b s X) := by
  have e : drf b s M = F.map (img (drf b s X)) := ext_cols (b := b) (drf_len b s M) (by rw [List.length_map, sp.f.len]) fun x hx => by
    rw [img_comp, drf_img hM hx, drf_img sp.k.len (sp.f.img_lt x), ← sp.all x hx]
    rw [(lin_shr s).x, (lin_shr s).x, sp.kl _ (sp.k.img_lt _), sp.kf x hx]
  rw [e]
  exact rk_eq fun x => sp.f.span (drf_len b s X) x
/-- what one exchange does to a lane move -/
structure Stp (b s : Nat) (N : List Nat) (w t : Nat) : Prop where
  mem : w ∈ dcl b N
  told : ∃ t0, pt b t0 w = 1 ∧ pt b t0 (w ^^^ img (inv b N) w) = 0 ∧ ∀ y, y < 2 ^ b → pt b t y = pt b t0 (img (inv b N) y ^^^ y)
section
variable {b s : Nat} {N : List Nat} {w t : Nat} (h : Mix b N) (hs : s ≤ b) (k : KS b s N) (st : Stp b s N w t)
include h hs k st
theorem stp_w : w < 2 ^ b ∧ (w >>> s) <<< s = w ∧ w ≠ 0 ∧ pt b t w = 0 := by
  obtain ⟨i, hi, e⟩ := List.mem_map.mp st.mem
  have hi : 1 <<< i < 2 ^ b := by rw [two1]; exact Nat.pow_lt_pow_right (by decide) (List.mem_range.mp hi)
  obtain ⟨t0, h1, h2, h3⟩ := st.told
  have wl : w < 2 ^ b := by rw [← e]; exact Nat.xor_lt_two_pow (h.img_lt _) hi
  refine ⟨wl, by rw [← e]; exact ks_drift k hi, fun z => ?_, ?_⟩
  · rw [z, (pt_lin b t0).z] at h1
    cases h1
  · rw [h3 w wl, Nat.xor_comm]
    exact h2
theorem stp_img (x : Nat) : img (N.map (xch b w t)) x = xch b w t (img N x) := img_map (xch_lin b w t) N x
theorem stp_back (x : Nat) : xch b w t (img (N.map (xch b w t)) x) = img N x := by rw [stp_img h hs k st, xch_twice (stp_w h hs k st).2.2.2]
theorem xch_lt {y : Nat} (hy : y < 2 ^ b) : xch b w t y < 2 ^ b := by
  unfold xch
  split
  · exact Nat.xor_lt_two_pow hy (stp_w h hs k st).1
  · exact hy
theorem stp_mix : Mix b (N.map (xch b w t)) := by
  refine mix_of (by rw [List.length_map, h.len]) (fun x hx => ?_) fun x hx e => ?_
  · obtain ⟨y, hy, rfl⟩ := List.mem_map.mp hx
    exact xch_lt h hs k st (h.lt y hy)
  · have := stp_back h hs k st x
    rw [e, (xch_lin b w t).z] at this
    exact h.inj0 hx this.symm
theorem stp_ks : KS b s (N.map (xch b w t)) := fun x hx => by
  rw [stp_img h hs k st]
  unfold xch
  split
  · rw [(lin_lo s).x, k x hx, ← (stp_w h hs k st).2.1, lo_shl, Nat.xor_zero]
  · exact k x hx
theorem stp_rk : rk (dcl b (N.map (xch b w t))) + 1 = rk (dcl b N) := by
  obtain ⟨t0, h1, h2, h3⟩ := st.told
  have L0 := pt_lin b t0
  have e : dcl b (N.map (xch b w t)) = (dcl b N).map (xch b w t0) := by
    unfold dcl colsf
    rw [List.map_map]
    refine List.map_congr_left fun i hi => ?_
    have hi : 1 <<< i < 2 ^ b := by rw [two1]; exact Nat.pow_lt_pow_right (by decide) (List.mem_range.mp hi)
    show img (N.map (xch b w t)) (1 <<< i) ^^^ 1 <<< i = xch b w t0 (img N (1 <<< i) ^^^ 1 <<< i)
    rw [stp_img h hs k st]
    have q := h3 (img N (1 <<< i)) (h.img_lt _)
    rw [inv_left h hi, Nat.xor_comm (1 <<< i)] at q
    unfold xch
    rw [q]
    split
    · rw [Nat.xor_assoc, Nat.xor_assoc, Nat.xor_comm w]
    · rfl
  rw [e]
  have out : ¬ Spn ((dcl b N).map (xch b w t0)) w := fun z => by
    have all : ∀ v, Spn ((dcl b N).map (xch b w t0)) v → pt b t0 v = 0 := fun v hv => by
      obtain ⟨y, _, rfl⟩ := (xch_lin b w t0).back hv
      unfold xch
      rcases pt_01 b t0 y with hy | hy
      · simp [hy]
      · simp [hy, L0.x, h1]
    rw [all w z] at h1
    cases h1
  rw [← rk_snoc_out out]
  refine rk_eq fun x => ?_
  have wS : Spn (dcl b N) w := .of st.mem
  constructor
  · intro q
    refine q.mono fun v hv => ?_
    rcases List.mem_append.mp hv with hv | hv
    · obtain ⟨y, hy, rfl⟩ := List.mem_map.mp hv
      unfold xch
      split
      · exact (Spn.of hy).xor wS
      · exact .of hy
    · rw [List.mem_singleton.mp hv]; exact wS
  · intro q
    refine q.mono fun v hv => ?_
    have a : Spn ((dcl b N).map (xch b w t0) ++ [w]) (xch b w t0 v) := .of (List.mem_append_left _ (List.mem_map.mpr ⟨v, hv, rfl⟩))
    have c : Spn ((dcl b N).map (xch b w t0) ++ [w]) w := .of (List.mem_append_right _ (List.mem_singleton_self _))
    unfold xch at a
    split at a
    · have := a.xor c
      rwa [Nat.xor_assoc, Nat.xor_self, Nat.xor_zero] at this
    · exact a
end
theorem dcl_zero {b : Nat} {N : List Nat} (h : N.length = b) (e : ∀ i, i < b → N.getD i 0 = 1 <<< i) : N = units b :=
  getD_ext (by rw [h, units_len]) fun i hi => by rw [e i (by omega), units_at (by omega)]
theorem rk_units0 (b : Nat) : rk (dcl b (units b)) = 0 := by
  have z : ∀ x ∈ dcl b (units b), Spn ([] : List Nat) x := fun x hx => by
    obtain ⟨i, hi, rfl⟩ := List.mem_map.mp hx
    have hi : 1 <<< i < 2 ^ b := by rw [two1]; exact Nat.pow_lt_pow_right (by decide) (List.mem_range.mp hi)
    show Spn [] (img (units b) (1 <<< i) ^^^ 1 <<< i)
    rw [units_img hi, Nat.xor_self]
    exact .zero
  have := rk_le z
  have e : rk ([] : List Nat) = 0 := rfl
  omega
/-! ### telling -/
def lwbit (n : Nat) : Nat := n - (n &&& (n - 1))
def tell (w u : Nat) : Nat := if w ^^^ (w &&& u) ≠ 0 then lwb (w ^^^ (w &&& u)) else lwb w ^^^ lwb (u ^^^ w)
theorem pt_lwb {k n x : Nat} (h : n ≠ 0) (hk : n < 2 ^ k) : pt k (lwb n) x = if x.testBit (low n) = true then 1 else 0 := by
  have lt : low n < k := by
    have := low_bit h
    by_cases z : low n < k
    · exact z
    · rw [Nat.testBit_lt_two_pow (Nat.lt_of_lt_of_le hk (Nat.pow_le_pow_right (by decide) (by omega)))] at this
      cases this
  unfold pt
  rw [lwb_eq h]
  by_cases e : x.testBit (low n) = true
  · have q : x &&& 2 ^ low n = 2 ^ low n := Nat.eq_of_testBit_eq fun i => by
      rw [Nat.testBit_and, Nat.testBit_two_pow]
      by_cases z : low n = i
      · subst z; simp [e]
      · simp [z]
    rw [if_pos e, q, par_img, img_unit _ (by simpa using lt), rep_at lt]
  · have q : x &&& 2 ^ low n = 0 := Nat.eq_of_testBit_eq fun i => by
      rw [Nat.testBit_and, Nat.testBit_two_pow, Nat.zero_testBit]
      by_cases z : low n = i
      · subst z
        have : x.testBit (low n) = false := by cases h : x.testBit (low n) <;> simp_all
        simp [this]
      · simp [z]
    rw [if_neg e, q, (par_lin k).z]
theorem pt_and (k a c x : Nat) : pt k (a ^^^ c) x = pt k a x ^^^ pt k c x := by
  unfold pt
  rw [Nat.and_xor_distrib_left, (par_lin k).x]
theorem tell_ok {k w u : Nat} (hw : w < 2 ^ k) (hu : u < 2 ^ k) (w0 : w ≠ 0) (ne : u ≠ w) : pt k (tell w u) w = 1 ∧ pt k (tell w u) u = 0 := by
  unfold tell
  by_cases f : w ^^^ (w &&& u) ≠ 0
  · rw [if_pos f]
    have fl : w ^^^ (w &&& u) < 2 ^ k := Nat.xor_lt_two_pow hw (Nat.lt_of_le_of_lt Nat.and_le_left hw)
    have lb := low_bit f
    rw [pt_lwb f fl, pt_lwb f fl]
    generalize low (w ^^^ (w &&& u)) = i at *
    rw [Nat.testBit_xor, Nat.testBit_and] at lb
    cases hw' : w.testBit i <;> cases hu' : u.testBit i <;> simp_all
  · have f0 : w ^^^ (w &&& u) = 0 := Decidable.not_not.mp f
    rw [if_neg f]
    have sub : ∀ i, w.testBit i = true → u.testBit i = true := fun i hi => by
      have := congrArg (fun n => n.testBit i) f0
      simp only [Nat.testBit_xor, Nat.testBit_and, Nat.zero_testBit, hi] at this
      cases h : u.testBit i <;> simp_all
    have r0 : u ^^^ w ≠ 0 := xor_ne ne
    have rl : u ^^^ w < 2 ^ k := Nat.xor_lt_two_pow hu hw
    have b1 := low_bit w0
    have b2 := low_bit r0
    rw [pt_and, pt_and, pt_lwb w0 hw, pt_lwb r0 rl, pt_lwb w0 hw, pt_lwb r0 rl]
    have c1 := sub _ b1
    have c2 : w.testBit (low (u ^^^ w)) = false ∧ u.testBit (low (u ^^^ w)) = true := by
      rw [Nat.testBit_xor] at b2
      have := sub (low (u ^^^ w))
      cases h1 : w.testBit (low (u ^^^ w)) <;> cases h2 : u.testBit (low (u ^^^ w)) <;> simp_all
    rw [b1, c1, c2.1, c2.2]
    decide
/-! ### walking stages -/
def wlk (b s : Nat) (l : List (Nat × Nat)) (y : Nat) : Nat := l.foldl (fun y p => xch b (p.1 <<< s) p.2 y) y
end LaneX
set_option linter.all false
namespace LaneX
/-! ### words with independent drifts, one by one -/
structure Dft (W : List Nat) (i : Nat) (R P : List Nat) : Prop where
  r : Rws R
  rl : R.length = P.length
  all : ∀ j, j < i → Spn R (W.getD j 0)
  sub : ∀ x ∈ P, ∃ j, j < i ∧ x = 1 <<< j
  sp : ∀ w, Spn R w ↔ Spn (P.map (img W)) w
theorem dft_start (W : List Nat) : Dft W 0 [] [] := ⟨Rws.nil, rfl, fun j hj => absurd hj (Nat.not_lt_zero _), (fun x hx => by cases hx), fun w => Iff.rfl⟩
theorem dft_skip {W R P : List Nat} {i : Nat} (h : Dft W i R P) (e : clr R (W.getD i 0) = 0) : Dft W (i + 1) R P := by
  refine ⟨h.r, h.rl, fun j hj => ?_, fun x hx => ?_, h.sp⟩
  · by_cases z : j < i
    · exact h.all j z
    · have : j = i := by omega
      subst this
      exact h.r.span.mpr e
  · obtain ⟨j, hj, e⟩ := h.sub x hx
    exact ⟨j, by omega, e⟩
theorem dft_take {W R P : List Nat} {i : Nat} (h : Dft W i R P) (hi : i < W.length) (e : clr R (W.getD i 0) ≠ 0) : Dft W (i + 1) (grw R (W.getD i 0)) (P ++ [1 <<< i]) := by
  have iu : img W (1 <<< i) = W.getD i 0 := by rw [two1, img_unit _ hi]
  refine ⟨grw_rws h.r _, by rw [grw_length, if_neg e, h.rl, List.length_append]; rfl, fun j hj => ?_, fun x hx => ?_, fun w => ?_⟩
  · refine (grw_span _ _).mpr ?_
    by_cases z : j < i
    · exact (h.all j z).sub fun y hy => List.mem_append_left _ hy
    · have : j = i := by omega
      subst this
      exact .of (List.mem_append_right _ (List.mem_singleton_self _))
  · rcases List.mem_append.mp hx with hx | hx
    · obtain ⟨j, hj, e⟩ := h.sub x hx
      exact ⟨j, by omega, e⟩
    · exact ⟨i, by omega, List.mem_singleton.mp hx⟩
  · rw [grw_span, List.map_append, List.map_cons, List.map_nil, iu]
    exact span_app h.sp
theorem dft_end {W R P : List Nat} (h : Dft W W.length R P) : (∀ x ∈ P, x < 2 ^ W.length) ∧ rk (P.map (img W)) = P.length ∧ P.length = rk W := by
  have e1 : rk (P.map (img W)) = P.length := by rw [← rk_eq h.sp, h.r.rk, h.rl]
  refine ⟨fun x hx => ?_, e1, ?_⟩
  · obtain ⟨j, hj, rfl⟩ := h.sub x hx
    rw [two1]
    exact Nat.pow_lt_pow_right (by decide) hj
  · rw [← e1]
    refine rk_eq fun w => ?_
    rw [← h.sp]
    constructor
    · intro q
      refine ((h.sp w).mp q).mono fun v hv => ?_
      obtain ⟨x, hx, rfl⟩ := List.mem_map.mp hv
      obtain ⟨j, hj, rfl⟩ := h.sub x hx
      exact img_in W (by rw [two1]; exact Nat.pow_lt_pow_right (by decide) hj)
    · intro q
      refine q.mono fun v hv => ?_
      obtain ⟨j, hj, e⟩ := List.getElem_of_mem hv
      have := h.all j hj
      rw [List.getD_eq_getElem?_getD, List.getElem?_eq_getElem hj] at this
      rw [← e]
      exact this
/-! ### the test of a stage -/
theorem pt_unit {b t i : Nat} (hi : i < b) : pt b t (1 <<< i) = if t.testBit i = true then 1 else 0 := by
  unfold pt
  rw [two1]
  by_cases e : t.testBit i = true
  · have q : 2 ^ i &&& t = 2 ^ i := Nat.eq_of_testBit_eq fun j => by
      rw [Nat.testBit_and, Nat.testBit_two_pow]
      by_cases z : i = j
      · subst z; simp [e]
      · simp [z]
    rw [if_pos e, q, par_img, img_unit _ (by simpa using hi), rep_at hi]
  · have q : 2 ^ i &&& t = 0 := Nat.eq_of_testBit_eq fun j => by
      rw [Nat.testBit_and, Nat.testBit_two_pow, Nat.zero_testBit]
      by_cases z : i = j
      · subst z
        have : t.testBit i = false := by cases h : t.testBit i <;> simp_all
        simp [this]
      · simp [z]
    rw [if_neg e, q, (par_lin b).z]
theorem pt_ext {b t : Nat} {f : Nat → Nat} (L : Lin f) (h : ∀ i, i < b → pt b t (1 <<< i) = f (1 <<< i)) {y : Nat} (hy : y < 2 ^ b) : pt b t y = f y := by
  rw [← colsf_img (pt_lin b t) hy, ← colsf_img L hy]
  congr 1
  unfold colsf
  exact List.map_congr_left fun i hi => h i (List.mem_range.mp hi)
/-- after i turns -/
structure Tst (g : Nat → Bool) (i t : Nat) : Prop where
  lt : t < 2 ^ i
  at_ : ∀ j, j < i → t.testBit j = g j
theorem tst_zero (g : Nat → Bool) : Tst g 0 0 := ⟨by decide, fun j hj => absurd hj (Nat.not_lt_zero _)⟩
theorem tst_skip {g : Nat → Bool} {i t : Nat} (h : Tst g i t) (e : g i = false) : Tst g (i + 1) t := by
  refine ⟨Nat.lt_of_lt_of_le h.lt (Nat.pow_le_pow_right (by decide) (Nat.le_succ i)), fun j hj => ?_⟩
  by_cases z : j < i
  · exact h.at_ j z
  · have : j = i := by omega
    subst this
    rw [Nat.testBit_lt_two_pow h.lt, e]
theorem tst_take {g : Nat → Bool} {i t : Nat} (h : Tst g i t) (e : g i = true) : Tst g (i + 1) (t ^^^ 1 <<< i) := by
  refine ⟨Nat.xor_lt_two_pow (Nat.lt_of_lt_of_le h.lt (Nat.pow_le_pow_right (by decide) (Nat.le_succ i))) (by rw [two1]; exact Nat.pow_lt_pow_right (by decide) (Nat.lt_succ_self i)), fun j hj => ?_⟩
  rw [Nat.testBit_xor, two1, Nat.testBit_two_pow]
  by_cases z : j < i
  · rw [h.at_ j z, decide_eq_false (by omega), Bool.xor_false]
  · have : j = i := by omega
    subst this
    rw [Nat.testBit_lt_two_pow h.lt, decide_eq_true rfl, e]
    rfl
theorem stp_of {b s : Nat} {N : List Nat} {i t : Nat} (h : Mix b N) (hi : i < b) (ne : N.getD i 0 ≠ 1 <<< i)
    (ht : Tst (fun j => od (img (inv b N) (1 <<< j) ^^^ 1 <<< j) (tell (N.getD i 0 ^^^ 1 <<< i) ((N.getD i 0 ^^^ 1 <<< i) ^^^ img (inv b N) (N.getD i 0 ^^^ 1 <<< i)))) b t) : Stp b s N (N.getD i 0 ^^^ 1 <<< i) t := by
  have ul : 1 <<< i < 2 ^ b := by rw [two1]; exact Nat.pow_lt_pow_right (by decide) hi
  have gm : N.getD i 0 ∈ N := getD_mem (by rw [h.len]; exact hi)
  have mem : N.getD i 0 ^^^ 1 <<< i ∈ dcl b N := by
    refine List.mem_map.mpr ⟨i, List.mem_range.mpr hi, ?_⟩
    show img N (1 <<< i) ^^^ 1 <<< i = _
    rw [two1, img_unit _ (by rw [h.len]; exact hi)]
  have wl : N.getD i 0 ^^^ 1 <<< i < 2 ^ b := Nat.xor_lt_two_pow (h.lt _ gm) ul
  have w0 : N.getD i 0 ^^^ 1 <<< i ≠ 0 := xor_ne ne
  generalize N.getD i 0 ^^^ 1 <<< i = w at *
  have I := inv_mix h
  have bw : img (inv b N) w ≠ 0 := fun z => w0 (I.inj0 wl z)
  have ul2 : w ^^^ img (inv b N) w < 2 ^ b := Nat.xor_lt_two_pow wl (I.img_lt w)
  have ne2 : w ^^^ img (inv b N) w ≠ w := fun z => by
    have := congrArg (fun y => w ^^^ y) z
    simp only [Nat.xor_self] at this
    rw [← Nat.xor_assoc, Nat.xor_self, Nat.zero_xor] at this
    exact bw this
  obtain ⟨t1, t2⟩ := tell_ok wl ul2 w0 ne2
  refine ⟨mem, tell w (w ^^^ img (inv b N) w), t1, t2, fun y hy => ?_⟩
  refine pt_ext (f := fun y => pt b (tell w (w ^^^ img (inv b N) w)) (img (inv b N) y ^^^ y)) ((pt_lin b _).comp (lin2 (lin_img _) lin_id)) (fun j hj => ?_) hy
  have uj : 1 <<< j < 2 ^ b := by rw [two1]; exact Nat.pow_lt_pow_right (by decide) hj
  rw [pt_unit hj, ht.at_ j hj, od_pt (Nat.xor_lt_two_pow (I.img_lt _) uj)]
  show _ = pt b _ (img (inv b N) (1 <<< j) ^^^ 1 <<< j)
  rcases pt_01 b (tell w (w ^^^ img (inv b N) w)) (img (inv b N) (1 <<< j) ^^^ 1 <<< j) with z | z <;> rw [z] <;> decide
/-! ### stages found -/
/-- valid stages -/
def Stv (b s : Nat) (st : List (Nat × Nat)) : Prop := ∀ p ∈ st, p.1 ≠ 0 ∧ p.1 < 2 ^ (b - s) ∧ p.2 < 2 ^ b ∧ pt b p.2 (p.1 <<< s) = 0
structure Lst (b s : Nat) (X N : List Nat) (st : List (Nat × Nat)) : Prop where
  m : Mix b N
  k : KS b s N
  n : st.length + rk (dcl b N) = rk (dcl b X)
  w : ∀ x, x < 2 ^ b → wlk b s st.reverse (img N x) = img X x
  v : Stv b s st
theorem lst_start {b s : Nat} {X : List Nat} (m : Mix b X) (k : KS b s X) : Lst b s X X [] := ⟨m, k, Nat.zero_add _, fun x _ => rfl, fun p hp => by cases hp⟩
theorem lst_step {b s : Nat} {X N : List Nat} {st : List (Nat × Nat)} {w t : Nat} (hs : s ≤ b) (h : Lst b s X N st) (p : Stp b s N w t) (ht : t < 2 ^ b) : Lst b s X (N.map fun c => if od c t = true then c ^^^ w else c) (st ++ [(w >>> s, t)]) := by
  have e : (N.map fun c => if od c t = true then c ^^^ w else c) = N.map (xch b w t) := List.map_congr_left fun c hc => by
    unfold xch
    rw [od_pt (h.m.lt c hc)]
    by_cases z : pt b t c = 1
    · rw [if_pos (decide_eq_true z), if_pos z]
    · rw [if_neg (by rw [decide_eq_false z]; decide), if_neg z]
  rw [e]
  obtain ⟨wl, wh, w0, pw⟩ := stp_w h.m hs h.k p
  have r := stp_rk h.m hs h.k p
  refine ⟨stp_mix h.m hs h.k p, stp_ks h.m hs h.k p, ?_, fun x hx => ?_, fun q hq => ?_⟩
  · have := h.n
    rw [List.length_append, List.length_singleton]
    omega
  · rw [List.reverse_append]
    show wlk b s st.reverse (xch b ((w >>> s) <<< s) t (img (N.map (xch b w t)) x)) = _
    rw [wh, stp_back h.m hs h.k p]
    exact h.w x hx
  · rcases List.mem_append.mp hq with hq | hq
    · exact h.v q hq
    · rw [List.mem_singleton.mp hq]
      refine ⟨fun z => w0 (by rw [← wh, show w >>> s = 0 from z, Nat.zero_shiftLeft]), hi_lt hs wl, ht, by rw [wh]; exact pw⟩
theorem lst_end {b s : Nat} {X N : List Nat} {st : List (Nat × Nat)} (h : Lst b s X N st) (e : N = units b) : st.length = rk (dcl b X) ∧ (∀ x, x < 2 ^ b → wlk b s st.reverse x = img X x) := by
  subst e
  have n := h.n
  rw [rk_units0, Nat.add_zero] at n
  refine ⟨n, fun x hx => ?_⟩
  have := h.w x hx
  rwa [units_img hx] at this
end LaneX
set_option linter.all false
namespace LaneX
/-! ### drifts of moves one behind another -/
theorem drf_at {b s : Nat} {N : List Nat} {i : Nat} (hi : i < b) : (drf b s N).getD i 0 = (N.getD i 0 ^^^ 1 <<< i) >>> s := by
  unfold drf
  rw [List.getD_eq_getElem?_getD, List.getElem?_map, List.getElem?_range hi]
  rfl
theorem pow_lt {i b : Nat} (h : i < b) : 1 <<< i < 2 ^ b := by rw [two1]; exact Nat.pow_lt_pow_right (by decide) h
theorem drf_unit {b s : Nat} {N : List Nat} {v : Nat} (hv : v ∈ drf b s N) : ∃ i, i < b ∧ v = img (drf b s N) (1 <<< i) := by
  obtain ⟨i, hi, e⟩ := List.getElem_of_mem hv
  have l := drf_len b s N
  refine ⟨i, by omega, ?_⟩
  rw [two1, img_unit _ hi, List.getD_eq_getElem?_getD, List.getElem?_eq_getElem hi, e]
  rfl
theorem drf_behind {b s : Nat} {A B : List Nat} (hA : Mix b A) (hB : Mix b B) : rk (drf b s (B.map (img A))) ≤ rk (drf b s A) + rk (drf b s B) := by
  refine Nat.le_trans (rk_le fun v hv => ?_) (rk_app _ _)
  obtain ⟨i, hi, rfl⟩ := drf_unit hv
  have hx := pow_lt hi
  have lA := drf_len b s A
  have lB := drf_len b s B
  have e : img (drf b s (B.map (img A))) (1 <<< i) = img (drf b s A) (img B (1 <<< i)) ^^^ img (drf b s B) (1 <<< i) := by
    rw [drf_img (mix_comp hA hB).len hx, drf_img hA.len (hB.img_lt _), drf_img hB.len hx, img_comp, ← (lin_shr s).x]
    congr 1
    rw [Nat.xor_assoc, ← Nat.xor_assoc (img B (1 <<< i)), Nat.xor_self, Nat.zero_xor]
  rw [e]
  refine Spn.xor ?_ ?_
  · exact (img_in _ (by rw [lA]; exact hB.img_lt _)).sub fun y hy => List.mem_append_left _ hy
  · exact (img_in _ (by rw [lB]; exact hx)).sub fun y hy => List.mem_append_right _ hy
theorem rk_zero_iff {A : List Nat} : rk A = 0 ↔ ∀ x ∈ A, x = 0 := by
  constructor
  · intro h x hx
    by_cases z : x = 0
    · exact z
    · have o : rk ([] ++ [x]) = rk [] + 1 := rk_snoc_out fun q => z q.nil
      have : rk [x] ≤ rk A := rk_le fun y hy => by rw [List.mem_singleton.mp hy]; exact .of hx
      rw [List.nil_append] at o
      omega
  · intro h
    have : rk A ≤ rk [] := rk_le fun x hx => by rw [h x hx]; exact .zero
    have e : rk ([] : List Nat) = 0 := rfl
    omega
theorem kl_zero {b s : Nat} {M : List Nat} (hM : M.length = b) : (rk (drf b s M) = 0) ↔ KL b s M := by
  rw [rk_zero_iff]
  constructor
  · intro h x hx
    have e := drf_img (s := s) hM hx
    have z : img (drf b s M) x = 0 := (Spn.mono (vs := []) (img_in (drf b s M) (by rw [drf_len]; exact hx)) fun y hy => by rw [h y hy]; exact .zero).nil
    rw [z, (lin_shr s).x] at e
    exact xor_eq_zero e.symm
  · intro k v hv
    obtain ⟨i, hi, rfl⟩ := drf_unit hv
    rw [drf_img hM (pow_lt hi), (lin_shr s).x, k _ (pow_lt hi), Nat.xor_self]
theorem kl_cols {b s : Nat} {M : List Nat} (h : M.length = b) (e : ∀ i, i < b → M.getD i 0 >>> s = (1 <<< i) >>> s) : KL b s M :=
  (kl_zero h).mp (rk_zero_iff.mpr fun v hv => by
    obtain ⟨i, hi, rfl⟩ := List.mem_map.mp hv
    rw [(lin_shr s).x, e i (List.mem_range.mp hi), Nat.xor_self])
theorem klb_kl {b s : Nat} {M : List Nat} (h : M.length = b) (e : klb b s M = true) : KL b s M := by
  unfold klb at e
  rw [List.all_eq_true] at e
  exact kl_cols h fun i hi => of_decide_eq_true (e i (List.mem_range.mpr hi))
theorem zero_klb {b s : Nat} {M : List Nat} (h : M.length = b) : decide (rk (drf b s M) = 0) = klb b s M := by
  cases e : klb b s M
  · refine decide_eq_false fun z => ?_
    rw [klb_true h ((kl_zero h).mp z)] at e
    cases e
  · exact decide_eq_true ((kl_zero h).mpr (klb_kl h e))
theorem kl_slot {s l : Nat} {A B : List Nat} (hA : Mix s A) (hB : B.length = l) (lt : ∀ x ∈ B, x < 2 ^ s) : KL (s + l) s (A ++ (List.range l).map fun i => 1 <<< (s + i) ^^^ B.getD i 0) := by
  have la := hA.len
  refine kl_cols (mix_slot hA hB lt).len fun i hi => ?_
  rw [app_at, la]
  by_cases z : i < s
  · rw [if_pos z, unit_hi, if_pos z]
    refine hi_of_lt ?_
    rw [List.getD_eq_getElem?_getD, List.getElem?_eq_getElem (by omega)]
    exact hA.lt _ (List.getElem_mem _)
  · rw [if_neg z, List.getD_eq_getElem?_getD, List.getElem?_map, List.getElem?_range (by omega)]
    show (1 <<< (s + (i - s)) ^^^ B.getD (i - s) 0) >>> s = _
    rw [show s + (i - s) = i by omega, (lin_shr s).x]
    have : B.getD (i - s) 0 < 2 ^ s := by
      rw [List.getD_eq_getElem?_getD, List.getElem?_eq_getElem (by omega)]
      exact lt _ (List.getElem_mem _)
    rw [hi_of_lt this, Nat.xor_zero]
/-- slot moves behind -/
theorem drf_kl {b s : Nat} {S M : List Nat} (hS : Mix b S) (hM : Mix b M) (k : KL b s S) : drf b s (M.map (img S)) = drf b s M :=
  ext_cols (b := b) (drf_len ..) (drf_len ..) fun x hx => by
    rw [drf_img (mix_comp hS hM).len hx, drf_img hM.len hx, img_comp, (lin_shr s).x, (lin_shr s).x, k _ (hM.img_lt _)]
/-- slot moves ahead -/
theorem drf_ahead {b s : Nat} {S M : List Nat} (hS : Mix b S) (hM : Mix b M) (k : KL b s S) : rk (drf b s (S.map (img M))) = rk (drf b s M) := by
  have e : drf b s (S.map (img M)) = S.map (img (drf b s M)) := ext_cols (b := b) (drf_len ..) (by rw [List.length_map, hS.len]) fun x hx => by
    rw [drf_img (mix_comp hM hS).len hx, img_comp, img_comp, drf_img hM.len (hS.img_lt _), (lin_shr s).x, (lin_shr s).x, k _ hx]
  rw [e]
  exact rk_eq fun x => hS.span (drf_len b s M) x
/-- undone -/
theorem drf_back {b s : Nat} {M U : List Nat} (hM : Mix b M) (hU : U.length = b) (e : ∀ x, x < 2 ^ b → img U (img M x) = x) : rk (drf b s U) = rk (drf b s M) := by
  have q : drf b s M = M.map (img (drf b s U)) := ext_cols (b := b) (drf_len ..) (by rw [List.length_map, hM.len]) fun x hx => by
    rw [drf_img hM.len hx, img_comp, drf_img hU (hM.img_lt _), e x hx, Nat.xor_comm]
  rw [q]
  exact (rk_eq fun x => hM.span (drf_len b s U) x).symm
theorem drf_lanes {b s : Nat} {M : List Nat} (hM : Mix b M) (hs : s ≤ b) : rk (drf b s M) ≤ b - s := rk_le_bits fun v hv => by
  obtain ⟨i, hi, rfl⟩ := drf_unit hv
  rw [drf_img hM.len (pow_lt hi)]
  exact hi_lt hs (Nat.xor_lt_two_pow (hM.img_lt _) (pow_lt hi))
/-! ### a drawn exchange -/
def xcl (b w t : Nat) : List Nat := colsf b (xch b w t)
theorem xcl_at {b w t i : Nat} (h : i < b) : (xcl b w t).getD i 0 = if t.testBit i = true then 1 <<< i ^^^ w else 1 <<< i := by
  unfold xcl
  rw [colsf_at _ h]
  unfold xch
  rw [pt_unit h]
  by_cases z : t.testBit i = true
  · rw [if_pos z, if_pos z, if_pos rfl]
  · rw [if_neg z, if_neg z, if_neg (by decide)]
theorem xcl_mix {b w t : Nat} (hw : w < 2 ^ b) (e : pt b t w = 0) : Mix b (xcl b w t) := by
  refine mix_colsf (xch_lin b w t) (fun x hx => ?_) fun x hx z => ?_
  · unfold xch
    split
    · exact Nat.xor_lt_two_pow hx hw
    · exact hx
  · have := xch_twice e x
    rw [z, (xch_lin b w t).z] at this
    exact this.symm
theorem xcl_rk {b s w t : Nat} : rk (drf b s (xcl b w t)) ≤ 1 := by
  refine Nat.le_trans (rk_le (b := [w >>> s]) fun v hv => ?_) (rk_len _)
  obtain ⟨i, hi, rfl⟩ := List.mem_map.mp hv
  rw [xcl_at (List.mem_range.mp hi)]
  split
  · rw [Nat.xor_comm (1 <<< i) w, Nat.xor_assoc, Nat.xor_self, Nat.xor_zero]
    exact .of (List.mem_singleton_self _)
  · rw [Nat.xor_self, Nat.zero_shiftRight]
    exact .zero
def xtt (w t : Nat) : Nat := if od w t = true then t ^^^ lwb w else t
theorem xtt_ok {b w t : Nat} (hw : w < 2 ^ b) (h0 : w ≠ 0) : pt b (xtt w t) w = 0 := by
  unfold xtt
  rw [od_pt hw]
  rcases pt_01 b t w with z | z
  · rw [z]; simp [z]
  · rw [z, if_pos (by decide), pt_and, pt_lwb h0 hw, low_bit h0, z]
    decide
/-! ### undoing by clearing one bit after the other -/
structure Unp (n : Nat) (C U : List Nat) (B : Nat) : Prop where
  m : Mix n U
  a : ∀ j i, j < B → i < B → (img C (U.getD j 0)).testBit i = decide (i = j)
  z : ∀ u ∈ U.drop B, ∀ i, i < B → (img C u).testBit i = false
theorem unp_start (n : Nat) (C : List Nat) : Unp n C (units n) 0 := ⟨mix_units n, fun j i hj => absurd hj (Nat.not_lt_zero _), fun u hu i hi => absurd hi (Nat.not_lt_zero _)⟩
theorem mem_drop {U : List Nat} {B i : Nat} (h : B ≤ i) (hi : i < U.length) : U.getD i 0 ∈ U.drop B := by
  rw [List.getD_eq_getElem?_getD, List.getElem?_eq_getElem hi]
  refine List.mem_of_getElem? (i := i - B) ?_
  rw [List.getElem?_drop, show B + (i - B) = i by omega, List.getElem?_eq_getElem hi]
  rfl
theorem unp_find {n B : Nat} {C U : List Nat} (hC : Mix n C) (h : Unp n C U B) (hB : B < n) : ∃ u ∈ U.drop B, (img C u).testBit B = true := by
  by_cases q : ∃ u ∈ U.drop B, (img C u).testBit B = true
  · exact q
  exfalso
  have no : ∀ u ∈ U.drop B, (img C u).testBit B = false := fun u hu => by
    cases e : (img C u).testBit B
    · rfl
    · exact absurd ⟨u, hu, e⟩ q
  have mP := mix_comp hC h.m
  have lU := h.m.len
  have lP := mP.len
  have at' : ∀ i, i < n → (U.map (img C)).getD i 0 = img C (U.getD i 0) := fun i hi => map_at (by omega)
  have hx := inv_right mP (pow_lt hB)
  generalize img (inv n (U.map (img C))) (1 <<< B) = x at hx
  have hx : imf (U.map (img C)) x (U.map (img C)).length = 1 <<< B := hx
  rw [lP] at hx
  have low0 : ∀ j, j < B → x.testBit j = false := fun j hj => by
    have e := imf_stay (A := U.map (img C)) (x := x) (t := j) (m := j + 1) (n - (j + 1)) fun i h1 h2 _ => by
      rw [at' i (by omega)]
      by_cases z : i < B
      · rw [h.a i j z hj]
        exact decide_eq_false (by omega)
      · exact h.z _ (mem_drop (by omega) (by omega)) j hj
    rw [show j + 1 + (n - (j + 1)) = n by omega] at e
    have e0 : (imf (U.map (img C)) x j).testBit j = false := imf_bit fun i hi => by
      rw [at' i (by omega), h.a i j (by omega) hj]
      exact decide_eq_false (by omega)
    rw [hx, unit_bit, decide_eq_false (by omega), imf_succ] at e
    cases q : x.testBit j
    · rfl
    · rw [q, if_pos rfl, Nat.testBit_xor, e0, at' j (by omega), h.a j j hj hj] at e
      simp at e
  have e := imf_stay (A := U.map (img C)) (x := x) (t := B) (m := B) (n - B) fun i h1 h2 _ => by
    rw [at' i (by omega)]
    exact no _ (mem_drop h1 (by omega))
  rw [show B + (n - B) = n by omega, hx, unit_bit, imf_none B low0, Nat.zero_testBit] at e
  simp at e
def fxm (C : List Nat) (B m u : Nat) : Nat := if (img C u).testBit B = true then u ^^^ m else u
theorem unp_out {n B : Nat} {C U A R : List Nat} {m : Nat} (h : Unp n C U B) (e : U.drop B = A ++ m :: R) : U.filter (fun u => decide (u ≠ m)) = U.take B ++ (A ++ R) := by
  have e2 : U = U.take B ++ (A ++ m :: R) := by rw [← e, List.take_append_drop]
  have lU := h.m.len
  have ne : ∀ u ∈ U.take B ++ (A ++ R), u ≠ m := fun u hu z => by
    subst z
    have : rk U ≤ rk (U.take B ++ (A ++ R)) := rk_le fun x hx => by
      refine .of ?_
      rw [e2] at hx
      simp only [List.mem_append, List.mem_cons] at hx hu ⊢
      rcases hx with hx | hx | rfl | hx
      · exact .inl hx
      · exact .inr (.inl hx)
      · exact hu
      · exact .inr (.inr hx)
    have l2 := rk_len (U.take B ++ (A ++ R))
    have l3 := congrArg List.length e2
    simp only [List.length_append, List.length_cons] at l2 l3
    have := h.m.rk
    omega
  have all : ∀ l : List Nat, (∀ u ∈ l, u ≠ m) → l.filter (fun u => decide (u ≠ m)) = l := fun l hl => List.filter_eq_self.mpr fun u hu => decide_eq_true (hl u hu)
  have f1 : U.filter (fun u => decide (u ≠ m)) = (U.take B ++ (A ++ m :: R)).filter (fun u => decide (u ≠ m)) := congrArg _ e2
  rw [f1, List.filter_append, List.filter_append, List.filter_cons_of_neg (by simp), ← List.filter_append, ← List.filter_append, all _ ne]
theorem unp_step {n B : Nat} {C U A R : List Nat} {m : Nat} (h : Unp n C U B) (hB : B < n) (e : U.drop B = A ++ m :: R) (hm : (img C m).testBit B = true) :
    Unp n C ((U.take B).map (fxm C B m) ++ m :: (A ++ R).map (fxm C B m)) (B + 1) := by
  have e2 : U = U.take B ++ (A ++ m :: R) := by rw [← e, List.take_append_drop]
  have lU := h.m.len
  have lT : (U.take B).length = B := by rw [List.length_take]; omega
  have l3 := congrArg List.length e2
  simp only [List.length_append, List.length_cons] at l3
  have mD : m ∈ U.drop B := by rw [e]; exact List.mem_append_right _ (List.mem_cons_self ..)
  have mU : m ∈ U := List.mem_of_mem_drop mD
  have sub : ∀ u, u ∈ A ++ R → u ∈ U.drop B := fun u hu => by
    rw [e]
    simp only [List.mem_append, List.mem_cons] at hu ⊢
    rcases hu with hu | hu
    · exact .inl hu
    · exact .inr (.inr hu)
  have m0 : ∀ i, i < B → (img C m).testBit i = false := h.z m mD
  have fb : ∀ u, (img C (fxm C B m u)).testBit B = false := fun u => by
    unfold fxm
    split
    · rename_i q
      rw [(lin_img C).x, Nat.testBit_xor, q, hm]
      rfl
    · rename_i q
      cases z : (img C u).testBit B
      · rfl
      · exact absurd z q
  have fi : ∀ u i, i < B → (img C (fxm C B m u)).testBit i = (img C u).testBit i := fun u i hi => by
    unfold fxm
    split
    · rw [(lin_img C).x, Nat.testBit_xor, m0 i hi, Bool.xor_false]
    · rfl
  refine ⟨⟨?_, ?_, ?_⟩, ?_, ?_⟩
  · simp only [List.length_append, List.length_cons, List.length_map]
    omega
  · intro x hx
    have f : ∀ u ∈ U, fxm C B m u < 2 ^ n := fun u hu => by
      unfold fxm
      split
      · exact Nat.xor_lt_two_pow (h.m.lt u hu) (h.m.lt m mU)
      · exact h.m.lt u hu
    rcases List.mem_append.mp hx with hx | hx
    · obtain ⟨u, hu, rfl⟩ := List.mem_map.mp hx
      exact f u (List.mem_of_mem_take hu)
    · rcases List.mem_cons.mp hx with rfl | hx
      · exact h.m.lt _ mU
      · obtain ⟨u, hu, rfl⟩ := List.mem_map.mp hx
        exact f u (List.mem_of_mem_drop (sub u hu))
  · rw [← h.m.rk]
    have mN : m ∈ (U.take B).map (fxm C B m) ++ m :: (A ++ R).map (fxm C B m) := List.mem_append_right _ (List.mem_cons_self ..)
    have fN : ∀ u, u ∈ U.take B ∨ u ∈ A ++ R → fxm C B m u ∈ (U.take B).map (fxm C B m) ++ m :: (A ++ R).map (fxm C B m) := fun u hu => by
      rcases hu with hu | hu
      · exact List.mem_append_left _ (List.mem_map.mpr ⟨u, hu, rfl⟩)
      · exact List.mem_append_right _ (List.mem_cons_of_mem _ (List.mem_map.mpr ⟨u, hu, rfl⟩))
    have bk : ∀ u, u ∈ U.take B ∨ u ∈ A ++ R → Spn ((U.take B).map (fxm C B m) ++ m :: (A ++ R).map (fxm C B m)) u := fun u hu => by
      have q := Spn.of (fN u hu)
      unfold fxm at q
      generalize hL : List.map (fun u => if (img C u).testBit B = true then u ^^^ m else u) (List.take B U) ++ m :: List.map (fun u => if (img C u).testBit B = true then u ^^^ m else u) (A ++ R) = L at q
      have hL' : (U.take B).map (fxm C B m) ++ m :: (A ++ R).map (fxm C B m) = L := hL
      rw [hL'] at mN ⊢
      split at q
      · have := q.xor (.of mN)
        rwa [Nat.xor_assoc, Nat.xor_self, Nat.xor_zero] at this
      · exact q
    refine rk_eq fun x => ⟨fun q => q.mono fun v hv => ?_, fun q => q.mono fun v hv => ?_⟩
    · have f : ∀ u ∈ U, Spn U (fxm C B m u) := fun u hu => by
        unfold fxm
        split
        · exact (Spn.of hu).xor (.of mU)
        · exact .of hu
      rcases List.mem_append.mp hv with hx | hx
      · obtain ⟨u, hu, rfl⟩ := List.mem_map.mp hx
        exact f u (List.mem_of_mem_take hu)
      · rcases List.mem_cons.mp hx with rfl | hx
        · exact .of mU
        · obtain ⟨u, hu, rfl⟩ := List.mem_map.mp hx
          exact f u (List.mem_of_mem_drop (sub u hu))
    · rw [e2] at hv
      simp only [List.mem_append, List.mem_cons] at hv
      rcases hv with hv | hv | rfl | hv
      · exact bk v (.inl hv)
      · exact bk v (.inr (List.mem_append_left _ hv))
      · exact .of mN
      · exact bk v (.inr (List.mem_append_right _ hv))
  · intro j i hj hi
    rw [app_at, List.length_map, lT]
    by_cases z : j < B
    · rw [if_pos z, map_at (by omega)]
      have g : (U.take B).getD j 0 = U.getD j 0 := by rw [List.getD_eq_getElem?_getD, List.getD_eq_getElem?_getD, List.getElem?_take, if_pos z]
      rw [g]
      by_cases q : i < B
      · rw [fi _ i q, h.a j i z q]
      · have : i = B := by omega
        subst this
        rw [fb]
        exact (decide_eq_false (by omega)).symm
    · have : j = B := by omega
      subst this
      rw [if_neg (by omega), Nat.sub_self]
      show (img C m).testBit i = _
      by_cases q : i < j
      · rw [m0 i q]
        exact (decide_eq_false (by omega)).symm
      · have : i = j := by omega
        subst this
        rw [hm]
        exact (decide_eq_true rfl).symm
  · intro u hu i hi
    have d : ((U.take B).map (fxm C B m) ++ m :: (A ++ R).map (fxm C B m)).drop (B + 1) = (A ++ R).map (fxm C B m) := by
      rw [List.drop_append, List.length_map, lT, List.drop_of_length_le (by rw [List.length_map]; omega), List.nil_append, show B + 1 - B = 1 by omega]
      rfl
    rw [d] at hu
    obtain ⟨v, hv, rfl⟩ := List.mem_map.mp hu
    by_cases q : i < B
    · rw [fi _ i q]
      exact h.z v (sub v hv) i q
    · have : i = B := by omega
      subst this
      exact fb v
theorem unp_end {n : Nat} {C U : List Nat} (hC : Mix n C) (h : Unp n C U n) : ∀ x, x < 2 ^ n → img U (img C x) = x := by
  have lU := h.m.len
  have e : U.map (img C) = units n := getD_ext (by rw [List.length_map, lU, units_len]) fun j hj => by
    rw [List.length_map, lU] at hj
    rw [map_at (by omega), units_at hj]
    refine Nat.eq_of_testBit_eq fun i => ?_
    rw [unit_bit]
    by_cases q : i < n
    · rw [h.a j i hj q]
      by_cases z : i = j
      · subst z; rfl
      · rw [decide_eq_false z, decide_eq_false (fun y => z y.symm)]
    · rw [Nat.testBit_lt_two_pow (Nat.lt_of_lt_of_le (hC.img_lt _) (Nat.pow_le_pow_right (by decide) (by omega))), decide_eq_false (by omega)]
  intro x hx
  refine hC.inj (h.m.img_lt _) hx ?_
  rw [← img_comp, e, units_img (hC.img_lt x)]
theorem unp_units {n : Nat} {C U : List Nat} (hC : Mix n C) (e : ∀ x, x < 2 ^ n → img U (img C x) = x) : C.map (img U) = units n :=
  ext_cols (b := n) (by rw [List.length_map, hC.len]) (units_len n) fun x hx => by rw [img_comp, e x hx, units_img hx]
end LaneX
set_option linter.all false
set_option maxHeartbeats 1000000
namespace LaneX
/-! ### words that complete -/
structure Cpl (P Q X : List Nat) : Prop where
  i : ∀ x ∈ X, Spn Q x
  s : ∀ x, Spn Q x → Spn (P ++ X) x
  n : X.length + rk P = rk Q
theorem cpl_of {P Q : List Nat} (R : Rws P) (h : ∀ x ∈ P, Spn Q x) : Cpl P Q (cmpl P Q) := by
  obtain ⟨h1, h2, h3⟩ := base_of R h
  refine ⟨fun x hx => .of (cmpl_mem _ x hx), fun x hx => (h1 x).mpr hx, ?_⟩
  rw [← h3, List.length_append, R.rk]
  omega
/-- the same, of spaces told by what lies in them -/
def CplP (p q : Nat → Prop) (X : List Nat) : Prop := ∃ P Q, (∀ x, Spn P x ↔ p x) ∧ (∀ x, Spn Q x ↔ q x) ∧ Cpl P Q X
theorem CplP.iff {p q p' q' : Nat → Prop} {X : List Nat} (h : CplP p q X) (hp : ∀ x, p x ↔ p' x) (hq : ∀ x, q x ↔ q' x) : CplP p' q' X := by
  obtain ⟨P, Q, h1, h2, h3⟩ := h
  exact ⟨P, Q, fun x => (h1 x).trans (hp x), fun x => (h2 x).trans (hq x), h3⟩
theorem CplP.mem {p q : Nat → Prop} {X : List Nat} (h : CplP p q X) {x : Nat} (hx : x ∈ X) : q x := by
  obtain ⟨P, Q, h1, h2, h3⟩ := h
  exact (h2 x).mp (h3.i x hx)
theorem CplP.split {p q : Nat → Prop} {X : List Nat} (h : CplP p q X) {x : Nat} (hx : q x) : ∃ y z, p y ∧ Spn X z ∧ x = y ^^^ z := by
  obtain ⟨P, Q, h1, h2, h3⟩ := h
  obtain ⟨y, z, hy, hz, e⟩ := span_split (h3.s x ((h2 x).mpr hx))
  exact ⟨y, z, (h1 y).mp hy, hz, e⟩
theorem CplP.len {p q : Nat → Prop} {X A B : List Nat} (h : CplP p q X) (hA : ∀ x, Spn A x ↔ p x) (hB : ∀ x, Spn B x ↔ q x) : X.length + rk A = rk B := by
  obtain ⟨P, Q, h1, h2, h3⟩ := h
  rw [rk_eq fun x => (hA x).trans (h1 x).symm, rk_eq fun x => (hB x).trans (h2 x).symm]
  exact h3.n
/-! ### meets and sums of rows -/
def mt (b : Nat) (A B : List Nat) : List Nat := spn (mtd b A B)
def sm (A B : List Nat) : List Nat := spn (A ++ B)
def evr (b : Nat) : List Nat := spn (units b)
theorem mt_span {b : Nat} {A B : List Nat} (lt : ∀ x ∈ A, x < 2 ^ b) (x : Nat) : Spn (mt b A B) x ↔ Spn A x ∧ Spn B x := by
  unfold mt
  rw [spn_span, mtd_span lt]
theorem sm_span (A B : List Nat) (x : Nat) : Spn (sm A B) x ↔ Spn (A ++ B) x := spn_span _ x
theorem sm_rws (A B : List Nat) : Rws (sm A B) := spn_rws _
theorem mt_rws (b : Nat) (A B : List Nat) : Rws (mt b A B) := spn_rws _
theorem evr_span (b x : Nat) : Spn (evr b) x ↔ x < 2 ^ b := by
  unfold evr
  rw [spn_span]
  exact ⟨fun h => h.lt (mix_units b).lt, fun h => (mix_units b).all h⟩
theorem spn_ltb {b : Nat} {A : List Nat} (h : ∀ x ∈ A, x < 2 ^ b) : ∀ x ∈ spn A, x < 2 ^ b := fun x hx => ((spn_span A x).mp (.of hx)).lt h
theorem mt_lt {b : Nat} {A B : List Nat} (lt : ∀ x ∈ A, x < 2 ^ b) : ∀ x ∈ mt b A B, x < 2 ^ b := fun x hx => (((mt_span lt x).mp (.of hx)).1).lt lt
theorem sm_lt {b : Nat} {A B : List Nat} (hA : ∀ x ∈ A, x < 2 ^ b) (hB : ∀ x ∈ B, x < 2 ^ b) : ∀ x ∈ sm A B, x < 2 ^ b := spn_ltb fun x hx => (List.mem_append.mp hx).elim (hA x) (hB x)
theorem app_iff {A A' B B' : List Nat} (hA : ∀ x, Spn A x ↔ Spn A' x) (hB : ∀ x, Spn B x ↔ Spn B' x) (x : Nat) : Spn (A ++ B) x ↔ Spn (A' ++ B') x := by
  have go : ∀ {A A' B B' : List Nat}, (∀ x, Spn A x ↔ Spn A' x) → (∀ x, Spn B x ↔ Spn B' x) → Spn (A ++ B) x → Spn (A' ++ B') x := fun hA hB h => by
    obtain ⟨s, q, hs, hq, rfl⟩ := span_split h
    exact (((hA s).mp hs).sub fun y hy => List.mem_append_left _ hy).xor (((hB q).mp hq).sub fun y hy => List.mem_append_right _ hy)
  exact ⟨go hA hB, go (fun x => (hA x).symm) fun x => (hB x).symm⟩
theorem app_spl {A B : List Nat} {x : Nat} : Spn (A ++ B) x ↔ ∃ y z, Spn A y ∧ Spn B z ∧ x = y ^^^ z := by
  constructor
  · intro h
    obtain ⟨s, q, hs, hq, e⟩ := span_split h
    exact ⟨s, q, hs, hq, e⟩
  · rintro ⟨y, z, hy, hz, rfl⟩
    exact (hy.sub fun y hy => List.mem_append_left _ hy).xor (hz.sub fun y hy => List.mem_append_right _ hy)
/-- a space inside one of the same dimension is that one -/
theorem span_of_le {K L : List Nat} (h : ∀ x ∈ K, Spn L x) (e : rk L ≤ rk K) (x : Nat) : Spn L x ↔ Spn K x := by
  constructor
  · intro hx
    by_cases z : Spn K x
    · exact z
    · have o := rk_snoc_out z
      have := rk_le (a := K ++ [x]) (b := L) fun y hy => by
        rcases List.mem_append.mp hy with hy | hy
        · exact h y hy
        · rw [List.mem_singleton.mp hy]; exact hx
      omega
  · intro hx
    exact hx.mono h
theorem meet_rk {b : Nat} {A B : List Nat} (lt : ∀ x ∈ A, x < 2 ^ b) : rk (mt b (spn A) (spn B)) + rk (A ++ B) = rk A + rk B := by
  have h := mtd_len (spn_rws A) (spn_rws B) (spn_ltb lt)
  have e1 : rk (mt b (spn A) (spn B)) = (mtd b (spn A) (spn B)).length := by unfold mt; rw [rk_spn, (mtd_rws b _ _).rk]
  have e2 : rk (spn A ++ spn B) = rk (A ++ B) := rk_eq (app_iff (spn_span A) (spn_span B))
  have e3 : rk A = (spn A).length := by rw [← (spn_rws A).rk, rk_spn]
  have e4 : rk B = (spn B).length := by rw [← (spn_rws B).rk, rk_spn]
  omega
theorem meet_is {b : Nat} {A B K : List Nat} (lt : ∀ x ∈ A, x < 2 ^ b) (hA : ∀ x ∈ K, Spn A x) (hB : ∀ x ∈ K, Spn B x) (e : rk K + rk (A ++ B) = rk A + rk B) (x : Nat) : (Spn A x ∧ Spn B x) ↔ Spn K x := by
  have r := meet_rk (B := B) lt
  have m : ∀ y, Spn (mt b (spn A) (spn B)) y ↔ Spn A y ∧ Spn B y := fun y => by rw [mt_span (spn_ltb lt), spn_span, spn_span]
  rw [← m x]
  exact span_of_le (fun y hy => (m y).mpr ⟨hA y hy, hB y hy⟩) (by omega) x
/-! ### words of one's own -/
def shp (b : Nat) (Rs : List (List Nat)) (ch : List Nat) : Nat → List Nat
  | 0 => evr b
  | i + 1 => if i ∈ ch then mt b (shp b Rs ch i) (Rs.getD i []) else shp b Rs ch i
def otp (Rs : List (List Nat)) (ch : List Nat) : Nat → List Nat
  | 0 => spn []
  | i + 1 => if i ∈ ch then otp Rs ch i else sm (otp Rs ch i) (Rs.getD i [])
def own (b : Nat) (Rs : List (List Nat)) (ch : List Nat) : List Nat := cmpl (mt b (shp b Rs ch Rs.length) (otp Rs ch Rs.length)) (shp b Rs ch Rs.length)
theorem evr_lt (b : Nat) : ∀ x ∈ evr b, x < 2 ^ b := fun x hx => (evr_span b x).mp (.of hx)
theorem shp_lt (b : Nat) (Rs : List (List Nat)) (ch : List Nat) : ∀ i, ∀ x ∈ shp b Rs ch i, x < 2 ^ b
  | 0 => evr_lt b
  | i + 1 => by
    unfold shp
    split
    · exact mt_lt (shp_lt b Rs ch i)
    · exact shp_lt b Rs ch i
theorem shp_span (b : Nat) (Rs : List (List Nat)) (ch : List Nat) (x : Nat) : ∀ i, Spn (shp b Rs ch i) x ↔ x < 2 ^ b ∧ ∀ j, j < i → j ∈ ch → Spn (Rs.getD j []) x
  | 0 => by
    unfold shp
    rw [evr_span]
    exact ⟨fun h => ⟨h, fun j hj => absurd hj (Nat.not_lt_zero j)⟩, fun h => h.1⟩
  | i + 1 => by
    unfold shp
    split
    · rename_i hi
      rw [mt_span (shp_lt b Rs ch i), shp_span b Rs ch x i]
      constructor
      · rintro ⟨⟨h1, h2⟩, h3⟩
        refine ⟨h1, fun j hj hc => ?_⟩
        by_cases z : j < i
        · exact h2 j z hc
        · have : j = i := by omega
          subst this
          exact h3
      · rintro ⟨h1, h2⟩
        exact ⟨⟨h1, fun j hj hc => h2 j (by omega) hc⟩, h2 i (by omega) hi⟩
    · rename_i hi
      rw [shp_span b Rs ch x i]
      constructor
      · rintro ⟨h1, h2⟩
        refine ⟨h1, fun j hj hc => ?_⟩
        by_cases z : j < i
        · exact h2 j z hc
        · have : j = i := by omega
          subst this
          exact absurd hc hi
      · rintro ⟨h1, h2⟩
        exact ⟨h1, fun j hj hc => h2 j (by omega) hc⟩
theorem otp_span (Rs : List (List Nat)) (ch : List Nat) : ∀ i x, Spn (otp Rs ch i) x ↔ Spn (((List.range i).filter fun j => decide (j ∉ ch)).flatMap fun j => Rs.getD j []) x
  | 0, x => spn_span _ x
  | i + 1, x => by
    unfold otp
    rw [List.range_succ, List.filter_append, List.flatMap_append]
    split
    · rename_i hi
      rw [List.filter_cons_of_neg (by simp [hi]), List.filter_nil, List.flatMap_nil, List.append_nil]
      exact otp_span Rs ch i x
    · rename_i hi
      rw [List.filter_cons_of_pos (by simp [hi]), List.filter_nil, List.flatMap_cons, List.flatMap_nil, List.append_nil, sm_span]
      exact app_iff (otp_span Rs ch i) (fun _ => Iff.rfl) x
theorem own_cpl (b : Nat) (Rs : List (List Nat)) (ch : List Nat) : CplP (fun x => Spn (shp b Rs ch Rs.length) x ∧ Spn (otp Rs ch Rs.length) x) (Spn (shp b Rs ch Rs.length)) (own b Rs ch) :=
  ⟨_, _, fun x => mt_span (shp_lt b Rs ch _) x, fun x => Iff.rfl, cpl_of (spn_rws _) fun x hx => ((mt_span (shp_lt b Rs ch _) x).mp (.of hx)).1⟩
/-! ### three spaces -/
structure ThW where
  S : List Nat
  P1 : List Nat
  P2 : List Nat
  P3 : List Nat
  W : List (Nat × Nat)
  N1 : List Nat
  N2 : List Nat
  N3 : List Nat
  O : List Nat
def fpw (b : Nat) (A B C : List Nat) : List Nat := cmpl (sm (mt b A B) (mt b A C)) (mt b A (sm B C))
def fpl (b : Nat) (A B C : List Nat) : List (Nat × Nat) := (fpw b A B C).map fun w => (w, img B (slv (B ++ C) w &&& (1 <<< B.length - 1)))
def thw (b : Nat) (A B C : List Nat) : ThW := ⟨own b [A, B, C] [0, 1, 2], own b [A, B, C] [0, 1], own b [A, B, C] [0, 2], own b [A, B, C] [1, 2], fpl b A B C, own b [A, B, C] [0], own b [A, B, C] [1], own b [A, B, C] [2], own b [A, B, C] []⟩
structure Thr (b : Nat) (A B C : List Nat) (t : ThW) : Prop where
  s : CplP (fun x => x = 0) (fun x => Spn A x ∧ Spn B x ∧ Spn C x) t.S
  p1 : CplP (fun x => Spn A x ∧ Spn B x ∧ Spn C x) (fun x => Spn A x ∧ Spn B x) t.P1
  p2 : CplP (fun x => Spn A x ∧ Spn B x ∧ Spn C x) (fun x => Spn A x ∧ Spn C x) t.P2
  p3 : CplP (fun x => Spn A x ∧ Spn B x ∧ Spn C x) (fun x => Spn B x ∧ Spn C x) t.P3
  w1 : CplP (fun x => ∃ y z, (Spn A y ∧ Spn B y) ∧ (Spn A z ∧ Spn C z) ∧ x = y ^^^ z) (fun x => Spn A x ∧ Spn (B ++ C) x) (t.W.map (·.1))
  w2 : ∀ p ∈ t.W, Spn B p.2 ∧ Spn C (p.1 ^^^ p.2)
  n1 : CplP (fun x => Spn A x ∧ Spn (B ++ C) x) (Spn A) t.N1
  n2 : CplP (fun x => Spn B x ∧ Spn (A ++ C) x) (Spn B) t.N2
  n3 : CplP (fun x => Spn C x ∧ Spn (A ++ B) x) (Spn C) t.N3
  o : CplP (Spn (A ++ B ++ C)) (fun x => x < 2 ^ b) t.O
section
variable {b : Nat} {A B C : List Nat} (hA : ∀ x ∈ A, x < 2 ^ b) (hB : ∀ x ∈ B, x < 2 ^ b) (hC : ∀ x ∈ C, x < 2 ^ b)
include hA hB hC
theorem thr_mk (sf ot ow : List Nat → List Nat) (fw : List Nat) (sf_span : ∀ (ch : List Nat) (x : Nat), Spn (sf ch) x ↔ x < 2 ^ b ∧ ∀ j, j < 3 → j ∈ ch → Spn ([A, B, C].getD j []) x) (otp_span : ∀ (ch : List Nat) (x : Nat), Spn (ot ch) x ↔ Spn (((List.range 3).filter fun j => decide (j ∉ ch)).flatMap fun j => [A, B, C].getD j []) x)
    (o : ∀ ch, CplP (fun x => Spn (sf ch) x ∧ Spn (ot ch) x) (Spn (sf ch)) (ow ch))
    (w1 : CplP (fun x => ∃ y z, (Spn A y ∧ Spn B y) ∧ (Spn A z ∧ Spn C z) ∧ x = y ^^^ z) (fun x => Spn A x ∧ Spn (B ++ C) x) fw) :
    Thr b A B C ⟨ow [0, 1, 2], ow [0, 1], ow [0, 2], ow [1, 2], fw.map fun w => (w, img B (slv (B ++ C) w &&& (1 <<< B.length - 1))), ow [0], ow [1], ow [2], ow []⟩ := by
  have la : ∀ x, Spn A x → x < 2 ^ b := fun x h => h.lt hA
  have lb : ∀ x, Spn B x → x < 2 ^ b := fun x h => h.lt hB
  have lc : ∀ x, Spn C x → x < 2 ^ b := fun x h => h.lt hC
  have sh : ∀ (ch : List Nat) (x : Nat), Spn (sf ch) x ↔ x < 2 ^ b ∧ (0 ∈ ch → Spn A x) ∧ (1 ∈ ch → Spn B x) ∧ (2 ∈ ch → Spn C x) := fun ch x => by
    rw [sf_span]
    refine and_congr_right fun _ => ⟨fun h => ⟨h 0 (by decide), h 1 (by decide), h 2 (by decide)⟩, fun ⟨h0, h1, h2⟩ j hj => ?_⟩
    match j, hj with
    | 0, _ => exact h0
    | 1, _ => exact h1
    | 2, _ => exact h2
  have c012 : ∀ x, Spn (sf [0, 1, 2]) x ↔ (Spn A x ∧ Spn B x ∧ Spn C x) := fun x => by
    rw [sh]; simp; exact fun h _ _ => la x h
  have c01 : ∀ x, Spn (sf [0, 1]) x ↔ (Spn A x ∧ Spn B x) := fun x => by
    rw [sh]; simp; exact fun h _ => la x h
  have c02 : ∀ x, Spn (sf [0, 2]) x ↔ (Spn A x ∧ Spn C x) := fun x => by
    rw [sh]; simp; exact fun h _ => la x h
  have c12 : ∀ x, Spn (sf [1, 2]) x ↔ (Spn B x ∧ Spn C x) := fun x => by
    rw [sh]; simp; exact fun h _ => lb x h
  have c0 : ∀ x, Spn (sf [0]) x ↔ Spn A x := fun x => by
    rw [sh]; simp; exact la x
  have c1 : ∀ x, Spn (sf [1]) x ↔ Spn B x := fun x => by
    rw [sh]; simp; exact lb x
  have c2 : ∀ x, Spn (sf [2]) x ↔ Spn C x := fun x => by
    rw [sh]; simp; exact lc x
  have c : ∀ x, Spn (sf []) x ↔ x < 2 ^ b := fun x => by
    rw [sh]; simp
  have d012 : ∀ x, Spn (ot [0, 1, 2]) x ↔ x = 0 := fun x => by
    rw [otp_span]
    exact ⟨fun h => Spn.nil h, fun h => by rw [h]; exact .zero⟩
  have d01 : ∀ x, Spn (ot [0, 1]) x ↔ Spn C x := fun x => by
    rw [otp_span]
    show Spn (C ++ []) x ↔ _
    rw [List.append_nil]
  have d02 : ∀ x, Spn (ot [0, 2]) x ↔ Spn B x := fun x => by
    rw [otp_span]
    show Spn (B ++ []) x ↔ _
    rw [List.append_nil]
  have d12 : ∀ x, Spn (ot [1, 2]) x ↔ Spn A x := fun x => by
    rw [otp_span]
    show Spn (A ++ []) x ↔ _
    rw [List.append_nil]
  have d0 : ∀ x, Spn (ot [0]) x ↔ Spn (B ++ C) x := fun x => by
    rw [otp_span]
    show Spn (B ++ (C ++ [])) x ↔ _
    rw [List.append_nil]
  have d1 : ∀ x, Spn (ot [1]) x ↔ Spn (A ++ C) x := fun x => by
    rw [otp_span]
    show Spn (A ++ (C ++ [])) x ↔ _
    rw [List.append_nil]
  have d2 : ∀ x, Spn (ot [2]) x ↔ Spn (A ++ B) x := fun x => by
    rw [otp_span]
    show Spn (A ++ (B ++ [])) x ↔ _
    rw [List.append_nil]
  have d : ∀ x, Spn (ot []) x ↔ Spn (A ++ B ++ C) x := fun x => by
    rw [otp_span]
    show Spn (A ++ (B ++ (C ++ []))) x ↔ _
    rw [List.append_nil, List.append_assoc]
  refine ⟨(o [0, 1, 2]).iff (fun x => ?_) c012, (o [0, 1]).iff (fun x => ?_) c01, (o [0, 2]).iff (fun x => ?_) c02, (o [1, 2]).iff (fun x => ?_) c12, ?_, ?_, (o [0]).iff (fun x => ?_) c0, (o [1]).iff (fun x => ?_) c1, (o [2]).iff (fun x => ?_) c2, (o []).iff (fun x => ?_) c⟩
  · exact (and_congr (c012 x) (d012 x)).trans ⟨fun h => h.2, fun h => by rw [h]; exact ⟨⟨.zero, .zero, .zero⟩, rfl⟩⟩
  · exact (and_congr (c01 x) (d01 x)).trans ⟨fun h => ⟨h.1.1, h.1.2, h.2⟩, fun h => ⟨⟨h.1, h.2.1⟩, h.2.2⟩⟩
  · exact (and_congr (c02 x) (d02 x)).trans ⟨fun h => ⟨h.1.1, h.2, h.1.2⟩, fun h => ⟨⟨h.1, h.2.2⟩, h.2.1⟩⟩
  · exact (and_congr (c12 x) (d12 x)).trans ⟨fun h => ⟨h.2, h.1.1, h.1.2⟩, fun h => ⟨h.2, h.1⟩⟩
  · show CplP _ _ ((fw.map fun w => (w, img B (slv (B ++ C) w &&& (1 <<< B.length - 1)))).map (·.1))
    rw [List.map_map]
    have e : fw.map ((fun p : Nat × Nat => p.1) ∘ fun w => (w, img B (slv (B ++ C) w &&& (1 <<< B.length - 1)))) = fw := List.map_id _
    rw [e]
    exact w1
  · intro p hp
    obtain ⟨w, hw, rfl⟩ := List.mem_map.mp hp
    have q := (w1.mem hw).2
    obtain ⟨z1, z2⟩ := slv_ok q
    generalize slv (B ++ C) w = z at *
    have l : lo B.length z = z &&& (1 <<< B.length - 1) := rfl
    show Spn B (img B (z &&& (1 <<< B.length - 1))) ∧ Spn C (w ^^^ img B (z &&& (1 <<< B.length - 1)))
    rw [← l]
    have h1 : Spn B (img B (lo B.length z)) := img_in B (lo_lt _ _)
    refine ⟨h1, ?_⟩
    have e := img_app (P := B) (Q := C) (y := z >>> B.length) (lo_lt B.length z)
    rw [Nat.xor_comm (lo _ _), Nat.xor_comm ((z >>> B.length) <<< B.length), lo_hi, z2] at e
    rw [e, Nat.xor_comm, ← Nat.xor_assoc, Nat.xor_self, Nat.zero_xor]
    rw [List.length_append] at z1
    exact img_in C (by have := hi_lt (Nat.le_add_right B.length C.length) z1; rwa [Nat.add_sub_cancel_left] at this)
  · exact and_congr (c0 x) (d0 x)
  · exact and_congr (c1 x) (d1 x)
  · exact and_congr (c2 x) (d2 x)
  · exact (and_congr (c x) (d x)).trans ⟨fun h => h.2, fun h => ⟨h.lt fun y hy => by
      rcases List.mem_append.mp hy with hy | hy
      · exact (List.mem_append.mp hy).elim (hA y) (hB y)
      · exact hC y hy, h⟩⟩
theorem thr_of : Thr b A B C (thw b A B C) := by
  have nr : ∀ x, Spn (sm (mt b A B) (mt b A C)) x ↔ ∃ y z, (Spn A y ∧ Spn B y) ∧ (Spn A z ∧ Spn C z) ∧ x = y ^^^ z := fun x => by
    rw [sm_span, app_spl]
    constructor
    · rintro ⟨y, z, h1, h2, h3⟩
      exact ⟨y, z, (mt_span hA y).mp h1, (mt_span hA z).mp h2, h3⟩
    · rintro ⟨y, z, h1, h2, h3⟩
      exact ⟨y, z, (mt_span hA y).mpr h1, (mt_span hA z).mpr h2, h3⟩
  have se : ∀ x, Spn (mt b A (sm B C)) x ↔ Spn A x ∧ Spn (B ++ C) x := fun x => by rw [mt_span hA, sm_span]
  have w1 : CplP (fun x => ∃ y z, (Spn A y ∧ Spn B y) ∧ (Spn A z ∧ Spn C z) ∧ x = y ^^^ z) (fun x => Spn A x ∧ Spn (B ++ C) x) (fpw b A B C) :=
    ⟨_, _, nr, se, cpl_of (sm_rws _ _) fun x hx => by
      obtain ⟨y, z, h1, h2, rfl⟩ := (nr x).mp (.of hx)
      exact (se _).mpr ⟨h1.1.xor h2.1, app_spl.mpr ⟨y, z, h1.2, h2.2, rfl⟩⟩⟩
  exact thr_mk hA hB hC (fun ch => shp b [A, B, C] ch 3) (fun ch => otp [A, B, C] ch 3) (fun ch => own b [A, B, C] ch) (fpw b A B C) (fun ch x => shp_span b [A, B, C] ch x 3) (fun ch x => otp_span [A, B, C] ch 3 x) (fun ch => own_cpl b [A, B, C] ch) w1
end
/-! ### the words told are all words -/
def fd1 (t : ThW) : List Nat := t.S ++ t.P1 ++ t.P2 ++ t.W.map (·.1) ++ t.N1
def fd2 (t : ThW) : List Nat := t.S ++ t.P1 ++ t.P3 ++ t.W.map (·.2) ++ t.N2
def fd3 (t : ThW) : List Nat := t.S ++ t.P2 ++ t.P3 ++ t.W.map (fun p => p.1 ^^^ p.2) ++ t.N3
def fall (t : ThW) : List Nat := t.S ++ t.P1 ++ t.P2 ++ t.P3 ++ t.W.flatMap (fun p => [p.1, p.2]) ++ t.N1 ++ t.N2 ++ t.N3 ++ t.O
theorem spn_pick {W : List (Nat × Nat)} (f g : Nat × Nat → Nat) {z : Nat} (h : Spn (W.map f) z) : ∃ y, Spn (W.map g) y ∧ ∃ v, Spn (W.map fun p => f p ^^^ g p) v ∧ z = y ^^^ v := by
  induction h with
  | zero => exact ⟨0, .zero, 0, .zero, rfl⟩
  | add hw _ ih =>
    obtain ⟨y, hy, v, hv, rfl⟩ := ih
    obtain ⟨p, hp, rfl⟩ := List.mem_map.mp hw
    refine ⟨y ^^^ g p, .add (List.mem_map.mpr ⟨p, hp, rfl⟩) hy, v ^^^ (f p ^^^ g p), .add (List.mem_map.mpr ⟨p, hp, rfl⟩) hv, ?_⟩
    rw [xor4, ← Nat.xor_assoc (g p), Nat.xor_comm (g p), Nat.xor_assoc (f p), Nat.xor_self, Nat.xor_zero]
section
variable {b : Nat} {A B C : List Nat} {t : ThW} (h : Thr b A B C t)
include h
theorem thr_abc {x : Nat} (hx : Spn A x ∧ Spn B x ∧ Spn C x) : Spn t.S x := by
  obtain ⟨y, z, rfl, hz, e⟩ := h.s.split hx
  rw [e, Nat.zero_xor]
  exact hz
theorem thr_ab {x : Nat} (hx : Spn A x ∧ Spn B x) : Spn (t.S ++ t.P1) x := by
  obtain ⟨y, z, hy, hz, rfl⟩ := h.p1.split hx
  exact app_spl.mpr ⟨y, z, thr_abc h hy, hz, rfl⟩
theorem thr_ac {x : Nat} (hx : Spn A x ∧ Spn C x) : Spn (t.S ++ t.P2) x := by
  obtain ⟨y, z, hy, hz, rfl⟩ := h.p2.split hx
  exact app_spl.mpr ⟨y, z, thr_abc h hy, hz, rfl⟩
theorem thr_bc {x : Nat} (hx : Spn B x ∧ Spn C x) : Spn (t.S ++ t.P3) x := by
  obtain ⟨y, z, hy, hz, rfl⟩ := h.p3.split hx
  exact app_spl.mpr ⟨y, z, thr_abc h hy, hz, rfl⟩
theorem thr_bW {z : Nat} (hz : Spn (t.W.map (·.2)) z) : Spn B z := hz.mono fun v hv => by
  obtain ⟨p, hp, rfl⟩ := List.mem_map.mp hv
  exact (h.w2 p hp).1
theorem thr_cW {z : Nat} (hz : Spn (t.W.map fun p => p.1 ^^^ p.2) z) : Spn C z := hz.mono fun v hv => by
  obtain ⟨p, hp, rfl⟩ := List.mem_map.mp hv
  exact (h.w2 p hp).2
/-- what lies in the first one and in the sum of the others -/
theorem thr_seen {x : Nat} (hx : Spn A x ∧ Spn (B ++ C) x) : ∃ y z u v, (Spn A y ∧ Spn B y) ∧ (Spn A z ∧ Spn C z) ∧ Spn (t.W.map (·.2)) u ∧ Spn (t.W.map fun p => p.1 ^^^ p.2) v ∧ Spn (t.W.map (·.1)) (u ^^^ v) ∧ x = (y ^^^ z) ^^^ (u ^^^ v) := by
  obtain ⟨n, w, ⟨y, z, hy, hz, rfl⟩, hw, rfl⟩ := h.w1.split hx
  obtain ⟨u, hu, v, hv, rfl⟩ := spn_pick (·.1) (·.2) hw
  exact ⟨y, z, u, v, hy, hz, hu, hv, hw, rfl⟩
theorem thr_a {x : Nat} (hx : Spn A x) : Spn (fd1 t) x := by
  obtain ⟨n, k, hn, hk, rfl⟩ := h.n1.split hx
  obtain ⟨y, z, u, v, hy, hz, hu, hv, hw, rfl⟩ := thr_seen h hn
  unfold fd1
  refine Spn.xor (Spn.xor (Spn.xor ?_ ?_) ?_) ?_
  · exact (thr_ab h hy).sub fun q hq => by simp only [List.mem_append] at hq ⊢; rcases hq with hq | hq <;> simp [hq]
  · exact (thr_ac h hz).sub fun q hq => by simp only [List.mem_append] at hq ⊢; rcases hq with hq | hq <;> simp [hq]
  · exact hw.sub fun q hq => by simp only [List.mem_append]; simp [hq]
  · exact hk.sub fun q hq => by simp only [List.mem_append]; simp [hq]
theorem thr_b {x : Nat} (hx : Spn B x) : Spn (fd2 t) x := by
  obtain ⟨n, k, ⟨hn, hs⟩, hk, rfl⟩ := h.n2.split hx
  obtain ⟨α, γ, hα, hγ, e⟩ := app_spl.mp hs
  have e2 : α = n ^^^ γ := by rw [e, Nat.xor_assoc, Nat.xor_self, Nat.xor_zero]
  obtain ⟨y, z, u, v, hy, hz, hu, hv, hw, e3⟩ := thr_seen h ⟨hα, by rw [e2]; exact app_spl.mpr ⟨n, γ, hn, hγ, rfl⟩⟩
  have m1 : Spn B (n ^^^ y ^^^ u) := (hn.xor hy.2).xor (thr_bW h hu)
  have m2 : n ^^^ y ^^^ u = γ ^^^ z ^^^ v := by
    rw [e, e3]
    apply Nat.eq_of_testBit_eq
    intro i
    simp only [Nat.testBit_xor]
    cases y.testBit i <;> cases z.testBit i <;> cases u.testBit i <;> cases v.testBit i <;> cases γ.testBit i <;> rfl
  have m3 : Spn C (n ^^^ y ^^^ u) := by rw [m2]; exact (hγ.xor hz.2).xor (thr_cW h hv)
  have e4 : n = (n ^^^ y ^^^ u) ^^^ (y ^^^ u) := by
    apply Nat.eq_of_testBit_eq
    intro i
    simp only [Nat.testBit_xor]
    cases n.testBit i <;> cases y.testBit i <;> cases u.testBit i <;> rfl
  rw [e4]
  unfold fd2
  refine Spn.xor (Spn.xor ?_ (Spn.xor ?_ ?_)) ?_
  · exact (thr_bc h ⟨m1, m3⟩).sub fun q hq => by simp only [List.mem_append] at hq ⊢; rcases hq with hq | hq <;> simp [hq]
  · exact (thr_ab h hy).sub fun q hq => by simp only [List.mem_append] at hq ⊢; rcases hq with hq | hq <;> simp [hq]
  · exact hu.sub fun q hq => by simp only [List.mem_append]; simp [hq]
  · exact hk.sub fun q hq => by simp only [List.mem_append]; simp [hq]
theorem thr_c {x : Nat} (hx : Spn C x) : Spn (fd3 t) x := by
  obtain ⟨n, k, ⟨hn, hs⟩, hk, rfl⟩ := h.n3.split hx
  obtain ⟨α, γ, hα, hγ, e⟩ := app_spl.mp hs
  have e2 : α = γ ^^^ n := by rw [e, Nat.xor_comm, Nat.xor_assoc, Nat.xor_self, Nat.xor_zero]
  obtain ⟨y, z, u, v, hy, hz, hu, hv, hw, e3⟩ := thr_seen h ⟨hα, by rw [e2]; exact app_spl.mpr ⟨γ, n, hγ, hn, rfl⟩⟩
  have m1 : Spn C (n ^^^ z ^^^ v) := (hn.xor hz.2).xor (thr_cW h hv)
  have m2 : n ^^^ z ^^^ v = γ ^^^ y ^^^ u := by
    rw [e, e3]
    apply Nat.eq_of_testBit_eq
    intro i
    simp only [Nat.testBit_xor]
    cases y.testBit i <;> cases z.testBit i <;> cases u.testBit i <;> cases v.testBit i <;> cases γ.testBit i <;> rfl
  have m3 : Spn B (n ^^^ z ^^^ v) := by rw [m2]; exact (hγ.xor hy.2).xor (thr_bW h hu)
  have e4 : n = (n ^^^ z ^^^ v) ^^^ (z ^^^ v) := by
    apply Nat.eq_of_testBit_eq
    intro i
    simp only [Nat.testBit_xor]
    cases n.testBit i <;> cases z.testBit i <;> cases v.testBit i <;> rfl
  rw [e4]
  unfold fd3
  refine Spn.xor (Spn.xor ?_ (Spn.xor ?_ ?_)) ?_
  · exact (thr_bc h ⟨m3, m1⟩).sub fun q hq => by simp only [List.mem_append] at hq ⊢; rcases hq with hq | hq <;> simp [hq]
  · exact (thr_ac h hz).sub fun q hq => by simp only [List.mem_append] at hq ⊢; rcases hq with hq | hq <;> simp [hq]
  · exact hv.sub fun q hq => by simp only [List.mem_append]; simp [hq]
  · exact hk.sub fun q hq => by simp only [List.mem_append]; simp [hq]
theorem fd1_all : ∀ x ∈ fd1 t, Spn (fall t) x := fun x hx => by
  unfold fd1 at hx
  unfold fall
  simp only [List.mem_append] at hx
  have m : ∀ y, (y ∈ t.S ∨ y ∈ t.P1 ∨ y ∈ t.P2 ∨ y ∈ t.W.flatMap (fun p => [p.1, p.2]) ∨ y ∈ t.N1) → y ∈ t.S ++ t.P1 ++ t.P2 ++ t.P3 ++ t.W.flatMap (fun p => [p.1, p.2]) ++ t.N1 ++ t.N2 ++ t.N3 ++ t.O := fun y hy => by
    simp only [List.mem_append]
    rcases hy with hy | hy | hy | hy | hy <;> simp only [hy, true_or, or_true]
  refine .of (m x ?_)
  rcases hx with (((hx | hx) | hx) | hx) | hx
  · exact .inl hx
  · exact .inr (.inl hx)
  · exact .inr (.inr (.inl hx))
  · obtain ⟨p, hp, rfl⟩ := List.mem_map.mp hx
    exact .inr (.inr (.inr (.inl (List.mem_flatMap.mpr ⟨p, hp, by simp⟩))))
  · exact .inr (.inr (.inr (.inr hx)))
theorem fd2_all : ∀ x ∈ fd2 t, Spn (fall t) x := fun x hx => by
  unfold fd2 at hx
  unfold fall
  simp only [List.mem_append] at hx
  have m : ∀ y, (y ∈ t.S ∨ y ∈ t.P1 ∨ y ∈ t.P3 ∨ y ∈ t.W.flatMap (fun p => [p.1, p.2]) ∨ y ∈ t.N2) → y ∈ t.S ++ t.P1 ++ t.P2 ++ t.P3 ++ t.W.flatMap (fun p => [p.1, p.2]) ++ t.N1 ++ t.N2 ++ t.N3 ++ t.O := fun y hy => by
    simp only [List.mem_append]
    rcases hy with hy | hy | hy | hy | hy <;> simp only [hy, true_or, or_true]
  refine .of (m x ?_)
  rcases hx with (((hx | hx) | hx) | hx) | hx
  · exact .inl hx
  · exact .inr (.inl hx)
  · exact .inr (.inr (.inl hx))
  · obtain ⟨p, hp, rfl⟩ := List.mem_map.mp hx
    exact .inr (.inr (.inr (.inl (List.mem_flatMap.mpr ⟨p, hp, by simp⟩))))
  · exact .inr (.inr (.inr (.inr hx)))
theorem fd3_all : ∀ x ∈ fd3 t, Spn (fall t) x := fun x hx => by
  unfold fd3 at hx
  unfold fall
  simp only [List.mem_append] at hx
  have m : ∀ y, (y ∈ t.S ∨ y ∈ t.P2 ∨ y ∈ t.P3 ∨ y ∈ t.W.flatMap (fun p => [p.1, p.2]) ∨ y ∈ t.N3) → y ∈ t.S ++ t.P1 ++ t.P2 ++ t.P3 ++ t.W.flatMap (fun p => [p.1, p.2]) ++ t.N1 ++ t.N2 ++ t.N3 ++ t.O := fun y hy => by
    simp only [List.mem_append]
    rcases hy with hy | hy | hy | hy | hy <;> simp only [hy, true_or, or_true]
  rcases hx with (((hx | hx) | hx) | hx) | hx
  · exact .of (m x (.inl hx))
  · exact .of (m x (.inr (.inl hx)))
  · exact .of (m x (.inr (.inr (.inl hx))))
  · obtain ⟨p, hp, rfl⟩ := List.mem_map.mp hx
    exact (Spn.of (m _ (.inr (.inr (.inr (.inl (List.mem_flatMap.mpr ⟨p, hp, by simp⟩))))))).xor (.of (m _ (.inr (.inr (.inr (.inl (List.mem_flatMap.mpr ⟨p, hp, by simp⟩)))))))
  · exact .of (m x (.inr (.inr (.inr (.inr hx)))))
theorem thr_all {x : Nat} (hx : x < 2 ^ b) : Spn (fall t) x := by
  obtain ⟨n, k, hn, hk, rfl⟩ := h.o.split hx
  refine Spn.xor ?_ (hk.sub fun q hq => by unfold fall; simp only [List.mem_append, hq, or_true])
  obtain ⟨y, z, hy, hz, rfl⟩ := app_spl.mp hn
  obtain ⟨u, v, hu, hv, rfl⟩ := app_spl.mp hy
  exact (((thr_a h hu).mono (fd1_all h)).xor ((thr_b h hv).mono (fd2_all h))).xor ((thr_c h hz).mono (fd3_all h))
theorem thr_m1 {x : Nat} (hx : x ∈ fd1 t) : Spn A x := by
  unfold fd1 at hx
  simp only [List.mem_append] at hx
  rcases hx with (((hx | hx) | hx) | hx) | hx
  · exact (h.s.mem hx).1
  · exact (h.p1.mem hx).1
  · exact (h.p2.mem hx).1
  · exact (h.w1.mem hx).1
  · exact h.n1.mem hx
theorem thr_m2 {x : Nat} (hx : x ∈ fd2 t) : Spn B x := by
  unfold fd2 at hx
  simp only [List.mem_append] at hx
  rcases hx with (((hx | hx) | hx) | hx) | hx
  · exact (h.s.mem hx).2.1
  · exact (h.p1.mem hx).2
  · exact (h.p3.mem hx).1
  · exact thr_bW h (.of hx)
  · exact h.n2.mem hx
theorem thr_m3 {x : Nat} (hx : x ∈ fd3 t) : Spn C x := by
  unfold fd3 at hx
  simp only [List.mem_append] at hx
  rcases hx with (((hx | hx) | hx) | hx) | hx
  · exact (h.s.mem hx).2.2
  · exact (h.p2.mem hx).2
  · exact (h.p3.mem hx).2
  · exact thr_cW h (.of hx)
  · exact h.n3.mem hx
end
end LaneX
set_option linter.all false
namespace LaneX
/-! ### chains of spaces (k38) -/
/-- the meets of spaces up to each index of an order -/
def mtl (b : Nat) (S : Nat → List Nat) (o : List Nat) : List (List Nat) := o.foldl (fun acc at_ => acc ++ [match acc.getLast? with | none => spn (S at_) | some r => spn (mtd b (spn (S at_)) r)]) []
theorem mtl_snoc (b : Nat) (S : Nat → List Nat) (o : List Nat) (a : Nat) : mtl b S (o ++ [a]) = mtl b S o ++ [match (mtl b S o).getLast? with | none => spn (S a) | some r => spn (mtd b (spn (S a)) r)] := List.foldl_append ..
theorem mtl_len (b : Nat) (S : Nat → List Nat) (o : List Nat) : (mtl b S o).length = o.length := snoc_rec (p := fun l => (mtl b S l).length = l.length) rfl (fun a w ih => by rw [mtl_snoc, List.length_append, ih, List.length_append]; rfl) o
/-- R spans what all of some lists span -/
def Isp (R : List Nat) (J : Nat → Prop) (S : Nat → List Nat) : Prop := ∀ x, Spn R x ↔ ∀ j, J j → Spn (S j) x
/-- the last of the meets -/
def mtE (b : Nat) (S : Nat → List Nat) (o : List Nat) : List Nat := (mtl b S o).getLastD []
theorem mtE_snoc (b : Nat) (S : Nat → List Nat) (o : List Nat) (a : Nat) : mtE b S (o ++ [a]) = if o = [] then spn (S a) else spn (mtd b (spn (S a)) (mtE b S o)) := by
  unfold mtE
  rw [mtl_snoc, List.getLastD_eq_getLast?, List.getLast?_append]
  have l := mtl_len b S o
  by_cases h : o = []
  · subst h
    rfl
  · rw [if_neg h]
    cases q : (mtl b S o).getLast? with
    | none =>
      rw [List.getLast?_eq_none_iff] at q
      rw [q] at l
      exact absurd (List.length_eq_zero_iff.mp l.symm) h
    | some r =>
      rw [List.getLastD_eq_getLast?, q]
      rfl
theorem mtE_isp {b : Nat} {S : Nat → List Nat} (o : List Nat) : (∀ a ∈ o, ∀ x ∈ S a, x < 2 ^ b) → o ≠ [] → Isp (mtE b S o) (fun j => j ∈ o) S ∧ ∃ X, mtE b S o = spn X :=
  snoc_rec (p := fun o => (∀ a ∈ o, ∀ x ∈ S a, x < 2 ^ b) → o ≠ [] → Isp (mtE b S o) (fun j => j ∈ o) S ∧ ∃ X, mtE b S o = spn X) (fun _ h => absurd rfl h) (fun l a ih hS _ => by
    rw [mtE_snoc]
    by_cases h : l = []
    · subst h
      rw [if_pos rfl]
      refine ⟨fun x => ?_, _, rfl⟩
      rw [spn_span]
      exact ⟨fun z j hj => by rw [List.mem_singleton.mp hj]; exact z, fun z => z a (by simp)⟩
    · rw [if_neg h]
      obtain ⟨i1, _⟩ := ih (fun c hc => hS c (List.mem_append_left _ hc)) h
      refine ⟨fun x => ?_, _, rfl⟩
      rw [spn_span, mtd_span (spn_lt (hS a (by simp))), spn_span, i1 x]
      constructor
      · rintro ⟨z1, z2⟩ j hj
        rcases List.mem_append.mp hj with q | q
        · exact z2 j q
        · rw [List.mem_singleton.mp q]; exact z1
      · intro z
        exact ⟨z a (by simp), fun j hj => z j (List.mem_append_left _ hj)⟩) o
theorem mtl_take (b : Nat) (S : Nat → List Nat) (o : List Nat) : ∀ k, k < o.length → (mtl b S o)[k]? = some (mtE b S (o.take (k + 1))) :=
  snoc_rec (p := fun o => ∀ k, k < o.length → (mtl b S o)[k]? = some (mtE b S (o.take (k + 1)))) (fun k h => absurd h (Nat.not_lt_zero _)) (fun l a ih k hk => by
    have ll := mtl_len b S l
    by_cases h : k < l.length
    · rw [mtl_snoc, List.getElem?_append_left (by omega), ih k h, List.take_append_of_le_length (by omega)]
    · rw [List.length_append, List.length_singleton] at hk
      have e : k = l.length := by omega
      subst e
      rw [List.take_of_length_le (by simp)]
      unfold mtE
      rw [mtl_snoc, List.getElem?_append_right (by omega), ll, Nat.sub_self, List.getLastD_eq_getLast?, List.getLast?_append]
      rfl) o
theorem max_of {P : Nat → Prop} : ∀ {n : Nat}, (∃ k, k < n ∧ P k) → ∃ k, k < n ∧ P k ∧ ∀ j, j < n → P j → j ≤ k
  | 0, ⟨k, h, _⟩ => absurd h (Nat.not_lt_zero _)
  | n + 1, ⟨k, h1, h2⟩ => by
    by_cases q : P n
    · exact ⟨n, Nat.lt_succ_self n, q, fun j hj _ => by omega⟩
    · have hk : k < n := by
        rcases Nat.lt_or_ge k n with z | z
        · exact z
        · have : k = n := by omega
          exact absurd (this ▸ h2) q
      obtain ⟨m, h3, h4, h5⟩ := max_of (n := n) ⟨k, hk, h2⟩
      refine ⟨m, by omega, h4, fun j hj hP => ?_⟩
      rcases Nat.lt_or_ge j n with z | z
      · exact h5 j z hP
      · have : j = n := by omega
        exact absurd (this ▸ hP) q
/-- widths fit spaces -/
def Fit (n : Nat) (W : Nat → Nat) (S : Nat → List Nat) : Prop := ∀ i, i < n → ∃ R, Isp R (fun j => j < n ∧ W i ≤ W j) S ∧ W i ≤ rk R
theorem at_getD {o : List Nat} {k : Nat} (h : k < o.length) : o[k]? = some (o.getD k 0) := by rw [List.getD_eq_getElem?_getD, List.getElem?_eq_getElem h]; rfl
theorem take_mem {o : List Nat} {k j : Nat} : j ∈ o.take k ↔ ∃ m, m < k ∧ m < o.length ∧ o.getD m 0 = j := by
  constructor
  · intro h
    obtain ⟨m, hm, rfl⟩ := List.getElem_of_mem h
    rw [List.length_take] at hm
    refine ⟨m, by omega, by omega, ?_⟩
    rw [List.getD_eq_getElem?_getD, List.getElem?_eq_getElem (by omega), List.getElem_take]
    rfl
  · rintro ⟨m, h1, h2, rfl⟩
    refine List.mem_of_getElem? (i := m) ?_
    rw [List.getElem?_take, if_pos h1, at_getD h2]
theorem pair_le {o : List Nat} {W : Nat → Nat} (hd : o.Pairwise (fun i j => W j ≤ W i)) {m k : Nat} (h : m ≤ k) (hk : k < o.length) : W (o.getD k 0) ≤ W (o.getD m 0) := by
  rcases Nat.lt_or_eq_of_le h with z | rfl
  · have := List.pairwise_iff_getElem.mp hd m k (by omega) hk z
    rw [List.getD_eq_getElem?_getD, List.getD_eq_getElem?_getD, List.getElem?_eq_getElem hk, List.getElem?_eq_getElem (by omega)]
    exact this
  · exact Nat.le_refl _
theorem perm_at {o : List Nat} {n i : Nat} (hp : o.Perm (List.range n)) (hi : i < n) : ∃ k, k < n ∧ o.getD k 0 = i := by
  have l : o.length = n := by rw [hp.length_eq, List.length_range]
  obtain ⟨k, hk, e⟩ := List.getElem_of_mem (hp.mem_iff.mpr (List.mem_range.mpr hi))
  exact ⟨k, by omega, by rw [List.getD_eq_getElem?_getD, List.getElem?_eq_getElem hk]; exact e⟩
theorem perm_lt {o : List Nat} {n k : Nat} (hp : o.Perm (List.range n)) (hk : k < n) : o.getD k 0 < n := by
  have l : o.length = n := by rw [hp.length_eq, List.length_range]
  exact List.mem_range.mp (hp.mem_iff.mp (List.mem_of_getElem? (at_getD (by omega))))
/-- any order by falling widths tells the same -/
theorem fit_order {n : Nat} {W : Nat → Nat} {S : Nat → List Nat} {o : List Nat} (hp : o.Perm (List.range n)) (hd : o.Pairwise (fun i j => W j ≤ W i)) {M : Nat → List Nat} (hM : ∀ k, k < n → Isp (M k) (fun j => j ∈ o.take (k + 1)) S) : (∀ k, k < n → W (o.getD k 0) ≤ rk (M k)) ↔ Fit n W S := by
  have l : o.length = n := by rw [hp.length_eq, List.length_range]
  constructor
  · intro h i hi
    obtain ⟨k0, h0, e0⟩ := perm_at hp hi
    obtain ⟨k, h1, h2, h3⟩ := max_of (P := fun k => W i ≤ W (o.getD k 0)) (n := n) ⟨k0, h0, by rw [e0]; exact Nat.le_refl _⟩
    refine ⟨M k, fun x => ?_, Nat.le_trans h2 (h k h1)⟩
    rw [hM k h1 x]
    constructor
    · rintro z j ⟨g1, g2⟩
      obtain ⟨m, hm, rfl⟩ := perm_at hp g1
      exact z _ (take_mem.mpr ⟨m, Nat.lt_succ_of_le (h3 m hm g2), by omega, rfl⟩)
    · intro z j hj
      obtain ⟨m, g1, g2, rfl⟩ := take_mem.mp hj
      exact z _ ⟨perm_lt hp (by omega), Nat.le_trans h2 (pair_le hd (by omega) (by omega))⟩
  · intro h k hk
    obtain ⟨R, h1, h2⟩ := h (o.getD k 0) (perm_lt hp hk)
    refine Nat.le_trans h2 (rk_le fun x hx => ?_)
    refine (hM k hk x).mpr fun j hj => ?_
    obtain ⟨m, g1, g2, rfl⟩ := take_mem.mp hj
    exact (h1 x).mp (.of hx) _ ⟨perm_lt hp (by omega), pair_le hd (by omega) (by omega)⟩
theorem fit_perm {n : Nat} {W : Nat → Nat} {S : Nat → List Nat} {p : List Nat} (hp : p.Perm (List.range n)) : Fit n (fun i => W (p.getD i 0)) (fun i => S (p.getD i 0)) ↔ Fit n W S := by
  have key : ∀ (w : Nat) (R : List Nat), Isp R (fun j => j < n ∧ w ≤ W (p.getD j 0)) (fun i => S (p.getD i 0)) ↔ Isp R (fun j => j < n ∧ w ≤ W j) S := fun w R => by
    unfold Isp
    refine forall_congr' fun x => ?_
    refine iff_congr Iff.rfl ⟨fun z j hj => ?_, fun z j hj => z _ ⟨perm_lt hp hj.1, hj.2⟩⟩
    obtain ⟨m, hm, rfl⟩ := perm_at hp hj.1
    exact z m ⟨hm, hj.2⟩
  constructor
  · intro h i hi
    obtain ⟨m, hm, rfl⟩ := perm_at hp hi
    obtain ⟨R, h1, h2⟩ := h m hm
    exact ⟨R, (key _ R).mp h1, h2⟩
  · intro h i hi
    obtain ⟨R, h1, h2⟩ := h _ (perm_lt hp hi)
    exact ⟨R, (key _ R).mpr h1, h2⟩
/-! ### the chain -/
def chp (W : Nat → Nat) (sp : List Nat) (p : Nat × List Nat) : List Nat := spn (sp ++ (cmpl sp p.2).take (W p.1 - sp.length))
def chR (W : Nat → Nat) (l : List (Nat × List Nat)) : List Nat := l.foldl (chp W) []
theorem chR_snoc (W : Nat → Nat) (l : List (Nat × List Nat)) (p : Nat × List Nat) : chR W (l ++ [p]) = chp W (chR W l) p := List.foldl_append ..
theorem chp_ok {W : Nat → Nat} {sp M : List Nat} {a : Nat} {X : List Nat} (hs : sp = spn X) (hM : ∀ x, Spn sp x → Spn M x) (h1 : sp.length ≤ W a) (h2 : W a ≤ rk M) : (∃ Y, chp W sp (a, M) = spn Y) ∧ (chp W sp (a, M)).length = W a ∧ (∀ x, Spn (chp W sp (a, M)) x → Spn M x) ∧ ∀ x, Spn sp x → Spn (chp W sp (a, M)) x := by
  have B := base_of (A := sp) (B := M) (by rw [hs]; exact spn_rws _) fun y hy => hM y (.of hy)
  have rM : rk M = (sp ++ cmpl sp M).length := by rw [← B.2.1]; exact (rk_eq B.1).symm
  rw [List.length_append] at rM
  refine ⟨⟨_, rfl⟩, ?_, fun x hx => ?_, fun x hx => ?_⟩
  · show (spn (sp ++ (cmpl sp M).take (W a - sp.length))).length = W a
    have i : rk (sp ++ (cmpl sp M).take (W a - sp.length)) = (sp ++ (cmpl sp M).take (W a - sp.length)).length := by
      have F := B.2.1
      rw [← List.take_append_drop (W a - sp.length) (cmpl sp M), ← List.append_assoc] at F
      have h3 := rk_app_len (sp ++ (cmpl sp M).take (W a - sp.length)) ((cmpl sp M).drop (W a - sp.length))
      have h4 := rk_len (sp ++ (cmpl sp M).take (W a - sp.length))
      rw [List.length_append] at F
      omega
    have i : (spn (sp ++ (cmpl sp M).take (W a - sp.length))).length = (sp ++ (cmpl sp M).take (W a - sp.length)).length := i
    rw [i, List.length_append, List.length_take]
    omega
  · refine ((spn_span _ x).mp hx).mono fun y hy => ?_
    rcases List.mem_append.mp hy with q | q
    · exact hM y (.of q)
    · exact (B.1 y).mp (.of (List.mem_append_right _ (List.mem_of_mem_take q)))
  · exact (spn_span _ x).mpr (hx.sub fun y hy => List.mem_append_left _ hy)
/-- the chain's spaces: sizes, and where they lie -/
theorem chR_ok {W : Nat → Nat} {l : List (Nat × List Nat)} (hW : l.Pairwise fun p q => W p.1 ≤ W q.1) (hM : l.Pairwise fun p q => ∀ x, Spn p.2 x → Spn q.2 x) (hr : ∀ p ∈ l, W p.1 ≤ rk p.2) : ∀ k, k < l.length → ∃ p, l[k]? = some p ∧ (∃ Y, chR W (l.take (k + 1)) = spn Y) ∧ (chR W (l.take (k + 1))).length = W p.1 ∧ (∀ x, Spn (chR W (l.take (k + 1))) x → Spn p.2 x) ∧ ∀ x, Spn (chR W (l.take k)) x → Spn (chR W (l.take (k + 1))) x := by
  intro k
  induction k with
  | zero =>
    intro h
    have e : l[0]? = some l[0] := List.getElem?_eq_getElem h
    refine ⟨l[0], e, ?_⟩
    have t : l.take (0 + 1) = [] ++ [l[0]] := by
      rw [List.take_succ, e]; rfl
    rw [t, chR_snoc]
    have c := chp_ok (W := W) (sp := chR W []) (M := l[0].2) (a := l[0].1) (X := []) rfl (fun x hx => by rw [Spn.nil hx]; exact .zero) (Nat.zero_le _) (hr _ (List.getElem_mem h))
    exact ⟨c.1, c.2.1, c.2.2.1, c.2.2.2⟩
  | succ k ih =>
    intro h
    obtain ⟨p, e1, ⟨Y, e2⟩, e3, e4, e5⟩ := ih (by omega)
    have e : l[k + 1]? = some l[k + 1] := List.getElem?_eq_getElem h
    refine ⟨l[k + 1], e, ?_⟩
    have t : l.take (k + 1 + 1) = l.take (k + 1) ++ [l[k + 1]] := by
      rw [List.take_succ (i := k + 1), e]; rfl
    have ep : p = l[k] := by rw [List.getElem?_eq_getElem (by omega)] at e1; exact (Option.some.inj e1).symm
    have w := List.pairwise_iff_getElem.mp hW k (k + 1) (by omega) h (by omega)
    have m := List.pairwise_iff_getElem.mp hM k (k + 1) (by omega) h (by omega)
    rw [t, chR_snoc]
    have c := chp_ok (W := W) (sp := chR W (l.take (k + 1))) (M := l[k + 1].2) (a := l[k + 1].1) e2 (fun x hx => m x (by rw [← ep]; exact e4 x hx)) (by rw [e3, ep]; exact w) (hr _ (List.getElem_mem h))
    exact ⟨c.1, c.2.1, c.2.2.1, c.2.2.2⟩
end LaneX
set_option linter.all false
namespace LaneX
/-! ### the chain's spaces by index (k38) -/
def chPr (b : Nat) (S : Nat → List Nat) (o : List Nat) : List (Nat × List Nat) := ((List.range o.length).map fun k => (o.getD k 0, mtE b S (o.take (k + 1)))).reverse
def chn (b : Nat) (S : Nat → List Nat) (W : Nat → Nat) (o : List Nat) (i : Nat) : List Nat := chR W ((chPr b S o).take ((chPr b S o).findIdx (fun p => p.1 == i) + 1))
theorem chPr_len (b : Nat) (S : Nat → List Nat) (o : List Nat) : (chPr b S o).length = o.length := by simp [chPr]
theorem chPr_at {b : Nat} {S : Nat → List Nat} {o : List Nat} {j : Nat} (h : j < o.length) : (chPr b S o)[j]? = some (o.getD (o.length - 1 - j) 0, mtE b S (o.take (o.length - 1 - j + 1))) := by
  unfold chPr
  rw [List.getElem?_reverse (by simpa using h), List.length_map, List.length_range, List.getElem?_map, List.getElem?_range (by omega)]
  rfl
theorem mtE_sub {b : Nat} {S : Nat → List Nat} {o : List Nat} (hS : ∀ a ∈ o, ∀ x ∈ S a, x < 2 ^ b) {k m : Nat} (hkm : k ≤ m) (hm : m < o.length) {x : Nat} (hx : Spn (mtE b S (o.take (m + 1))) x) : Spn (mtE b S (o.take (k + 1))) x := by
  have ne : ∀ k, k < o.length → o.take (k + 1) ≠ [] := fun k hk e => by
    have := congrArg List.length e
    rw [List.length_take, List.length_nil] at this
    omega
  have I := fun k => mtE_isp (b := b) (S := S) (o.take (k + 1)) (fun a ha => hS a (List.mem_of_mem_take ha))
  refine ((I k (ne k (by omega))).1 x).mpr fun j hj => ?_
  refine ((I m (ne m hm)).1 x).mp hx j ?_
  obtain ⟨q, h1, h2, h3⟩ := take_mem.mp hj
  exact take_mem.mpr ⟨q, by omega, h2, h3⟩
section
variable {b n : Nat} {S : Nat → List Nat} {W : Nat → Nat} {o : List Nat} (hp : o.Perm (List.range n)) (hd : o.Pairwise (fun i j => W j ≤ W i)) (hS : ∀ i, i < n → ∀ x ∈ S i, x < 2 ^ b) (hf : ∀ k, k < n → W (o.getD k 0) ≤ (mtE b S (o.take (k + 1))).length)
include hp hS
theorem mtE_of {k : Nat} (hk : k < n) : Isp (mtE b S (o.take (k + 1))) (fun j => j ∈ o.take (k + 1)) S ∧ ∃ X, mtE b S (o.take (k + 1)) = spn X := by
  have l : o.length = n := by rw [hp.length_eq, List.length_range]
  refine mtE_isp _ (fun a ha => hS a (List.mem_range.mp (hp.mem_iff.mp (List.mem_of_mem_take ha)))) fun e => ?_
  have := congrArg List.length e
  rw [List.length_take, List.length_nil] at this
  omega
theorem mtE_rk {k : Nat} (hk : k < n) : rk (mtE b S (o.take (k + 1))) = (mtE b S (o.take (k + 1))).length := by
  obtain ⟨_, X, e⟩ := mtE_of hp hS hk
  rw [e]
  exact spn_id (spn_rws X)
include hd
theorem fit_len : (∀ k, k < n → W (o.getD k 0) ≤ (mtE b S (o.take (k + 1))).length) ↔ Fit n W S := by
  rw [← fit_order hp hd (M := fun k => mtE b S (o.take (k + 1))) fun k hk => (mtE_of hp hS hk).1]
  exact forall_congr' fun k => forall_congr' fun hk => by rw [mtE_rk hp hS hk]
include hf
theorem ch_all : ∀ k, k < n → ∃ p, (chPr b S o)[k]? = some p ∧ (∃ Y, chR W ((chPr b S o).take (k + 1)) = spn Y) ∧ (chR W ((chPr b S o).take (k + 1))).length = W p.1 ∧ (∀ x, Spn (chR W ((chPr b S o).take (k + 1))) x → Spn p.2 x) ∧ ∀ x, Spn (chR W ((chPr b S o).take k)) x → Spn (chR W ((chPr b S o).take (k + 1))) x := by
  have l : o.length = n := by rw [hp.length_eq, List.length_range]
  have at_ : ∀ j (h : j < (chPr b S o).length), (chPr b S o)[j] = (o.getD (o.length - 1 - j) 0, mtE b S (o.take (o.length - 1 - j + 1))) := fun j h => by
    have e := chPr_at (b := b) (S := S) (o := o) (j := j) (by rw [chPr_len] at h; exact h)
    rw [List.getElem?_eq_getElem h] at e
    exact Option.some.inj e
  have hSo : ∀ a ∈ o, ∀ x ∈ S a, x < 2 ^ b := fun a ha => hS a (List.mem_range.mp (hp.mem_iff.mp ha))
  intro k hk
  refine chR_ok (W := W) (l := chPr b S o) ?_ ?_ ?_ k (by rw [chPr_len]; omega)
  · refine List.pairwise_iff_getElem.mpr fun i j hi hj hij => ?_
    rw [chPr_len] at hi hj
    rw [at_ i (by rw [chPr_len]; exact hi), at_ j (by rw [chPr_len]; exact hj)]
    exact pair_le hd (by omega) (by omega)
  · refine List.pairwise_iff_getElem.mpr fun i j hi hj hij => ?_
    rw [chPr_len] at hi hj
    rw [at_ i (by rw [chPr_len]; exact hi), at_ j (by rw [chPr_len]; exact hj)]
    intro x hx
    exact mtE_sub hSo (by omega) (by omega) hx
  · intro p hpm
    obtain ⟨j, hj, rfl⟩ := List.getElem_of_mem hpm
    rw [at_ j hj]
    rw [chPr_len] at hj
    show W (o.getD (o.length - 1 - j) 0) ≤ rk (mtE b S (o.take (o.length - 1 - j + 1)))
    rw [mtE_rk hp hS (by omega)]
    exact hf _ (by omega)
theorem ch_spn : ∀ k, k ≤ n → ∃ Y, chR W ((chPr b S o).take k) = spn Y
  | 0, _ => ⟨[], rfl⟩
  | k + 1, h => by
    obtain ⟨_, _, h2, _⟩ := ch_all hp hd hS hf k h
    exact h2
theorem ch_lt : ∀ k, k ≤ n → ∀ x ∈ chR W ((chPr b S o).take k), x < 2 ^ b
  | 0, _ => fun x hx => by cases hx
  | k + 1, h => fun x hx => by
    have l : o.length = n := by rw [hp.length_eq, List.length_range]
    obtain ⟨p, h1, _, _, h4, _⟩ := ch_all hp hd hS hf k h
    rw [chPr_at (by omega)] at h1
    obtain rfl := Option.some.inj h1
    have q := ((mtE_of hp hS (k := o.length - 1 - k) (by omega)).1 x).mp (h4 x (.of hx)) (o.getD (o.length - 1 - k) 0) (take_mem.mpr ⟨_, Nat.lt_succ_self _, by omega, rfl⟩)
    exact q.lt (hS _ (perm_lt hp (by omega)))
theorem ch_step {k : Nat} (h : k < n) {p : Nat × List Nat} (hp' : (chPr b S o)[k]? = some p) : chR W ((chPr b S o).take (k + 1)) = spn (chR W ((chPr b S o).take k) ++ (cmpl (chR W ((chPr b S o).take k)) p.2).take (W p.1 - (chR W ((chPr b S o).take k)).length)) ∧ (chR W ((chPr b S o).take k)).length ≤ W p.1 := by
  have t : (chPr b S o).take (k + 1) = (chPr b S o).take k ++ [p] := by
    rw [List.take_succ, hp']; rfl
  refine ⟨by rw [t, chR_snoc]; rfl, ?_⟩
  obtain ⟨q, h1, ⟨Y, h2⟩, h3, _, h5⟩ := ch_all hp hd hS hf k h
  rw [hp'] at h1
  obtain rfl := Option.some.inj h1
  obtain ⟨Y', e⟩ := ch_spn hp hd hS hf k (by omega)
  rw [← h3]
  have r := rk_le (a := chR W ((chPr b S o).take k)) (b := chR W ((chPr b S o).take (k + 1))) fun x hx => h5 x (.of hx)
  rw [h2, e] at r ⊢
  rwa [spn_id (spn_rws _), spn_id (spn_rws _)] at r
theorem ch_mono {i j : Nat} (hij : i ≤ j) (hj : j < n) {x : Nat} (hx : Spn (chR W ((chPr b S o).take (i + 1))) x) : Spn (chR W ((chPr b S o).take (j + 1))) x := by
  induction j with
  | zero =>
    have : i = 0 := by omega
    subst this
    exact hx
  | succ j ih =>
    rcases Nat.lt_or_ge i (j + 1) with z | z
    · obtain ⟨_, _, _, _, _, h⟩ := ch_all hp hd hS hf (j + 1) hj
      exact h x (ih (by omega) (by omega))
    · have : i = j + 1 := by omega
      subst this
      exact hx
theorem ch_idx {i : Nat} (hi : i < n) : (chPr b S o).findIdx (fun p => p.1 == i) < n ∧ ∃ M, (chPr b S o)[(chPr b S o).findIdx (fun p => p.1 == i)]? = some (i, M) := by
  have l : o.length = n := by rw [hp.length_eq, List.length_range]
  obtain ⟨k, hk, e⟩ := perm_at hp hi
  have g := chPr_at (b := b) (S := S) (o := o) (j := n - 1 - k) (by omega)
  rw [show o.length - 1 - (n - 1 - k) = k by omega, e] at g
  have lt : (chPr b S o).findIdx (fun p => p.1 == i) < (chPr b S o).length := List.findIdx_lt_length_of_exists ⟨_, List.mem_of_getElem? g, by simp⟩
  have at_ := List.findIdx_getElem (w := lt)
  refine ⟨by rw [chPr_len] at lt; omega, (chPr b S o)[(chPr b S o).findIdx (fun p => p.1 == i)].2, ?_⟩
  rw [List.getElem?_eq_getElem lt]
  have q : ((chPr b S o)[(chPr b S o).findIdx (fun p => p.1 == i)].1 == i) = true := at_
  have q := eq_of_beq q
  generalize (chPr b S o)[(chPr b S o).findIdx (fun p => p.1 == i)] = z at q
  obtain ⟨z1, z2⟩ := z
  have q : z1 = i := q
  rw [q]
/-- the place of an index is the one place with it -/
theorem ch_uniq {j i : Nat} {M : List Nat} (h : (chPr b S o)[j]? = some (i, M)) : (chPr b S o).findIdx (fun p => p.1 == i) = j := by
  have l : o.length = n := by rw [hp.length_eq, List.length_range]
  have jl := (List.getElem?_eq_some_iff.mp h).1
  rw [chPr_len] at jl
  have hi : i < n := by
    have e := chPr_at (b := b) (S := S) (o := o) jl
    rw [h] at e
    have e := congrArg Prod.fst (Option.some.inj e)
    have e : i = o.getD (o.length - 1 - j) 0 := e
    rw [e]
    exact perm_lt hp (by omega)
  obtain ⟨h1, M', h2⟩ := ch_idx hp hd hS hf hi
  generalize (chPr b S o).findIdx (fun p => p.1 == i) = k at *
  rw [chPr_at (by omega)] at h h2
  have e1 := congrArg Prod.fst (Option.some.inj h)
  have e2 := congrArg Prod.fst (Option.some.inj h2)
  have e1 : o.getD (o.length - 1 - j) 0 = i := e1
  have e2 : o.getD (o.length - 1 - k) 0 = i := e2
  have nd : o.Nodup := hp.nodup_iff.mpr List.nodup_range
  have a1 := at_getD (o := o) (k := o.length - 1 - j) (by omega)
  have a2 := at_getD (o := o) (k := o.length - 1 - k) (by omega)
  rw [e1] at a1
  rw [e2] at a2
  have := (List.getElem?_inj (by omega) nd).mp (a1.trans a2.symm)
  omega
theorem chn_ok {i : Nat} (hi : i < n) : (∃ Y, chn b S W o i = spn Y) ∧ (chn b S W o i).length = W i ∧ ∀ x, Spn (chn b S W o i) x → Spn (S i) x := by
  have l : o.length = n := by rw [hp.length_eq, List.length_range]
  obtain ⟨h1, M, h2⟩ := ch_idx hp hd hS hf hi
  obtain ⟨p, g1, g2, g3, g4, _⟩ := ch_all hp hd hS hf _ h1
  rw [h2] at g1
  obtain rfl := Option.some.inj g1
  refine ⟨g2, g3, fun x hx => ?_⟩
  have q := g4 x hx
  have e := chPr_at (b := b) (S := S) (o := o) (j := (chPr b S o).findIdx (fun p => p.1 == i)) (by omega)
  rw [h2] at e
  obtain ⟨e1, e2⟩ := Prod.mk.inj (Option.some.inj e)
  have q : Spn M x := q
  rw [e2] at q
  refine ((mtE_of hp hS (by omega)).1 x).mp q i ?_
  exact take_mem.mpr ⟨_, Nat.lt_succ_self _, by omega, e1.symm⟩
theorem chn_two {i j : Nat} (hi : i < n) (hj : j < n) : (∀ x, Spn (chn b S W o i) x → Spn (chn b S W o j) x) ∨ ∀ x, Spn (chn b S W o j) x → Spn (chn b S W o i) x := by
  have h1 := (ch_idx hp hd hS hf hi).1
  have h2 := (ch_idx hp hd hS hf hj).1
  rcases Nat.le_total ((chPr b S o).findIdx (fun p => p.1 == i)) ((chPr b S o).findIdx (fun p => p.1 == j)) with z | z
  · exact .inl fun x hx => ch_mono hp hd hS hf z h2 hx
  · exact .inr fun x hx => ch_mono hp hd hS hf z h1 hx
theorem chn_rk {i : Nat} (hi : i < n) : rk (chn b S W o i) = W i := by
  obtain ⟨⟨Y, e⟩, e2, _⟩ := chn_ok hp hd hS hf hi
  rw [← e2, e]
  exact spn_id (spn_rws Y)
theorem chn_in {i : Nat} (hi : i < n) {ws : List Nat} (hw : ∀ x, Spn ws x ↔ Spn (S i) x) : rk (chn b S W o i ++ ws) = rk ws := by
  refine rk_eq fun x => ⟨fun h => h.mono fun y hy => ?_, fun h => h.sub fun y hy => List.mem_append_right _ hy⟩
  rcases List.mem_append.mp hy with q | q
  · exact (hw y).mpr ((chn_ok hp hd hS hf hi).2.2 y (.of q))
  · exact .of q
theorem chn_max {i j : Nat} (hi : i < n) (hj : j < n) : rk (chn b S W o i ++ chn b S W o j) = max (W i) (W j) := by
  have r1 := chn_rk hp hd hS hf hi
  have r2 := chn_rk hp hd hS hf hj
  rcases chn_two hp hd hS hf hi hj with z | z
  · have e : rk (chn b S W o i ++ chn b S W o j) = rk (chn b S W o j) := rk_eq fun x => ⟨fun h => h.mono fun y hy => by
      rcases List.mem_append.mp hy with q | q
      · exact z y (.of q)
      · exact .of q, fun h => h.sub fun y hy => List.mem_append_right _ hy⟩
    have := rk_left (chn b S W o i) (chn b S W o j)
    omega
  · have e : rk (chn b S W o i ++ chn b S W o j) = rk (chn b S W o i) := rk_eq fun x => ⟨fun h => h.mono fun y hy => by
      rcases List.mem_append.mp hy with q | q
      · exact .of q
      · exact z y (.of q), fun h => h.sub fun y hy => List.mem_append_left _ hy⟩
    have := rk_right (chn b S W o i) (chn b S W o j)
    omega
end
/-- what spaces' lists span alone counts -/
theorem Fit.iff {n : Nat} {W : Nat → Nat} {S S' : Nat → List Nat} (h : ∀ i, i < n → ∀ x, Spn (S i) x ↔ Spn (S' i) x) : Fit n W S ↔ Fit n W S' := by
  unfold Fit Isp
  exact forall_congr' fun i => forall_congr' fun hi => exists_congr fun R => and_congr (forall_congr' fun x => iff_congr Iff.rfl (forall_congr' fun j => forall_congr' fun hj => h j hj.1 x)) Iff.rfl
end LaneX
set_option linter.all false
namespace LaneX
/-! ### the law's own meets (k38) -/
def mtL (A B : List Nat) : List Nat := (tgd (bas A ++ bas B)).2.map fun w => img (bas A) (w &&& (2 ^ (bas A).length - 1))
theorem lin_mask (n : Nat) : Lin (fun w => w &&& (2 ^ n - 1)) := by
  have e : (fun w => w &&& (2 ^ n - 1)) = fun w => w % 2 ^ n := funext fun w => Nat.and_two_pow_sub_one_eq_mod w n
  rw [e]
  exact lin_mod n
theorem mask_app {n x y : Nat} (h : x < 2 ^ n) : (x ^^^ (y <<< n)) &&& (2 ^ n - 1) = x := by
  rw [Nat.and_two_pow_sub_one_eq_mod, Nat.xor_mod_two_pow, Nat.shiftLeft_eq, Nat.mul_mod_left, Nat.xor_zero, Nat.mod_eq_of_lt h]
theorem mtL_span (A B : List Nat) (x : Nat) : Spn (mtL A B) x ↔ Spn A x ∧ Spn B x := by
  have L : Lin fun w => img (bas A) (w &&& (2 ^ (bas A).length - 1)) := (lin_img _).comp (lin_mask _)
  constructor
  · intro h
    obtain ⟨w, h1, rfl⟩ := L.back h
    obtain ⟨h2, h3⟩ := (tgd_span _ w).mp h1
    obtain ⟨y, h4, h5⟩ := img_mask h2
    rw [h3] at h5
    have e := xor_eq_zero h5.symm
    refine ⟨(bas_span A _).mp (img_in _ (by rw [Nat.and_two_pow_sub_one_eq_mod]; exact Nat.mod_lt _ (Nat.two_pow_pos _))), ?_⟩
    rw [e]
    exact (bas_span B _).mp (img_in _ h4)
  · rintro ⟨h1, h2⟩
    obtain ⟨c1, g1, e1⟩ := span_img (n := (bas A).length) (Nat.le_refl _) (by rw [List.take_length]; exact (bas_span A x).mpr h1)
    obtain ⟨c2, g2, e2⟩ := span_img (n := (bas B).length) (Nat.le_refl _) (by rw [List.take_length]; exact (bas_span B x).mpr h2)
    have k : Spn (tgd (bas A ++ bas B)).2 (c1 ^^^ (c2 <<< (bas A).length)) := by
      refine (tgd_span _ _).mpr ⟨?_, ?_⟩
      · rw [List.length_append]
        refine Nat.xor_lt_two_pow (Nat.lt_of_lt_of_le g1 (Nat.pow_le_pow_right (by decide) (by omega))) ?_
        rw [Nat.shiftLeft_eq, Nat.pow_add, Nat.mul_comm (2 ^ (bas A).length)]
        exact Nat.mul_lt_mul_of_pos_right g2 (Nat.two_pow_pos _)
      · rw [img_app g1, e1, e2, Nat.xor_self]
    have q := L.spn k
    have e : img (bas A) ((c1 ^^^ (c2 <<< (bas A).length)) &&& (2 ^ (bas A).length - 1)) = x := by rw [mask_app g1, e1]
    have q : Spn (mtL A B) (img (bas A) ((c1 ^^^ (c2 <<< (bas A).length)) &&& (2 ^ (bas A).length - 1))) := q
    rw [e] at q
    exact q
theorem mtL_lt {b : Nat} {A : List Nat} (h : ∀ x ∈ A, x < 2 ^ b) (B : List Nat) : ∀ x ∈ mtL A B, x < 2 ^ b := fun x hx => ((mtL_span A B x).mp (.of hx)).1.lt h
theorem mtL_len (A B : List Nat) : (mtL A B).length ≤ (bas A).length + (bas B).length := by
  have := tgd_len (bas A ++ bas B)
  rw [List.length_append] at this
  unfold mtL
  rw [List.length_map]
  omega
/-- the meets along an order, as the law takes them -/
def mlt (S : Nat → List Nat) (o : List Nat) (k : Nat) : List Nat := (o.take k).foldl (fun m a => mtL m (S a)) (S (o.getD 0 0))
theorem mlt_succ {S : Nat → List Nat} {o : List Nat} {k a : Nat} (h : o[k]? = some a) : mlt S o (k + 1) = mtL (mlt S o k) (S a) := by
  unfold mlt
  rw [List.take_succ, h]
  exact List.foldl_append ..
theorem mlt_span (S : Nat → List Nat) (o : List Nat) (x : Nat) : ∀ k, k ≤ o.length → (Spn (mlt S o k) x ↔ Spn (S (o.getD 0 0)) x ∧ ∀ j, j ∈ o.take k → Spn (S j) x)
  | 0, _ => ⟨fun h => ⟨h, fun j hj => by simp at hj⟩, fun h => h.1⟩
  | k + 1, h => by
    have e := at_getD (o := o) (k := k) (by omega)
    rw [mlt_succ e, mtL_span, mlt_span S o x k (by omega), List.take_succ, e]
    constructor
    · rintro ⟨⟨h1, h2⟩, h3⟩
      refine ⟨h1, fun j hj => ?_⟩
      rcases List.mem_append.mp hj with q | q
      · exact h2 j q
      · have : j = o.getD k 0 := by simpa using q
        rw [this]; exact h3
    · rintro ⟨h1, h2⟩
      exact ⟨⟨h1, fun j hj => h2 j (List.mem_append_left _ hj)⟩, h2 _ (List.mem_append_right _ (by simp))⟩
theorem mlt_isp (S : Nat → List Nat) (o : List Nat) {k : Nat} (h : k < o.length) : Isp (mlt S o (k + 1)) (fun j => j ∈ o.take (k + 1)) S := fun x => by
  rw [mlt_span S o x (k + 1) h]
  exact ⟨fun z => z.2, fun z => ⟨z _ (take_mem.mpr ⟨0, by omega, by omega, rfl⟩), z⟩⟩
theorem mlt_lt {b n : Nat} {S : Nat → List Nat} (hS : ∀ i, i < n → ∀ x ∈ S i, x < 2 ^ b) {o : List Nat} (ho : ∀ a ∈ o, a < n) (h0 : 0 < o.length) : ∀ k, k ≤ o.length → ∀ x ∈ mlt S o k, x < 2 ^ b := fun k hk x hx => by
  have q := ((mlt_span S o x k hk).mp (.of hx)).1
  have e := at_getD (o := o) (k := 0) h0
  exact q.lt (hS _ (ho _ (List.mem_of_getElem? e)))
theorem mlt_len {b n : Nat} {S : Nat → List Nat} (hS : ∀ i, i < n → ∀ x ∈ S i, x < 2 ^ b) (hl : ∀ i, i < n → (S i).length ≤ 2 * b + 1000) {o : List Nat} (ho : ∀ a ∈ o, a < n) (h0 : 0 < o.length) : ∀ k, k ≤ o.length → (mlt S o k).length ≤ 2 * b + 1000
  | 0, _ => by
    have e := at_getD (o := o) (k := 0) h0
    exact hl _ (ho _ (List.mem_of_getElem? e))
  | k + 1, h => by
    have e := at_getD (o := o) (k := k) (by omega)
    rw [mlt_succ e]
    have h1 := mtL_len (mlt S o k) (S (o.getD k 0))
    rw [bas_len, bas_len] at h1
    have h2 := rk_le_bits (mlt_lt hS ho h0 k (by omega))
    have h3 := rk_le_bits (hS _ (ho _ (List.mem_of_getElem? e)))
    omega
/-- whether there is a chain, as the law looks -/
theorem mlt_fit {n : Nat} {W : Nat → Nat} {S : Nat → List Nat} {o : List Nat} (hp : o.Perm (List.range n)) (hd : o.Pairwise fun i j => W j ≤ W i) : (∀ k, k < n → W (o.getD k 0) ≤ rk (mlt S o (k + 1))) ↔ Fit n W S :=
  fit_order hp hd fun k hk => mlt_isp S o (by rw [hp.length_eq, List.length_range]; exact hk)
/-! ### lane words that make the others -/
theorem bas_more {ws : List Nat} {w : Nat} (h : lft (bas ws) w = 0) (x : Nat) : Spn (ws ++ [w]) x ↔ Spn ws x := by
  rw [lft_bas] at h
  exact ⟨fun z => z.mono fun y hy => (List.mem_append.mp hy).elim (fun q => .of q) fun q => by rw [List.mem_singleton.mp q]; exact h, fun z => z.sub fun y hy => List.mem_append_left _ hy⟩
theorem full_of {b : Nat} {ss ls ys : List Nat} (hp : ys.Perm (List.range b)) (h : ∀ x, Spn (ss ++ ls) x ↔ Spn (ss ++ ys.map fun i => 1 <<< i) x) (s2 l2 : List Nat) (hs : ∀ x ∈ ss, x ∈ s2) (hl : ∀ x ∈ ls, x ∈ l2) : b ≤ rk (s2 ++ l2) := by
  refine rk_full fun u hu => ?_
  obtain ⟨i, hi, rfl⟩ := List.mem_map.mp hu
  have : Spn (ss ++ ls) (1 <<< i) := (h _).mpr (.of (List.mem_append_right _ (List.mem_map.mpr ⟨i, hp.mem_iff.mpr hi, rfl⟩)))
  exact this.sub fun y hy => (List.mem_append.mp hy).elim (fun q => List.mem_append_left _ (hs y q)) fun q => List.mem_append_right _ (hl y q)
theorem unit_lt {i b : Nat} (h : i < b) : 1 <<< i < 2 ^ b := by
  rw [Nat.one_shiftLeft]
  exact Nat.pow_lt_pow_right (by decide) h
theorem Fit.go {n : Nat} {W W' : Nat → Nat} {S S' : Nat → List Nat} (hW : ∀ i, i < n → W i = W' i) (hS : ∀ i, i < n → S i = S' i) (h : Fit n W S) : Fit n W' S' := fun i hi => by
  obtain ⟨R, h1, h2⟩ := h i hi
  refine ⟨R, fun x => ?_, by rw [← hW i hi]; exact h2⟩
  rw [h1 x]
  constructor
  · intro z j hj
    rw [← hS j hj.1]
    exact z j ⟨hj.1, by rw [hW i hi, hW j hj.1]; exact hj.2⟩
  · intro z j hj
    rw [hS j hj.1]
    exact z j ⟨hj.1, by rw [← hW i hi, ← hW j hj.1]; exact hj.2⟩
theorem Fit.cg {n : Nat} {W W' : Nat → Nat} {S S' : Nat → List Nat} (hW : ∀ i, i < n → W i = W' i) (hS : ∀ i, i < n → S i = S' i) : Fit n W S ↔ Fit n W' S' := ⟨Fit.go hW hS, Fit.go (fun i hi => (hW i hi).symm) fun i hi => (hS i hi).symm⟩
theorem Fit.perm {n : Nat} {W : Nat → Nat} {S S' : Nat → List Nat} (h : ∀ i, i < n → (S i).Perm (S' i)) : Fit n W S ↔ Fit n W S' := Fit.iff fun i hi x => ⟨fun z => z.sub fun y hy => (h i hi).mem_iff.mp hy, fun z => z.sub fun y hy => (h i hi).mem_iff.mpr hy⟩
end LaneX
set_option Elab.async false
set_option linter.all false
set_option maxRecDepth 100000
set_option maxHeartbeats 4000000
namespace LaneX
open PySem PySem.Spec PyProof.Rows L2
/-! ### a // b of an own class that may raise; b of that class, or None, a number, a truth, a text, a list, a tuple -/
section
open PySem.W PySem.Calls
theorem bin_other {prog : Program} {w : World} {A : Around} {E : Value → Shared → Prop} {s : Shared} {K : PySem.W.Frag} {x C L f : Addr} {h0 : Heap} {m : Str → Option Value} {ox : Obj} {od : Option Obj} {T : String} {op : Operator} {b : Value} {fo ro rc : Option Value} {Q : Value → Shared → Prop}
    (F : Fr h0 L s.heap m) (X0 : K.In h0) (I : InstAt s.heap x ox C od) (hb : Looks (model prog w) s.heap (typeOf b) (.type T)) (hc : selfFirst K C = true) (hs : findIn K (.ref C) (PySem.dunder op.info.2) = some (some (.ref f))) (hf : isFn K (.ref f) = true) (hr : findIn K (.ref C) (dunderR op.info.2) = some rc) (hp : rc = none ∨ ∃ g : Addr, rc = some (.ref g))
    (h1 : findIn K (.type T) (PySem.dunder op.info.2) = some fo) (h2 : findIn K (.type T) (dunderR op.info.2) = some ro) (hsub : subIn K (.type T) (.ref C) = some false) (h : wpAny (model prog w) A (call (.ref f) [.ref x, b]) (PySem.W.CmpBack Q) E s) : wpAny (model prog w) A (binaryOp op (.ref x) b) Q E s := by
  have XK := X0.keeps F.keep; obtain ⟨cd, rest, hcd, hm⟩ := ksp_first hc
  rcases hi : op.info with ⟨sym, nm⟩; rw [hi] at hs hr h1 h2; dsimp only at hs hr h1 h2
  have one := ksp_try XK I hs hf h; obtain ⟨hh, g, d, tt, os⟩ := s
  have a1 : Looks (model prog w) hh (typeOf (.ref x)) (.ref C) := I.type; have a2 : Looks (model prog w) hh (typeOf b) (.type T) := hb
  have a3 : Looks (model prog w) hh (fillsNumberSlot (.ref C) nm) true := fills_K XK hcd hm hs; have a4 := ksp_fillsT (M := model prog w) XK h1 h2
  have a5 : Looks (model prog w) hh (isSubtype (.type T) (.ref C)) false := looks_subIn XK hsub; have a6 : Looks (model prog w) hh (numberSlotInPython (.ref C) nm) true := ksp_inPy XK hs hr hp
  have a7 : Looks (model prog w) hh (numberSlotInPython (.type T) nm) false := Looks.of_pure rfl; have a8 : Looks (model prog w) hh (typeLookup (.type T) (dunderR nm)) ro := looks_findIn XK h2
  generalize ((fo.isSome && !isSeqSlot fo) || (ro.isSome && !isSeqSlot ro)) = right at a4; have ne : (Value.ref C == Value.type T) = false := Bool.eq_false_iff.mpr fun q => by cases beq_iff_eq.mp q
  simp only [binaryOp, hi]; refine wpAny_holding (wpAny_bind ?_); unfold binaryOp1
  refine wpAny_bind (a1.at (wpAny_bind (a2.at (wpAny_bind (a3.at ?_))))); simp only [ne, Bool.false_eq_true, if_false]
  cases right with
  | false => (ksp_lk; refine wpAny_mono one (fun r s' hr' => ?_) fun _ _ e => e; obtain ⟨v, rfl, hq⟩ := hr'; ksp_lk; exact hq)
  | true => (ksp_lk; refine wpAny_mono one (fun r s' hr' => ?_) fun _ _ e => e; obtain ⟨v, rfl, hq⟩ := hr'; ksp_lk; exact hq)
end
inductive OddV (H : Hp) : V → String → Prop where
  | non : OddV H .non "NoneType"
  | int (i : Int) : OddV H (.int i) "int"
  | bl (b : Bool) : OddV H (.bl b) "bool"
  | str (x : Str) : OddV H (.str x) "str"
  | lst {a : Addr} {xs : List V} (e : H a = some (.lst xs)) : OddV H (.ref a) "list"
  | tup {a : Addr} {xs : List V} (e : H a = some (.tup xs)) : OddV H (.ref a) "tuple"
theorem OddV.ty {K : PySem.W.Frag} {H : Hp} {y : V} {t : String} (h : OddV H y t) : TyX K H y (.type t) := by
  cases h with
  | non => exact .base .non
  | int i => exact .base (.int i)
  | bl b => exact .base (.bl b)
  | str x => exact .base (.str x)
  | lst e => exact .base (.lst e)
  | tup e => exact .base (.tup e)
theorem OddV.same {H H' : Hp} {y : V} {t : String} (h : OddV H y t) (s : Same H H') : OddV H' y t := by
  cases h with
  | non => exact .non
  | int i => exact .int i
  | bl b => exact .bl b
  | str x => exact .str x
  | lst e => exact .lst (s _ _ e)
  | tup e => exact .tup (s _ _ e)
def oddN : List String := ["NoneType", "int", "bool", "str", "list", "tuple"]
theorem OddV.mem {H : Hp} {y : V} {t : String} (h : OddV H y t) : t ∈ oddN := by
  cases h <;> decide
theorem OddV.looks {X : Cx} {pins : List (Addr × Obj)} {σ : L2.St} {H : Hp} {s : Shared} {y : V} {u : Value} {t : String} (h : OddV H y t) (I : Inv X pins σ H s) (r : RelV y u) : PySem.W.Looks (model X.prog X.w) s.heap (typeOf u) (.type t) := by
  cases h with
  | non => cases (show u = Value.none from r); exact PySem.W.Looks.of_pure rfl
  | int i => obtain ⟨t, q⟩ := (show ∃ t, u = Value.int i t from r); cases q; exact PySem.W.Looks.of_pure rfl
  | bl b => cases (show u = Value.bool b from r); exact PySem.W.Looks.of_pure rfl
  | str x => obtain ⟨t, q⟩ := (show ∃ t, u = Value.str x t from r); cases q; exact PySem.W.Looks.of_pure rfl
  | @lst a xs e =>
    cases (show u = Value.ref a from r)
    obtain ⟨_, _, n, _, h1⟩ := (show ObjOk X.prog X.w H s.heap a (.lst xs) from I.hok a _ e)
    exact fun A Q E s2 k q => wpAny_typeOf ⟨_, k _ _ h1, rfl⟩ q
  | @tup a xs e =>
    cases (show u = Value.ref a from r)
    obtain ⟨_, _, _, o, h1, h2, _⟩ := (show ObjOk X.prog X.w H s.heap a (.tup xs) from I.hok a _ e)
    exact fun A Q E s2 k q => wpAny_typeOf ⟨o, k _ _ h1, h2⟩ q
/-- what is asked of the class at C for such operands -/
def oddB (K : PySem.W.Frag) (C : Addr) : Bool := He.eqO (PySem.W.findIn K (.ref C) (dunderR (Operator.FloorDiv).info.2)) (some none) && oddN.all fun t => decide (PySem.W.kitOne K (.type t) (.ref C) = some false) && (decide (PySem.W.subIn K (.type t) (.ref C) = some false) && ((PySem.W.findIn K (.type t) (PySem.dunder (Operator.FloorDiv).info.2)).isSome && (PySem.W.findIn K (.type t) (dunderR (Operator.FloorDiv).info.2)).isSome))
structure OddC (K : PySem.W.Frag) (C : Addr) : Prop where
  r : PySem.W.findIn K (.ref C) (dunderR (Operator.FloorDiv).info.2) = some none
  k : ∀ t ∈ oddN, PySem.W.kitOne K (.type t) (.ref C) = some false
  s : ∀ t ∈ oddN, PySem.W.subIn K (.type t) (.ref C) = some false
  a : ∀ t ∈ oddN, ∃ fo, PySem.W.findIn K (.type t) (PySem.dunder (Operator.FloorDiv).info.2) = some fo
  b : ∀ t ∈ oddN, ∃ fo, PySem.W.findIn K (.type t) (dunderR (Operator.FloorDiv).info.2) = some fo
theorem oddB_ok {K : PySem.W.Frag} {C : Addr} (h : oddB K C = true) : OddC K C := by
  obtain ⟨h1, h2⟩ := He.ba h
  have z := fun t (ht : t ∈ oddN) => List.all_eq_true.mp h2 t ht
  refine ⟨He.eqO_ok h1, fun t ht => of_decide_eq_true (He.ba (z t ht)).1, fun t ht => of_decide_eq_true (He.ba (He.ba (z t ht)).2).1, fun t ht => Option.isSome_iff_exists.mp (He.ba (He.ba (He.ba (z t ht)).2).2).1, fun t ht => Option.isSome_iff_exists.mp (He.ba (He.ba (He.ba (z t ht)).2).2).2⟩
def tDiv (C : Addr) (sp : Sp) (W : WX) (ta tb : TE) : TE := fun σ H Q => ta σ H fun x H1 => tb σ H1 fun y H2 => ∃ a dx fs, x = .ref a ∧ H2 a = some (.ins C dx fs) ∧ ((∃ b dy gs, y = .ref b ∧ H2 b = some (.ins C dy gs)) ∨ ∃ t, OddV H2 y t) ∧ sp [x, y] H2 Q (WE W σ)
theorem pe_divX {X : Cx} {k j : Nat} {ps : List Str} {sp : Sp} {C : Addr} {pos : Pos} {e1 e2 : Expr} {ta tb : TE} {W : WX} (D : Mx X.prog X.w X.K X.mg X.base k C "__floordiv__" ps sp) (hc : PySem.W.selfFirst X.K C = true) (od : OddC X.K C) (tk : Takes X W) (hr : Room j X.A) (ha : PE X e1 ta) (hb : PE X e2 tb) (hk : k ≤ j := by decide) :
    PE X (.BinOp e1 .FloorDiv e2 pos) (tDiv C sp W ta tb) := by
  refine ⟨fun pins s σ H Q I h => wpAny_BinOp (binT ha hb I h fun v u s2 x y H2 I2 rx ry q => ?_)⟩
  obtain ⟨a, dx, fs, rfl, ea, ho, hsp⟩ := q
  obtain ⟨f, fd, h1, h3, h4⟩ := D.ex
  cases (show v = Value.ref a from rx)
  obtain ⟨mA, O, _⟩ := ins_get I2.hok ea
  obtain ⟨od', J, _⟩ := O.look
  obtain ⟨mm, F⟩ := I2.fr
  have run : wpAny (model X.prog X.w) X.A (call (.ref f) [.ref a, u]) (PySem.W.CmpBack (EP X pins σ Q)) X.xe s2 :=
    wpAny_mono (run_fnS (us := [.ref a, u]) (vs := [.ref a, y]) (E := WE W) h4 (hr.mono hk) h3 (passAt tk σ) I2 (.cons rfl (.cons ry .nil)) hsp) (fun v s' hq => back_of hq) fun _ _ z => z
  rcases ho with ⟨b, dy, gs, rfl, eb⟩ | ⟨t, ho⟩
  · cases (show u = Value.ref b from ry)
    obtain ⟨mB, O2, _⟩ := ins_get I2.hok eb
    obtain ⟨od2, J2, _⟩ := O2.look
    exact PySem.W.binop_K F I2.mod.kin J J2.type hc h1.at_ h1.fn run
  · have hm := ho.mem
    obtain ⟨fo, e1⟩ := od.a t hm
    obtain ⟨ro, e2⟩ := od.b t hm
    exact bin_other F I2.mod.kin J (ho.looks I2 ry) hc h1.at_ h1.fn od.r (.inl rfl) e1 e2 (od.s t hm) run
end LaneX
set_option Elab.async false
set_option linter.all false
set_option maxRecDepth 100000
set_option maxHeartbeats 4000000
namespace LaneX
open PySem PySem.Spec PyProof.Rows L2
/-! ### a & b, a + b .. of an own class that may raise -/
structure OddO (K : PySem.W.Frag) (C : Addr) (op : Operator) : Prop where
  r : PySem.W.findIn K (.ref C) (dunderR op.info.2) = some none
  s : ∀ t ∈ oddN, PySem.W.subIn K (.type t) (.ref C) = some false
  a : ∀ t ∈ oddN, ∃ fo, PySem.W.findIn K (.type t) (PySem.dunder op.info.2) = some fo
  b : ∀ t ∈ oddN, ∃ fo, PySem.W.findIn K (.type t) (dunderR op.info.2) = some fo
def oddOB (K : PySem.W.Frag) (C : Addr) (op : Operator) : Bool :=
  He.eqO (PySem.W.findIn K (.ref C) (dunderR op.info.2)) (some none) && oddN.all fun t => decide (PySem.W.subIn K (.type t) (.ref C) = some false) && ((PySem.W.findIn K (.type t) (PySem.dunder op.info.2)).isSome && (PySem.W.findIn K (.type t) (dunderR op.info.2)).isSome)
theorem oddOB_ok {K : PySem.W.Frag} {C : Addr} {op : Operator} (h : oddOB K C op = true) : OddO K C op := by
  obtain ⟨h1, h2⟩ := He.ba h
  have z := fun t (ht : t ∈ oddN) => He.ba (List.all_eq_true.mp h2 t ht)
  exact ⟨He.eqO_ok h1, fun t ht => of_decide_eq_true (z t ht).1, fun t ht => Option.isSome_iff_exists.mp (He.ba (z t ht).2).1, fun t ht => Option.isSome_iff_exists.mp (He.ba (z t ht).2).2⟩
theorem pe_opX {X : Cx} {k j : Nat} {ps : List Str} {sp : Sp} {C : Addr} {m : Str} {op : Operator} {pos : Pos} {e1 e2 : Expr} {ta tb : TE} {W : WX} (hm : m = PySem.dunder op.info.2) (D : Mx X.prog X.w X.K X.mg X.base k C m ps sp) (hc : PySem.W.selfFirst X.K C = true) (od : OddO X.K C op) (tk : Takes X W) (hr : Room j X.A) (ha : PE X e1 ta) (hb : PE X e2 tb) (hk : k ≤ j := by decide) :
    PE X (.BinOp e1 op e2 pos) (tDiv C sp W ta tb) := by
  subst hm
  refine ⟨fun pins s σ H Q I h => wpAny_BinOp (binT ha hb I h fun v u s2 x y H2 I2 rx ry q => ?_)⟩
  obtain ⟨a, dx, fs, rfl, ea, alt, told⟩ := q
  obtain ⟨f, fd, mt, bd, fn⟩ := D.ex
  cases (show v = Value.ref a from rx)
  obtain ⟨_, O, _⟩ := ins_get I2.hok ea
  obtain ⟨_, J, _⟩ := O.look
  obtain ⟨_, F⟩ := I2.fr
  have run : wpAny (model X.prog X.w) X.A (call (.ref f) [.ref a, u]) (PySem.W.CmpBack (EP X pins σ Q)) X.xe s2 :=
    wpAny_mono (run_fnS (us := [.ref a, u]) (vs := [.ref a, y]) (E := WE W) fn (hr.mono hk) bd (passAt tk σ) I2 (.cons rfl (.cons ry .nil)) told) (fun v s' hq => back_of hq) fun _ _ z => z
  rcases alt with ⟨b, dy, gs, rfl, eb⟩ | ⟨t, ho⟩
  · cases (show u = Value.ref b from ry)
    obtain ⟨_, O2, _⟩ := ins_get I2.hok eb
    obtain ⟨_, J2, _⟩ := O2.look
    exact PySem.W.binop_K F I2.mod.kin J J2.type hc mt.at_ mt.fn run
  · obtain ⟨fo, q1⟩ := od.a t ho.mem
    obtain ⟨ro, q2⟩ := od.b t ho.mem
    exact bin_other F I2.mod.kin J (ho.looks I2 ry) hc mt.at_ mt.fn od.r (.inl rfl) q1 q2 (od.s t ho.mem) run
/-! ### where nothing is raised -/
theorem fnok_quiet {P : Program} {w : World} {K : PySem.W.Frag} {mg : Str → Option Value} {base : Heap} {k : Nat} {f : Addr} {fd : FuncData} {ps : List Str} {sp : Sp} (F : FnOk P w K mg base (L2.CX P w) k f fd ps sp) : FnOk P w K mg base CX0 k f fd ps (fun vs H Q _ => sp vs H Q E0) :=
  ⟨fun vs H Q E q => F.len vs H Q _ q, fun A outer s H args us vs Q E hr he hb hv hs => codeAny_mono (F.run A outer s H args us vs Q E0 hr he hb hv hs) fun r s' h => by
    cases r with
    | ok fl => cases fl <;> exact h
    | error e =>
      obtain ⟨_, _, _, _, _, _, _, _, _, _, _, _, z⟩ := h
      exact z.elim⟩
theorem Mx.quiet {P : Program} {w : World} {K : PySem.W.Frag} {mg : Str → Option Value} {base : Heap} {k : Nat} {C : Addr} {m : Str} {ps : List Str} {sp sp' : Sp} (D : Mx P w K mg base k C m ps sp) (h : ∀ vs H Q E, sp' vs H Q E → sp vs H Q E0) : Mn P w K mg base k C m ps sp' := by
  obtain ⟨f, fd, h1, h2, h3⟩ := D.ex
  exact ⟨D.cl, f, fd, h1, h2, (fnok_quiet h3).imp h⟩
theorem Dx.quiet {P : Program} {w : World} {K : PySem.W.Frag} {mg : Str → Option Value} {base : Heap} {k : Nat} {x : Str} {ps : List Str} {sp sp' : Sp} (D : Dx P w K mg base k x ps sp) (h : ∀ vs H Q E, sp' vs H Q E → sp vs H Q E0) : Dn P w K mg base k x ps sp' := by
  obtain ⟨f, fd, h1, h2, h3, h4⟩ := D.ex
  exact ⟨f, fd, h1, h2, h3, (fnok_quiet h4).imp h⟩
end LaneX
set_option Elab.async false
set_option linter.all false
set_option maxRecDepth 100000
set_option maxHeartbeats 4000000
namespace LaneX
open PySem PySem.Spec PyProof.Rows L2
section
variable {X : Cx}
/-! ### e in x by an own __contains__ -/
def rInO (C : Addr) (sp : Sp) : R2 := fun y x H Q => ∃ a dx fs, x = .ref a ∧ H a = some (.ins C dx fs) ∧ sp [.ref a, y] H (fun v H' => ∃ b : Bool, v = .bl b ∧ Q (.bl b) H') E0
theorem truth_of {pins : List (Addr × Obj)} {σ : L2.St} {Q : VK} {A : Around} {E : Value → Shared → Prop} {r : Value} {s : Shared} {M : Model} (h : EP X pins σ (fun v H' => ∃ b : Bool, v = .bl b ∧ Q (.bl b) H') r s) : wpAny M A (truthy r) (fun b => EP X pins σ Q (.bool b)) E s := by
  obtain ⟨x, H', I, rx, b, e, q⟩ := h
  subst e
  cases rx
  exact wpAny_truthy_bool ⟨.bl b, H', I, rfl, q⟩
theorem op_inO {k j : Nat} {C : Addr} {ps : List Str} {sp : Sp} (D : Mn X.prog X.w X.K X.mg X.base k C "__contains__" ps sp) (hr : Room j X.A) (hk : k ≤ j := by decide) : OpR X (compareOp .In) (rInO C sp) := by
  intro pins s σ H y x u v Q I ry rx h
  obtain ⟨a, dx, fs, rfl, ha, hsp⟩ := h
  obtain ⟨f, fd, h1, h3, h4⟩ := D.ex
  cases (show v = Value.ref a from rx)
  obtain ⟨_, O, _⟩ := ins_get I.hok ha
  obtain ⟨_, J, _⟩ := O.look
  obtain ⟨_, F⟩ := I.fr
  refine PySem.W.in_K F I.mod.kin J h1.at_ h1.fn ?_
  exact wpAny_mono (run_fn h4 (hr.mono hk) h3 .nil pass0 I (vs := [.ref a, y]) (us := [.ref a, u]) (.cons rfl (.cons ry .nil)) hsp) (fun r s' q => truth_of q) fun _ _ z => z
/-- .. that may raise -/
def tInX (C : Addr) (sp : Sp) (W : WX) (ta tb : TE) : TE := fun σ H Q => ta σ H fun y H1 => tb σ H1 fun x H2 => ∃ a dx fs, x = .ref a ∧ H2 a = some (.ins C dx fs) ∧ sp [.ref a, y] H2 (fun v H' => ∃ b : Bool, v = .bl b ∧ Q (.bl b) H') (WE W σ)
theorem pe_inX {k j : Nat} {ps : List Str} {sp : Sp} {C : Addr} {pos : Pos} {e1 e2 : Expr} {ta tb : TE} {W : WX} (D : Mx X.prog X.w X.K X.mg X.base k C "__contains__" ps sp) (tk : Takes X W) (hr : Room j X.A) (ha : PE X e1 ta) (hb : PE X e2 tb) (hm : behindInMarks .In e2 = false) (hk : k ≤ j := by decide) :
    PE X (.Compare e1 [.In] [e2] pos) (tInX C sp W ta tb) := by
  refine ⟨fun pins s σ H Q I h => wpAny_Compare1 (binT ha hb I h fun u v s2 y x H2 I2 ry rx q => ?_) hm⟩
  obtain ⟨a, dx, fs, rfl, ea, hsp⟩ := q
  obtain ⟨f, fd, h1, h3, h4⟩ := D.ex
  cases (show v = Value.ref a from rx)
  obtain ⟨_, O, _⟩ := ins_get I2.hok ea
  obtain ⟨_, J, _⟩ := O.look
  obtain ⟨_, F⟩ := I2.fr
  refine PySem.W.in_K F I2.mod.kin J h1.at_ h1.fn ?_
  exact wpAny_mono (run_fnS (us := [.ref a, u]) (vs := [.ref a, y]) (E := WE W) h4 (hr.mono hk) h3 (passAt tk σ) I2 (.cons rfl (.cons ry .nil)) hsp) (fun r s' q => truth_of q) fun _ _ z => z
/-! ### x == y by an own __eq__, y of another kind -/
def rOwnA (C : Addr) (sp : Sp) : R2 := fun x y H Q => ∃ a dx fs t, x = .ref a ∧ H a = some (.ins C dx fs) ∧ OddV H y t ∧ sp [.ref a, y] H Q E0
theorem op_eqA {k j : Nat} {C : Addr} {ps : List Str} {sp : Sp} (D : Mn X.prog X.w X.K X.mg X.base k C "__eq__" ps sp) (od : OddC X.K C) (hr : Room j X.A) (hk : k ≤ j := by decide) : OpR X (compareOp .Eq) (rOwnA C sp) := by
  intro pins s σ H x y v u Q I rx ry h
  obtain ⟨a, dx, fs, t, rfl, ha, ho, hsp⟩ := h
  obtain ⟨f, fd, h1, h3, h4⟩ := D.ex
  cases (show v = Value.ref a from rx)
  obtain ⟨mA, O, _⟩ := ins_get I.hok ha
  obtain ⟨od', J, _⟩ := O.look
  obtain ⟨mm, F⟩ := I.fr
  show wpAny (model X.prog X.w) X.A (richCompare .Eq (.ref a) u) (EP X pins σ Q) X.xe s
  refine PySem.W.cmp_K (op := .Eq) (tb := .type t) hr.units0 F I.mod.kin J (ho.looks I ry) (by simp [PySem.W.notFirst, od.s t ho.mem]) h1.at_ h1.fn ?_
  exact wpAny_mono (call_below (vs := [.ref a, y]) (us := [Value.ref a, u]) h4 h3 ⟨hr.mono hk, rfl⟩ I (.cons rfl (.cons ry .nil)) hsp) (fun v s' hq => back_of hq) fun _ _ z => z
/-- either kind -/
theorem op_eqB {k j : Nat} {C : Addr} {ps : List Str} {sp : Sp} (D : Mn X.prog X.w X.K X.mg X.base k C "__eq__" ps sp) (od : OddC X.K C) (hr : Room j X.A) (hk : k ≤ j := by decide) : OpR X (compareOp .Eq) (fun x y H Q => rOwn C sp x y H Q ∨ rOwnA C sp x y H Q) := by
  intro pins s σ H x y v u Q I rx ry h
  rcases h with h | h
  · exact op_eqO D hr hk pins s σ H x y v u Q I rx ry h
  · exact op_eqA D od hr hk pins s σ H x y v u Q I rx ry h
end
/-! ### a class made by an __init__ that may raise -/
structure Kx (P : Program) (w : World) (K : PySem.W.Frag) (mg : Str → Option Value) (base : Heap) (k : Nat) (C : Addr) (x : Str) (ps : List Str) (sp : Sp) : Prop where
  gl : mg x = some (.ref C)
  ex : ∃ (f : Addr) (fd : FuncData), Mk K C f ∧ Binds K fd ps [] ∧ FnOk P w K mg base (L2.CX P w) k f fd ps sp
theorem Kx.quiet {P : Program} {w : World} {K : PySem.W.Frag} {mg : Str → Option Value} {base : Heap} {k : Nat} {C : Addr} {x : Str} {ps : List Str} {sp sp' : Sp} (D : Kx P w K mg base k C x ps sp) (h : ∀ vs H Q E, sp' vs H Q E → sp vs H Q E0) : Kn P w K mg base k C x ps sp' := by
  obtain ⟨f, fd, h1, h2, h3⟩ := D.ex
  exact ⟨D.gl, f, fd, h1, h2, (fnok_quiet h3).imp h⟩
def tMakeX (C : Addr) (sp : Sp) (W : WX) (t : TA) : TE := fun σ H Q => t σ H fun vs H1 => ∀ x dx, H1 x = none → H1 dx = none → dx ≠ x →
  sp (.ref x :: vs) (upd (upd H1 dx (.own x)) x (.ins C dx [])) (fun v H2 => v = .non ∧ Q (.ref x) H2) (WE W σ)
section
variable {X : Cx} {k j : Nat} {x m : Str} {ps : List Str} {sp : Sp} {C : Addr} {p pos apos : Pos} {e o : Expr} {es : List Expr} {t : TA} {to : TE} {W : WX}
theorem pe_kX (D : Kx X.prog X.w X.K X.mg X.base k C x ps sp) (tk : Takes X W) (hr : Room j X.A) (ha : PA X (e :: es) t) (hk : k + 1 ≤ j := by decide) (hg : Gl X x := by rfl) (hdb : (x == ("__debug__" : Str)) = false := by decide)
    (he : starEach (e :: es) X.env = (false, eval e X.env) :: starEach es X.env := by rfl) (hpl : (backTo pos (starEach es X.env)).any (·.1) = false := by rfl) :
    PE X (.Call (.Name x p) (e :: es) [] pos) (tMakeX C sp W t) := by
  obtain ⟨f, fd, M, hb, F⟩ := D.ex
  have hr : Room (k + 1) X.A := hr.mono hk
  refine ⟨fun pins s0 σ H0 Q I0 h0 => ?_⟩
  refine wpAny_Call_Name_kw (ld_glob I0 hg D.gl ?_ hdb)
  refine PySem.W.callWith_K (h₀ := X.base) I0.ok.mod.kin M.kp (thn (ha.run pos pins s0 σ H0 _ I0 h0) fun us s ⟨vs, H, I, r, h⟩ => ⟨I.kIn, ?_⟩) he hpl
  have hq := h (s.heap.objs.size + 1) s.heap.objs.size (I.hok.fresh (Nat.le_succ _)) (I.hok.fresh (Nat.le_refl _)) (Nat.ne_of_lt (Nat.lt_succ_self _))
  have I2 := Inv.made (C := C) I
  have r2 : Vals (V.ref (s.heap.objs.size + 1) :: vs) (Value.ref (s.heap.objs.size + 1) :: us) := .cons rfl r
  have hl : (Value.ref (s.heap.objs.size + 1) :: us ++ []).length = ps.length := by
    have e := r2.length
    rw [F.len _ _ _ _ hq] at e
    rw [List.append_nil]
    exact e.symm
  have hb' := hb _ (Value.ref (s.heap.objs.size + 1) :: us) I2.kIn hl
  rw [List.append_nil] at hb'
  refine wpAny_call (make_map (f := f) I.kIn M.makes M.init (beq_iff_eq.mp M.fn) (codeAny_mono (F.run _ X.stack _ _ ⟨Value.ref (s.heap.objs.size + 1) :: us, []⟩ (Value.ref (s.heap.objs.size + 1) :: us) _ _ (WE W σ) (hr.make C us [])
    (I2.env0.make C us []) hb' r2 hq) fun r s' hq' => ?_))
  cases r with
  | error e => exact passAt tk σ pins _ _ e s' I2 hq'
  | ok fl =>
    cases fl with
    | ret u =>
      obtain ⟨v, H', I3, rv, ev, q3⟩ := I2.after hq'
      subst ev
      exact ⟨rv, ⟨V.ref (s.heap.objs.size + 1), H', I3, rfl, q3⟩⟩
    | next => exact False.elim hq'
    | brk => exact False.elim hq'
    | cont => exact False.elim hq'
/-! ### a method with a default, called without it -/
structure Md (P : Program) (w : World) (K : PySem.W.Frag) (mg : Str → Option Value) (base : Heap) (k : Nat) (C : Addr) (m : Str) (ps : List Str) (dvs : List V) (sp : Sp) : Prop where
  cl : Cls K C
  ex : ∃ (f : Addr) (fd : FuncData) (ds : List Value), Meth K C m f ∧ Binds K fd ps ds ∧ Vals dvs ds ∧ FnOk P w K mg base CX0 k f fd ps sp
theorem pe_md0 {pl : Sem Bool} {dvs : List V} (ho : PE X o to) (D : Md X.prog X.w X.K X.mg X.base k C m ps dvs sp) (hr : Room j X.A) (hk : k ≤ j := by decide)
    (ht : eval (.Call (.Attribute o m apos) [] [] pos) X.env = (do
      let ov ← eval o X.env
      standAt apos.atName
      let (f, first) ← holding [ov] (getMethod ov m pl)
      callWith pos f first (backTo pos (starEach [] X.env)) (backToKw pos (keywordEach [] X.env))) := by rfl) :
    PE X (.Call (.Attribute o m apos) [] [] pos) (tMeth C m sp dvs E0 to tNil) := by
  obtain ⟨f, fd, ds, h1, h3, hv, h4⟩ := D.ex
  exact pe_meth0 ho D.cl h1 h4 (hr.mono hk) h3 hv pass0 ht
end
end LaneX
set_option Elab.async false
set_option linter.all false
set_option maxRecDepth 100000
set_option maxHeartbeats 4000000
namespace LaneX
open PySem PySem.Spec PyProof.Rows L2
/-- a statement, with what holds behind it told -/
def tMid (t : TS) : TS := fun D σ H => ∃ J : L2.St → Hp → Prop, t ⟨J, D.rt, D.bk, D.ct⟩ σ H ∧ ∀ σ' H', J σ' H' → D.nx σ' H'
theorem ps_mid {X : Cx} {st : Stmt} {t : TS} (h : PS X st t) : PS X st (tMid t) := by
  refine ⟨fun pins s σ H D I q => ?_⟩
  obtain ⟨J, h1, h2⟩ := q
  refine thn (h.run pins s σ H _ I h1) fun f s' hf => ?_
  cases f with
  | next =>
    obtain ⟨σ', H', i, q⟩ := hf
    exact ⟨σ', H', i, h2 _ _ q⟩
  | brk => exact hf
  | cont => exact hf
  | ret u => exact hf
end LaneX
set_option Elab.async false
set_option linter.all false
set_option maxRecDepth 100000
set_option maxHeartbeats 4000000
namespace LaneX
open PySem PySem.Spec PyProof.Rows L2

/-! ### what the checks promise, for values that are as described -/
def sp_is_whole : Sp := fun vs H Q _ => ∃ n : Nat, vs = [vN n] ∧ Q (.bl true) H
def sp_need_whole : Sp := fun vs H Q _ => ∃ n : Nat, vs = [vN n] ∧ Q .non H
def sp_need_items : Sp := fun vs H Q _ => ∃ (a : Addr) (xs : List V), vs = [.ref a] ∧ Tq H a xs ∧ ∀ H', Same H H' → Q .non H'
def sp_need_word : Sp := fun vs H Q _ => ∃ n b : Nat, vs = [vN n, vN b] ∧ blen n ≤ b ∧ Q .non H
def sp_need_words : Sp := fun vs H Q _ => ∃ (a : Addr) (ns : List Nat) (b : Nat), vs = [.ref a, vN b] ∧ Tq H a (ns.map vN) ∧ (∀ n ∈ ns, blen n ≤ b) ∧ ∀ H' p, Same H H' → H p = none → H' p = some (.lst (ns.map vN)) → Q (.ref p) H'
theorem ok_is_whole {P : Program} {w : World} {K : PySem.W.Frag} {mg : Str → Option Value} {base : Heap} {f : Addr} {fd : FuncData} (T : Bt mg) (F : FnP K "is_whole" "is_whole" s_is_whole f fd) : FnOk P w K mg base CX0 1 f fd ["value"] sp_is_whole := by
  have nd := sc_is_whole.nd
  refine fnok F sc_is_whole (fun vs H Q E h => ?_) (fun cdv A outer s H vs Q E hr h => ?_)
  · obtain ⟨n, rfl, _⟩ := h
    rfl
  · obtain ⟨n, rfl, k⟩ := h
    refine ⟨_, (pss_one (ps_ret (pe_and (pe_callB call_isi (by rfl) T.isinstance (by decide +kernel) (pa_cons (pv 0) (pa_cons (pe_bltn (v := .ty "int") (by rfl) T.int (by decide +kernel) rfl) pa_nil))) (pe_and (pe_not (pe_callB call_isi (by rfl) T.isinstance (by decide +kernel) (pa_cons (pv 0) (pa_cons (pe_bltn (v := .ty "bool") (by rfl) T.bool (by decide +kernel) rfl) pa_nil)))) (pe_one (pe_cmpR op_ge (pv 0) pe_int (nomark _))))))), ?_⟩
    refine ⟨_, rfl, _, _, _, _, _, rfl, .ty _, .base (.int _), kit_ty (r := true) (by decide +kernel), _, rfl, iteT ?_⟩
    refine ⟨_, rfl, _, _, _, _, _, rfl, .ty _, .base (.int _), kit_ty (r := false) (by decide +kernel), _, rfl, _, rfl, iteT ?_⟩
    refine ⟨_, rfl, _, _, rfl, rfl, ?_⟩
    have e : decide ((0 : Int) ≤ (n : Int)) = true := decide_eq_true (by omega)
    show Q (.bl (decide ((0 : Int) ≤ (n : Int)))) H
    rw [e]
    exact k
theorem ok_need_whole {P : Program} {w : World} {K : PySem.W.Frag} {mg : Str → Option Value} {base : Heap} {f : Addr} {fd : FuncData} (T : Bt mg) (F : FnP K "need_whole" "need_whole" s_need_whole f fd) (D_is_whole : Dn P w K mg base 1 "is_whole" ["value"] sp_is_whole) : FnOk P w K mg base CX0 2 f fd ["value"] sp_need_whole := by
  have nd := sc_need_whole.nd
  refine fnok F sc_need_whole (fun vs H Q E h => ?_) (fun cdv A outer s H vs Q E hr h => ?_)
  · obtain ⟨n, rfl, _⟩ := h
    rfl
  · obtain ⟨n, rfl, k⟩ := h
    refine ⟨_, (pss_one (ps_if (pt_not (pt_val (pe_d D_is_whole hr (pa_cons (pv 0) pa_nil))))
      (pss_one ps_never)
      pss_nil)), ?_⟩
    exact ⟨_, rfl, n, rfl, _, rfl, iteF k⟩
theorem ok_need_items {P : Program} {w : World} {K : PySem.W.Frag} {mg : Str → Option Value} {base : Heap} {f : Addr} {fd : FuncData} (T : Bt mg) (F : FnP K "need_items" "need_items" s_need_items f fd) : FnOk P w K mg base CX0 1 f fd ["value"] sp_need_items := by
  have nd := sc_need_items.nd
  refine fnok F sc_need_items (fun vs H Q E h => ?_) (fun cdv A outer s H vs Q E hr h => ?_)
  · obtain ⟨a, xs, rfl, _⟩ := h
    rfl
  · obtain ⟨a, xs, rfl, hS, k⟩ := h
    refine ⟨_, (pss_one (ps_if (pt_not (pt_val (pe_callB call_isiT (by rfl) T.isinstance (by decide +kernel) (pa_cons (pv 0) (pa_cons (pe_tup (pa_cons (pe_bltn (v := .ty "list") (by rfl) T.list (by decide +kernel) rfl) (pa_cons (pe_bltn (v := .ty "tuple") (by rfl) T.tuple (by decide +kernel) rfl) pa_nil))) pa_nil)))))
      (pss_one ps_never)
      pss_nil)), ?_⟩
    refine ⟨_, rfl, (by show 2 ≤ sizeLine; decide), fun p hp => ?_⟩
    obtain ⟨t, ht, hk⟩ := (hS.new (o := .tup [.ty "list", .ty "tuple"]) hp).ty (K := K)
    refine ⟨_, _, _, _, _, _, rfl, upd_same, .cons (.ty _) (.cons (.ty _) .nil), ht, hk, _, rfl, iteF ?_⟩
    exact k _ (same_new0 hp)
theorem ok_need_word {P : Program} {w : World} {K : PySem.W.Frag} {mg : Str → Option Value} {base : Heap} {f : Addr} {fd : FuncData} (T : Bt mg) (F : FnP K "need_word" "need_word" s_need_word f fd) (D_is_whole : Dn P w K mg base 1 "is_whole" ["value"] sp_is_whole) : FnOk P w K mg base CX0 2 f fd ["value", "bits"] sp_need_word := by
  have nd := sc_need_word.nd
  refine fnok F sc_need_word (fun vs H Q E h => ?_) (fun cdv A outer s H vs Q E hr h => ?_)
  · obtain ⟨n, b, rfl, _⟩ := h
    rfl
  · obtain ⟨n, b, rfl, hb, k⟩ := h
    refine ⟨_, (pss_one (ps_if (PW.pt (pw_or (pt_not (pt_val (pe_d D_is_whole hr (pa_cons (pv 0) pa_nil)))) (pw_or1 (pt_cmpR op_gt (pe_bits (pv 0)) (pv 1) (nomark _)))))
      (pss_one ps_never)
      pss_nil)), ?_⟩
    refine ⟨_, rfl, n, rfl, _, rfl, iteF ?_⟩
    refine ⟨_, rfl, _, rfl, _, rfl, _, _, rfl, rfl, _, rfl, ?_⟩
    rw [blen_bits]
    have e : decide ((b : Int) < (blen n : Int)) = false := decide_eq_false (by omega)
    rw [e]
    exact iteF k
theorem ok_need_words {P : Program} {w : World} {K : PySem.W.Frag} {mg : Str → Option Value} {base : Heap} {f : Addr} {fd : FuncData} (T : Bt mg) (F : FnP K "need_words" "need_words" s_need_words f fd) (D_need_items : Dn P w K mg base 1 "need_items" ["value"] sp_need_items) (D_need_word : Dn P w K mg base 2 "need_word" ["value", "bits"] sp_need_word) :
    FnOk P w K mg base CX0 3 f fd ["values", "bits"] sp_need_words := by
  have nd := sc_need_words.nd
  refine fnok F sc_need_words (fun vs H Q E h => ?_) (fun cdv A outer s H vs Q E hr h => ?_)
  · obtain ⟨a, ns, b, rfl, _⟩ := h
    rfl
  · obtain ⟨a, ns, b, rfl, hS, hb, k⟩ := h
    refine ⟨_, (pss_cons (ps_expr (pe_d D_need_items hr (pa_cons (pv 0) pa_nil)))
      (pss_cons (ps_for PassesOwn.never rfl (pi_seq (pv 0)) (pg_name (i := 2) nd rfl (Or.inl rfl))
        (pss_one (ps_expr (pe_d D_need_word hr (pa_cons (pv 2) (pa_cons (pv 1) pa_nil))))))
      (pss_one (ps_ret (pe_callTy call_listQ (by rfl) T.list (by decide +kernel) (pa_cons (pv 0) pa_nil)))))), ?_⟩
    refine ⟨_, rfl, a, _, rfl, hS, fun H1 s1 => ?_⟩
    refine ⟨_, rfl, for_seq (K := K) (same_tq s1 hS).sq (fun i σ H2 => ∃ v, σ = [some (.ref a), some (vN b), v] ∧ H2 = H1) ⟨none, rfl, rfl⟩ (fun i σ H2 hp => by obtain ⟨_, _, rfl⟩ := hp; exact Kp.refl _) ?_ ?_⟩
    · rintro i x σ H2 hx ⟨v, rfl, rfl⟩
      obtain ⟨n, hn, rfl⟩ := map_get hx
      exact ⟨_, rfl, _, rfl, n, b, rfl, hb n (List.mem_of_getElem? hn), _, rfl, rfl⟩
    · rintro σ H2 ⟨v, rfl, rfl⟩
      refine ⟨_, rfl, a, _, rfl, (same_tq s1 hS), fun l hl => ?_⟩
      exact k _ _ (same_new s1 hl) (same_free s1 hl) upd_same
end LaneX
set_option Elab.async false
set_option linter.all false
set_option maxRecDepth 100000
set_option maxHeartbeats 4000000
namespace LaneX
open PySem PySem.Spec PyProof.Rows L2
theorem dec_int {a b : Int} : decide (V.int a = V.int b) = decide (a = b) := by
  by_cases h : a = b
  · subst h; simp
  · rw [decide_eq_false h, decide_eq_false (fun e => h (by cases e; rfl))]
theorem dec_nat {a b : Nat} : decide (V.int (a : Int) = V.int (b : Int)) = decide (a = b) := by
  rw [dec_int]
  by_cases h : a = b
  · subst h; simp
  · rw [decide_eq_false h, decide_eq_false (by omega)]
theorem clr_snoc (a : List Nat) (r w : Nat) : clr (a ++ [r]) w = if (clr a w).testBit (blen r - 1) = true then clr a w ^^^ r else clr a w := clr_append a [r] w
theorem dec_zero {n : Nat} (h : decide (V.int (n : Int) = V.int 0) = true) : n = 0 := by
  rw [show (V.int 0 : V) = V.int ((0 : Nat) : Int) from rfl, dec_nat] at h
  exact of_decide_eq_true h
theorem dec_nz {n : Nat} (h : decide (V.int (n : Int) = V.int 0) = false) : n ≠ 0 := by
  rw [show (V.int 0 : V) = V.int ((0 : Nat) : Int) from rfl, dec_nat] at h
  exact of_decide_eq_false h
theorem dec_bit (n b : Nat) : decide (V.int ((n >>> b &&& 1 : Nat) : Int) = V.int 1) = n.testBit b := by
  rw [show (V.int 1 : V) = V.int ((1 : Nat) : Int) from rfl, dec_nat]
  cases q : n.testBit b with
  | true => exact decide_eq_true ((shr_and_one _ _).mpr q)
  | false => exact decide_eq_false fun z => by rw [(shr_and_one _ _).mp z] at q; cases q
theorem size6'' {n : Nat} (h : n ≤ 1000000) : n + 1 ≤ sizeLine := by rw [sizeLine_eq]; omega
def sp_spanned : Sp := fun vs H Q _ => ∃ (a : Addr) (ws : List Nat), vs = [.ref a] ∧ Tq H a (ws.map vN) ∧ ws.length ≤ 1000000 ∧
  ∀ H' p, Same H H' → H p = none → H' p = some (.lst ((spn ws).map vN)) → Q (.ref p) H'
def sp_cleared : Sp := fun vs H Q _ => ∃ (a : Addr) (rows : List Nat) (x : Nat), vs = [.ref a, vN x] ∧ Tq H a (rows.map vN) ∧ (∀ r ∈ rows, r ≠ 0) ∧ Q (vN (clr rows x)) H
def sp_grown : Sp := fun vs H Q _ => ∃ (a : Addr) (rows : List Nat) (x : Nat), vs = [.ref a, vN x] ∧ Tq H a (rows.map vN) ∧ (∀ r ∈ rows, r ≠ 0) ∧ rows.length ≤ 1000000 ∧
  ∀ H' p, Same H H' → H p = none → H' p = some (.lst ((grw rows x).map vN)) → Q (.ref p) H'
section
variable {P : Program} {w : World} {K : PySem.W.Frag} {mg : Str → Option Value} {base : Heap} {f : Addr} {fd : FuncData} (T : Bt mg)
include T
theorem ok_cleared (F : FnP K "cleared" "cleared" s_cleared f fd) : FnOk P w K mg base CX0 1 f fd ["rows", "word"] sp_cleared := by
  have nd := sc_cleared.nd
  refine fnok F sc_cleared (fun vs H Q E h => ?_) (fun cdv A outer s H vs Q E hr h => ?_)
  · obtain ⟨a, rows, x, rfl, _⟩ := h
    rfl
  · obtain ⟨a, rows, x, rfl, hS, hn, k⟩ := h
    refine ⟨_, (pss_cons (ps_set (i := 2) nd rfl (Or.inl rfl) (pv 1))
      (pss_cons (ps_for PassesOwn.never rfl (pi_seq (pv 0)) (pg_name (i := 3) nd rfl (Or.inl rfl))
        (pss_one (ps_if (pt_cmpR op_eq (pe_op on_and (pe_op on_shr (pv 2) (pe_op on_sub (pe_bits (pv 3)) pe_int)) pe_int) pe_int (nomark _))
          (pss_one (ps_set (i := 2) nd rfl (Or.inl rfl) (pe_op on_xor (pv 2) (pv 3))))
          pss_nil)))
      (pss_one (ps_ret (pv 2))))), ?_⟩
    refine ⟨_, rfl, _, rfl, for_seq (K := K) hS.sq (fun i σ H2 => ∃ v, σ = [some (.ref a), some (vN x), some (vN (clr (rows.take i) x)), v] ∧ H2 = H) ⟨none, rfl, rfl⟩ (fun i σ H2 hp => by obtain ⟨_, _, rfl⟩ := hp; exact Kp.refl _) ?_ ?_⟩
    · rintro i y σ H2 hy ⟨v, rfl, rfl⟩
      obtain ⟨r, hr', rfl⟩ := map_get hy
      have rn := hn r (List.mem_of_getElem? hr')
      have rb := blen_pos rn
      refine ⟨_, rfl, _, rfl, _, rfl, _, 1, rfl, rfl, (by show 1 ≤ Builtin.Int.intBits (r : Int); rw [blen_bits]; exact rb), _, _, rfl, rfl, _, 1, rfl, rfl, rfl, _, rfl, ?_⟩
      rw [take_succ hr', clr_snoc]
      rw [blen_bits]
      have e : decide (V.int ((clr (rows.take i) x >>> (blen r - 1) &&& 1 : Nat) : Int) = V.int 1) = (clr (rows.take i) x).testBit (blen r - 1) := by
        rw [show (V.int 1 : V) = V.int ((1 : Nat) : Int) from rfl, dec_nat]
        cases q : (clr (rows.take i) x).testBit (blen r - 1) with
        | true => exact decide_eq_true ((shr_and_one _ _).mpr q)
        | false => exact decide_eq_false fun z => by rw [(shr_and_one _ _).mp z] at q; cases q
      rw [e]
      cases q : (clr (rows.take i) x).testBit (blen r - 1) with
      | true => exact iteT ⟨_, rfl, _, rfl, _, _, rfl, rfl, _, rfl, rfl⟩
      | false => exact iteF ⟨_, rfl, rfl⟩
    · rintro σ H2 ⟨v, rfl, rfl⟩
      refine ⟨_, rfl, ?_⟩
      rw [List.length_map, List.take_length]
      exact k
theorem ok_grown (F : FnP K "grown" "grown" s_grown f fd) (D_cleared : Dn P w K mg base 1 "cleared" ["rows", "word"] sp_cleared) : FnOk P w K mg base CX0 2 f fd ["rows", "word"] sp_grown := by
  have nd := sc_grown.nd
  refine fnok F sc_grown (fun vs H Q E h => ?_) (fun cdv A outer s H vs Q E hr h => ?_)
  · obtain ⟨a, rows, x, rfl, _⟩ := h
    rfl
  · obtain ⟨a, rows, x, rfl, hS, hn, hl, k⟩ := h
    refine ⟨_, (pss_cons (ps_set (i := 2) nd rfl (Or.inr rfl) (pe_d D_cleared hr (pa_cons (pv 0) (pa_cons (pv 1) pa_nil))))
  (pss_cons (ps_if (pt_cmpR op_eq (pv 2) pe_int (nomark _))
    (pss_one (ps_ret (pe_callTy call_listQ (by rfl) T.list (by decide +kernel) (pa_cons (pv 0) pa_nil))))
    pss_nil)
  (pss_cons (ps_set (i := 3) nd rfl (Or.inr rfl) (pe_op on_sub (pe_bits (pv 2)) pe_int))
  (pss_one (ps_ret (pe_callB cr_sortedN (by rfl) T.sorted (by decide +kernel) (pa_cons (pe_op op_cat (pe_lc (own := [("row", 4)]) (g := gName 4) (by rfl) nd (pi_seq (pv 0)) (blkOk_by (own := [("row", 4)]) (N := ["rows", "word", "left", "top", "row"]) (sc := defScope s_grown) (by decide +kernel)) (fun _ _ _ _ _ => (pg_name (i := 4) nd rfl (Or.inl rfl))) (fun _ _ _ _ _ => pts_nil) (fun _ _ _ _ _ => (pe_ifExp (pt_cmpR op_eq (pe_op on_and (pe_op on_shr (pv 4) (pv 3)) pe_int) pe_int (nomark _)) (pe_op on_xor (pv 4) (pv 2)) (pv 4)))) (pe_lst (pa_cons (pv 2) pa_nil))) pa_nil))))))), ?_⟩
    refine ⟨_, rfl, _, rfl, a, rows, x, rfl, hS, hn, ?_⟩
    refine ⟨_, rfl, rfl, _, rfl, ?_⟩
    refine br (fun e => ?_) (fun e => ?_)
    · have e0 : clr rows x = 0 := dec_zero e
      refine ⟨_, rfl, a, _, rfl, hS, fun l hl' => ?_⟩
      refine k _ _ (same_new0 hl') hl' ?_
      rw [grw_eq, if_pos e0]
      exact upd_same
    · have e0 : clr rows x ≠ 0 := dec_nz e
      have eb := blen_pos e0
      refine ⟨_, rfl, _, rfl, _, 1, rfl, rfl, (by show 1 ≤ Builtin.Int.intBits (clr rows x : Int); rw [blen_bits]; exact eb), ?_⟩
      refine ⟨_, rfl, lc_pure rows vN (fun _ => true) (fun r => vN (chg (clr rows x) r)) hS hl (fun n H' hn' s => ?_) (fun D H1 hD s1 h1 => ?_)⟩
      · intro Z Nx h1 h2
        refine ⟨rfl, _, rfl, _, rfl, _, _, rfl, rfl, _, 1, rfl, rfl, rfl, _, rfl, ?_⟩
        rw [blen_bits, dec_bit]
        have z := h1 rfl H' (Same.refl H')
        unfold chg at z
        cases q : n.testBit (blen (clr rows x) - 1) with
        | true =>
          rw [q] at z
          exact iteT ⟨_, rfl, _, rfl, _, _, rfl, rfl, z⟩
        | false =>
          rw [q] at z
          exact iteF ⟨_, rfl, z⟩
      · rw [List.filter_eq_self.mpr (fun _ _ => rfl)] at h1
        refine ⟨_, rfl, (by show 1 ≤ sizeLine; decide), fun l hl' => ?_⟩
        refine ⟨_, _, _, _, rfl, rfl, upd_new hl' h1, upd_same, (by show (rows.map _).length + 1 ≤ _; rw [List.length_map]; exact size6'' hl), fun q hq => ?_⟩
        refine ⟨q, rows.map (chg (clr rows x)) ++ [clr rows x], rfl, ?_, fun p hp => ?_⟩
        · rw [upd_same]
          simp [List.map_append]
        · have s3 := same_new (o := .lst [vN (clr rows x)]) s1 hl'
          have s4 := same_new (o := .lst (rows.map (fun r => vN (chg (clr rows x) r)) ++ [vN (clr rows x)])) s3 hq
          refine k _ _ (same_new s4 hp) (same_free s4 hp) ?_
          rw [upd_same, grw_eq, if_neg e0]
theorem ok_spanned (F : FnP K "spanned" "spanned" s_spanned f fd) (D_grown : Dn P w K mg base 2 "grown" ["rows", "word"] sp_grown) : FnOk P w K mg base CX0 3 f fd ["words"] sp_spanned := by
  have nd := sc_spanned.nd
  refine fnok F sc_spanned (fun vs H Q E h => ?_) (fun cdv A outer s H vs Q E hr h => ?_)
  · obtain ⟨a, ws, rfl, _⟩ := h
    rfl
  · obtain ⟨a, ws, rfl, hS, hl, k⟩ := h
    refine ⟨_, (pss_cons (ps_set (i := 1) nd rfl (Or.inl rfl) (pe_lst pa_nil))
      (pss_cons (ps_for PassesOwn.never rfl (pi_seq (pv 0)) (pg_name (i := 2) nd rfl (Or.inl rfl))
        (pss_one (ps_set (i := 1) nd rfl (Or.inl rfl) (pe_d D_grown hr (pa_cons (pv 1) (pa_cons (pv 2) pa_nil))))))
      (pss_one (ps_ret (pv 1))))), ?_⟩
    refine ⟨(by show 0 ≤ sizeLine; decide), fun l0 hl0 => ?_⟩
    have s0 : Same H (upd H l0 (.lst [])) := same_new0 hl0
    refine ⟨_, rfl, for_seq (K := K) (same_tq s0 hS).sq (fun i σ H2 => ∃ v l, σ = [some (.ref a), some (.ref l), v] ∧ Same (upd H l0 (.lst [])) H2 ∧ H l = none ∧ H2 l = some (.lst ((spn (ws.take i)).map vN))) ⟨none, l0, rfl, Same.refl _, hl0, upd_same⟩ (fun i σ H2 hp => ?_) ?_ ?_⟩
    · obtain ⟨_, l, _, s2, hn, h2⟩ := hp
      exact Kp.of s2
    · rintro i y σ H2 hy ⟨v, l, rfl, s2, hn, h2⟩
      obtain ⟨r, hr', rfl⟩ := map_get hy
      refine ⟨_, rfl, _, rfl, l, _, r, rfl, .inl h2, (spn_rws _).nz, Nat.le_trans (spn_len _) (Nat.le_trans (by rw [List.length_take]; omega) hl), fun H3 p s3 hp h3 => ?_⟩
      refine ⟨_, p, rfl, s2.trans s3, same_free s0 (same_free s2 hp), ?_⟩
      rw [take_succ hr', spn_append]
      exact h3
    · rintro σ H2 ⟨v, l, rfl, s2, hn, h2⟩
      rw [List.length_map, List.take_length] at h2
      exact ⟨_, rfl, k _ _ (s0.trans s2) hn h2⟩
end
end LaneX
set_option Elab.async false
set_option linter.all false
set_option maxRecDepth 100000
set_option maxHeartbeats 4000000
namespace LaneX
open PySem PySem.Spec PyProof.Rows L2
def sp_paired : Sp := fun vs H Q _ => ∃ (a : Addr) (cs : List Nat), vs = [.ref a] ∧ Tq H a (cs.map vN) ∧ cs.length ≤ 1000000 ∧ (∀ c ∈ cs, blen c ≤ 1000000) ∧
  ∀ H' p, Same H H' → H p = none → H' p = some (.lst ((prd cs).map vN)) → Q (.ref p) H'
def sp_kernel_rows : Sp := fun vs H Q _ => ∃ (a : Addr) (cs : List Nat), vs = [.ref a] ∧ Tq H a (cs.map vN) ∧ cs.length ≤ 1000000 ∧ (∀ c ∈ cs, blen c ≤ 1000000) ∧
  ∀ H' p, Same H H' → H p = none → H' p = some (.lst ((ker cs).map vN)) → Q (.ref p) H'
def sp_met : Sp := fun vs H Q _ => ∃ (b : Nat) (a c : Addr) (rs os : List Nat), vs = [vN b, .ref a, .ref c] ∧ Tq H a (rs.map vN) ∧ Tq H c (os.map vN) ∧ b ≤ 1000000 ∧ rs.length ≤ 400000 ∧ os.length ≤ 400000 ∧ (∀ r ∈ rs, blen r ≤ 1000000) ∧ (∀ r ∈ os, blen r ≤ 1000000) ∧
  ∀ H' p, Same H H' → H p = none → H' p = some (.lst ((mtd b rs os).map vN)) → Q (.ref p) H'
theorem shl_ok1 {n m : Nat} (h1 : blen n ≤ 1000000) (h2 : m ≤ 1000000) : CShN n m := by unfold CShN; omega
theorem blen_one : blen 1 = 1 := by decide
theorem dec_le (a b : Nat) : decide ((a : Int) ≤ (b : Int)) = decide (a ≤ b) := by
  by_cases h : a ≤ b
  · rw [decide_eq_true h, decide_eq_true (by omega)]
  · rw [decide_eq_false h, decide_eq_false (by omega)]
theorem filt_true {α : Type} (l : List α) : l.filter (fun _ => true) = l := List.filter_eq_self.mpr fun _ _ => rfl
section
variable {P : Program} {w : World} {K : PySem.W.Frag} {mg : Str → Option Value} {base : Heap} {f : Addr} {fd : FuncData} (T : Bt mg)
include T
theorem ok_met (F : FnP K "met" "met" s_met f fd) (D_spanned : Dn P w K mg base 3 "spanned" ["words"] sp_spanned) : FnOk P w K mg base CX0 4 f fd ["bits", "rows", "others"] sp_met := by
  have nd := sc_met.nd
  refine fnok F sc_met (fun vs H Q E h => ?_) (fun cdv A outer s H vs Q E hr h => ?_)
  · obtain ⟨b, a, c, rs, os, rfl, _⟩ := h
    rfl
  · obtain ⟨b, a, c, rs, os, rfl, hA, hC, hb, hl1, hl2, hr1, hr2, k⟩ := h
    refine ⟨_, (pss_cons (ps_set (i := 3) nd rfl (Or.inl rfl) (pe_op op_cat (pe_lc (own := [("row", 4)]) (g := gName 4) (by rfl) nd (pi_seq (pv 1)) (blkOk_by (own := [("row", 4)]) (N := ["bits", "rows", "others", "both", "row"]) (sc := defScope s_met) (by decide +kernel)) (fun _ _ _ _ _ => (pg_name (i := 4) nd rfl (Or.inl rfl))) (fun _ _ _ _ _ => pts_nil) (fun _ _ _ _ _ => (pe_op on_add (pe_op on_shl (pv 4) (pv 0)) (pv 4)))) (pe_lc (own := [("row", 4)]) (g := gName 4) (by rfl) nd (pi_seq (pv 2)) (blkOk_by (own := [("row", 4)]) (N := ["bits", "rows", "others", "both", "row"]) (sc := defScope s_met) (by decide +kernel)) (fun _ _ _ _ _ => (pg_name (i := 4) nd rfl (Or.inl rfl))) (fun _ _ _ _ _ => pts_nil) (fun _ _ _ _ _ => (pe_op on_shl (pv 4) (pv 0))))))
  (pss_one (ps_ret (pe_lc (own := [("row", 4)]) (g := gName 4) (by rfl) nd (pi_seq (pe_d D_spanned hr (pa_cons (pv 3) pa_nil))) (blkOk_by (own := [("row", 4)]) (N := ["bits", "rows", "others", "both", "row"]) (sc := defScope s_met) (by decide +kernel)) (fun _ _ _ _ _ => (pg_name (i := 4) nd rfl (Or.inl rfl))) (fun _ _ _ _ _ => (pts_one (pt_cmpR op_le (pe_bits (pv 4)) (pv 0) (nomark _)))) (fun _ _ _ _ _ => (pv 4)))))), ?_⟩
    refine ⟨_, rfl, lc_pure rs vN (fun _ => true) (fun r => vN ((r <<< b) + r)) hA (by omega) (fun n H' hn s => ?_) (fun D1 H1 hD1 s1 h1 => ?_)⟩
    · intro Z Nx z1 z2
      exact ⟨rfl, _, rfl, _, rfl, _, _, rfl, rfl, shl_ok1 (hr1 n hn) hb, _, rfl, _, _, rfl, rfl, z1 rfl _ (Same.refl _)⟩
    · rw [filt_true] at h1
      refine ⟨_, rfl, lc_pure os vN (fun _ => true) (fun r => vN (r <<< b)) (same_tq s1 hC) (by omega) (fun n H' hn s => ?_) (fun D2 H2 hD2 s2 h2 => ?_)⟩
      · intro Z Nx z1 z2
        exact ⟨rfl, _, rfl, _, rfl, _, _, rfl, rfl, shl_ok1 (hr2 n hn) hb, z1 rfl _ (Same.refl _)⟩
      · rw [filt_true] at h2
        refine ⟨_, _, _, _, rfl, rfl, s2 _ _ h1, h2, (by rw [List.length_map, List.length_map, sizeLine_eq]; omega), fun q hq => ?_⟩
        have s3 := same_new (o := .lst (rs.map (fun r => vN ((r <<< b) + r)) ++ os.map (fun r => vN (r <<< b)))) (s1.trans s2) hq
        refine ⟨_, rfl, q, mts b rs os, rfl, .inl ?_, (by simp [mts]; omega), fun H3 p s4 hp h3 => ?_⟩
        · rw [upd_same]
          simp [mts]
          rfl
        · have hlp : (spn (mts b rs os)).length ≤ 1000000 := Nat.le_trans (spn_len _) (by simp [mts]; omega)
          refine lc_pure (spn (mts b rs os)) vN (fun r => decide (blen r ≤ b)) vN (.inl h3) hlp (fun n H' hn s => ?_) (fun D H4 hD s5 h4 => ?_)
          · intro Z Nx z1 z2
            refine ⟨rfl, _, rfl, _, rfl, _, rfl, _, _, rfl, rfl, _, rfl, ?_⟩
            rw [blen_bits, dec_le]
            exact br (fun e => ⟨_, rfl, z1 e _ (Same.refl _)⟩) (fun e => z2 e _ (Same.refl _))
          · exact k _ _ ((s3.trans s4).trans s5) (same_free (s3.trans s4) hD) h4
end
end LaneX
set_option Elab.async false
set_option linter.all false
set_option maxRecDepth 100000
set_option maxHeartbeats 4000000
namespace LaneX
open PySem PySem.Spec PyProof.Rows L2
/-! ### objects -/
structure ObjT (K : PySem.W.Frag) (C : Addr) : Prop where
  cl : Cls K C
  ha : PySem.W.findIn K (.ref C) "__class__" = some (some (.builtin "object.__class__"))
  hn : PySem.W.specialIn K (.builtin "object.__class__") "__get__" = some (some (.builtin "getset_descriptor.__get__"))
  htk : PySem.W.takesIn K (.builtin "object.__class__") = some true
  hm : PySem.W.mroIn K C (.type "object") = some true
  me : PySem.W.kitOne K (.ref C) (.ref C) = some true
theorem ObjT.ty {K : PySem.W.Frag} {C : Addr} (T : ObjT K C) {H : Hp} {a dx : Addr} {fs : List (Str × V)} (e : H a = some (.ins C dx fs)) : TyX K H (.ref a) (.ref C) := .base (.ins e T.cl T.ha T.hn T.htk T.hm)
structure SpaceT (K : PySem.W.Frag) (mg : Str → Option Value) (C : Addr) : Prop extends ObjT K C where
  gl : mg "Space" = some (.ref C)
  nb : NoAttr K C "bits"
  nr : NoAttr K C "rows"
  nd : NoAttr K C "dimension"
structure SpreadT (K : PySem.W.Frag) (mg : Str → Option Value) (C : Addr) : Prop extends ObjT K C where
  gl : mg "Spread" = some (.ref C)
  nb : NoAttr K C "bits"
  ns : NoAttr K C "slots"
  nl : NoAttr K C "lanes"
def spf (b : Nat) (t : Addr) (d : Nat) : List (Str × V) := [("bits", vN b), ("rows", .ref t), ("dimension", vN d)]
def srf (b : Nat) (s l : Addr) : List (Str × V) := [("bits", vN b), ("slots", .ref s), ("lanes", .ref l)]
theorem spf_b (b : Nat) (t : Addr) (d : Nat) : (spf b t d).lookup ("bits" : Str) = some (vN b) := rfl
theorem spf_r (b : Nat) (t : Addr) (d : Nat) : (spf b t d).lookup ("rows" : Str) = some (.ref t) := rfl
theorem spf_d (b : Nat) (t : Addr) (d : Nat) : (spf b t d).lookup ("dimension" : Str) = some (vN d) := rfl
theorem srf_b (b : Nat) (t d : Addr) : (srf b t d).lookup ("bits" : Str) = some (vN b) := rfl
theorem srf_s (b : Nat) (t d : Addr) : (srf b t d).lookup ("slots" : Str) = some (.ref t) := rfl
theorem srf_l (b : Nat) (t d : Addr) : (srf b t d).lookup ("lanes" : Str) = some (.ref d) := rfl
theorem spf_p (b : Nat) (t : Addr) (d : Nat) : putF "dimension" (vN d) (putF "rows" (.ref t) (putF "bits" (vN b) [])) = spf b t d := rfl
theorem srf_p (b : Nat) (t d : Addr) : putF "lanes" (.ref d) (putF "slots" (.ref t) (putF "bits" (vN b) [])) = srf b t d := rfl
def SpaceAt (C : Addr) (H : Hp) (p : Addr) (b : Nat) (rows : List Nat) : Prop := ∃ dx t, H p = some (.ins C dx (spf b t rows.length)) ∧ H t = some (.tup (rows.map vN))
def SpreadAt (C : Addr) (H : Hp) (p : Addr) (b : Nat) (ss ls : List Nat) : Prop := ∃ dx s l, H p = some (.ins C dx (srf b s l)) ∧ H s = some (.tup (ss.map vN)) ∧ H l = some (.tup (ls.map vN))
theorem SpaceAt.same {C : Addr} {H H' : Hp} {p : Addr} {b : Nat} {rows : List Nat} (h : SpaceAt C H p b rows) (s : Same H H') : SpaceAt C H' p b rows := by
  obtain ⟨dx, t, h1, h2⟩ := h
  exact ⟨dx, t, s _ _ h1, s _ _ h2⟩
theorem SpaceAt.kp {C : Addr} {H H' : Hp} {p : Addr} {b : Nat} {rows : List Nat} (h : SpaceAt C H p b rows) (s : Kp H H') : SpaceAt C H' p b rows := by
  obtain ⟨dx, t, h1, h2⟩ := h
  exact ⟨dx, t, s _ _ h1 rfl, s _ _ h2 rfl⟩
theorem SpreadAt.same {C : Addr} {H H' : Hp} {p : Addr} {b : Nat} {ss ls : List Nat} (h : SpreadAt C H p b ss ls) (s : Same H H') : SpreadAt C H' p b ss ls := by
  obtain ⟨dx, a, l, h1, h2, h3⟩ := h
  exact ⟨dx, a, l, s _ _ h1, s _ _ h2, s _ _ h3⟩
theorem SpreadAt.kp {C : Addr} {H H' : Hp} {p : Addr} {b : Nat} {ss ls : List Nat} (h : SpreadAt C H p b ss ls) (s : Kp H H') : SpreadAt C H' p b ss ls := by
  obtain ⟨dx, a, l, h1, h2, h3⟩ := h
  exact ⟨dx, a, l, s _ _ h1 rfl, s _ _ h2 rfl, s _ _ h3 rfl⟩

/-- a new instance, filled -/
theorem made_same {H H1 : Hp} {x dx C : Addr} (nx : H x = none) (nd : H dx = none) (k : ∀ b o, (upd (upd H dx (.own x)) x (.ins C dx [])) b = some o → b ≠ x → H1 b = some o) : Same H H1 := Same.made nx nd k
def sp_Space (C : Addr) : Sp := fun vs H Q _ => ∃ (p dx : Addr) (b : Nat) (a : Addr) (ws : List Nat), vs = [.ref p, vN b, .ref a] ∧ H p = some (.ins C dx []) ∧ Tq H a (ws.map vN) ∧ (∀ x ∈ ws, blen x ≤ b) ∧ ws.length ≤ 1000000 ∧
  ∀ H', SpaceAt C H' p b (spn ws) → (∀ c o, H c = some o → c ≠ p → H' c = some o) → Q .non H'
def sp_Spread (C : Addr) : Sp := fun vs H Q _ => ∃ (p dx : Addr) (b : Nat) (a c : Addr) (ss ls : List Nat), vs = [.ref p, vN b, .ref a, .ref c] ∧ H p = some (.ins C dx []) ∧ Tq H a (ss.map vN) ∧ Tq H c (ls.map vN) ∧ (∀ x ∈ ss, blen x ≤ b) ∧ (∀ x ∈ ls, blen x ≤ b) ∧
  ss.length ≤ 400000 ∧ ls.length ≤ 400000 ∧ b ≤ rk (ss ++ ls) ∧ ∀ H', SpreadAt C H' p b ss ls → (∀ c o, H c = some o → c ≠ p → H' c = some o) → Q .non H'
def sp_need_space (C : Addr) : Sp := fun vs H Q _ => ∃ (p : Addr) (b : Nat) (rows : List Nat), vs = [.ref p, vN b] ∧ SpaceAt C H p b rows ∧ Q .non H
def sp_any_spread (C : Addr) : Sp := fun vs H Q _ => ∃ (p : Addr) (b : Nat) (ss ls : List Nat), vs = [.ref p] ∧ SpreadAt C H p b ss ls ∧ Q .non H
theorem upd_put {H : Hp} {p a : Addr} {o u : HO} (h : H a = some u) (n : a ≠ p) : upd H p o a = some u := (upd_ne n).trans h
section
variable {P : Program} {w : World} {K : PySem.W.Frag} {mg : Str → Option Value} {base : Heap} {f : Addr} {fd : FuncData} {CS CR : Addr} (T : Bt mg) (TS : SpaceT K mg CS) (TR : SpreadT K mg CR)
include T
include TS in
theorem ok_Space (F : FnP K "__init__" "Space.__init__" s_Space_init f fd) (D_need_whole : Dn P w K mg base 2 "need_whole" ["value"] sp_need_whole) (D_need_words : Dn P w K mg base 3 "need_words" ["values", "bits"] sp_need_words) (D_spanned : Dn P w K mg base 3 "spanned" ["words"] sp_spanned) :
    FnOk P w K mg base CX0 4 f fd ["self", "bits", "words"] (sp_Space CS) := by
  have nd := sc_Space_init.nd
  refine fnok F sc_Space_init (fun vs H Q E h => ?_) (fun cdv A outer s H vs Q E hr h => ?_)
  · obtain ⟨p, dx, b, a, ws, rfl, _⟩ := h
    rfl
  · obtain ⟨p, dx, b, a, ws, rfl, hp, hS, hb, hl, k⟩ := h
    refine ⟨_, (pss_cons (ps_expr (pe_d D_need_whole hr (pa_cons (pv 1) pa_nil)))
  (pss_cons (ps_fld (pv 0) (pv 1) rfl)
  (pss_cons (ps_fld (pv 0) (pe_callTy call_tupleQ (by rfl) T.tuple (by decide +kernel) (pa_cons (pe_d D_spanned hr (pa_cons (pe_d D_need_words hr (pa_cons (pv 2) (pa_cons (pv 1) pa_nil))) pa_nil)) pa_nil)) rfl)
  (pss_one (ps_fld (pv 0) (pe_callB call_lenQ (by rfl) T.len PySem.boot_len (pa_cons (pe_fld (pv 0) rfl) pa_nil)) rfl))))), ?_⟩
    have nap : a ≠ p := by
      rcases hS with h | h
      · exact ne_of h hp (by intro z; cases z)
      · exact ne_of h hp (by intro z; cases z)
    have hS1 : Tq (upd H p (.ins CS dx (putF "bits" (vN b) []))) a (ws.map vN) := hS.elim (fun h => .inl (upd_put h nap)) fun h => .inr (upd_put h nap)
    refine ⟨_, rfl, b, rfl, _, rfl, _, rfl, p, CS, dx, [], rfl, hp, TS.cl, TS.nb, (by decide), ?_⟩
    refine ⟨_, rfl, _, rfl, a, ws, b, rfl, hS1, hb, fun H1 q1 s1 hq1 h1 => ?_⟩
    refine ⟨q1, ws, rfl, .inl h1, hl, fun H2 q2 s2 hq2 h2 => ?_⟩
    refine ⟨q2, _, rfl, h2, fun t ht => ?_⟩
    have hpt : p ≠ t := ne_of_none (s2 _ _ (s1 _ _ upd_same)) ht
    have hp3 : upd H2 t (.tup ((spn ws).map vN)) p = some (.ins CS dx (putF "bits" (vN b) [])) := upd_put (s2 _ _ (s1 _ _ upd_same)) hpt
    refine ⟨_, rfl, p, CS, dx, _, rfl, hp3, TS.cl, TS.nr, (by show 1 < 1000; decide), ?_⟩
    refine ⟨_, rfl, p, CS, dx, _, .ref t, rfl, upd_same, TS.cl, TS.nr, rfl, t, _, rfl, .inr (upd_put upd_same hpt.symm), ?_⟩
    refine ⟨_, rfl, p, CS, dx, _, rfl, upd_same, TS.cl, TS.nd, (by show 2 < 1000; decide), ?_⟩
    refine k _ ⟨dx, t, ?_, upd_put (upd_put upd_same hpt.symm) hpt.symm⟩ fun c o hc hcp => ?_
    · rw [upd_same, List.length_map]
      rfl
    · have e1 : upd H p (.ins CS dx (putF "bits" (vN b) [])) c = some o := upd_put hc hcp
      have e2 := s2 _ _ (s1 _ _ e1)
      exact upd_put (upd_put (upd_put e2 (ne_of_none e2 ht)) hcp) hcp
include TR in
theorem ok_Spread (F : FnP K "__init__" "Spread.__init__" s_Spread_init f fd) (D_need_whole : Dn P w K mg base 2 "need_whole" ["value"] sp_need_whole) (D_need_words : Dn P w K mg base 3 "need_words" ["values", "bits"] sp_need_words) (D_spanned : Dn P w K mg base 3 "spanned" ["words"] sp_spanned) :
    FnOk P w K mg base CX0 4 f fd ["self", "bits", "slots", "lanes"] (sp_Spread CR) := by
  have nd := sc_Spread_init.nd
  refine fnok F sc_Spread_init (fun vs H Q E h => ?_) (fun cdv A outer s H vs Q E hr h => ?_)
  · obtain ⟨p, dx, b, a, c, ss, ls, rfl, _⟩ := h
    rfl
  · obtain ⟨p, dx, b, a, c, ss, ls, rfl, hp, hS, hL, hb1, hb2, hl1, hl2, hk, k⟩ := h
    refine ⟨_, (pss_cons (ps_expr (pe_d D_need_whole hr (pa_cons (pv 1) pa_nil)))
  (pss_cons (ps_fld (pv 0) (pv 1) rfl)
  (pss_cons (ps_fld (pv 0) (pe_callTy call_tupleQ (by rfl) T.tuple (by decide +kernel) (pa_cons (pe_d D_need_words hr (pa_cons (pv 2) (pa_cons (pv 1) pa_nil))) pa_nil)) rfl)
  (pss_cons (ps_fld (pv 0) (pe_callTy call_tupleQ (by rfl) T.tuple (by decide +kernel) (pa_cons (pe_d D_need_words hr (pa_cons (pv 3) (pa_cons (pv 1) pa_nil))) pa_nil)) rfl)
  (pss_cons (ps_set (i := 4) nd rfl (Or.inl rfl) (pe_d D_spanned hr (pa_cons (pe_op op_cat (pe_callTy call_listQ (by rfl) T.list (by decide +kernel) (pa_cons (pe_fld (pv 0) rfl) pa_nil)) (pe_callTy call_listQ (by rfl) T.list (by decide +kernel) (pa_cons (pe_fld (pv 0) rfl) pa_nil))) pa_nil)))
  (pss_one (ps_if (pt_cmpR op_lt (pe_callB call_lenQ (by rfl) T.len PySem.boot_len (pa_cons (pv 4) pa_nil)) (pv 1) (nomark _))
    (pss_one ps_never)
    pss_nil))))))), ?_⟩
    have tqp : ∀ {H0 : Hp} {o : HO} {d : Addr} {fs : List (Str × V)} {e : Addr} {xs : List V}, Tq H0 e xs → H0 p = some (.ins CR d fs) → Tq (upd H0 p o) e xs := fun {H0 o d fs e xs} h hp => by
      rcases h with h | h
      · exact .inl (upd_put h (ne_of h hp (by intro z; cases z)))
      · exact .inr (upd_put h (ne_of h hp (by intro z; cases z)))
    refine ⟨_, rfl, b, rfl, _, rfl, _, rfl, p, CR, dx, [], rfl, hp, TR.cl, TR.nb, (by decide), ?_⟩
    refine ⟨_, rfl, _, rfl, a, ss, b, rfl, tqp hS hp, hb1, fun H1 q1 s1 hq1 h1 => ?_⟩
    refine ⟨q1, _, rfl, h1, fun t ht => ?_⟩
    have hpt : p ≠ t := ne_of_none (s1 _ _ upd_same) ht
    have hp1 : upd H1 t (.tup (ss.map vN)) p = some (.ins CR dx (putF "bits" (vN b) [])) := upd_put (s1 _ _ upd_same) hpt
    refine ⟨_, rfl, p, CR, dx, _, rfl, hp1, TR.cl, TR.ns, (by show 1 < 1000; decide), ?_⟩
    refine ⟨_, rfl, _, rfl, c, ls, b, rfl, tqp (same_tq (same_new s1 ht) (tqp hL hp)) hp1, hb2, fun H2 q2 s2 hq2 h2 => ?_⟩
    refine ⟨q2, _, rfl, h2, fun u hu => ?_⟩
    have hpu : p ≠ u := ne_of_none (s2 _ _ upd_same) hu
    have htu : t ≠ u := ne_of_none (s2 _ _ (upd_put upd_same hpt.symm)) hu
    have hp2 : upd H2 u (.tup (ls.map vN)) p = some (.ins CR dx (putF "slots" (.ref t) (putF "bits" (vN b) []))) := upd_put (s2 _ _ upd_same) hpu
    refine ⟨_, rfl, p, CR, dx, _, rfl, hp2, TR.cl, TR.nl, (by show 2 < 1000; decide), ?_⟩
    have ht3 : upd (upd H2 u (.tup (ls.map vN))) p (.ins CR dx (srf b t u)) t = some (.tup (ss.map vN)) := upd_put (upd_put (s2 _ _ (upd_put upd_same hpt.symm)) htu) hpt.symm
    have hu3 : upd (upd H2 u (.tup (ls.map vN))) p (.ins CR dx (srf b t u)) u = some (.tup (ls.map vN)) := upd_put upd_same hpu.symm
    have fin : ∀ cc o, H cc = some o → cc ≠ p → upd (upd H2 u (.tup (ls.map vN))) p (.ins CR dx (srf b t u)) cc = some o := fun cc o hc hcp => by
      have e1 : upd H p (.ins CR dx (putF "bits" (vN b) [])) cc = some o := upd_put hc hcp
      have e2 := s1 _ _ e1
      have e3 : upd (upd H1 t (.tup (ss.map vN))) p (.ins CR dx (putF "slots" (.ref t) (putF "bits" (vN b) []))) cc = some o := upd_put (upd_put e2 (ne_of_none e2 ht)) hcp
      have e4 := s2 _ _ e3
      exact upd_put (upd_put e4 (ne_of_none e4 hu)) hcp
    refine ⟨_, rfl, p, CR, dx, srf b t u, .ref t, rfl, upd_same, TR.cl, TR.ns, rfl, t, _, rfl, .inr ht3, fun l1 hl1' => ?_⟩
    refine ⟨_, rfl, p, CR, dx, srf b t u, .ref u, rfl, upd_new hl1' upd_same, TR.cl, TR.nl, rfl, u, _, rfl, .inr (upd_new hl1' hu3), fun l2 hl2' => ?_⟩
    refine ⟨l1, l2, _, _, rfl, rfl, upd_new hl2' upd_same, upd_same, (by rw [List.length_map, List.length_map, sizeLine_eq]; omega), fun l3 hl3' => ?_⟩
    refine ⟨l3, ss ++ ls, rfl, .inl (by rw [upd_same, List.map_append]), (by rw [List.length_append]; omega), fun H4 q4 s4 hq4 h4 => ?_⟩
    refine ⟨_, rfl, q4, _, rfl, .inl h4, _, rfl, _, _, rfl, rfl, _, rfl, ?_⟩
    have e : decide ((((spn (ss ++ ls)).map vN).length : Int) < (b : Int)) = false := decide_eq_false (by rw [List.length_map]; have : b ≤ (spn (ss ++ ls)).length := hk; omega)
    rw [e]
    refine iteF ?_
    have sN : Same (upd (upd H2 u (.tup (ls.map vN))) p (.ins CR dx (srf b t u))) H4 := ((same_new (same_new (same_new0 hl1') hl2') hl3').trans s4)
    exact k _ ⟨dx, t, u, sN _ _ upd_same, sN _ _ ht3, sN _ _ hu3⟩ fun cc o hc hcp => sN _ _ (fin cc o hc hcp)
end
end LaneX
set_option Elab.async false
set_option linter.all false
set_option maxRecDepth 100000
set_option maxHeartbeats 4000000
namespace LaneX
open PySem PySem.Spec PyProof.Rows L2
theorem mk_Space {C : Addr} {H1 : Hp} {b : Nat} {a : Addr} {ws : List Nat} {Q : VK} {E : XK} (hS : Tq H1 a (ws.map vN)) (hb : ∀ x ∈ ws, blen x ≤ b) (hl : ws.length ≤ 1000000) (k : ∀ H' p, Same H1 H' → H1 p = none → SpaceAt C H' p b (spn ws) → Q (.ref p) H') :
    ∀ x dx, H1 x = none → H1 dx = none → dx ≠ x → sp_Space C (.ref x :: ([vN b, .ref a] ++ [])) (upd (upd H1 dx (.own x)) x (.ins C dx [])) (fun v H2 => v = .non ∧ Q (.ref x) H2) E := by
  intro x dx nx ndx ne
  have nx' : upd H1 dx (.own x) x = none := (upd_ne ne.symm).trans nx
  refine ⟨x, dx, b, a, ws, rfl, upd_same, (hS.new ndx).new nx', hb, hl, fun H' hA kp => ⟨rfl, k _ _ (made_same nx ndx kp) nx hA⟩⟩
theorem mk_Spread {C : Addr} {H1 : Hp} {b : Nat} {a c : Addr} {ss ls : List Nat} {Q : VK} {E : XK} (hS : Tq H1 a (ss.map vN)) (hL : Tq H1 c (ls.map vN)) (wf : WfR b ss ls) (hk : b ≤ rk (ss ++ ls)) (k : ∀ H' p, Same H1 H' → H1 p = none → SpreadAt C H' p b ss ls → Q (.ref p) H') :
    ∀ x dx, H1 x = none → H1 dx = none → dx ≠ x → sp_Spread C (.ref x :: ([vN b, .ref a, .ref c] ++ [])) (upd (upd H1 dx (.own x)) x (.ins C dx [])) (fun v H2 => v = .non ∧ Q (.ref x) H2) E := by
  intro x dx nx ndx ne
  have nx' : upd H1 dx (.own x) x = none := (upd_ne ne.symm).trans nx
  refine ⟨x, dx, b, a, c, ss, ls, rfl, upd_same, (hS.new ndx).new nx', (hL.new ndx).new nx', wf.s, wf.l, wf.sl, wf.ll, hk, fun H' hA kp => ⟨rfl, k _ _ (made_same nx ndx kp) nx hA⟩⟩
/-- a def that gives a new Space -/
def spNewSpace (C : Addr) (b : Nat) (rows : List Nat) (H : Hp) (Q : VK) : Prop := ∀ H' p, Same H H' → H p = none → SpaceAt C H' p b rows → Q (.ref p) H'
def sp_every (C : Addr) : Sp := fun vs H Q _ => ∃ b : Nat, vs = [vN b] ∧ b ≤ 400000 ∧ spNewSpace C b (spn ((List.range b).map fun i => 1 <<< i)) H Q
def sp_and (C : Addr) : Sp := fun vs H Q _ => ∃ (p q : Addr) (b : Nat) (rs os : List Nat), vs = [.ref p, .ref q] ∧ SpaceAt C H p b rs ∧ SpaceAt C H q b os ∧ WfS b rs ∧ WfS b os ∧ spNewSpace C b (spn (mtd b rs os)) H Q
def sp_completing (C : Addr) : Sp := fun vs H Q _ => ∃ (p q : Addr) (b : Nat) (rs os : List Nat), vs = [.ref p, .ref q] ∧ SpaceAt C H p b rs ∧ SpaceAt C H q b os ∧ WfS b rs ∧ WfS b os ∧ ∀ H' t, Same H H' → H t = none → H' t = some (.tup ((cmpl rs os).map vN)) → Q (.ref t) H'
def sp_slot_space (CS CR : Addr) : Sp := fun vs H Q _ => ∃ (p : Addr) (b : Nat) (ss ls : List Nat), vs = [.ref p] ∧ SpreadAt CR H p b ss ls ∧ WfR b ss ls ∧ spNewSpace CS b (spn ss) H Q
def sp_twins (CS CR : Addr) : Sp := fun vs H Q _ => ∃ (p : Addr) (b : Nat) (ss ls : List Nat), vs = [.ref p] ∧ SpreadAt CR H p b ss ls ∧ WfR b ss ls ∧ spNewSpace CS ls.length (twn ss ls) H Q
def sp_need_pair (CS CR : Addr) : Sp := fun vs H Q _ => ∃ (p q : Addr) (b : Nat) (ss ls rows : List Nat), vs = [.ref p, .ref q] ∧ SpreadAt CR H p b ss ls ∧ SpaceAt CS H q b rows ∧ Q .non H
/-- what a spread and a space ask -/
def spPair (CS CR : Addr) (k : Nat → List Nat → List Nat → List Nat → Hp → VK → Prop) : Sp := fun vs H Q _ => ∃ (p q : Addr) (b : Nat) (ss ls rows : List Nat), vs = [.ref p, .ref q] ∧ SpreadAt CR H p b ss ls ∧ SpaceAt CS H q b rows ∧ WfR b ss ls ∧ WfS b rows ∧ k b ss ls rows H Q
def sp_partner_rows (CS CR : Addr) : Sp := spPair CS CR fun b ss ls rows H Q => ∀ H' t, Same H H' → H t = none → H' t = some (.lst ((prw ss ls rows).map vN)) → Q (.ref t) H'
def sp_partners (CS CR : Addr) : Sp := spPair CS CR fun b ss ls rows H Q => spNewSpace CS ls.length (prt ss ls rows) H Q
def sp_leaders (CS CR : Addr) : Sp := spPair CS CR fun b ss ls rows H Q => ∀ H' t, Same H H' → H t = none → H' t = some (.lst ((ldr ss ls rows).map vN)) → Q (.ref t) H'
def sp_kept_bits (CS CR : Addr) : Sp := spPair CS CR fun b ss ls rows H Q => ∀ H', Same H H' → Q (.int (kpt b ss rows)) H'
def sp_sum_rounds (CS CR : Addr) : Sp := spPair CS CR fun b ss ls rows H Q => ∀ H', Same H H' → Q (vN (smr b ss ls rows)) H'
def sp_sum_steps (CS CR : Addr) : Sp := spPair CS CR fun b ss ls rows H Q => ∀ H' t, Same H H' → H t = none → H' t = some (.tup ((ldr ss ls rows).map vN)) → Q (.ref t) H'
def sp_rounds_for : Sp := fun vs H Q _ => ∃ n m : Nat, vs = [vN n, vN m] ∧ n ≤ 400000 ∧ m ≤ 400000 ∧ Q (vN (rdf n m)) H
theorem dec_ne0 {n : Nat} : (!decide (V.int (n : Int) = V.int 0)) = !decide (n = 0) := by
  rw [show (V.int 0 : V) = V.int ((0 : Nat) : Int) from rfl, dec_nat]
section
variable {P : Program} {w : World} {K : PySem.W.Frag} {mg : Str → Option Value} {base : Heap} {f : Addr} {fd : FuncData} {CS CR : Addr} (T : Bt mg) (TS : SpaceT K mg CS) (TR : SpreadT K mg CR)
include T
include TS in
theorem ok_need_space (F : FnP K "need_space" "need_space" s_need_space f fd) : FnOk P w K mg base CX0 1 f fd ["value", "bits"] (sp_need_space CS) := by
  have nd := sc_need_space.nd
  refine fnok F sc_need_space (fun vs H Q E h => ?_) (fun cdv A outer s H vs Q E hr h => ?_)
  · obtain ⟨p, b, rows, rfl, _⟩ := h
    rfl
  · obtain ⟨p, b, rows, rfl, ⟨dx, t, h1, h2⟩, k⟩ := h
    refine ⟨_, (pss_one (ps_if (PW.pt (pw_or (pt_not (pt_val (pe_callB call_isi (by rfl) T.isinstance (by decide +kernel) (pa_cons (pv 0) (pa_cons (pe_glob (v := .ref CS) (by rfl) TS.gl rfl) pa_nil))))) (pw_or1 (pt_cmpR op_ne (pe_fld (pv 0) rfl) (pv 1) (nomark _)))))
    (pss_one ps_never)
    pss_nil)), ?_⟩
    refine ⟨_, rfl, _, _, _, _, _, rfl, .own _, TS.ty h1, TS.me, _, rfl, iteF ?_⟩
    refine ⟨_, rfl, p, CS, dx, _, vN b, rfl, h1, TS.cl, TS.nb, rfl, _, rfl, rfl, _, rfl, ?_⟩
    rw [show (!decide (vN b = vN b)) = false by simp]
    exact iteF k
include TR in
theorem ok_any_spread (F : FnP K "any_spread" "any_spread" s_any_spread f fd) : FnOk P w K mg base CX0 1 f fd ["value"] (sp_any_spread CR) := by
  have nd := sc_any_spread.nd
  refine fnok F sc_any_spread (fun vs H Q E h => ?_) (fun cdv A outer s H vs Q E hr h => ?_)
  · obtain ⟨p, b, ss, ls, rfl, _⟩ := h
    rfl
  · obtain ⟨p, b, ss, ls, rfl, ⟨dx, t, u, h1, h2, h3⟩, k⟩ := h
    refine ⟨_, (pss_one (ps_if (pt_not (pt_val (pe_callB call_isi (by rfl) T.isinstance (by decide +kernel) (pa_cons (pv 0) (pa_cons (pe_glob (v := .ref CR) (by rfl) TR.gl rfl) pa_nil)))))
    (pss_one ps_never)
    pss_nil)), ?_⟩
    exact ⟨_, rfl, _, _, _, _, _, rfl, .own _, TR.ty h1, TR.me, _, rfl, iteF k⟩
include TS in
theorem ok_and (F : FnP K "__and__" "Space.__and__" s_Space_and f fd) (D_need_space : Dn P w K mg base 1 "need_space" ["value", "bits"] (sp_need_space CS)) (D_met : Dn P w K mg base 4 "met" ["bits", "rows", "others"] sp_met) (K_Space : Kn P w K mg base 4 CS "Space" ["self", "bits", "words"] (sp_Space CS)) :
    FnOk P w K mg base CX0 6 f fd ["self", "other"] (sp_and CS) := by
  have nd := sc_Space_and.nd
  refine fnok F sc_Space_and (fun vs H Q E h => ?_) (fun cdv A outer s H vs Q E hr h => ?_)
  · obtain ⟨p, q, b, rs, os, rfl, _⟩ := h
    rfl
  · obtain ⟨p, q, b, rs, os, rfl, hp, hq, w1, w2, k⟩ := h
    refine ⟨_, (pss_cons (ps_expr (pe_d D_need_space hr (pa_cons (pv 1) (pa_cons (pe_fld (pv 0) rfl) pa_nil))))
  (pss_one (ps_ret (pe_k K_Space hr (pa_cons (pe_fld (pv 0) rfl) (pa_cons (pe_d D_met hr (pa_cons (pe_fld (pv 0) rfl) (pa_cons (pe_fld (pv 0) rfl) (pa_cons (pe_fld (pv 1) rfl) pa_nil)))) pa_nil)))))), ?_⟩
    obtain ⟨dx, t, h1, h2⟩ := hp
    have hq' := hq
    obtain ⟨dy, u, g1, g2⟩ := hq
    refine ⟨_, rfl, _, rfl, p, CS, dx, _, vN b, rfl, h1, TS.cl, TS.nb, rfl, q, b, os, rfl, hq', ?_⟩
    refine ⟨_, rfl, p, CS, dx, _, vN b, rfl, h1, TS.cl, TS.nb, rfl, _, rfl, p, CS, dx, _, vN b, rfl, h1, TS.cl, TS.nb, rfl, _, rfl, p, CS, dx, _, .ref t, rfl, h1, TS.cl, TS.nr, rfl, _, rfl, q, CS, dy, _, .ref u, rfl, g1, TS.cl, TS.nr, rfl, ?_⟩
    have bb := w1.bb
    refine ⟨b, t, u, rs, os, rfl, .inr h2, .inr g2, by omega, w1.len, w2.len, fun r hr => Nat.le_trans (w1.b r hr) (by omega), fun r hr => Nat.le_trans (w2.b r hr) (by omega), fun H1 q1 s1 hq1 h3 => ?_⟩
    exact mk_Space (.inl h3) (mtd_blen _ _ _) (Nat.le_trans ((mtd_rws b rs os).len_le (mtd_blen _ _ _)) (by omega)) (fun H' p s2 hp hA => k _ _ (s1.trans s2) (same_free s1 hp) hA)
end
end LaneX
set_option Elab.async false
set_option linter.all false
set_option maxRecDepth 100000
set_option maxHeartbeats 4000000
namespace LaneX
open PySem PySem.Spec PyProof.Rows L2
section
variable {P : Program} {w : World} {K : PySem.W.Frag} {mg : Str → Option Value} {base : Heap} {f : Addr} {fd : FuncData} {CS CR : Addr} (T : Bt mg) (TS : SpaceT K mg CS) (TR : SpreadT K mg CR)
include T
include TS in
theorem ok_completing (F : FnP K "completing" "Space.completing" s_Space_completing f fd) (D_need_space : Dn P w K mg base 1 "need_space" ["value", "bits"] (sp_need_space CS)) (D_cleared : Dn P w K mg base 1 "cleared" ["rows", "word"] sp_cleared) (D_grown : Dn P w K mg base 2 "grown" ["rows", "word"] sp_grown) :
    FnOk P w K mg base CX0 3 f fd ["self", "other"] (sp_completing CS) := by
  have nd := sc_Space_completing.nd
  refine fnok F sc_Space_completing (fun vs H Q E h => ?_) (fun cdv A outer s H vs Q E hr h => ?_)
  · obtain ⟨p, q, b, rs, os, rfl, _⟩ := h
    rfl
  · obtain ⟨p, q, b, rs, os, rfl, hp, hq, w1, w2, k⟩ := h
    refine ⟨_, (pss_cons (ps_expr (pe_d D_need_space hr (pa_cons (pv 1) (pa_cons (pe_fld (pv 0) rfl) pa_nil))))
  (pss_cons (ps_par (i := 2) (j := 3) (by rfl) nd rfl rfl (by decide) rfl rfl (pa_cons (pe_callTy call_listQ (by rfl) T.list (by decide +kernel) (pa_cons (pe_fld (pv 0) rfl) pa_nil)) (pa_cons (pe_lst pa_nil) pa_nil)) (by rfl))
  (pss_cons (ps_for PassesOwn.never rfl (pi_seq (pe_fld (pv 1) rfl)) (pg_name (i := 4) nd rfl (Or.inl rfl))
    (pss_one (ps_if (pt_cmpR op_ne (pe_d D_cleared hr (pa_cons (pv 2) (pa_cons (pv 4) pa_nil))) pe_int (nomark _))
      (pss_cons (ps_set (i := 2) nd rfl (Or.inl rfl) (pe_d D_grown hr (pa_cons (pv 2) (pa_cons (pv 4) pa_nil))))
      (pss_one (ps_expr (pe_bm PySem.F.plainAttrs_list PySem.F.slot_list_append PySem.F.type_list_append mt_append (pv 3) (pa_cons (pv 4) pa_nil)))))
      pss_nil)))
  (pss_one (ps_ret (pe_callTy call_tupleQ (by rfl) T.tuple (by decide +kernel) (pa_cons (pv 3) pa_nil))))))), ?_⟩
    have l1 := w1.len
    have l2 := w2.len
    obtain ⟨dx, t, h1, h2⟩ := hp
    have hq' := hq
    obtain ⟨dy, u, g1, g2⟩ := hq
    refine ⟨_, rfl, _, rfl, p, CS, dx, _, vN b, rfl, h1, TS.cl, TS.nb, rfl, q, b, os, rfl, hq', ?_⟩
    refine ⟨_, rfl, p, CS, dx, _, .ref t, rfl, h1, TS.cl, TS.nr, rfl, t, _, rfl, .inr h2, fun a0 ha0 => ?_⟩
    refine ⟨(by decide), fun c0 hc0 => ⟨_, _, rfl, ?_⟩⟩
    have na : a0 ≠ c0 := ne_of_none upd_same hc0
    have hc0' : H c0 = none := same_free (same_new0 ha0) hc0
    generalize hHB : upd (upd H a0 (.lst (rs.map vN))) c0 (.lst []) = HB at *
    have s0 : Same H HB := by rw [← hHB]; exact same_new (same_new0 ha0) hc0
    have hB1 : HB a0 = some (.lst (rs.map vN)) := by rw [← hHB]; exact upd_new hc0 upd_same
    have hB2 : HB c0 = some (.lst []) := by rw [← hHB]; exact upd_same
    refine ⟨_, rfl, q, CS, dy, _, .ref u, rfl, s0 _ _ g1, TS.cl, TS.nr, rfl, for_sq2 (K := K) (Tq.t (s0 _ _ g2)) (fun i σ H2 => ∃ v a, σ = [some (.ref p), some (.ref q), some (.ref a), some (.ref c0), v] ∧ (∀ c o, H c = some o → H2 c = some o) ∧ H a = none ∧ a ≠ c0 ∧ H2 a = some (.lst ((cms rs (os.take i)).1.map vN)) ∧ H2 c0 = some (.lst ((cms rs (os.take i)).2.map vN)))
      ⟨none, a0, rfl, s0, ha0, na, hB1, hB2⟩ (fun i σ H2 hp => ?_) ?_ ?_⟩
    · obtain ⟨_, _, _, s2, _⟩ := hp
      exact stay_of g2 s0 s2
    · rintro i y σ H2 hy ⟨v, a, rfl, s2, han, nac, h3, h4⟩
      obtain ⟨r, hr', rfl⟩ := map_get hy
      have R := cms_rws w1.r (os.take i)
      have L := cms_len rs (os.take i)
      have tl : (os.take i).length ≤ 400000 := Nat.le_trans (by rw [List.length_take]; omega) l2
      refine ⟨_, rfl, _, rfl, a, _, r, rfl, .inl h3, R.nz, rfl, _, rfl, ?_⟩
      rw [dec_ne0, take_succ hr', cms_snoc]
      refine br (fun e => ?_) (fun e => ?_)
      · have e0 : clr (cms rs (os.take i)).1 r ≠ 0 := by simpa using e
        rw [if_neg e0]
        refine ⟨_, rfl, _, rfl, a, _, r, rfl, .inl h3, R.nz, (by omega), fun H3 a1 s3 ha1 h5 => ?_⟩
        have na1 : a1 ≠ c0 := (ne_of_none h4 ha1).symm
        refine ⟨_, rfl, .inl ⟨rfl, _, SqL.of (s3 _ _ h4)⟩, _, rfl, c0, _, _, rfl, rfl, s3 _ _ h4, (by rw [List.length_map]; exact size6 (by omega)), ?_⟩
        refine ⟨_, a1, rfl, fun c o hc => upd_put (s3 _ _ (s2 _ _ hc)) (ne_of_none hc hc0'), ?_, na1, upd_put h5 na1, ?_⟩
        · cases z : H a1 with
          | none => rfl
          | some o => rw [s2 _ _ z] at ha1; cases ha1
        · rw [upd_same, List.map_append]
          rfl
      · have e0 : clr (cms rs (os.take i)).1 r = 0 := by simpa using e
        rw [if_pos e0]
        exact ⟨_, a, rfl, s2, han, nac, h3, h4⟩
    · rintro σ H2 ⟨v, a, rfl, s2, han, nac, h3, h4⟩
      rw [List.length_map, List.take_length] at h4
      refine ⟨_, rfl, c0, _, rfl, h4, fun t' ht' => ?_⟩
      refine k _ _ (same_new s2 ht') ?_ upd_same
      cases z : H t' with
      | none => rfl
      | some o => rw [s2 _ _ z] at ht'; cases ht'
include TR in
theorem ok_slot_space (F : FnP K "slot_space" "Spread.slot_space" s_Spread_slot_space f fd) (K_Space : Kn P w K mg base 4 CS "Space" ["self", "bits", "words"] (sp_Space CS)) : FnOk P w K mg base CX0 6 f fd ["self"] (sp_slot_space CS CR) := by
  have nd := sc_Spread_slot_space.nd
  refine fnok F sc_Spread_slot_space (fun vs H Q E h => ?_) (fun cdv A outer s H vs Q E hr h => ?_)
  · obtain ⟨p, b, ss, ls, rfl, _⟩ := h
    rfl
  · obtain ⟨p, b, ss, ls, rfl, ⟨dx, t, u, h1, h2, h3⟩, wf, k⟩ := h
    refine ⟨_, (pss_one (ps_ret (pe_k K_Space hr (pa_cons (pe_fld (pv 0) rfl) (pa_cons (pe_fld (pv 0) rfl) pa_nil))))), ?_⟩
    refine ⟨_, rfl, p, CR, dx, _, vN b, rfl, h1, TR.cl, TR.nb, rfl, _, rfl, p, CR, dx, _, .ref t, rfl, h1, TR.cl, TR.ns, rfl, ?_⟩
    have := wf.sl
    exact mk_Space (.inr h2) wf.s (by omega) (fun H' p s2 hp hA => k _ _ s2 hp hA)
end
end LaneX
set_option Elab.async false
set_option linter.all false
set_option maxRecDepth 100000
set_option maxHeartbeats 4000000
namespace LaneX
open PySem PySem.Spec PyProof.Rows L2
/-! ### draws -/
abbrev ka : Str := "cells"
abbrev kb : Str := "stop"
abbrev kc : Str := "left"
theorem kN : PenN ka kb kc := ⟨by decide +kernel, by decide +kernel, by decide +kernel⟩
abbrev Pn (H : Hp) (p lc : Addr) (N : Nat) : Prop := PenAt ka kb kc H p lc N
/-- the most draws -/
abbrev TOP : Nat := 1099511627776
theorem md_lt {i : Int} {m : Nat} (h : 0 < m) (hm : m ≤ 2 ^ 64) : (i % (m : Int)).toNat < 2 ^ 64 := by
  have := Int.emod_lt_of_pos i (b := (m : Int)) (by omega)
  have h2 := Int.emod_nonneg i (b := (m : Int)) (by omega)
  have h3 : m ≤ 18446744073709551616 := hm
  show _ < 18446744073709551616
  omega
theorem mn_lt {i m : Nat} (h : 0 < m) (hm : m ≤ 2 ^ 64) : i % m < 2 ^ 64 := Nat.lt_of_lt_of_le (Nat.mod_lt _ h) hm
def sp_draw : Sp := fun vs H Q _ => ∃ (p lc : Addr) (N sp : Nat), vs = [.ref p, vN sp] ∧ Pn H p lc N ∧ 0 < sp ∧ sp < 1073741824 ∧ N + 1 ≤ TOP ∧ ∀ H' r, r < sp → Pn H' p lc (N + 1) → Kp H H' → Q (vN r) H'
section
variable {P : Program} {w : World} {K : PySem.W.Frag} {mg : Str → Option Value} {base : Heap} {f : Addr} {fd : FuncData} (T : Bt mg)
include T
theorem ok_draw (F : FnP K "_law_draw" "_law_draw" s_drawL f fd) : FnOk P w K mg base CX0 1 f fd ["_law_pen", "_law_span"] sp_draw := by
  have nd := sc_drawL.nd
  refine fnok F sc_drawL (fun vs H Q E h => ?_) (fun cdv A outer s H vs Q E hr h => ?_)
  · obtain ⟨p, lc, N, sp, rfl, _⟩ := h
    rfl
  · obtain ⟨p, lc, N, sp, rfl, ⟨cs, n, m, hp, hlc, hn⟩, hs0, hs1, hN, k⟩ := h
    have hu := hu_of hr
    refine ⟨_, (pss_cons (ps_if (pt_cmpR op_gt (pe_dget hu (pv 0) pe_str (fun _ _ => rfl)) pe_int (nomark _))
    (pss_cons (ps_set (i := 2) nd rfl (Or.inl rfl) (pe_op on_mod (pe_callTy call_intQ (by rfl) T.int (by decide +kernel) (pa_cons (pe_dget hu (pv 0) pe_str (fun _ _ => rfl)) pa_nil)) (pv 1)))
    (pss_cons (ps_dput hu (pv 0) pe_str (pe_op on_fdiv (pe_dget hu (pv 0) pe_str (fun _ _ => rfl)) (pv 1)) rfl)
    (pss_one (ps_ret (pv 2)))))
    pss_nil)
  (pss_cons (ps_set (i := 3) nd rfl (Or.inl rfl) (pe_dget hu (pv 0) pe_str (fun _ _ => rfl)))
  (pss_cons (ps_dput hu (pv 0) pe_str (pe_op on_add (pv 3) pe_int) rfl)
  (pss_cons (ps_set (i := 4) nd rfl (Or.inl rfl) (pe_op on_add (pe_op on_mul pe_int (pv 3)) pe_int))
  (pss_cons (ps_if (pt_cmpR (op_neL hr.units) (pe_dget hu (pv 0) pe_str (fun _ _ => rfl)) (pe_lst pa_nil) (nomark _))
    (pss_one (ps_set (i := 4) nd rfl (Or.inl rfl) (pe_ix ix_q (pe_dget hu (pv 0) pe_str (fun _ _ => rfl)) (pe_op on_mod (pe_callTy call_intQ (by rfl) T.int (by decide +kernel) (pa_cons (pv 3) pa_nil)) (pe_callB call_lenQ (by rfl) T.len PySem.boot_len (pa_cons (pe_dget hu (pv 0) pe_str (fun _ _ => rfl)) pa_nil))) (fun _ _ => rfl))))
    pss_nil)
  (pss_cons (ps_if (PW.pt (pw_and (pt_cmpR op_lt (pv 3) (pe_callB call_lenQ (by rfl) T.len PySem.boot_len (pa_cons (pe_dget hu (pv 0) pe_str (fun _ _ => rfl)) pa_nil)) (nomark _)) (pw_and1 (pt_cmpR op_ge (pe_callB call_absN (by rfl) T.abs (by decide +kernel) (pa_cons (pv 4) pa_nil)) (pe_op on_pow pe_int pe_int) (nomark _)))))
    (pss_cons (ps_dput hu (pv 0) pe_str (pe_op on_fdiv (pe_op on_sub (pe_callB call_absN (by rfl) T.abs (by decide +kernel) (pa_cons (pv 4) pa_nil)) (pe_op on_pow pe_int pe_int)) (pv 1)) rfl)
    (pss_one (ps_ret (pe_op on_mod (pe_callTy call_intQ (by rfl) T.int (by decide +kernel) (pa_cons (pe_op on_sub (pe_callB call_absN (by rfl) T.abs (by decide +kernel) (pa_cons (pv 4) pa_nil)) (pe_op on_pow pe_int pe_int)) pa_nil)) (pv 1)))))
    pss_nil)
  (pss_cons (ps_set (i := 5) nd rfl (Or.inl rfl) (pe_op on_add (pe_op on_mul (pe_op on_modI (pe_callTy call_intQ (by rfl) T.int (by decide +kernel) (pa_cons (pv 4) pa_nil)) pe_int) pe_int) (pe_op on_mul (pe_op on_mul pe_int (pv 3)) (pv 3))))
  (pss_cons (ps_set (i := 5) nd rfl (Or.inl rfl) (pe_op on_mod (pe_callTy call_intQ (by rfl) T.int (by decide +kernel) (pa_cons (pe_op on_add (pe_op on_add (pv 5) (pe_op on_mul pe_int (pv 3))) pe_int) pa_nil)) pe_int))
  (pss_cons (ps_set (i := 5) nd rfl (Or.inl rfl) (pe_op on_mod (pe_callTy call_intQ (by rfl) T.int (by decide +kernel) (pa_cons (pe_op on_add (pe_op on_add (pe_op on_add (pe_op on_mul (pv 5) (pv 5)) (pe_op on_mul pe_int (pv 5))) (pe_op on_mul pe_int (pv 3))) pe_int) pa_nil)) pe_int))
  (pss_cons (ps_set (i := 5) nd rfl (Or.inl rfl) (pe_op on_mod (pe_callTy call_intQ (by rfl) T.int (by decide +kernel) (pa_cons (pe_op on_add (pe_op on_add (pe_op on_mul (pv 5) (pv 5)) (pe_op on_mul pe_int (pv 5))) (pv 3)) pa_nil)) pe_int))
  (pss_one (ps_ret (pe_op on_mod (pe_callTy call_intQ (by rfl) T.int (by decide +kernel) (pa_cons (pe_op on_fdiv (pe_op on_mod (pe_callTy call_intQ (by rfl) T.int (by decide +kernel) (pa_cons (pe_op on_mul (pv 5) (pe_op on_add (pv 5) pe_int)) pa_nil)) pe_int) pe_int) pa_nil)) (pv 1)))))))))))))), ?_⟩
    have gA : ∀ (H0 : Hp) (n0 m0 : Nat), H0 p = some (.dK (pen ka kb kc lc n0 m0)) → DGet H0 p (.str ka) (some (.ref lc)) := fun H0 n0 m0 h => by have z := DGet.k (k := .inr ka) h; rw [pen_a] at z; exact z
    have gB : ∀ (H0 : Hp) (n0 m0 : Nat), H0 p = some (.dK (pen ka kb kc lc n0 m0)) → DGet H0 p (.str kb) (some (vN n0)) := fun H0 n0 m0 h => by have z := DGet.k (k := .inr kb) h; rw [pen_b kN] at z; exact z
    have gC : ∀ (H0 : Hp) (n0 m0 : Nat), H0 p = some (.dK (pen ka kb kc lc n0 m0)) → DGet H0 p (.str kc) (some (vN m0)) := fun H0 n0 m0 h => by have z := DGet.k (k := .inr kc) h; rw [pen_c kN] at z; exact z
    have pB : ∀ (H0 : Hp) (n0 m0 k0 : Nat), H0 p = some (.dK (pen ka kb kc lc n0 m0)) → DPut H0 p (.str kb) (vN k0) (upd H0 p (.dK (pen ka kb kc lc k0 m0))) := fun H0 n0 m0 k0 h => by have z := DPut.k (k := .inr kb) (v := vN k0) h (pen_len n0 m0); rw [pen_pb kN] at z; exact z
    have pC : ∀ (H0 : Hp) (n0 m0 k0 : Nat), H0 p = some (.dK (pen ka kb kc lc n0 m0)) → DPut H0 p (.str kc) (vN k0) (upd H0 p (.dK (pen ka kb kc lc n0 k0))) := fun H0 n0 m0 k0 h => by have z := DPut.k (k := .inr kc) (v := vN k0) h (pen_len n0 m0); rw [pen_pc kN] at z; exact z
    have hlp : lc ≠ p := ne_of hlc hp (by intro z; cases z)
    have kpU : ∀ (H0 : Hp) (n0 m0 n1 m1 : Nat), H0 p = some (.dK (pen ka kb kc lc n0 m0)) → Kp H0 (upd H0 p (.dK (pen ka kb kc lc n1 m1))) := fun H0 n0 m0 n1 m1 h => by
      refine ⟨fun b o hb ho => ?_, fun b hb => upd_free hb⟩
      refine (upd_ne fun z => ?_).trans hb
      rw [z, h] at hb
      cases hb
      cases ho
    refine ⟨_, rfl, p, vN m, rfl, gC _ _ _ hp, _, _, rfl, rfl, _, rfl, br (fun e => ?_) (fun e => ?_)⟩
    · -- a digit is left
      refine ⟨_, rfl, p, vN m, rfl, gC _ _ _ hp, _, rfl, _, rfl, m, sp, rfl, rfl, hs0, ?_⟩
      refine ⟨_, rfl, p, vN m, rfl, gC _ _ _ hp, _, rfl, m, sp, rfl, rfl, ⟨hs0, hs1⟩, _, rfl, p, _, rfl, pC _ _ _ _ hp, ?_⟩
      exact ⟨_, rfl, k _ _ (Nat.mod_lt _ hs0) ⟨cs, n, m / sp, upd_same, (upd_ne hlp).trans hlc, by omega⟩ (kpU _ _ _ _ _ hp)⟩
    · have hN' : N + 1 ≤ 1099511627776 := hN
      refine ⟨_, rfl, p, vN n, rfl, gB _ _ _ hp, ?_⟩
      refine ⟨_, rfl, n, 1, rfl, rfl, _, rfl, p, _, rfl, pB _ _ _ _ hp, ?_⟩
      refine ⟨_, rfl, 83, n, rfl, rfl, (by decide), 83 * n, 59, rfl, rfl, ?_⟩
      generalize hH1 : upd H p (.dK (pen ka kb kc lc (n + 1) m)) = H1
      have kp1 : Kp H H1 := by rw [← hH1]; exact kpU _ _ _ _ _ hp
      have hp1 : H1 p = some (.dK (pen ka kb kc lc (n + 1) m)) := by rw [← hH1]; exact upd_same
      have hl1 : H1 lc = some (.lst (cs.map V.int)) := kp1 _ _ hlc rfl
      refine ⟨_, rfl, p, .ref lc, rfl, gA _ _ _ hp1, (by decide), fun q hq => ?_⟩
      have hp2 : upd H1 q (.lst []) p = some (.dK (pen ka kb kc lc (n + 1) m)) := upd_new hq hp1
      have hl2 : upd H1 q (.lst []) lc = some (.lst (cs.map V.int)) := upd_new hq hl1
      have kp2 : Kp H (upd H1 q (.lst [])) := kp_new kp1 hq
      refine ⟨lc, q, cs, [], rfl, rfl, hl2, upd_same, _, rfl, br (fun e1 => ?_) (fun e1 => ?_)⟩
      · have hne : 0 < cs.length := List.length_pos_iff.mpr (by simpa using e1)
        have hix : n % cs.length < cs.length := Nat.mod_lt _ hne
        refine ⟨_, rfl, p, .ref lc, rfl, gA _ _ _ hp2, _, rfl, _, rfl, _, rfl, p, .ref lc, rfl, gA _ _ _ hp2, lc, _, rfl, .inl hl2, n, (cs.map V.int).length, rfl, rfl, (by rw [List.length_map]; exact hne), lc, _, n % (cs.map V.int).length, .int cs[n % cs.length], rfl, rfl, .inl hl2, ?_, ?_⟩
        · rw [List.length_map, List.getElem?_map, List.getElem?_eq_getElem hix]
          rfl
        · refine ⟨_, rfl, _, rfl, p, .ref lc, rfl, gA _ _ _ hp2, lc, _, rfl, .inl hl2, _, _, rfl, rfl, _, rfl, br (fun e2 => ?_) (fun e2 => ?_)⟩
          · refine ⟨_, rfl, _, rfl, 10, 18, rfl, rfl, ⟨by decide, by decide⟩, _, _, rfl, rfl, _, rfl, br (fun e3 => ?_) (fun e3 => ?_)⟩
            · have e4 := of_decide_eq_true e3
              have e5 : 10 ^ 18 ≤ Int.natAbs _ := Int.ofNat_le.mp e4
              refine ⟨_, rfl, _, rfl, 10, 18, rfl, rfl, ⟨by decide, by decide⟩, _, _, rfl, rfl, e5, _, rfl, _, sp, rfl, rfl, ⟨hs0, hs1⟩, _, rfl, p, _, rfl, pC _ _ _ _ hp2, ?_⟩
              refine ⟨_, rfl, _, rfl, 10, 18, rfl, rfl, ⟨by decide, by decide⟩, _, _, rfl, rfl, e5, _, rfl, _, rfl, _, sp, rfl, rfl, hs0, ?_⟩
              exact k _ _ (Nat.mod_lt _ hs0) ⟨cs, _, _, upd_same, (upd_ne hlp).trans hl2, by omega⟩ (kp2.trans (kpU _ _ _ _ _ hp2))
            · refine ⟨_, rfl, _, rfl, _, 2147483549, rfl, rfl, (by decide), _, 48611, rfl, rfl, md_lt (by decide) (by decide), _, rfl, 30029, n, rfl, rfl, (by decide), _, rfl, _, n, rfl, rfl, (by show 30029 * n < 18446744073709551616; omega), _, _, rfl, rfl, ?_⟩
              refine ⟨_, rfl, _, rfl, 701, n, rfl, rfl, (by decide), _, _, rfl, rfl, _, 83, rfl, rfl, _, rfl, _, 2147483543, rfl, rfl, (by decide), ?_⟩
              refine ⟨_, rfl, _, rfl, _, _, rfl, rfl, mn_lt (by decide) (by decide), _, rfl, 40111, _, rfl, rfl, (by decide), _, _, rfl, rfl, _, rfl, 73, n, rfl, rfl, (by decide), _, _, rfl, rfl, _, 19, rfl, rfl, _, rfl, _, 2147483497, rfl, rfl, (by decide), ?_⟩
              refine ⟨_, rfl, _, rfl, _, _, rfl, rfl, mn_lt (by decide) (by decide), _, rfl, 31013, _, rfl, rfl, (by decide), _, _, rfl, rfl, _, rfl, _, n, rfl, rfl, _, rfl, _, 2147483489, rfl, rfl, (by decide), ?_⟩
              refine ⟨_, rfl, _, rfl, _, 44017, rfl, rfl, _, _, rfl, rfl, mn_lt (by decide) (by decide), _, rfl, _, 2147483477, rfl, rfl, (by decide), _, 64, rfl, rfl, ⟨by decide, by decide⟩, _, rfl, _, rfl, _, sp, rfl, rfl, hs0, ?_⟩
              exact k _ _ (Nat.mod_lt _ hs0) ⟨cs, n + 1, m, hp2, hl2, by omega⟩ kp2
          · refine ⟨_, rfl, _, rfl, _, 2147483549, rfl, rfl, (by decide), _, 48611, rfl, rfl, md_lt (by decide) (by decide), _, rfl, 30029, n, rfl, rfl, (by decide), _, rfl, _, n, rfl, rfl, (by show 30029 * n < 18446744073709551616; omega), _, _, rfl, rfl, ?_⟩
            refine ⟨_, rfl, _, rfl, 701, n, rfl, rfl, (by decide), _, _, rfl, rfl, _, 83, rfl, rfl, _, rfl, _, 2147483543, rfl, rfl, (by decide), ?_⟩
            refine ⟨_, rfl, _, rfl, _, _, rfl, rfl, mn_lt (by decide) (by decide), _, rfl, 40111, _, rfl, rfl, (by decide), _, _, rfl, rfl, _, rfl, 73, n, rfl, rfl, (by decide), _, _, rfl, rfl, _, 19, rfl, rfl, _, rfl, _, 2147483497, rfl, rfl, (by decide), ?_⟩
            refine ⟨_, rfl, _, rfl, _, _, rfl, rfl, mn_lt (by decide) (by decide), _, rfl, 31013, _, rfl, rfl, (by decide), _, _, rfl, rfl, _, rfl, _, n, rfl, rfl, _, rfl, _, 2147483489, rfl, rfl, (by decide), ?_⟩
            refine ⟨_, rfl, _, rfl, _, 44017, rfl, rfl, _, _, rfl, rfl, mn_lt (by decide) (by decide), _, rfl, _, 2147483477, rfl, rfl, (by decide), _, 64, rfl, rfl, ⟨by decide, by decide⟩, _, rfl, _, rfl, _, sp, rfl, rfl, hs0, ?_⟩
            exact k _ _ (Nat.mod_lt _ hs0) ⟨cs, n + 1, m, hp2, hl2, by omega⟩ kp2
      · refine ⟨_, rfl, _, rfl, p, .ref lc, rfl, gA _ _ _ hp2, lc, _, rfl, .inl hl2, _, _, rfl, rfl, _, rfl, br (fun e2 => ?_) (fun e2 => ?_)⟩
        · refine ⟨_, rfl, _, rfl, 10, 18, rfl, rfl, ⟨by decide, by decide⟩, _, _, rfl, rfl, _, rfl, br (fun e3 => ?_) (fun e3 => ?_)⟩
          · have e4 := of_decide_eq_true e3
            have e5 : 10 ^ 18 ≤ Int.natAbs _ := Int.ofNat_le.mp e4
            refine ⟨_, rfl, _, rfl, 10, 18, rfl, rfl, ⟨by decide, by decide⟩, _, _, rfl, rfl, e5, _, rfl, _, sp, rfl, rfl, ⟨hs0, hs1⟩, _, rfl, p, _, rfl, pC _ _ _ _ hp2, ?_⟩
            refine ⟨_, rfl, _, rfl, 10, 18, rfl, rfl, ⟨by decide, by decide⟩, _, _, rfl, rfl, e5, _, rfl, _, rfl, _, sp, rfl, rfl, hs0, ?_⟩
            exact k _ _ (Nat.mod_lt _ hs0) ⟨cs, _, _, upd_same, (upd_ne hlp).trans hl2, by omega⟩ (kp2.trans (kpU _ _ _ _ _ hp2))
          · refine ⟨_, rfl, _, rfl, _, 2147483549, rfl, rfl, (by decide), _, 48611, rfl, rfl, md_lt (by decide) (by decide), _, rfl, 30029, n, rfl, rfl, (by decide), _, rfl, _, n, rfl, rfl, (by show 30029 * n < 18446744073709551616; omega), _, _, rfl, rfl, ?_⟩
            refine ⟨_, rfl, _, rfl, 701, n, rfl, rfl, (by decide), _, _, rfl, rfl, _, 83, rfl, rfl, _, rfl, _, 2147483543, rfl, rfl, (by decide), ?_⟩
            refine ⟨_, rfl, _, rfl, _, _, rfl, rfl, mn_lt (by decide) (by decide), _, rfl, 40111, _, rfl, rfl, (by decide), _, _, rfl, rfl, _, rfl, 73, n, rfl, rfl, (by decide), _, _, rfl, rfl, _, 19, rfl, rfl, _, rfl, _, 2147483497, rfl, rfl, (by decide), ?_⟩
            refine ⟨_, rfl, _, rfl, _, _, rfl, rfl, mn_lt (by decide) (by decide), _, rfl, 31013, _, rfl, rfl, (by decide), _, _, rfl, rfl, _, rfl, _, n, rfl, rfl, _, rfl, _, 2147483489, rfl, rfl, (by decide), ?_⟩
            refine ⟨_, rfl, _, rfl, _, 44017, rfl, rfl, _, _, rfl, rfl, mn_lt (by decide) (by decide), _, rfl, _, 2147483477, rfl, rfl, (by decide), _, 64, rfl, rfl, ⟨by decide, by decide⟩, _, rfl, _, rfl, _, sp, rfl, rfl, hs0, ?_⟩
            exact k _ _ (Nat.mod_lt _ hs0) ⟨cs, n + 1, m, hp2, hl2, by omega⟩ kp2
        · refine ⟨_, rfl, _, rfl, _, 2147483549, rfl, rfl, (by decide), _, 48611, rfl, rfl, md_lt (by decide) (by decide), _, rfl, 30029, n, rfl, rfl, (by decide), _, rfl, _, n, rfl, rfl, (by show 30029 * n < 18446744073709551616; omega), _, _, rfl, rfl, ?_⟩
          refine ⟨_, rfl, _, rfl, 701, n, rfl, rfl, (by decide), _, _, rfl, rfl, _, 83, rfl, rfl, _, rfl, _, 2147483543, rfl, rfl, (by decide), ?_⟩
          refine ⟨_, rfl, _, rfl, _, _, rfl, rfl, mn_lt (by decide) (by decide), _, rfl, 40111, _, rfl, rfl, (by decide), _, _, rfl, rfl, _, rfl, 73, n, rfl, rfl, (by decide), _, _, rfl, rfl, _, 19, rfl, rfl, _, rfl, _, 2147483497, rfl, rfl, (by decide), ?_⟩
          refine ⟨_, rfl, _, rfl, _, _, rfl, rfl, mn_lt (by decide) (by decide), _, rfl, 31013, _, rfl, rfl, (by decide), _, _, rfl, rfl, _, rfl, _, n, rfl, rfl, _, rfl, _, 2147483489, rfl, rfl, (by decide), ?_⟩
          refine ⟨_, rfl, _, rfl, _, 44017, rfl, rfl, _, _, rfl, rfl, mn_lt (by decide) (by decide), _, rfl, _, 2147483477, rfl, rfl, (by decide), _, 64, rfl, rfl, ⟨by decide, by decide⟩, _, rfl, _, rfl, _, sp, rfl, rfl, hs0, ?_⟩
          exact k _ _ (Nat.mod_lt _ hs0) ⟨cs, n + 1, m, hp2, hl2, by omega⟩ kp2
end
end LaneX
set_option Elab.async false
set_option linter.all false
set_option maxRecDepth 100000
set_option maxHeartbeats 4000000
namespace LaneX
open PySem PySem.Spec PyProof.Rows L2
def sp_begin (K : PySem.W.Frag) : Sp := fun vs H Q _ => ∃ (a : Addr) (ns : List Int), vs = [.ref a] ∧ SqL K H a (ns.map V.int) ∧ ∀ H' p lc, Same H H' → H p = none → Pn H' p lc 0 → Q (.ref p) H'
/-- one of some values -/
def sp_pick : Sp := fun vs H Q _ => ∃ (p lc a : Addr) (N : Nat) (xs : List V), vs = [.ref p, .ref a] ∧ Pn H p lc N ∧ Tq H a xs ∧ 0 < xs.length ∧ xs.length ≤ 1000000 ∧ N + 1 ≤ TOP ∧ ∀ H' v, v ∈ xs → Pn H' p lc (N + 1) → Kp H H' → Q v H'
def sp_word : Sp := fun vs H Q _ => ∃ (p lc : Addr) (N b : Nat), vs = [.ref p, vN b] ∧ Pn H p lc N ∧ b ≤ 1000 ∧ N + 1000 ≤ TOP ∧ ∀ H' x, x < 2 ^ b → Pn H' p lc (N + 1000) → Kp H H' → Q (vN x) H'
def sp_mixed : Sp := fun vs H Q _ => ∃ (p lc a : Addr) (N : Nat) (xs : List Nat), vs = [.ref p, .ref a] ∧ Pn H p lc N ∧ Tq H a (xs.map vN) ∧ xs.length ≤ 1000 ∧ N + 1000 ≤ TOP ∧ ∀ (H' : Hp) (q : Addr) (ys : List Nat), ys.Perm xs → H q = none → H' q = some (.lst (ys.map vN)) → Pn H' p lc (N + 1000) → Kp H H' → Q (.ref q) H'
def sp_left : Sp := fun vs H Q _ => ∃ (a : Addr) (rows : List Nat) (x : Nat), vs = [.ref a, vN x] ∧ Tq H a (rows.map vN) ∧ (∀ r ∈ rows, r ≠ 0) ∧ Q (vN (lft rows x)) H
def sp_basis : Sp := fun vs H Q _ => ∃ (a : Addr) (ws : List Nat), vs = [.ref a] ∧ Tq H a (ws.map vN) ∧ ws.length ≤ 1000000 ∧ ∀ H' q, Same H H' → H q = none → H' q = some (.lst ((bas ws).map vN)) → Q (.ref q) H'
def sp_size : Sp := fun vs H Q _ => ∃ (a : Addr) (ws : List Nat), vs = [.ref a] ∧ Tq H a (ws.map vN) ∧ ws.length ≤ 1000000 ∧ ∀ H', Same H H' → Q (vN (rk ws)) H'
def sp_image : Sp := fun vs H Q _ => ∃ (a : Addr) (cs : List Nat) (x : Nat), vs = [.ref a, vN x] ∧ Tq H a (cs.map vN) ∧ cs.length ≤ 1000000 ∧ Q (vN (img cs x)) H
def cutI (xs : List Int) (lo hi : Option Int) : List Int := (xs.drop (HT.sIx xs.length 0 lo)).take (HT.sIx xs.length xs.length hi - HT.sIx xs.length 0 lo)
theorem cut_map (xs : List Int) (lo hi : Option Int) : cutV (xs.map V.int) lo hi = (cutI xs lo hi).map V.int := by
  unfold cutV cutI
  rw [List.length_map, List.map_take, List.map_drop]
theorem seq_nat {r n : Nat} (h : r < n) : seqIndex? (r : Int) n = some r := by
  unfold seqIndex?
  have h1 : ¬ (r : Int) < 0 := by omega
  simp only [h1, if_false]
  have h2 : (decide (0 ≤ (r : Int)) && decide ((r : Int) < (n : Int))) = true := by
    rw [decide_eq_true (by omega), decide_eq_true (by omega)]
    rfl
  rw [if_pos h2]
  simp
theorem eraseIdx_map {α β : Type} (g : α → β) : ∀ (l : List α) (r : Nat), (l.map g).eraseIdx r = (l.eraseIdx r).map g
  | [], _ => rfl
  | _ :: _, 0 => rfl
  | a :: l, r + 1 => by
    show g a :: (l.map g).eraseIdx r = g a :: (l.eraseIdx r).map g
    rw [eraseIdx_map g l r]
theorem perm_erase {α : Type} : ∀ {l : List α} {r : Nat} (h : r < l.length), (l[r] :: l.eraseIdx r).Perm l
  | [], r, h => by cases h
  | a :: l, 0, _ => .refl _
  | a :: l, r + 1, h => by
    have := perm_erase (l := l) (r := r) (by simpa using h)
    exact (List.Perm.swap _ _ _).trans (this.cons a)
section
variable {P : Program} {w : World} {K : PySem.W.Frag} {mg : Str → Option Value} {base : Heap} {f : Addr} {fd : FuncData} (T : Bt mg)
include T
theorem ok_begin (F : FnP K "_law_begin" "_law_begin" s_beginL f fd) : FnOk P w K mg base CX0 1 f fd ["_law_script"] (sp_begin K) := by
  have nd := sc_beginL.nd
  refine fnok F sc_beginL (fun vs H Q E h => ?_) (fun cdv A outer s H vs Q E hr h => ?_)
  · obtain ⟨a, ns, rfl, _⟩ := h
    rfl
  · obtain ⟨a, ns, rfl, hS, k⟩ := h
    refine ⟨_, (pss_one (ps_ret (pe_disp (pps_cons pe_str (pe_callTy call_listQ (by rfl) T.list (by decide +kernel) (pa_cons (pe_slice sl_list (pv 0) po_none (po_some pe_int)) pa_nil)) (pps_cons pe_str pe_int (pps_cons pe_str pe_int pps_nil))) (by rfl) (by rfl) (fun z => by cases z) (by decide)))), ?_⟩
    intro p hp
    refine ⟨_, rfl, _, rfl, a, _, rfl, Same.seq (same_new0 hp) hS, fun l1 hl1 => ?_⟩
    refine ⟨l1, _, rfl, .inl upd_same, fun l2 hl2 => ?_⟩
    have np1 : p ≠ l1 := ne_of_none upd_same hl1
    have np2 : p ≠ l2 := ne_of_none (upd_put upd_same np1) hl2
    refine ⟨upd_put (upd_put upd_same np1) np2, [(.inr ka, .ref l2), (.inr kb, .int 0), (.inr kc, .int 0)], rfl, (by show 3 ≤ 15; decide), ?_⟩
    have em : mergeK [] [((.inr ka : Key), V.ref l2), (.inr kb, .int 0), (.inr kc, .int 0)] = pen ka kb kc l2 0 0 := by
      unfold mergeK pen putK
      simp [kN.ab, kN.ac, kN.bc]
    rw [em]
    refine k _ _ l2 (fun b o hb => ?_) hp ⟨cutI ns none (some 63), 0, 0, upd_same, ?_, Nat.le_refl _⟩
    · have hb1 := upd_new (o := .dK []) hp hb
      have hb2 := upd_new (o := .lst (cutV (ns.map V.int) none (some 63))) hl1 hb1
      have hb3 := upd_new (o := .lst (cutV (ns.map V.int) none (some 63))) hl2 hb2
      exact upd_put hb3 (ne_of_none hb hp)
    · rw [← cut_map]
      exact upd_put upd_same np2.symm
theorem ok_pick (F : FnP K "_law_pick" "_law_pick" s_pickL f fd) (D_drawL : Dn P w K mg base 1 "_law_draw" ["_law_pen", "_law_span"] sp_draw) : FnOk P w K mg base CX0 2 f fd ["_law_pen", "_law_some"] sp_pick := by
  have nd := sc_pickL.nd
  refine fnok F sc_pickL (fun vs H Q E h => ?_) (fun cdv A outer s H vs Q E hr h => ?_)
  · obtain ⟨p, lc, a, N, xs, rfl, _⟩ := h
    rfl
  · obtain ⟨p, lc, a, N, xs, rfl, hp, hS, h0, h1, hN, k⟩ := h
    refine ⟨_, (pss_one (ps_ret (pe_ix ix_q (pv 1) (pe_d D_drawL hr (pa_cons (pv 0) (pa_cons (pe_callB call_lenQ (by rfl) T.len PySem.boot_len (pa_cons (pv 1) pa_nil)) pa_nil))) (fun _ _ => rfl)))), ?_⟩
    refine ⟨_, rfl, _, rfl, _, rfl, a, xs, rfl, hS, p, lc, N, xs.length, rfl, hp, h0, (by omega), hN, fun H' r hr' hp' kp => ?_⟩
    exact ⟨a, xs, r, _, rfl, rfl, kp_tq kp hS, List.getElem?_eq_getElem hr', k _ _ (List.getElem_mem hr') hp' kp⟩
theorem ok_word (F : FnP K "_law_word" "_law_word" s_wordL f fd) (D_drawL : Dn P w K mg base 1 "_law_draw" ["_law_pen", "_law_span"] sp_draw) : FnOk P w K mg base CX0 2 f fd ["_law_pen", "_law_bits"] sp_word := by
  have nd := sc_wordL.nd
  refine fnok F sc_wordL (fun vs H Q E h => ?_) (fun cdv A outer s H vs Q E hr h => ?_)
  · obtain ⟨p, lc, N, b, rfl, _⟩ := h
    rfl
  · obtain ⟨p, lc, N, b, rfl, hp, hb, hN, k⟩ := h
    refine ⟨_, (pss_cons (ps_set (i := 2) nd rfl (Or.inl rfl) pe_int)
  (pss_cons (ps_for PassesOwn.never rfl (pi_range1 (by rfl) T.range (pa_cons (pv 1) pa_nil)) (pg_name (i := 3) nd rfl (Or.inl rfl))
    (pss_one (ps_set (i := 2) nd rfl (Or.inl rfl) (pe_op on_add (pe_op on_mul pe_int (pv 2)) (pe_d D_drawL hr (pa_cons (pv 0) (pa_cons pe_int pa_nil)))))))
  (pss_one (ps_ret (pv 2))))), ?_⟩
    have hN' : N + 1000 ≤ 1099511627776 := hN
    refine ⟨_, rfl, _, rfl, (by omega), (by omega), for_range (n := b) (fun i σ H2 => ∃ x v, σ = [some (.ref p), some (vN b), some (vN x), v] ∧ x < 2 ^ i ∧ Pn H2 p lc (N + i) ∧ Kp H H2) ⟨0, none, rfl, by decide, hp, Kp.refl H⟩ ?_ ?_⟩
    · rintro i σ H2 hi ⟨x, v, rfl, hx, hp2, kp2⟩
      refine ⟨_, rfl, 2, x, rfl, rfl, (by decide), _, rfl, p, lc, N + i, 2, rfl, hp2, (by decide), (by decide), (by show N + i + 1 ≤ 1099511627776; omega), fun H3 r hr3 hp3 kp3 => ?_⟩
      refine ⟨_, _, rfl, rfl, 2 * x + r, _, rfl, ?_, hp3, kp2.trans kp3⟩
      rw [Nat.pow_succ]
      omega
    · rintro σ H2 ⟨x, v, rfl, hx, hp2, kp2⟩
      exact ⟨_, rfl, k _ _ hx (hp2.mono (by omega)) kp2⟩
theorem ok_mixed (F : FnP K "_law_mixed" "_law_mixed" s_mixedL f fd) (D_drawL : Dn P w K mg base 1 "_law_draw" ["_law_pen", "_law_span"] sp_draw) : FnOk P w K mg base CX0 2 f fd ["_law_pen", "_law_some"] sp_mixed := by
  have nd := sc_mixedL.nd
  refine fnok F sc_mixedL (fun vs H Q E h => ?_) (fun cdv A outer s H vs Q E hr h => ?_)
  · obtain ⟨p, lc, a, N, xs, rfl, _⟩ := h
    rfl
  · obtain ⟨p, lc, a, N, xs, rfl, hp, hS, hl, hN, k⟩ := h
    refine ⟨_, (pss_cons (ps_par (i := 2) (j := 3) (by rfl) nd rfl rfl (by decide) rfl rfl (pa_cons (pe_callTy call_listQ (by rfl) T.list (by decide +kernel) (pa_cons (pv 1) pa_nil)) (pa_cons (pe_lst pa_nil) pa_nil)) (by rfl))
  (pss_cons (ps_for PassesOwn.never rfl (pi_range1 (by rfl) T.range (pa_cons (pe_callB call_lenQ (by rfl) T.len PySem.boot_len (pa_cons (pv 1) pa_nil)) pa_nil)) (pg_name (i := 4) nd rfl (Or.inl rfl))
    (pss_one (ps_expr (pe_bm PySem.F.plainAttrs_list PySem.F.slot_list_append PySem.F.type_list_append mt_append (pv 3) (pa_cons (pe_bm PySem.F.plainAttrs_list PySem.F.slot_list_pop PySem.F.type_list_pop mt_popAt (pv 2) (pa_cons (pe_d D_drawL hr (pa_cons (pv 0) (pa_cons (pe_callB call_lenQ (by rfl) T.len PySem.boot_len (pa_cons (pv 2) pa_nil)) pa_nil))) pa_nil)) pa_nil)))))
  (pss_one (ps_ret (pv 3))))), ?_⟩
    have hN' : N + 1000 ≤ 1099511627776 := hN
    refine ⟨_, rfl, a, _, rfl, hS, fun l1 hl1 => ?_⟩
    refine ⟨(by decide), fun l2 hl2 => ⟨_, _, rfl, ?_⟩⟩
    have hl2' : H l2 = none := same_free (same_new0 hl1) hl2
    have n12 : l1 ≠ l2 := ne_of_none upd_same hl2
    have ne1 := hp.ne hl1
    have ne2 := hp.ne hl2'
    have s0 : Same H (upd (upd H l1 (.lst (xs.map vN))) l2 (.lst [])) := same_new (same_new0 hl1) hl2
    refine ⟨_, rfl, a, _, rfl, same_tq s0 hS, _, rfl, (by omega), (by rw [List.length_map]; omega), for_range (n := (xs.map vN).length) (fun i σ H2 => ∃ v ys zs, σ = [some (.ref p), some (.ref a), some (.ref l1), some (.ref l2), v] ∧ Pn H2 p lc (N + i) ∧ Kp H H2 ∧ H2 l1 = some (.lst (ys.map vN)) ∧ H2 l2 = some (.lst (zs.map vN)) ∧ ys.length + i = xs.length ∧ (ys ++ zs).Perm xs)
      ⟨none, xs, [], rfl, (hp.put ne1).put ne2, Kp.of s0, upd_put upd_same n12, upd_same, rfl, by simp⟩ ?_ ?_⟩
    · rintro i σ H2 hi ⟨v, ys, zs, rfl, hp2, kp2, h1, h2, hlen, hperm⟩
      rw [List.length_map] at hi
      have hy : 0 < ys.length := by omega
      refine ⟨_, rfl, .inl ⟨rfl, _, SqL.of h2⟩, _, rfl, .inl ⟨rfl, _, SqL.of h1⟩, _, rfl, _, rfl, l1, _, rfl, .inl h1, p, lc, N + i, (ys.map vN).length, rfl, hp2, (by rw [List.length_map]; exact hy), (by rw [List.length_map]; omega), (by show N + i + 1 ≤ 1099511627776; omega), fun H3 r hr3 hp3 kp3 => ?_⟩
      rw [List.length_map] at hr3
      have g1 := kp3 _ _ h1 rfl
      have g2 := kp3 _ _ h2 rfl
      refine ⟨l1, _, (r : Int), r, vN ys[r], rfl, rfl, g1, (by omega), (by omega), ?_, ?_, ?_⟩
      · rw [List.length_map]
        exact seq_nat hr3
      · rw [List.getElem?_map, List.getElem?_eq_getElem hr3]
        rfl
      · refine ⟨l2, _, _, rfl, rfl, upd_put g2 n12.symm, (by rw [List.length_map]; refine size6 ?_; have := hperm.length_eq; rw [List.length_append] at this; omega), ?_⟩
        refine ⟨_, ys.eraseIdx r, zs ++ [ys[r]], rfl, (hp3.put ne1).put ne2, ?_, ?_, ?_, ?_, ?_⟩
        · exact kp_put (kp_put (kp2.trans kp3) hl1) hl2'
        · rw [upd_ne n12, upd_same, eraseIdx_map]
        · rw [upd_same, List.map_append]
          rfl
        · rw [List.length_eraseIdx, if_pos hr3]
          omega
        · refine List.Perm.trans ?_ hperm
          have e1 : (ys[r] :: ys.eraseIdx r).Perm ys := perm_erase hr3
          have e2 : (ys.eraseIdx r ++ (zs ++ [ys[r]])).Perm (ys[r] :: (ys.eraseIdx r ++ zs)) := by
            rw [← List.append_assoc]
            exact List.perm_append_comm
          exact e2.trans (e1.append_right zs)
    · rintro σ H2 ⟨v, ys, zs, rfl, hp2, kp2, h1, h2, hlen, hperm⟩
      rw [List.length_map] at hlen hp2
      have e : ys = [] := List.length_eq_zero_iff.mp (by omega)
      subst e
      exact ⟨_, rfl, k _ _ zs hperm hl2' h2 (hp2.mono (by omega)) kp2⟩
end
end LaneX
set_option Elab.async false
set_option linter.all false
set_option maxRecDepth 100000
set_option maxHeartbeats 4000000
namespace LaneX
open PySem PySem.Spec PyProof.Rows L2
theorem dec_low {x r : Nat} (h : r ≠ 0) : (!decide (V.int ((x &&& lwb r : Nat) : Int) = V.int 0)) = x.testBit (low r) := by
  rw [dec_ne0]
  cases q : x.testBit (low r) with
  | true =>
    have := (and_lwb (w := x) h).mpr q
    simp [this]
  | false =>
    have : x &&& lwb r = 0 := Classical.byContradiction fun z => by rw [(and_lwb h).mp z] at q; cases q
    simp [this]
/-- pairs of a row and its tag -/
def PrsAt (H : Hp) (ts : List Addr) (ps : List (Nat × Nat)) : Prop := ts.length = ps.length ∧ ∀ (i : Nat) (t : Addr), ts[i]? = some t → ∃ p, ps[i]? = some p ∧ H t = some (.tup [vN p.1, vN p.2])
theorem PrsAt.keep {H H' : Hp} {ts : List Addr} {ps : List (Nat × Nat)} (h : PrsAt H ts ps) (k : ∀ b xs, H b = some (.tup xs) → H' b = some (.tup xs)) : PrsAt H' ts ps :=
  ⟨h.1, fun i t ht => by obtain ⟨p, h1, h2⟩ := h.2 i t ht; exact ⟨p, h1, k _ _ h2⟩⟩
theorem PrsAt.snoc {H : Hp} {ts : List Addr} {ps : List (Nat × Nat)} (h : PrsAt H ts ps) {t : Addr} {p : Nat × Nat} (ht : H t = some (.tup [vN p.1, vN p.2])) : PrsAt H (ts ++ [t]) (ps ++ [p]) := by
  refine ⟨by simp [h.1], fun i t' hi => ?_⟩
  by_cases hl : i < ts.length
  · rw [List.getElem?_append_left hl] at hi
    obtain ⟨p', h1, h2⟩ := h.2 i t' hi
    exact ⟨p', by rw [List.getElem?_append_left (by rw [← h.1]; exact hl)]; exact h1, h2⟩
  · rw [List.getElem?_append_right (by omega)] at hi
    have e : i - ts.length = 0 := by
      cases q : i - ts.length with
      | zero => rfl
      | succ n => rw [q] at hi; simp at hi
    rw [e] at hi
    have e2 : t = t' := Option.some.inj hi
    subst e2
    refine ⟨p, ?_, ht⟩
    rw [List.getElem?_append_right (by rw [← h.1]; omega), ← h.1, e]
    rfl
def sp_tagged : Sp := fun vs H Q _ => ∃ (a : Addr) (cs : List Nat), vs = [.ref a] ∧ Tq H a (cs.map vN) ∧ cs.length ≤ 1000000 ∧ ∀ H' q l1 l2, Same H H' → H' q = some (.tup [.ref l1, .ref l2]) → H l2 = none → H' l2 = some (.lst ((tgd cs).2.map vN)) → Q (.ref q) H'
def sp_kernel : Sp := fun vs H Q _ => ∃ (a : Addr) (cs : List Nat), vs = [.ref a] ∧ Tq H a (cs.map vN) ∧ cs.length ≤ 1000000 ∧ ∀ H' q, Same H H' → H q = none → H' q = some (.lst ((tgd cs).2.map vN)) → Q (.ref q) H'
def sp_is_word : Sp := fun vs H Q _ => ∃ n b : Nat, vs = [vN n, vN b] ∧ b ≤ 1000000 ∧ Q (.bl (decide (n < 2 ^ b))) H
def sp_is_space (C : Addr) : Sp := fun vs H Q _ => ∃ (p a : Addr) (b : Nat) (rows ws : List Nat), vs = [.ref p, vN b, .ref a] ∧ SpaceAt C H p b rows ∧ Tq H a (ws.map vN) ∧ ws.length ≤ 400000 ∧ rows.length ≤ 400000 ∧ rows.length = rk ws ∧ rk (ws ++ rows) = rows.length ∧ ∀ H', Same H H' → Q (.bl true) H'
theorem tgl_snoc (a : List (Nat × Nat)) (r : Nat × Nat) (st : Nat × Nat) : tgl (a ++ [r]) st = if (tgl a st).1.testBit (low r.1) = true then ((tgl a st).1 ^^^ r.1, (tgl a st).2 ^^^ r.2) else tgl a st := List.foldl_append ..
theorem tgs_nz (cols : List Nat) : ∀ n, ∀ p ∈ (tgs cols n).1, p.1 ≠ 0
  | 0, p, h => by cases h
  | n + 1, p, h => by
    rw [tgs_succ] at h
    split at h
    · exact tgs_nz cols n p h
    · rename_i hz
      rcases List.mem_append.mp h with h | h
      · exact tgs_nz cols n p h
      · rcases List.mem_singleton.mp h with rfl; exact hz
section
variable {P : Program} {w : World} {K : PySem.W.Frag} {mg : Str → Option Value} {base : Heap} {f : Addr} {fd : FuncData} {CS : Addr} (T : Bt mg) (TS : SpaceT K mg CS)
include T
theorem ok_left (F : FnP K "_law_left" "_law_left" s_leftL f fd) : FnOk P w K mg base CX0 1 f fd ["_law_rows", "_law_word_here"] sp_left := by
  have nd := sc_leftL.nd
  refine fnok F sc_leftL (fun vs H Q E h => ?_) (fun cdv A outer s H vs Q E hr h => ?_)
  · obtain ⟨a, rows, x, rfl, _⟩ := h
    rfl
  · obtain ⟨a, rows, x, rfl, hS, hn, k⟩ := h
    refine ⟨_, (pss_cons (ps_for PassesOwn.never rfl (pi_seq (pv 0)) (pg_name (i := 2) nd rfl (Or.inl rfl))
    (pss_one (ps_if (pt_cmpR op_ne (pe_op on_and (pv 1) (pe_op on_low (pv 2) (pe_un un_neg (pv 2)))) pe_int (nomark _))
      (pss_one (ps_set (i := 1) nd rfl (Or.inl rfl) (pe_op on_xor (pv 1) (pv 2))))
      pss_nil)))
  (pss_one (ps_ret (pv 1)))), ?_⟩
    refine ⟨_, rfl, for_seq (K := K) hS.sq (fun i σ H2 => ∃ v, σ = [some (.ref a), some (vN (lft (rows.take i) x)), v] ∧ H2 = H) ⟨none, rfl, rfl⟩ (fun i σ H2 hp => by obtain ⟨_, _, rfl⟩ := hp; exact Kp.refl _) ?_ ?_⟩
    · rintro i y σ H2 hy ⟨v, rfl, rfl⟩
      obtain ⟨r, hr', rfl⟩ := map_get hy
      refine ⟨_, rfl, _, rfl, _, rfl, _, rfl, r, rfl, rfl, _, _, rfl, rfl, rfl, _, rfl, ?_⟩
      rw [take_succ hr', lft_snoc, dec_low (hn r (List.mem_of_getElem? hr'))]
      cases q : (lft (rows.take i) x).testBit (low r) with
      | true => exact iteT ⟨_, rfl, _, rfl, _, _, rfl, rfl, _, rfl, rfl⟩
      | false => exact iteF ⟨_, rfl, rfl⟩
    · rintro σ H2 ⟨v, rfl, rfl⟩
      refine ⟨_, rfl, ?_⟩
      rw [List.length_map, List.take_length]
      exact k
theorem ok_basis (F : FnP K "_law_basis" "_law_basis" s_basisL f fd) (D_leftL : Dn P w K mg base 1 "_law_left" ["_law_rows", "_law_word_here"] sp_left) : FnOk P w K mg base CX0 2 f fd ["_law_words"] sp_basis := by
  have nd := sc_basisL.nd
  refine fnok F sc_basisL (fun vs H Q E h => ?_) (fun cdv A outer s H vs Q E hr h => ?_)
  · obtain ⟨a, ws, rfl, _⟩ := h
    rfl
  · obtain ⟨a, ws, rfl, hS, hl, k⟩ := h
    refine ⟨_, (pss_cons (ps_set (i := 1) nd rfl (Or.inl rfl) (pe_lst pa_nil))
  (pss_cons (ps_for PassesOwn.never rfl (pi_seq (pv 0)) (pg_name (i := 2) nd rfl (Or.inl rfl))
    (pss_cons (ps_set (i := 2) nd rfl (Or.inl rfl) (pe_d D_leftL hr (pa_cons (pv 1) (pa_cons (pv 2) pa_nil))))
    (pss_one (ps_if (pt_cmpR op_ne (pv 2) pe_int (nomark _))
      (pss_one (ps_expr (pe_bm PySem.F.plainAttrs_list PySem.F.slot_list_append PySem.F.type_list_append mt_append (pv 1) (pa_cons (pv 2) pa_nil))))
      pss_nil))))
  (pss_one (ps_ret (pv 1))))), ?_⟩
    refine ⟨(by decide), fun l0 hl0 => ?_⟩
    have s0 : Same H (upd H l0 (.lst [])) := same_new0 hl0
    have an : a ≠ l0 := by
      rcases hS with h | h
      · exact ne_of_none h hl0
      · exact ne_of_none h hl0
    refine ⟨_, rfl, for_sq2 (K := K) (same_tq s0 hS) (fun i σ H2 => ∃ v, σ = [some (.ref a), some (.ref l0), v] ∧ Same H H2 ∧ H2 l0 = some (.lst ((bas (ws.take i)).map vN))) ⟨none, rfl, s0, upd_same⟩ (fun i σ H2 hp o ho => ?_) ?_ ?_⟩
    · obtain ⟨_, _, s2, _⟩ := hp
      rw [upd_ne an] at ho
      exact s2 _ _ ho
    · rintro i y σ H2 hy ⟨v, rfl, s2, h2⟩
      obtain ⟨r, hr', rfl⟩ := map_get hy
      refine ⟨_, rfl, _, rfl, l0, _, r, rfl, .inl h2, (bas_lws _).nz, ?_⟩
      refine ⟨_, rfl, rfl, _, rfl, ?_⟩
      rw [dec_ne0, take_succ hr', bas_snoc]
      unfold bstep
      refine br (fun e => ?_) (fun e => ?_)
      · have e0 : lft (bas (ws.take i)) r ≠ 0 := by simpa using e
        rw [if_neg e0]
        have tl : (bas (ws.take i)).length ≤ 1000000 := Nat.le_trans (bas_len_le _) (Nat.le_trans (by rw [List.length_take]; omega) hl)
        refine ⟨_, rfl, .inl ⟨rfl, _, SqL.of h2⟩, _, rfl, l0, _, _, rfl, rfl, h2, (by rw [List.length_map]; exact size6 tl), ?_⟩
        refine ⟨_, rfl, same_put s2 hl0, ?_⟩
        rw [upd_same, List.map_append]
        rfl
      · have e0 : lft (bas (ws.take i)) r = 0 := by simpa using e
        rw [if_pos e0]
        exact ⟨_, rfl, s2, h2⟩
    · rintro σ H2 ⟨v, rfl, s2, h2⟩
      rw [List.length_map, List.take_length] at h2
      exact ⟨_, rfl, k _ _ s2 hl0 h2⟩
theorem ok_size (F : FnP K "_law_size" "_law_size" s_sizeL f fd) (D_basisL : Dn P w K mg base 2 "_law_basis" ["_law_words"] sp_basis) : FnOk P w K mg base CX0 3 f fd ["_law_words"] sp_size := by
  have nd := sc_sizeL.nd
  refine fnok F sc_sizeL (fun vs H Q E h => ?_) (fun cdv A outer s H vs Q E hr h => ?_)
  · obtain ⟨a, ws, rfl, _⟩ := h
    rfl
  · obtain ⟨a, ws, rfl, hS, hl, k⟩ := h
    refine ⟨_, (pss_one (ps_ret (pe_callB call_lenQ (by rfl) T.len PySem.boot_len (pa_cons (pe_d D_basisL hr (pa_cons (pv 0) pa_nil)) pa_nil)))), ?_⟩
    refine ⟨_, rfl, a, ws, rfl, hS, hl, fun H1 q s1 hq h1 => ⟨q, _, rfl, .inl h1, ?_⟩⟩
    rw [List.length_map, bas_len]
    exact k _ s1
theorem ok_image (F : FnP K "_law_image" "_law_image" s_imageL f fd) : FnOk P w K mg base CX0 1 f fd ["_law_columns", "_law_word_here"] sp_image := by
  have nd := sc_imageL.nd
  refine fnok F sc_imageL (fun vs H Q E h => ?_) (fun cdv A outer s H vs Q E hr h => ?_)
  · obtain ⟨a, cs, x, rfl, _⟩ := h
    rfl
  · obtain ⟨a, cs, x, rfl, hS, hl, k⟩ := h
    refine ⟨_, (pss_cons (ps_set (i := 2) nd rfl (Or.inl rfl) pe_int)
  (pss_cons (ps_for PassesOwn.never rfl (pi_range1 (by rfl) T.range (pa_cons (pe_callB call_lenQ (by rfl) T.len PySem.boot_len (pa_cons (pv 0) pa_nil)) pa_nil)) (pg_name (i := 3) nd rfl (Or.inl rfl))
    (pss_one (ps_if (pt_cmpR op_eq (pe_op on_and (pe_op on_shr (pv 1) (pv 3)) pe_int) pe_int (nomark _))
      (pss_one (ps_set (i := 2) nd rfl (Or.inl rfl) (pe_op on_xor (pv 2) (pe_ix ix_q (pv 0) (pv 3) (fun _ _ => rfl)))))
      pss_nil)))
  (pss_one (ps_ret (pv 2))))), ?_⟩
    refine ⟨_, rfl, a, _, rfl, hS, _, rfl, (by omega), (by rw [List.length_map]; omega), for_range (n := (cs.map vN).length) (fun i σ H2 => ∃ v, σ = [some (.ref a), some (vN x), some (vN (imf cs x i)), v] ∧ H2 = H) ⟨none, rfl, rfl⟩ ?_ ?_⟩
    · rintro i σ H2 hi ⟨v, rfl, rfl⟩
      rw [List.length_map] at hi
      rw [show (0 : Int) + (i : Int) = (i : Int) by omega]
      have hg : (cs.map vN)[i]? = some (vN (cs.getD i 0)) := by
        rw [List.getElem?_map, List.getElem?_eq_getElem hi, List.getD_eq_getElem?_getD, List.getElem?_eq_getElem hi]
        rfl
      refine ⟨_, rfl, _, rfl, _, _, rfl, rfl, _, 1, rfl, rfl, rfl, _, rfl, ?_⟩
      rw [dec_bit, imf_succ]
      cases q : x.testBit i with
      | true => exact iteT ⟨_, rfl, _, rfl, _, rfl, a, _, i, _, rfl, rfl, hS, hg, _, _, rfl, rfl, _, rfl, rfl⟩
      | false => exact iteF ⟨_, rfl, rfl⟩
    · rintro σ H2 ⟨v, rfl, rfl⟩
      refine ⟨_, rfl, ?_⟩
      rw [List.length_map]
      exact k
end
end LaneX
set_option Elab.async false
set_option linter.all false
set_option maxRecDepth 100000
set_option maxHeartbeats 4000000
namespace LaneX
open PySem PySem.Spec PyProof.Rows L2
section
variable {P : Program} {w : World} {K : PySem.W.Frag} {mg : Str → Option Value} {base : Heap} {f : Addr} {fd : FuncData} {CS : Addr} (T : Bt mg) (TS : SpaceT K mg CS)
include T
theorem ok_tagged (F : FnP K "_law_tagged" "_law_tagged" s_taggedL f fd) : FnOk P w K mg base CX0 1 f fd ["_law_columns"] sp_tagged := by
  have nd := sc_taggedL.nd
  refine fnok F sc_taggedL (fun vs H Q E h => ?_) (fun cdv A outer s H vs Q E hr h => ?_)
  · obtain ⟨a, cs, rfl, _⟩ := h
    rfl
  · obtain ⟨a, cs, rfl, hS, hl, k⟩ := h
    refine ⟨_, (pss_cons (ps_par (i := 1) (j := 2) (by rfl) nd rfl rfl (by decide) rfl rfl (pa_cons (pe_lst pa_nil) (pa_cons (pe_lst pa_nil) pa_nil)) (by rfl))
  (pss_cons (ps_for PassesOwn.never rfl (pi_range1 (by rfl) T.range (pa_cons (pe_callB call_lenQ (by rfl) T.len PySem.boot_len (pa_cons (pv 0) pa_nil)) pa_nil)) (pg_name (i := 3) nd rfl (Or.inl rfl))
    (pss_cons (ps_par (i := 4) (j := 5) (by rfl) nd rfl rfl (by decide) rfl rfl (pa_cons (pe_ix ix_q (pv 0) (pv 3) (fun _ _ => rfl)) (pa_cons (pe_op on_shl pe_int (pv 3)) pa_nil)) (by rfl))
    (pss_cons (ps_for PassesOwn.never rfl (pi_seq (pv 1)) (pg_tup (by rfl) (pgs_cons (pg_name (i := 6) nd rfl (Or.inl rfl)) (pgs_cons (pg_name (i := 7) nd rfl (Or.inl rfl)) pgs_nil)))
      (pss_one (ps_if (pt_cmpR op_ne (pe_op on_and (pv 4) (pe_op on_low (pv 6) (pe_un un_neg (pv 6)))) pe_int (nomark _))
        (pss_one (ps_par (i := 4) (j := 5) (by rfl) nd rfl rfl (by decide) rfl rfl (pa_cons (pe_op on_xor (pv 4) (pv 6)) (pa_cons (pe_op on_xor (pv 5) (pv 7)) pa_nil)) (by rfl)))
        pss_nil)))
    (pss_one (ps_if (pt_cmpR op_eq (pv 4) pe_int (nomark _))
      (pss_one (ps_expr (pe_bm PySem.F.plainAttrs_list PySem.F.slot_list_append PySem.F.type_list_append mt_append (pv 2) (pa_cons (pv 5) pa_nil))))
      (pss_one (ps_expr (pe_bm PySem.F.plainAttrs_list PySem.F.slot_list_append PySem.F.type_list_append mt_append (pv 1) (pa_cons (pe_tup (pa_cons (pv 4) (pa_cons (pv 5) pa_nil))) pa_nil)))))))))
  (pss_one (ps_ret (pe_tup (pa_cons (pv 1) (pa_cons (pv 2) pa_nil))))))), ?_⟩
    refine ⟨(by decide), fun l1 hl1 => ⟨(by decide), fun l2 hl2 => ⟨_, _, rfl, ?_⟩⟩⟩
    have hl2' : H l2 = none := same_free (same_new0 hl1) hl2
    have n12 : l1 ≠ l2 := ne_of_none upd_same hl2
    have s0 : Same H (upd (upd H l1 (.lst [])) l2 (.lst [])) := same_new (same_new0 hl1) hl2
    refine ⟨_, rfl, a, _, rfl, same_tq s0 hS, _, rfl, (by omega), (by rw [List.length_map]; omega), for_range (n := (cs.map vN).length) (fun i σ H2 => ∃ v3 v4 v5 v6 v7 ts, σ = [some (.ref a), some (.ref l1), some (.ref l2), v3, v4, v5, v6, v7] ∧ Same H H2 ∧ H2 l1 = some (.lst (ts.map V.ref)) ∧ PrsAt H2 ts (tgs cs i).1 ∧ H2 l2 = some (.lst ((tgs cs i).2.map vN)))
      ⟨none, none, none, none, none, [], rfl, s0, upd_put upd_same n12, ⟨rfl, fun i t h => by simp at h⟩, upd_same⟩ ?_ ?_⟩
    · rintro i σ H2 hi ⟨v3, v4, v5, v6, v7, ts, rfl, s2, h1, hps, h2⟩
      rw [List.length_map] at hi
      rw [show (0 : Int) + (i : Int) = (i : Int) by omega]
      have hg : (cs.map vN)[i]? = some (vN (cs.getD i 0)) := by
        rw [List.getElem?_map, List.getElem?_eq_getElem hi, List.getD_eq_getElem?_getD, List.getElem?_eq_getElem hi]
        rfl
      refine ⟨_, rfl, _, rfl, a, _, i, _, rfl, rfl, same_tq s2 hS, hg, _, rfl, 1, i, rfl, rfl, shl_ok1 (by rw [blen_one]; decide) (by omega), _, _, rfl, ?_⟩
      have L := tgs_len cs i
      refine ⟨_, rfl, for_sq2 (K := K) (Tq.l h1) (fun j σ H3 => ∃ v6 v7, σ = [some (.ref a), some (.ref l1), some (.ref l2), some (vN i), some (vN (tgl ((tgs cs i).1.take j) (cs.getD i 0, 1 <<< i)).1), some (vN (tgl ((tgs cs i).1.take j) (cs.getD i 0, 1 <<< i)).2), v6, v7] ∧ H3 = H2)
        ⟨v6, v7, rfl, rfl⟩ (fun j σ H3 hp o ho => by obtain ⟨_, _, _, rfl⟩ := hp; exact ho) ?_ ?_⟩
      · rintro j y σ H3 hy ⟨u6, u7, rfl, rfl⟩
        obtain ⟨t, ht, rfl⟩ := map_get hy
        obtain ⟨p, hp, hH⟩ := hps.2 j t ht
        have pn := tgs_nz cs i p (List.mem_of_getElem? hp)
        refine ⟨t, _, rfl, SqT.of hH, rfl, ?_⟩
        refine ⟨_, _, rfl, _, _, rfl, rfl, _, rfl, _, rfl, _, rfl, _, rfl, p.1, rfl, rfl, _, _, rfl, rfl, rfl, _, rfl, ?_⟩
        rw [take_succ hp, tgl_snoc, dec_low pn]
        cases q : (tgl ((tgs cs i).1.take j) (cs.getD i 0, 1 <<< i)).1.testBit (low p.1) with
        | true => exact iteT ⟨_, rfl, _, rfl, _, _, rfl, rfl, _, rfl, _, rfl, _, _, rfl, rfl, _, _, rfl, _, _, rfl, rfl⟩
        | false => exact iteF ⟨_, _, rfl, rfl⟩
      · rintro σ H3 ⟨u6, u7, rfl, rfl⟩
        rw [List.length_map, hps.1, List.take_length]
        refine ⟨_, rfl, rfl, _, rfl, ?_⟩
        rw [tgs_succ]
        refine br (fun e => ?_) (fun e => ?_)
        · have e0 := dec_zero e
          rw [if_pos e0]
          refine ⟨_, rfl, .inl ⟨rfl, _, SqL.of h2⟩, _, rfl, l2, _, _, rfl, rfl, h2, (by rw [List.length_map]; exact size6 (by omega)), ?_⟩
          refine ⟨_, _, _, _, _, ts, rfl, same_put s2 hl2', upd_put h1 n12, hps.keep (fun b xs hb => upd_put hb fun z => by rw [z, h2] at hb; cases hb), ?_⟩
          rw [upd_same, List.map_append]
          rfl
        · have e0 := dec_nz e
          rw [if_neg e0]
          refine ⟨_, rfl, .inl ⟨rfl, _, SqL.of h1⟩, _, rfl, _, rfl, (by show 2 ≤ sizeLine; decide), fun t ht => ?_⟩
          have nt1 : l1 ≠ t := ne_of_none h1 ht
          refine ⟨l1, _, _, rfl, rfl, upd_put h1 nt1, (by rw [List.length_map, hps.1]; exact size6 (by omega)), ?_⟩
          refine ⟨_, _, _, _, _, ts ++ [t], rfl, same_put (same_new s2 ht) hl1, ?_, ?_, upd_put (upd_put h2 (ne_of_none h2 ht)) n12.symm⟩
          · rw [upd_same, List.map_append]
            rfl
          · refine PrsAt.snoc (hps.keep fun b xs hb => upd_put (upd_put hb (ne_of_none hb ht)) fun z => by rw [z, h1] at hb; cases hb) ?_
            exact upd_put upd_same nt1.symm
    · rintro σ H2 ⟨v3, v4, v5, v6, v7, ts, rfl, s2, h1, hps, h2⟩
      rw [List.length_map] at h2
      refine ⟨_, rfl, _, rfl, (by show 2 ≤ sizeLine; decide), fun q hq => ?_⟩
      exact k _ _ l1 l2 (same_new s2 hq) upd_same hl2' (upd_put h2 (ne_of_none h2 hq))
theorem ok_kernel (F : FnP K "_law_kernel" "_law_kernel" s_kernelL f fd) (D_taggedL : Dn P w K mg base 1 "_law_tagged" ["_law_columns"] sp_tagged) : FnOk P w K mg base CX0 2 f fd ["_law_columns"] sp_kernel := by
  have nd := sc_kernelL.nd
  refine fnok F sc_kernelL (fun vs H Q E h => ?_) (fun cdv A outer s H vs Q E hr h => ?_)
  · obtain ⟨a, cs, rfl, _⟩ := h
    rfl
  · obtain ⟨a, cs, rfl, hS, hl, k⟩ := h
    refine ⟨_, (pss_one (ps_ret (pe_ix ix_q (pe_d D_taggedL hr (pa_cons (pv 0) pa_nil)) pe_int (fun _ _ => rfl)))), ?_⟩
    refine ⟨_, rfl, a, cs, rfl, hS, hl, fun H1 q l1 l2 s1 hq hl2 h2 => ?_⟩
    exact ⟨q, _, 1, _, rfl, rfl, .inr hq, rfl, k _ _ s1 hl2 h2⟩
end
end LaneX
set_option Elab.async false
set_option linter.all false
set_option maxRecDepth 100000
set_option maxHeartbeats 4000000
namespace LaneX
open PySem PySem.Spec PyProof.Rows L2
/-! ### set(xs), xs a list of ints; sorted of it -/
abbrev nSet (w : World) : Obj := { cls := .type "set", dict := none, data := .set #[] 0 (.fresh 0 0 (!w.params.followText "set-order")) }
section
variable {P : Program} {w : World} {A : Around} {E : Value → Shared → Prop} {s : Shared}
/-- what stands behind set(l) -/
def SetDone (w : World) (s : Shared) (ns : List Int) (s₂ : Shared) : Prop := ∃ h' tk c, s₂ = { s with heap := h', toks := tk } ∧ SetR w h' s.heap.objs.size (fun j => decide (j ∈ ns)) c ∧ c ≤ ns.length ∧ ∀ b o, s.heap.get? b = some o → h'.get? b = some o
theorem call_setL {l : Addr} {items : Array Value} (ns : List Int) {Q : Value → Shared → Prop} (hh : A.handled = none) (hl : s.heap.IsList l items) (hit : IntsAre items.toList ns) (hb : ns.length + 1 < scanBound)
    (h : ∀ s₂, SetDone w s ns s₂ → Q (.ref s.heap.objs.size) s₂) : wpAny (model P w) A (call (.type "set") [.ref l]) Q E s := by
  have len : items.size = ns.length := (Array.length_toList ..).symm.trans hit.length
  have T := F.called_set
  have ⟨_, _, mr⟩ := T.mro; have m1 := T.made; have m2 := T.sub; have m3 := T.notType; have m4 := T.canCreate
  have m5 := F.typeCall_set_1 (.ref l)
  refine wpAny_call (codeAny_of_tree (show wpAny _ _ (callAny (.type "set") _) _ _ _ from wpAny_pure ⟨Code.quiet_builtin _ (by decide +kernel), codeAny_builtin F.entry_type_call ?_⟩))
  rw [Around.under_plain (weight_type_call_type "set" [.ref l] []) rfl]
  repeat (any_goals (first | assumption | wp_step))
  refine codeAny_mono (code_set_led1 (.ref l) (E := E) (Q₁ := fun x s₁ => x = .ref s.heap.objs.size ∧ s₁ = { s with heap := s.heap.push (nSet w) }) ⟨rfl, rfl⟩) fun r s₁ hr => ?_
  rcases r with e | fl
  · exact hr
  cases fl with
  | ret x =>
    obtain ⟨rfl, rfl⟩ := hr
    have g0 : (s.heap.push (nSet w)).get? s.heap.objs.size = some (nSet w) := Heap.get?_push_size _ rfl
    have ty : Shared.TypeIs { s with heap := s.heap.push (nSet w) } (.ref s.heap.objs.size) "set" := ⟨_, g0, rfl⟩
    have i1 := T.init.lookup; have i2 := T.init.bind (.ref s.heap.objs.size)
    repeat (any_goals (first | assumption | wp_step))
    refine codeAny_mono (codeAny_call_builtin (R := wants (fun r s₂ => r = .none ∧ SetDone w s ns s₂) E) T.init.plain F.entry_set_init (check_set_init_1 ty ?_)) fun r2 s2 hr2 => ?_
    · obtain ⟨⟨oc, od, dt, sl⟩, ho, hc, nl, hd⟩ := hl
      simp only at hc hd
      subst hc hd
      have lS : l < s.heap.objs.size := Heap.lt_size ho
      have z1 : (s.heap.push (nSet w)).objs.size = s.heap.objs.size + 1 := Heap.size_push ..
      have ho' : (s.heap.push (nSet w)).get? l = some { cls := .type "list", dict := od, data := .seq items nl, slots := sl } := Heap.get?_push_of_some _ ho
      have hl1 : (s.heap.push (nSet w)).IsList l items := ⟨_, ho', rfl, nl, rfl⟩
      have c1 := F.sub_list_set; have c2 := F.sub_list_frozenset
      have c3 : (Value.type "list" == Value.type "dict") = false := by decide
      unfold Builtin.«set.__init__» noKeywords Builtin.Frozenset.updateFrom
      generalize ep : pyIter = PI
      wp_walk
      subst ep
      refine wpAny_pyIter_list hl1 (wpAny_bind (wpAny_runValue ?_))
      have h3 : A.in1.in1.in1.handled = none := by simp [hh]
      have nI : l ≠ (s.heap.push (nSet w)).objs.size := by rw [z1]; exact Nat.ne_of_lt (Nat.lt_succ_of_lt lS)
      have nF : s.heap.objs.size ∉ [(s.heap.push (nSet w)).objs.size, l] := by
        rw [z1]; simp only [List.mem_cons, List.not_mem_nil, or_false, not_or]; exact ⟨Nat.ne_of_lt (Nat.lt_succ_self _), Nat.ne_of_gt lS⟩
      have at_ : ∀ (i : Nat) (v : Value), items[i]? = some v → ∃ k t, ns[i]? = some k ∧ v = .int k t := fun i v hv => by
        have hi : i < ns.length := len ▸ (Array.getElem?_eq_some_iff.mp hv).1
        obtain ⟨t, e⟩ := hit.int_at i v (by rw [Array.getElem?_toList]; exact hv)
        exact ⟨ns[i], t, List.getElem?_eq_getElem hi, by rw [e, List.getD_eq_getElem?_getD, List.getElem?_eq_getElem hi]; rfl⟩
      have gg : ∀ o, ((s.heap.push (nSet w)).push o).get? s.heap.objs.size = some (nSet w) := fun o => Heap.get?_push_of_some _ g0
      refine set_update_ints ((Walks.list h3 _ l nI items).toS) s.heap.objs.size nF ns len hb at_ _ 0 _ rfl (Nat.zero_le _) ⟨⟨_, Heap.get?_push_size _ rfl, rfl, rfl⟩, hl1.push _⟩ ⟨0, Nat.le_refl 0, setR_new_at (gg _)⟩ (fun s' c' hm hc' hS' => ?_)
      obtain ⟨h', g2, d', tk', os'⟩ := s'
      cases (show g2 = s.gens from hm.gens); cases (show d' = s.drawn from hm.drawn); cases (show os' = s.os from hm.os)
      refine show wpAny _ _ _ _ _ _ from wpAny_pure (show wpAny _ _ (ret Value.none) _ _ _ from wpAny_pure ⟨rfl, h', tk', c', rfl, hS', len ▸ hc', fun b o e => ?_⟩)
      have b0 : b < s.heap.objs.size := Heap.lt_size e
      refine hm.heap b o ?_ (Heap.get?_push_of_some _ (Heap.get?_push_of_some _ e))
      rw [z1]; simp only [List.mem_cons, List.not_mem_nil, or_false, not_or]; exact ⟨Nat.ne_of_lt b0, Nat.ne_of_lt (Nat.lt_succ_of_lt b0)⟩
    · rcases r2 with e | fl2
      · exact hr2
      cases fl2 with
      | ret y =>
        obtain ⟨rfl, hd⟩ := hr2
        repeat (any_goals (first | assumption | wp_step))
        exact h _ hd
      | _ => exact hr2.elim
  | _ => exact hr.elim
end
section
variable {X : Cx}
theorem cr_setL (hc : X.calm = true) : CallR X (.type "set") (fun xs H Q => ∃ (a : Addr) (ns : List Int), xs = [.ref a] ∧ SqL X.K H a (ns.map V.int) ∧ ns.length ≤ 1000 ∧ ∀ p c o, H p = none → c ≤ ns.length → o = SetO X.w p (fun j => decide (j ∈ ns)) c → Q (.ref p) (upd H p o)) := by
  intro pins s σ H xs us Q I r h
  obtain ⟨a, ns, rfl, hS, hl, q⟩ := h
  rw [Vals.ref1 r]
  obtain ⟨its, rv, p, hz⟩ := I.list hS
  refine call_setL ns (I.ok.hd hc) p.isList (by simpa using ints_of_vals rv) (by unfold scanBound; omega) (fun s2 hd => ?_)
  obtain ⟨h', tk, c, rfl, hR, hcn, hk⟩ := hd
  exact ⟨.ref _, _, I.laid (t' := tk) hk (Nat.le_refl _) (setO_new hR), rfl, q _ _ _ (I.hok.fresh (Nat.le_refl _)) hcn rfl⟩
/-- sorted(set(xs)): naturals, fewer than 64 -/
theorem cr_sortedSetN (hc : X.calm = true) : CallR X (.builtin "sorted") (fun xs H Q => ∃ (a : Addr) (ns : List Nat) (c : Nat), xs = [.ref a] ∧ H a = some (SetO X.w a (fun j => decide (j ∈ ns.map Int.ofNat)) c) ∧ c < 64 ∧ ∀ p (ms : List Nat), H p = none → ms.Pairwise (· < ·) → (∀ k, k ∈ ms ↔ k ∈ ns) → ms.length = c → Q (.ref p) (upd H p (.lst (ms.map vN)))) := by
  intro pins s σ H xs us Q I r h
  obtain ⟨a, ns, c, rfl, ha, h64, q⟩ := h
  refine cr_sortedSet hc pins s σ H _ us Q I r ⟨a, _, c, rfl, ha, h64, fun zs p hp hm hl hn => ?_⟩
  have nn : ∀ z ∈ zs, ((z.toNat : Nat) : Int) = z := fun z hz => by
    obtain ⟨k, _, rfl⟩ := List.mem_map.mp (of_decide_eq_true ((hm z).mp hz))
    rfl
  have e : zs.map V.int = (zs.map Int.toNat).map vN := by
    rw [List.map_map]
    exact List.map_congr_left fun z hz => by show V.int z = V.int ((z.toNat : Nat) : Int); rw [nn z hz]
  rw [e]
  refine q p _ hn ?_ (fun k => ?_) (by rw [List.length_map, hl])
  · rw [List.pairwise_map]
    exact hp.imp_of_mem fun {x y} hx hy h => by
      have := nn x hx; have := nn y hy
      omega
  · constructor
    · intro hk
      obtain ⟨z, hz, rfl⟩ := List.mem_map.mp hk
      obtain ⟨k, hk2, rfl⟩ := List.mem_map.mp (of_decide_eq_true ((hm z).mp hz))
      exact hk2
    · intro hk
      exact List.mem_map.mpr ⟨(k : Int), (hm _).mpr (decide_eq_true (List.mem_map.mpr ⟨k, hk, rfl⟩)), rfl⟩
end
end LaneX
set_option Elab.async false
set_option linter.all false
set_option maxRecDepth 100000
set_option maxHeartbeats 4000000
namespace LaneX
open PySem PySem.Spec PyProof.Rows L2
/-! ### dicts with naturals as keys -/
abbrev kn (x : Nat) : Key := .inl (x : Int)
theorem kn_inj {x y : Nat} (h : kn x = kn y) : x = y := by
  have : (x : Int) = (y : Int) := Sum.inl.inj h
  omega
theorem nodup_len {α : Type} [DecidableEq α] : ∀ {l m : List α}, l.Nodup → (∀ x ∈ l, x ∈ m) → l.length ≤ m.length
  | [], _, _, _ => Nat.zero_le _
  | x :: l, m, hn, hs => by
    have hn' := List.nodup_cons.mp hn
    have hx := hs x (.head _)
    have ih := nodup_len (l := l) (m := m.erase x) hn'.2 fun y hy => by
      have : y ≠ x := fun e => hn'.1 (e ▸ hy)
      exact (List.mem_erase_of_ne this).mpr (hs y (.tail _ hy))
    have := List.length_erase_of_mem hx
    have hp : 0 < m.length := List.length_pos_of_mem hx
    simp only [List.length_cons]
    omega
/-- the keys are those of S, each once -/
structure Sn (kvs : List (Key × V)) (S : Nat → Prop) : Prop where
  nd : (kvs.map Prod.fst).Nodup
  mem : ∀ k, k ∈ kvs.map Prod.fst ↔ ∃ x, S x ∧ k = kn x
open Classical in
theorem put_keys (kvs : List (Key × V)) (k : Key) (v : V) : (putK kvs k v).map Prod.fst = if k ∈ kvs.map Prod.fst then kvs.map Prod.fst else kvs.map Prod.fst ++ [k] := by
  unfold putK
  by_cases h : k ∈ kvs.map Prod.fst
  · obtain ⟨p, hp, rfl⟩ := List.mem_map.mp h
    have a : (kvs.any fun kv => decide (kv.1 = p.1)) = true := List.any_eq_true.mpr ⟨p, hp, by simp⟩
    rw [if_pos a, if_pos h, List.map_map]
    refine List.map_congr_left fun q _ => ?_
    show (if q.1 = p.1 then (q.1, v) else q).1 = q.1
    split <;> rfl
  · have a : ¬ (kvs.any fun kv => decide (kv.1 = k)) = true := fun z => by
      obtain ⟨p, hp, e⟩ := List.any_eq_true.mp z
      exact h (List.mem_map.mpr ⟨p, hp, of_decide_eq_true e⟩)
    rw [if_neg a, if_neg h, List.map_append]
    rfl
theorem Sn.nil : Sn [] (fun _ => False) := ⟨.nil, fun k => ⟨fun h => (by cases h), fun h => (by obtain ⟨_, z, _⟩ := h; exact z.elim)⟩⟩
theorem Sn.put {kvs : List (Key × V)} {S : Nat → Prop} (h : Sn kvs S) (x : Nat) (v : V) : Sn (putK kvs (kn x) v) (fun y => S y ∨ y = x) := by
  have e := put_keys kvs (kn x) v
  refine ⟨?_, fun k => ?_⟩
  · rw [e]
    split
    · exact h.nd
    · rename_i n
      refine List.nodup_append.mpr ⟨h.nd, by simp, fun a ha b hb => ?_⟩
      rcases List.mem_singleton.mp hb with rfl
      exact fun z => n (z ▸ ha)
  · rw [e]
    split
    · rename_i m
      constructor
      · intro hk
        obtain ⟨y, hy, rfl⟩ := (h.mem k).mp hk
        exact ⟨y, .inl hy, rfl⟩
      · rintro ⟨y, hy | rfl, rfl⟩
        · exact (h.mem _).mpr ⟨y, hy, rfl⟩
        · exact m
    · constructor
      · intro hk
        rcases List.mem_append.mp hk with hk | hk
        · obtain ⟨y, hy, rfl⟩ := (h.mem k).mp hk
          exact ⟨y, .inl hy, rfl⟩
        · rcases List.mem_singleton.mp hk with rfl
          exact ⟨x, .inr rfl, rfl⟩
      · rintro ⟨y, hy | rfl, rfl⟩
        · exact List.mem_append_left _ ((h.mem _).mpr ⟨y, hy, rfl⟩)
        · exact List.mem_append_right _ (List.mem_singleton_self _)
theorem Sn.le {kvs : List (Key × V)} {S : Nat → Prop} (h : Sn kvs S) {n : Nat} (hS : ∀ x, S x → x < n) : kvs.length ≤ n := by
  have := nodup_len h.nd (m := (List.range n).map kn) fun k hk => by
    obtain ⟨x, hx, rfl⟩ := (h.mem k).mp hk
    exact List.mem_map.mpr ⟨x, List.mem_range.mpr (hS x hx), rfl⟩
  simpa using this
theorem Sn.full {kvs : List (Key × V)} {S : Nat → Prop} (h : Sn kvs S) {n : Nat} (hS : ∀ x, S x → x < n) (hA : ∀ x, x < n → S x) : kvs.length = n := by
  refine Nat.le_antisymm (h.le hS) ?_
  have nd : ((List.range n).map kn).Nodup := by
    unfold List.Nodup
    rw [List.pairwise_map]
    exact List.nodup_range.imp fun h z => h (kn_inj z)
  have := nodup_len nd (m := kvs.map Prod.fst) fun k hk => by
    obtain ⟨x, hx, rfl⟩ := List.mem_map.mp hk
    exact (h.mem _).mpr ⟨x, hA x (List.mem_range.mp hx), rfl⟩
  simpa using this
theorem Sn.congr {kvs : List (Key × V)} {S S' : Nat → Prop} (h : Sn kvs S) (e : ∀ x, S x ↔ S' x) : Sn kvs S' := ⟨h.nd, fun k => by rw [h.mem]; constructor <;> rintro ⟨x, hx, rfl⟩ <;> exact ⟨x, by first | exact (e x).mp hx | exact (e x).mpr hx, rfl⟩⟩
theorem Sn.val {kvs : List (Key × V)} {S : Nat → Prop} (h : Sn kvs S) (c : Nat) : (∃ v, valV kvs (kn c) = some v) ↔ S c := by
  constructor
  · rintro ⟨v, hv⟩
    obtain ⟨x, hx, e⟩ := (h.mem _).mp (valV_in hv)
    rw [kn_inj e]; exact hx
  · intro hc
    cases e : valV kvs (kn c) with
    | some v => exact ⟨v, rfl⟩
    | none => exact absurd ((h.mem _).mpr ⟨c, hc, rfl⟩) (valV_not e)
theorem Sn.notD {kvs : List (Key × V)} {S : Nat → Prop} (h : Sn kvs S) : notD (.dK kvs) = true := by
  cases kvs with
  | nil => rfl
  | cons p r =>
    obtain ⟨k, v⟩ := p
    obtain ⟨x, _, rfl⟩ := (h.mem k).mp (List.mem_cons_self)
    rfl
/-! ### what a lane knows: for each coset the word of its entries, and True -/
structure LnAt (H : Hp) (rows : List Nat) (E : Nat → Prop) (kvs : List (Key × V)) : Prop where
  sn : Sn kvs (fun c => ∃ e, E e ∧ lft rows e = c)
  at_ : ∀ c v, valV kvs (kn c) = some v → ∃ t m, v = .ref t ∧ H t = some (.tup [vN m, .bl true]) ∧ Msk rows E c m
theorem LnAt.mono {H H' : Hp} {rows : List Nat} {E : Nat → Prop} {kvs : List (Key × V)} (h : LnAt H rows E kvs) (k : ∀ t vs, H t = some (.tup vs) → H' t = some (.tup vs)) : LnAt H' rows E kvs :=
  ⟨h.sn, fun c v hv => by obtain ⟨t, m, e1, e2, e3⟩ := h.at_ c v hv; exact ⟨t, m, e1, k _ _ e2, e3⟩⟩
theorem LnAt.nil (H : Hp) (rows : List Nat) : LnAt H rows (fun _ => False) [] :=
  ⟨Sn.nil.congr fun x => ⟨fun z => z.elim, fun z => z.elim fun _ q => q.1⟩, fun c v hv => by cases hv⟩
theorem LnAt.congr {H : Hp} {rows : List Nat} {E F : Nat → Prop} {kvs : List (Key × V)} (h : LnAt H rows E kvs) (g : ∀ e, E e ↔ F e) : LnAt H rows F kvs := by
  have : E = F := funext fun e => propext (g e)
  rwa [← this]
theorem LnAt.get {H : Hp} {rows : List Nat} {E : Nat → Prop} {kvs : List (Key × V)} (h : LnAt H rows E kvs) {x : Addr} (hx : H x = some (.tup [vN 0, .bl true])) (c : Nat) :
    ∃ t m, (valV kvs (kn c)).getD (.ref x) = .ref t ∧ H t = some (.tup [vN m, .bl true]) ∧ Msk rows E c m := by
  cases e : valV kvs (kn c) with
  | some v =>
    obtain ⟨t, m, rfl, h2, h3⟩ := h.at_ c v e
    exact ⟨t, m, rfl, h2, h3⟩
  | none =>
    refine ⟨x, 0, rfl, hx, Msk.zero fun e' he z => ?_⟩
    obtain ⟨v, hv⟩ := (h.sn.val c).mpr ⟨e', he, z⟩
    rw [e] at hv; cases hv
theorem LnAt.has {H : Hp} {rows : List Nat} {E : Nat → Prop} {kvs : List (Key × V)} (h : LnAt H rows E kvs) {c : Nat} (hc : ∃ e, E e ∧ lft rows e = c) :
    ∃ t m, valV kvs (kn c) = some (.ref t) ∧ H t = some (.tup [vN m, .bl true]) ∧ Msk rows E c m := by
  obtain ⟨v, hv⟩ := (h.sn.val c).mpr hc
  obtain ⟨t, m, rfl, h2, h3⟩ := h.at_ c v hv
  exact ⟨t, m, hv, h2, h3⟩
theorem LnAt.put {H H' : Hp} {rows : List Nat} {E F : Nat → Prop} {kvs : List (Key × V)} (h : LnAt H rows E kvs) (k : ∀ t vs, H t = some (.tup vs) → H' t = some (.tup vs)) {c m : Nat} {t : Addr} (ht : H' t = some (.tup [vN m, .bl true])) (hm : Msk rows F c m) (hF : ∃ e, F e ∧ lft rows e = c)
    (o : ∀ e, lft rows e ≠ c → (F e ↔ E e)) : LnAt H' rows F (putK kvs (kn c) (.ref t)) := by
  refine ⟨(h.sn.put c (.ref t)).congr fun x => ?_, fun c' v hv => ?_⟩
  · by_cases e : x = c
    · subst e; exact ⟨fun _ => hF, fun _ => .inr rfl⟩
    · constructor
      · rintro (⟨e', h1, h2⟩ | z)
        · exact ⟨e', (o e' (by rw [h2]; exact e)).mpr h1, h2⟩
        · exact absurd z e
      · rintro ⟨e', h1, h2⟩
        exact .inl ⟨e', (o e' (by rw [h2]; exact e)).mp h1, h2⟩
  · rw [valV_put] at hv
    by_cases e : c' = c
    · subst e
      rw [if_pos rfl] at hv
      cases hv
      exact ⟨t, m, rfl, ht, hm⟩
    · rw [if_neg (fun z => e (kn_inj z))] at hv
      obtain ⟨t', m', e1, e2, e3⟩ := h.at_ c' v hv
      refine ⟨t', m', e1, k _ _ e2, fun x => ?_⟩
      rw [e3 x]
      exact ⟨fun z => ⟨(o x (by rw [z.2]; exact e)).mpr z.1, z.2⟩, fun z => ⟨(o x (by rw [z.2]; exact e)).mp z.1, z.2⟩⟩
/-- the lanes, a dict each -/
def Lanes (H : Hp) (q : Addr) (rows : List Nat) (E : Nat → Nat → Prop) (n : Nat) : Prop := ∃ ds : List Addr, H q = some (.lst (ds.map V.ref)) ∧ ds.length = n ∧ ∀ L d, ds[L]? = some d → ∃ kvs, H d = some (.dK kvs) ∧ LnAt H rows (E L) kvs
theorem Lanes.kp {H H' : Hp} {q : Addr} {rows : List Nat} {E : Nat → Nat → Prop} {n : Nat} (h : Lanes H q rows E n) (s : Kp H H') : Lanes H' q rows E n := by
  obtain ⟨ds, h1, h2, h3⟩ := h
  refine ⟨ds, s _ _ h1 rfl, h2, fun L d hd => ?_⟩
  obtain ⟨kvs, g1, g2⟩ := h3 L d hd
  exact ⟨kvs, s _ _ g1 g2.sn.notD, g2.mono fun t vs ht => s _ _ ht rfl⟩
theorem Lanes.same {H H' : Hp} {q : Addr} {rows : List Nat} {E : Nat → Nat → Prop} {n : Nat} (h : Lanes H q rows E n) (s : Same H H') : Lanes H' q rows E n := h.kp (Kp.of s)
theorem Lanes.congr {H : Hp} {q : Addr} {rows : List Nat} {E F : Nat → Nat → Prop} {n : Nat} (h : Lanes H q rows E n) (g : ∀ L e, L < n → (E L e ↔ F L e)) : Lanes H q rows F n := by
  obtain ⟨ds, h1, h2, h3⟩ := h
  refine ⟨ds, h1, h2, fun L d hd => ?_⟩
  obtain ⟨kvs, g1, g2⟩ := h3 L d hd
  have : L < n := by rw [← h2]; exact (List.getElem?_eq_some_iff.mp hd).1
  exact ⟨kvs, g1, g2.congr fun e => g L e this⟩
end LaneX
set_option Elab.async false
set_option linter.all false
set_option maxRecDepth 100000
set_option maxHeartbeats 4000000
namespace LaneX
open PySem PySem.Spec PyProof.Rows L2
/-! ### list(zip(xs, ys)) -/
theorem zip_no_len : typeLookup (.type "zip") "__len__" = pure none := am_miss_of_fast (by decide +kernel)
theorem zip_no_hint : typeLookup (.type "zip") "__length_hint__" = pure none := am_miss_of_fast (by decide +kernel)
theorem hint_zip {prog : Program} {w : World} {A : Around} {E : Value → Shared → Prop} {s : Shared} {r : Addr} {Q : Bool → Shared → Prop} (hT : s.TypeIs (.ref r) "zip") (h : Q true s) : wpAny (model prog w) A (Builtin.List.listLengthHint (.ref r)) Q E s := by
  unfold Builtin.List.listLengthHint
  refine wpAny_bind (wpAny_specialOf hT zip_no_len ?_)
  refine wpAny_bind (wpAny_specialOf hT zip_no_hint ?_)
  exact wpAny_pure h
/-- how a zip stands that gave out i pairs -/
def ZipSt (h : Heap) (z TI TO i1 i2 a b : Addr) (i : Nat) (H : Hp) : Prop :=
  IsPair h TI (.ref i1) (.ref i2) ∧ h.IsListIter i1 a i ∧ h.IsListIter i2 b i ∧
    ((IsZip h z TI TO .none ∧ ∃ x y, IsPair h TO x y) ∨ ∃ T f xs, IsZipHeld h z TI TO T f ∧ H T = some (.tup xs))
structure PairsAt (H : Hp) (xs ys : List V) (i : Nat) (Ts : List Addr) : Prop where
  len : Ts.length = i
  at_ : ∀ (k : Nat) (T : Addr), Ts[k]? = some T → ∃ x y, xs[k]? = some x ∧ ys[k]? = some y ∧ H T = some (.tup [x, y])
section
variable {X : Cx} {pins : List (Addr × Obj)} {σ : L2.St} {H0 : Hp} {z TI TO i1 i2 a b q : Addr} {xs ys : List V}
theorem zip_keep {h h' : Heap} {H H' : Hp} {i : Nat} (st : ZipSt h z TI TO i1 i2 a b i H) (k : ∀ c ∈ [z, TI, TO, i1, i2], ∀ o, h.get? c = some o → h'.get? c = some o) (kH : ∀ T xs, H T = some (.tup xs) → H' T = some (.tup xs)) : ZipSt h' z TI TO i1 i2 a b i H' := by
  obtain ⟨h1, h2, h3, h4⟩ := st
  refine ⟨k TI (by simp) _ h1, h2.at fun o e => k i1 (by simp) o e, h3.at fun o e => k i2 (by simp) o e, ?_⟩
  rcases h4 with ⟨g1, x, y, g2⟩ | ⟨T, f, us, g1, g2⟩
  · exact .inl ⟨k z (by simp) _ g1, x, y, k TO (by simp) _ g2⟩
  · exact .inr ⟨T, f, us, k z (by simp) _ g1, kH T us g2⟩
theorem zip_loop (D : ZipApart z TI TO i1 i2 a b) {A : Around} (hh : A.handled = none) (hx : H0 a = some (.lst xs)) (hy : H0 b = some (.lst ys)) (hl : xs.length = ys.length) (hlen : xs.length ≤ 1000000) (hq0 : H0 q = none) {Rs : Result → Shared → Prop} (fp0 : ∀ c ∈ [z, TI, TO, i1, i2], c ≠ q)
    (hdone : ∀ (Ts : List Addr) (H : Hp) (s : Shared), Inv X pins σ H s → Same H0 H → H q = some (.lst (Ts.map V.ref)) → PairsAt H xs ys xs.length Ts → Rs (.ok (.ret .none)) s) :
    ∀ (m i : Nat) (Ts : List Addr) (H : Hp) (s : Shared), i + m = xs.length → Inv X pins σ H s → Same H0 H → (∀ c ∈ [z, TI, TO, i1, i2], FpOk X pins H c ∧ c < s.heap.objs.size) → H q = some (.lst (Ts.map V.ref)) → PairsAt H xs ys i Ts → ZipSt s.heap z TI TO i1 i2 a b i H →
      codeAny (model X.prog X.w) A (.builtin "list.extend.loop" ⟨[.ref q, .ref z, .none], []⟩) Rs s := by
  intro m
  induction m with
  | zero =>
    intro i Ts H s him I s0 fp hq hP st
    have ei : i = xs.length := by omega
    refine codeAny_builtin PySem.F.entry_extend_loop ?_
    rw [Around.under_plainId PySem.F.plain_extend_loop _]
    show wpAny _ A.in1 (pyNext (.ref z) >>= _) _ _ s
    obtain ⟨its, rv, p, _⟩ := I.list (SqL.of (s0 _ _ hx))
    obtain ⟨its2, rv2, p2, _⟩ := I.list (SqL.of (s0 _ _ hy))
    have l1 := rv.length
    obtain ⟨hTI, g1, g2, hz⟩ := st
    have hend : its.toArray[i]? = none ∨ its2.toArray[i]? = none := .inl (by simp; omega)
    have fin : ∀ h', (∀ c o, c ∉ [z, TI, TO, i1, i2] → s.heap.get? c = some o → h'.get? c = some o) → Rs (.ok (.ret .none)) { s with heap := h' } := fun h' k =>
      hdone Ts H _ (I.turnedL (t' := s.toks) (ch := [z, TI, TO, i1, i2]) k fun c hc => (fp c hc).1) s0 hq (by rw [← ei]; exact hP)
    refine wpAny_bind ?_
    rcases hz with ⟨hz, x, y, hTO⟩ | ⟨T, f, us, hz, hT⟩
    · exact wpAny_pyNext_zip_end hh D hz hTI hTO g1 g2 p.isList p2.isList hend fun h' hk => wpAny_pure (fin h' fun c o hc e => hk c o (fun x => hc (by simp [x])) (fun x => hc (by simp [x])) (fun x => hc (by simp [x])) (fun x => hc (by simp [x])) e)
    · obtain ⟨itsT, rT, pT, _⟩ := I.tuple (.inl (.inl hT))
      obtain ⟨oT, hoT, _⟩ := pT
      exact wpAny_pyNext_zip_end_held hh D hz hoT hTI g1 g2 p.isList p2.isList hend fun h' hk => wpAny_pure (fin h' fun c o hc e => hk c o (fun x => hc (by simp [x])) (fun x => hc (by simp [x])) (fun x => hc (by simp [x])) e)
  | succ m ih =>
    intro i Ts H s him I s0 fp hq hP st
    refine codeAny_builtin PySem.F.entry_extend_loop ?_
    rw [Around.under_plainId PySem.F.plain_extend_loop _]
    show wpAny _ A.in1 (pyNext (.ref z) >>= _) _ _ s
    obtain ⟨its, rv, p, _⟩ := I.list (SqL.of (s0 _ _ hx))
    obtain ⟨its2, rv2, p2, _⟩ := I.list (SqL.of (s0 _ _ hy))
    have l1 := rv.length
    have l2 := rv2.length
    have hxi : xs[i]? = some (xs[i]'(by omega)) := List.getElem?_eq_getElem (by omega)
    have hyi : ys[i]? = some (ys[i]'(by omega)) := List.getElem?_eq_getElem (by omega)
    generalize xs[i]'(by omega) = x at hxi
    generalize ys[i]'(by omega) = y at hyi
    obtain ⟨u, hu, ru⟩ := rv.get hxi
    obtain ⟨u2, hu2, ru2⟩ := rv2.get hyi
    obtain ⟨hTI, g1, g2, hz⟩ := st
    have fresh : H s.heap.objs.size = none := I.hok.fresh (Nat.le_refl _)
    have nq : s.heap.objs.size ≠ q := fun e => by rw [e, hq] at fresh; cases fresh
    have lt : ∀ c ∈ [z, TI, TO, i1, i2], c ≠ s.heap.objs.size := fun c hc => Nat.ne_of_lt (fp c hc).2
    have go : ∀ h', (∀ c o, c ∉ [z, TI, TO, i1, i2] → s.heap.get? c = some o → h'.get? c = some o) → h'.objs.size = s.heap.objs.size + 1 → IsPair h' s.heap.objs.size u u2 → ZipSt h' z TI TO i1 i2 a b (i + 1) (upd H s.heap.objs.size (.tup [x, y])) →
        wpAny (model X.prog X.w) A.in1 (updateSeq q (·.push (.ref s.heap.objs.size)) >>= fun _ => (again (.builtin "list.extend.loop" ⟨[.ref q, .ref z, .none], []⟩) : Sem Fin)) (fun fin s' => match fin with | .done f => Rs (.ok f) s' | .again c' => c'.quiet = true ∧ codeAny (model X.prog X.w) A c' Rs s') (fun e s' => Rs (.error e) s') { s with heap := h' } := by
      intro h' k hsz hT st'
      have new : ObjOk X.prog X.w (upd H s.heap.objs.size (.tup [x, y])) h' s.heap.objs.size (.tup [x, y]) :=
        ⟨by show 2 ≤ sizeLine; decide, [u, u2], .cons ru (.cons ru2 .nil), ⟨_, hT, rfl, _, rfl⟩⟩
      have I1 : Inv X pins σ (upd H s.heap.objs.size (.tup [x, y])) { s with heap := h' } := I.turnedNew (t' := s.toks) (ch := [z, TI, TO, i1, i2]) k (fun c hc => (fp c hc).1) (Nat.le_refl _) new
      have hq1 : upd H s.heap.objs.size (.tup [x, y]) q = some (.lst (Ts.map V.ref)) := by rw [upd_ne (Ne.symm nq)]; exact hq
      obtain ⟨zz, itq, kq, rq, hlq, eq⟩ := I1.lstM hq1
      have sz1 : itq.length = i := by rw [← hlq, List.length_map]; exact hP.len
      refine wpAny_bind (wpAny_updateSeq eq rfl (wpAny_pure ⟨plainId_quiet PySem.F.plain_extend_loop _, ?_⟩) (by rw [List.size_toArray, sizeLine_eq]; omega) (by show (itq.toArray.push _).size ≤ sizeLine + 1; rw [Array.size_push, List.size_toArray, sizeLine_eq]; omega))
      have I2 := I1.lset (f := (·.push (Value.ref s.heap.objs.size))) (its' := itq ++ [Value.ref s.heap.objs.size]) (ys := Ts.map V.ref ++ [V.ref s.heap.objs.size]) (t' := s.toks) hq1 eq (by simp) (rq.append (.cons rfl .nil)) (by rw [List.length_append, List.length_map, hP.len, sizeLine_eq]; show i + 1 ≤ _; omega)
      have sA : Same H (upd H s.heap.objs.size (.tup [x, y])) := same_new0 fresh
      have keepT : ∀ T us, upd H s.heap.objs.size (.tup [x, y]) T = some (.tup us) → upd (upd H s.heap.objs.size (.tup [x, y])) q (.lst (Ts.map V.ref ++ [V.ref s.heap.objs.size])) T = some (.tup us) := fun T us e => by
        rw [upd_ne (fun z => by rw [z, hq1] at e; cases e)]; exact e
      refine ih (i + 1) (Ts ++ [s.heap.objs.size]) _ _ (by omega) I2 (fun c o e => ?_) (fun c hc => ?_) (by rw [upd_same, List.map_append]; rfl) ⟨by rw [List.length_append, hP.len]; rfl, fun k T hk => ?_⟩ (zip_keep st' (fun c hc o e => ?_) keepT)
      · rw [upd_ne (fun z => by rw [z, hq0] at e; cases e)]
        exact sA _ _ (s0 _ _ e)
      · have f0 := (fp c hc).1
        refine ⟨⟨?_, f0.2⟩, ?_⟩
        · rw [upd_ne (fp0 c hc), upd_ne (lt c hc)]; exact f0.1
        · show c < (h'.update q _).objs.size
          rw [Heap.size_update, hsz]
          exact Nat.lt_succ_of_lt (fp c hc).2
      · by_cases e : k < Ts.length
        · rw [List.getElem?_append_left e] at hk
          obtain ⟨x', y', h1, h2, h3⟩ := hP.at_ k T hk
          exact ⟨x', y', h1, h2, keepT _ _ (sA _ _ h3)⟩
        · rw [List.getElem?_append_right (by omega)] at hk
          have e0 : k - Ts.length = 0 := by
            cases z : k - Ts.length with
            | zero => rfl
            | succ n => rw [z] at hk; simp at hk
          rw [e0] at hk
          cases hk
          have ek : k = i := by have := hP.len; omega
          subst ek
          exact ⟨x, y, hxi, hyi, keepT _ _ upd_same⟩
      · rw [Heap.get?_update_other h' _ (Ne.symm (fp0 c hc))]
        exact e
    refine wpAny_bind ?_
    have ex : its.toArray[i]? = some u := by simpa using hu
    have ey : its2.toArray[i]? = some u2 := by simpa using hu2
    rcases hz with ⟨hz, x0, y0, hTO⟩ | ⟨T, f, us, hz, hT⟩
    · refine wpAny_pyNext_zip_item D hz hTI hTO g1 g2 p.isList p2.isList ex ey fun h' a1 a2 a3 a4 a5 a6 hk => ?_
      refine go h' (fun c o hc e => hk c o (fun x => hc (by simp [x])) (fun x => hc (by simp [x])) (fun x => hc (by simp [x])) (fun x => hc (by simp [x])) e) a6 a5 ⟨hk _ _ D.TIz D.TITO D.TIi1 D.TIi2 hTI, a3, a4, .inr ⟨s.heap.objs.size, false, _, a1, upd_same⟩⟩
    · obtain ⟨itsT, rT, pT, _⟩ := I.tuple (.inl (.inl hT))
      obtain ⟨oT, hoT, _⟩ := pT
      refine wpAny_pyNext_zip_item_held D hz hoT hTI g1 g2 p.isList p2.isList ex ey fun h' a1 a3 a4 a5 a6 hk => ?_
      refine go h' (fun c o hc e => hk c o (fun x => hc (by simp [x])) (fun x => hc (by simp [x])) (fun x => hc (by simp [x])) e) a6 a5 ⟨hk _ _ D.TIz D.TIi1 D.TIi2 hTI, a3, a4, .inr ⟨T, true, us, a1, same_new0 fresh _ _ hT⟩⟩
end
def tListZip (ta : TA) : TE := fun σ H Q => ta σ H fun vs H1 => ∃ a b xs ys, vs = [.ref a, .ref b] ∧ H1 a = some (.lst xs) ∧ H1 b = some (.lst ys) ∧ xs.length = ys.length ∧ xs.length ≤ 1000000 ∧
  ∀ H2 q Ts, Same H1 H2 → H1 q = none → H2 q = some (.lst (Ts.map V.ref)) → PairsAt H2 xs ys xs.length Ts → Q (.ref q) H2
theorem pe_listZip {X : Cx} {e e2 : Expr} {ta : TA} {p p2 pos pos2 : Pos} (hc : X.calm = true) (hg0 : Gl X "list") (hm0 : X.mg "list" = none) (hg : Gl X "zip") (hm : X.mg "zip" = none) (ha : PA X [e, e2] ta)
    (hs : starEach [e, e2] X.env = (false, eval e X.env) :: starEach [e2] X.env := by rfl) (hpl : (backTo pos2 (starEach [e2] X.env)).any (·.1) = false := by rfl)
    (na : starEach [.Call (.Name "zip" p2) [e, e2] [] pos2] X.env = (false, eval (.Call (.Name "zip" p2) [e, e2] [] pos2) X.env) :: starEach [] X.env := by rfl) :
    PE X (.Call (.Name "list" p) [.Call (.Name "zip" p2) [e, e2] [] pos2] [] pos) (tListZip ta) := by
  refine ⟨fun pins s σ H Q I h => ?_⟩
  refine Call_ (ld_blt I hg0 hm0 boot_list (PyProof.Rows.callWith_type1 (args_cons ?_ na) na))
  refine Call_ (ld_blt I hg hm PyProof.Rows.boot_zip (PyProof.Rows.callWith_type1 (thn (ha.run pos2 pins s σ H _ I h) fun us s1 ⟨vs, H1, I1, r1, q1⟩ => ?_) hs hpl))
  obtain ⟨a, b, xs, ys, rfl, hx, hy, hl, hlen, q1⟩ := q1
  cases r1 with
  | cons r rr =>
    cases rr with
    | cons r' rr =>
      cases rr
      cases r
      cases r'
      obtain ⟨its, rv, p1, _⟩ := I1.list (SqL.of hx)
      obtain ⟨its2, rv2, p2', _⟩ := I1.list (SqL.of hy)
      refine call_zip_2 p1.isList p2'.isList fun h' hz hTI hTO h1 h2 hsz hk => ?_
      have fresh5 : ∀ c, c ∈ [s1.heap.objs.size + 4, s1.heap.objs.size + 2, s1.heap.objs.size + 3, s1.heap.objs.size, s1.heap.objs.size + 1] → FpOk X pins H1 c ∧ c < h'.objs.size := fun c hcm => by
        have hle : s1.heap.objs.size ≤ c ∧ c < s1.heap.objs.size + 5 := by
          have e' : c = s1.heap.objs.size + 4 ∨ c = s1.heap.objs.size + 2 ∨ c = s1.heap.objs.size + 3 ∨ c = s1.heap.objs.size ∨ c = s1.heap.objs.size + 1 := by simpa using hcm
          simp only [Addr] at *
          omega
        exact ⟨I1.fpOk hle.1 (I1.hok.fresh hle.1), by rw [hsz]; exact hle.2⟩
      have I2 : Inv X pins σ H1 { s1 with heap := h' } := I1.kept (t' := s1.toks) hk
      refine args_nil ?_
      have D := PySem.W.ktu_apart s1.heap.objs.size a b p1.lt p2'.lt
      generalize s1.heap.objs.size + 4 = z at *
      generalize s1.heap.objs.size + 2 = TI at *
      generalize s1.heap.objs.size + 3 = TO at *
      generalize s1.heap.objs.size + 1 = i2 at *
      generalize s1.heap.objs.size = i1 at *
      have hTy : Shared.TypeIs { s1 with heap := h' } (.ref z) "zip" := ⟨_, hz, rfl⟩
      refine callType_codes (Q₁ := fun obj s₁ => obj = .ref h'.objs.size ∧ s₁ = { s1 with heap := h'.push { cls := .type "list", data := .seq #[] } }) PySem.F.called_list (PySem.F.typeCall_list_1 _) PySem.F.entry_list_init
        (code_list_new _ ⟨rfl, rfl⟩) fun obj s₁ h₁ => ?_
      obtain ⟨rfl, rfl⟩ := h₁
      have hS : (h'.push { cls := .type "list", data := .seq #[] }).get? h'.objs.size = some { cls := .type "list", data := .seq #[] } := Heap.get?_push_size _ rfl
      refine ⟨⟨_, hS, rfl⟩, PySem.F.args_list_init_2 _ _, ?_⟩
      have fr : H1 h'.objs.size = none := I2.hok.fresh (Nat.le_refl _)
      have J1 : Inv X pins σ (upd H1 h'.objs.size (.lst [])) { s1 with heap := h'.push { cls := .type "list", data := .seq #[] } } := I2.lnew (its := []) (t' := s1.toks) .nil (Nat.zero_le _)
      show wpAny _ _ (do let old ← Builtin.List.listItems (.ref h'.objs.size); Builtin.List.listUpdate (.ref h'.objs.size) (fun _ => #[]); letGo old.toList.reverse; Builtin.List.listExtendWith (.ref h'.objs.size) (.ref z) .none) _ _ _
      refine wpAny_bind ?_
      unfold Builtin.List.listItems
      refine wpAny_bind (wpAny_seqItems hS rfl (wpAny_pure ?_))
      show wpAny _ _ (updateSeq h'.objs.size (fun _ => #[]) >>= fun _ => letGo (#[] : Array Value).toList.reverse >>= fun _ => Builtin.List.listExtendWith (.ref h'.objs.size) (.ref z) .none) _ _ _
      refine wpAny_bind (wpAny_updateSeq hS rfl ?_)
      have J2 := J1.lset (f := fun _ => #[]) (its := []) (its' := []) (ys := []) (t' := s1.toks) upd_same hS rfl .nil (Nat.zero_le _)
      rw [upd_upd] at J2
      refine wpAny_bind (wpAny_letGo ?_)
      have lz : z < h'.objs.size := (fresh5 z (by simp)).2
      have sq0 : Same H1 (upd H1 h'.objs.size (.lst [])) := same_new0 fr
      have st0 : ∀ (hh : Heap), (∀ c o, c ≠ h'.objs.size → h'.get? c = some o → hh.get? c = some o) → ZipSt hh z TI TO i1 i2 a b 0 (upd H1 h'.objs.size (.lst [])) := fun hh k =>
        zip_keep (H := H1) ⟨hTI, h1, h2, .inl ⟨hz, _, _, hTO⟩⟩ (fun c hc o e => k c o (Nat.ne_of_lt (fresh5 c hc).2) e) fun T us e => sq0 _ _ e
      have fin : ∀ (s' : Shared), Inv X pins σ (upd H1 h'.objs.size (.lst [])) s' → s'.heap.objs.size = h'.objs.size + 1 → (∀ c o, c ≠ h'.objs.size → h'.get? c = some o → s'.heap.get? c = some o) →
          codeAny (model X.prog X.w) X.A.in1 (.builtin "list.extend.loop" ⟨[.ref h'.objs.size, .ref z, .none], []⟩) (wants (fun r s₂ => r = .none ∧ EP X pins σ Q (.ref h'.objs.size) s₂) X.xe) s' := fun s' I' hz' k =>
        zip_loop (q := h'.objs.size) (A := X.A.in1) (Rs := wants (fun r s₂ => r = .none ∧ EP X pins σ Q (.ref h'.objs.size) s₂) X.xe) D (by simpa using I.ok.hd hc) hx hy hl hlen fr (fun c hcm => Nat.ne_of_lt (fresh5 c hcm).2) (fun Ts H3 s3 I3 s03 hq3 hP3 => ⟨rfl, .ref h'.objs.size, H3, I3, rfl, q1 H3 _ Ts s03 fr hq3 hP3⟩)
          xs.length 0 [] _ s' (by omega) I' sq0 (fun c hcm => ⟨⟨by rw [upd_ne (Nat.ne_of_lt (fresh5 c hcm).2)]; exact (fresh5 c hcm).1.1, (fresh5 c hcm).1.2⟩, by rw [hz']; exact Nat.lt_succ_of_lt (fresh5 c hcm).2⟩) upd_same ⟨rfl, fun k T hk => by simp at hk⟩ (st0 _ k)
      unfold Builtin.List.listExtendWith
      have kk : ∀ c o, c ≠ h'.objs.size → h'.get? c = some o → ((h'.push { cls := .type "list", data := .seq #[] }).update h'.objs.size (Obj.mapSeq fun _ => #[])).get? c = some o := fun c o n e => by
        rw [Heap.get?_update_other _ _ (Ne.symm n)]
        exact Heap.get?_push_of_some _ e
      have hz2 := kk _ _ (Nat.ne_of_lt lz) hz
      refine wpAny_bind (wpAny_typeOf (T := "zip") ⟨_, hz2, rfl⟩ ?_)
      have e1 : Builtin.List.listSameRef (.ref h'.objs.size) (.ref z) = false := by simp [Builtin.List.listSameRef, Nat.ne_of_gt lz]
      have e2 : (Value.type "zip" == Value.type "list") = false := by decide +kernel
      have e3 : (Value.type "zip" == Value.type "tuple") = false := by decide +kernel
      simp only [e1, e2, e3, Bool.or_false, Bool.false_eq_true, if_false]
      refine wpAny_bind (wpAny_pyIter_zip hz2 ?_)
      refine wpAny_bind (wpAny_holding (hint_zip ⟨_, hz2, rfl⟩ ?_))
      obtain ⟨_, its0, k0, r3, hl3, e3'⟩ := J2.lstM upd_same
      cases r3
      refine wpAny_ite_split (fun _ => ?_) (fun hab => absurd rfl hab)
      refine wpAny_bind (wpAny_rule ?_)
      refine wpAny_bind ?_
      show wpAny _ _ (updateSeq h'.objs.size (·.push .none) >>= fun _ => updateSeq h'.objs.size (·.pop)) _ _ _
      refine wpAny_bind (wpAny_updateSeq e3' rfl ?_)
      have J3 := J2.lset (f := (·.push Value.none)) (its' := [Value.none]) (ys := [.non]) (t' := s1.toks) upd_same e3' (by simp) (.cons rfl .nil) (by rw [List.length_singleton, sizeLine_eq]; decide)
      obtain ⟨_, its4, k4, r4, hl4, e4⟩ := J3.lstM upd_same
      obtain ⟨u4, rfl, ru4⟩ := r4.one
      refine wpAny_updateSeq e4 rfl ?_ (by show 1 ≤ sizeLine; rw [sizeLine_eq]; decide) (by show 0 ≤ sizeLine + 1; exact Nat.zero_le _)
      have J4 := J3.lset (f := (·.pop)) (its := [u4]) (its' := []) (ys := []) (t' := s1.toks) upd_same e4 (by rfl) .nil (Nat.zero_le _)
      rw [upd_upd, upd_upd] at J4
      refine wpAny_pure ⟨plainId_quiet PySem.F.plain_extend_loop _, fin _ J4 ?_ fun c o n e => ?_⟩
      · simp only [Heap.size_update, Heap.size_push]
      · rw [Heap.get?_update_other _ _ (Ne.symm n), Heap.get?_update_other _ _ (Ne.symm n)]
        exact kk c o n e
end LaneX
set_option Elab.async false
set_option linter.all false
set_option maxRecDepth 100000
set_option maxHeartbeats 4000000
namespace LaneX
open PySem PySem.Spec PyProof.Rows L2
theorem rgV_nat (b : Nat) : rgV 0 (b : Int) = (List.range b).map vN := by
  unfold rgV
  rw [show ((b : Int) - 0).toNat = b by omega]
  refine List.map_congr_left fun i _ => ?_
  show V.int (0 + (i : Int)) = V.int (i : Int)
  rw [Int.zero_add]
theorem itf {c : Bool} {A B : Prop} (h : c = false) (b : B) : if c = true then A else B := by rw [h]; exact b
theorem pe_fldK {X : Cx} {K : PySem.W.Frag} {e : Expr} {ta : TE} {f : Str} {pos : Pos} (he : PE X e ta) (hb : attributeBase e f X.env (eval e X.env) = eval e X.env) (hK : X.K = K := by rfl) : PE X (.Attribute e f pos) (tFld K ta f) := by
  subst hK
  exact pe_fld he hb
abbrev fallQ : Str := "falling.<locals>." ++ "<lambda>"
theorem SpreadAt.ext {C : Addr} {H H' : Hp} {p : Addr} {b : Nat} {ss ls : List Nat} (h : SpreadAt C H p b ss ls) (z : LamX.ExtN H H') : SpreadAt C H' p b ss ls := by
  obtain ⟨dx, t, u, h1, h2, h3⟩ := h
  exact ⟨dx, t, u, z _ _ h1 (fun ps q => by cases q), z _ _ h2 (fun ps q => by cases q), z _ _ h3 (fun ps q => by cases q)⟩
theorem SpaceAt.ext {C : Addr} {H H' : Hp} {p : Addr} {b : Nat} {rows : List Nat} (h : SpaceAt C H p b rows) (z : LamX.ExtN H H') : SpaceAt C H' p b rows := by
  obtain ⟨dx, t, h1, h2⟩ := h
  exact ⟨dx, t, z _ _ h1 (fun ps q => by cases q), z _ _ h2 (fun ps q => by cases q)⟩
/-- spreads at some addresses -/
structure SprsAt (CR : Addr) (H : Hp) (sps : List Addr) (b : Nat) (L : List (List Nat × List Nat)) : Prop where
  len : sps.length = L.length
  at_ : ∀ (i : Nat) (sp : Addr) (p : List Nat × List Nat), sps[i]? = some sp → L[i]? = some p → SpreadAt CR H sp b p.1 p.2 ∧ WfR b p.1 p.2
theorem SprsAt.get {CR : Addr} {H : Hp} {sps : List Addr} {b : Nat} {L : List (List Nat × List Nat)} (h : SprsAt CR H sps b L) {i : Nat} {sp : Addr} (hi : sps[i]? = some sp) : ∃ ls, SpreadAt CR H sp b (L.getD i ([], [])).1 ls ∧ WfR b (L.getD i ([], [])).1 ls := by
  have il := (List.getElem?_eq_some_iff.mp hi).1
  have e : L[i]? = some (L[i]'(by have := h.len; omega)) := List.getElem?_eq_getElem (by have := h.len; omega)
  obtain ⟨h1, h2⟩ := h.at_ i sp _ hi e
  rw [List.getD_eq_getElem?_getD, e]
  exact ⟨_, h1, h2⟩
theorem SprsAt.same {CR : Addr} {H H' : Hp} {sps : List Addr} {b : Nat} {L : List (List Nat × List Nat)} (h : SprsAt CR H sps b L) (s : Same H H') : SprsAt CR H' sps b L := ⟨h.len, fun i sp p h1 h2 => ⟨(h.at_ i sp p h1 h2).1.same s, (h.at_ i sp p h1 h2).2⟩⟩
theorem SprsAt.ext {CR : Addr} {H H' : Hp} {sps : List Addr} {b : Nat} {L : List (List Nat × List Nat)} (h : SprsAt CR H sps b L) (s : LamX.ExtN H H') : SprsAt CR H' sps b L := ⟨h.len, fun i sp p h1 h2 => ⟨(h.at_ i sp p h1 h2).1.ext s, (h.at_ i sp p h1 h2).2⟩⟩
theorem SprsAt.kp {CR : Addr} {H H' : Hp} {sps : List Addr} {b : Nat} {L : List (List Nat × List Nat)} (h : SprsAt CR H sps b L) (s : Kp H H') : SprsAt CR H' sps b L := ⟨h.len, fun i sp p h1 h2 => ⟨(h.at_ i sp p h1 h2).1.kp s, (h.at_ i sp p h1 h2).2⟩⟩
def slt (L : List (List Nat × List Nat)) (i : Nat) : List Nat := (L.getD i ([], [])).1
def sp_falling (T : List (Addr × Str)) : Sp := fun vs H Q _ => ∃ (a : Addr) (ws : List Nat), vs = [.ref a] ∧ H a = some (.lst (ws.map vN)) ∧ ws.length ≤ 100000 ∧ LamX.Tabs T H ∧ ∀ H' q, ExF T H H' → H q = none → H' q = some (.lst ((fallN ws (List.range ws.length)).map vN)) → Q (.ref q) H'
def sp_need_spreads (CR : Addr) : Sp := fun vs H Q _ => ∃ (a : Addr) (sps : List Addr) (b : Nat) (L : List (List Nat × List Nat)), vs = [.ref a] ∧ H a = some (.lst (sps.map V.ref)) ∧ SprsAt CR H sps b L ∧ 0 < L.length ∧ L.length ≤ 100000 ∧ ∀ H' q, Same H H' → H q = none → H' q = some (.lst (sps.map V.ref)) → Q (.ref q) H'
def sp_need_widths : Sp := fun vs H Q _ => ∃ (a : Addr) (ws : List Nat), vs = [.ref a, vN ws.length] ∧ Tq H a (ws.map vN) ∧ ∀ H' q, Same H H' → H q = none → H' q = some (.lst (ws.map vN)) → Q (.ref q) H'
/-- spaces at some addresses: the meets along an order -/
def MtsAt (CS : Addr) (H : Hp) (ms : List Addr) (b : Nat) (L : List (List Nat × List Nat)) (o : List Nat) : Prop := ms.length = o.length ∧ ∀ k m, ms[k]? = some m → SpaceAt CS H m b (mtE b (slt L) (o.take (k + 1)))
theorem MtsAt.ext {CS : Addr} {H H' : Hp} {ms : List Addr} {b : Nat} {L : List (List Nat × List Nat)} {o : List Nat} (h : MtsAt CS H ms b L o) (s : LamX.ExtN H H') : MtsAt CS H' ms b L o := ⟨h.1, fun k m z => (h.2 k m z).ext s⟩
theorem MtsAt.same {CS : Addr} {H H' : Hp} {ms : List Addr} {b : Nat} {L : List (List Nat × List Nat)} {o : List Nat} (h : MtsAt CS H ms b L o) (s : Same H H') : MtsAt CS H' ms b L o := ⟨h.1, fun k m z => (h.2 k m z).same s⟩
def sp_meets_down (CS CR : Addr) : Sp := fun vs H Q _ => ∃ (a c : Addr) (sps : List Addr) (b : Nat) (L : List (List Nat × List Nat)) (o : List Nat), vs = [.ref a, .ref c] ∧ H a = some (.lst (sps.map V.ref)) ∧ SprsAt CR H sps b L ∧ H c = some (.lst (o.map vN)) ∧ (∀ i ∈ o, i < L.length) ∧ o.length ≤ 100000 ∧ b ≤ 1000 ∧ ∀ H' q ms, Same H H' → H q = none → H' q = some (.lst (ms.map V.ref)) → MtsAt CS H' ms b L o → Q (.ref q) H'
theorem WfS.mtE {b : Nat} {L : List (List Nat × List Nat)} (hb : b ≤ 1000) (hL : ∀ i, i < L.length → ∀ x ∈ slt L i, x < 2 ^ b) {o : List Nat} (ho : ∀ i ∈ o, i < L.length) : WfS b (mtE b (slt L) o) := by
  by_cases e : o = []
  · subst e
    have : LaneX.mtE b (slt L) [] = spn [] := rfl
    rw [this]
    exact WfS.of (by omega) (fun x hx => by cases hx)
  · obtain ⟨h1, X, h2⟩ := mtE_isp (b := b) (S := slt L) o (fun a ha => hL a (ho a ha)) e
    obtain ⟨i, hi⟩ := List.exists_mem_of_ne_nil o e
    have lt : ∀ x ∈ LaneX.mtE b (slt L) o, blen x ≤ b := fun x hx => blen_le.mpr (((h1 x).mp (.of hx) i hi).lt (hL i (ho i hi)))
    exact ⟨by omega, by rw [h2]; exact spn_rws X, lt⟩
theorem mtE_step {b : Nat} {S : Nat → List Nat} {o : List Nat} {k x : Nat} (h : o[k]? = some x) : mtE b S (o.take (k + 1)) = if o.take k = [] then spn (S x) else spn (mtd b (spn (S x)) (mtE b S (o.take k))) := by
  rw [take_succ h, mtE_snoc]
section
variable {P : Program} {w : World} {K : PySem.W.Frag} {mg : Str → Option Value} {base : Heap} {f : Addr} {fd : FuncData} {CS CR c PT : Addr} (T : Bt mg) (TS : SpaceT K mg CS) (TR : SpreadT K mg CR)
include T
theorem ok_falling (F : FnP K "falling" "falling" s_falling f fd) (TB : LamX.TabB base mg c PT) (hcode : fd.code = .ref c) : FnOk P w K mg base CX0 3 f fd ["widths"] (sp_falling [(PT, fallQ)]) := by
  have nd := sc_falling.nd
  refine fnokCc F sc_falling (fun vs H Q E h => ?_) (fun A outer s H vs Q E hr h => ?_)
  · obtain ⟨a, ws, rfl, _⟩ := h
    rfl
  · obtain ⟨a, ws, rfl, ha, hl, tb, k⟩ := h
    refine ⟨_, (pss_one (ps_ret (pe_sortNeg (T := [(PT, fallQ)]) (i := 0) hr TB hcode (List.mem_singleton.mpr rfl) (fun p hp _ => by rw [List.mem_singleton.mp hp]; rfl) (lamT_by (N := ["widths"]) (sc := defScope s_falling) (by decide +kernel)) rfl (fun _ _ _ _ _ _ _ => rfl) rfl rfl rfl (by rfl) T.sorted (pa_cons (pe_listRg rfl (by rfl) T.list (prg_1 (by rfl) T.range (pe_callB call_lenQ (by rfl) T.len PySem.boot_len (pa_cons (pv 0) pa_nil)))) pa_nil)))), ?_⟩
    refine ⟨_, rfl, a, _, rfl, .inl ha, ?_⟩
    rw [List.length_map]
    refine ⟨ws.length, rfl, RgOk.of_le (by decide) (by omega) (by decide) (by omega), fun l1 hl1 => ?_⟩
    rw [rgV_nat]
    have s1 := same_new0 (o := .lst ((List.range ws.length).map vN)) hl1
    refine ⟨tb.ext fun b o h => s1 b o h, l1, a, List.range ws.length, ws, rfl, upd_same, rfl, s1 _ _ ha, fun n hn => List.mem_range.mp hn, (by omega), (by rw [List.length_range]; omega), fun H2 p ex fr tb2 np ep => ?_⟩
    exact k _ _ ⟨fun b o h n => ex b o (s1 b o h) n, fun b h => s1.free (fr b h), tb2⟩ (s1.free np) ep
include TR
theorem ok_need_spreads (F : FnP K "need_spreads" "need_spreads" s_need_spreads f fd) (D_need_items : Dn P w K mg base 1 "need_items" ["value"] sp_need_items) (D_any_spread : Dn P w K mg base 1 "any_spread" ["value"] (sp_any_spread CR)) : FnOk P w K mg base CX0 2 f fd ["value"] (sp_need_spreads CR) := by
  have nd := sc_need_spreads.nd
  refine fnok F sc_need_spreads (fun vs H Q E h => ?_) (fun cdv A outer s H vs Q E hr h => ?_)
  · obtain ⟨a, sps, b, L, rfl, _⟩ := h
    rfl
  · obtain ⟨a, sps, b, L, rfl, ha, hS, h0, hl, k⟩ := h
    have ll := hS.len
    refine ⟨_, (pss_cons (ps_expr (pe_d D_need_items hr (pa_cons (pv 0) pa_nil)))
  (pss_cons (ps_for PassesOwn.never rfl (pi_seq (pv 0)) (pg_name (i := 1) nd rfl (Or.inl rfl))
    (pss_one (ps_expr (pe_d D_any_spread hr (pa_cons (pv 1) pa_nil)))))
  (pss_cons (ps_if (PW.pt (pw_or (pt_cmpR op_eq (pe_callB call_lenQ (by rfl) T.len PySem.boot_len (pa_cons (pv 0) pa_nil)) pe_int (nomark _)) (pw_or1 (pt_val (pe_callB (cr_any rfl) (by rfl) T.any (by decide +kernel) (pa_cons (pe_lc (own := [("spread", 1)]) (g := gName 1) (by rfl) nd (pi_seq (pv 0)) (blkOk_by (own := [("spread", 1)]) (N := ["value", "spread"]) (sc := defScope s_need_spreads) (by decide +kernel)) (fun _ _ _ _ _ => (pg_name (i := 1) nd rfl (Or.inl rfl))) (fun _ _ _ _ _ => pts_nil) (fun _ _ _ _ _ => (pe_cmpR op_ne (pe_fldK (K := K) (pv 1) rfl) (pe_fldK (K := K) (pe_ix ix_q (pv 0) pe_int (fun _ _ => rfl)) rfl) (nomark _)))) pa_nil))))))
    (pss_one ps_never)
    pss_nil)
  (pss_one (ps_ret (pe_callTy call_listQ (by rfl) T.list (by decide +kernel) (pa_cons (pv 0) pa_nil))))))), ?_⟩
    refine ⟨_, rfl, a, _, rfl, .inl ha, fun H1 s1 => ?_⟩
    have ha1 := s1 _ _ ha
    have hS1 := hS.same s1
    refine ⟨_, rfl, for_seq (K := K) (Sq.l ha1) (fun i σ H2 => ∃ v, σ = [some (.ref a), v] ∧ H2 = H1) ⟨none, rfl, rfl⟩ (fun i σ H2 hp => by obtain ⟨_, _, rfl⟩ := hp; exact Kp.refl _) ?_ ?_⟩
    · rintro i x σ H2 hx ⟨v, rfl, rfl⟩
      rw [List.getElem?_map] at hx
      obtain ⟨sp, hsp, rfl⟩ := Option.map_eq_some_iff.mp hx
      obtain ⟨ls, h1, h2⟩ := hS1.get hsp
      exact ⟨_, rfl, sp, b, _, ls, rfl, h1, _, rfl, rfl⟩
    · rintro σ H2 ⟨v, rfl, rfl⟩
      refine ⟨_, rfl, a, _, rfl, .inl ha1, rfl, _, rfl, itf (by rw [List.length_map]; exact decide_eq_false fun z => by have z := V.int.inj z; omega) ?_⟩
      have g0 : sps[0]? = some (sps[0]'(by omega)) := List.getElem?_eq_getElem (by omega)
      generalize sps[0]'(by omega) = sp0 at g0
      refine ⟨_, rfl, lc_pure sps V.ref (fun _ => true) (fun _ => .bl false) (.inl ha1) (by omega) (fun sp H' hsp s => ?_) (fun D H3 hD s3 e3 => ?_)⟩
      · intro Z Nx z1 z2
        obtain ⟨i, hi, rfl⟩ := List.getElem_of_mem hsp
        obtain ⟨ls, ⟨d1, t1, u1, i1, i2, i3⟩, _⟩ := (hS1.same s).get (List.getElem?_eq_getElem hi)
        obtain ⟨ls0, ⟨d0, t0, u0, j1, j2, j3⟩, _⟩ := (hS1.same s).get g0
        refine ⟨rfl, _, rfl, _, CR, d1, _, vN b, rfl, i1, TR.cl, TR.nb, rfl, _, rfl, a, _, 0, .ref sp0, rfl, rfl, .inl (s _ _ ha1), by rw [List.getElem?_map, g0]; rfl, sp0, CR, d0, _, vN b, rfl, j1, TR.cl, TR.nb, rfl, rfl, ?_⟩
        rw [show (!decide (vN b = vN b)) = false by simp]
        exact z1 rfl _ (Same.refl _)
      rw [filt_true] at e3
      refine ⟨D, sps.map fun _ => false, rfl, SqL.of (by rw [e3, List.map_map]; rfl), _, rfl, itf ?_ ?_⟩
      · rw [List.any_eq_false]
        intro x hx
        obtain ⟨_, _, rfl⟩ := List.mem_map.mp hx
        exact Bool.false_ne_true
      · have s13 := s1.trans s3
        refine ⟨_, rfl, a, _, rfl, .inl (s13 _ _ ha), fun l hl => ?_⟩
        exact k _ l (same_new s13 hl) (s13.free hl) upd_same
theorem ok_need_widths (F : FnP K "need_widths" "need_widths" s_need_widths f fd) (D_need_items : Dn P w K mg base 1 "need_items" ["value"] sp_need_items) (D_need_whole : Dn P w K mg base 2 "need_whole" ["value"] sp_need_whole) : FnOk P w K mg base CX0 3 f fd ["value", "many"] sp_need_widths := by
  have nd := sc_need_widths.nd
  refine fnok F sc_need_widths (fun vs H Q E h => ?_) (fun cdv A outer s H vs Q E hr h => ?_)
  · obtain ⟨a, ws, rfl, _⟩ := h
    rfl
  · obtain ⟨a, ws, rfl, ha, k⟩ := h
    refine ⟨_, (pss_cons (ps_expr (pe_d D_need_items hr (pa_cons (pv 0) pa_nil)))
  (pss_cons (ps_for PassesOwn.never rfl (pi_seq (pv 0)) (pg_name (i := 2) nd rfl (Or.inl rfl))
    (pss_one (ps_expr (pe_d D_need_whole hr (pa_cons (pv 2) pa_nil)))))
  (pss_cons (ps_if (pt_cmpR op_ne (pe_callB call_lenQ (by rfl) T.len PySem.boot_len (pa_cons (pv 0) pa_nil)) (pv 1) (nomark _))
    (pss_one ps_never)
    pss_nil)
  (pss_one (ps_ret (pe_callTy call_listQ (by rfl) T.list (by decide +kernel) (pa_cons (pv 0) pa_nil))))))), ?_⟩
    refine ⟨_, rfl, a, _, rfl, ha, fun H1 s1 => ?_⟩
    have ha1 := same_tq s1 ha
    refine ⟨_, rfl, for_seq (K := K) ha1.sq (fun i σ H2 => ∃ v, σ = [some (.ref a), some (vN ws.length), v] ∧ H2 = H1) ⟨none, rfl, rfl⟩ (fun i σ H2 hp => by obtain ⟨_, _, rfl⟩ := hp; exact Kp.refl _) ?_ ?_⟩
    · rintro i x σ H2 hx ⟨v, rfl, rfl⟩
      obtain ⟨n, hn, rfl⟩ := map_get hx
      exact ⟨_, rfl, n, rfl, _, rfl, rfl⟩
    · rintro σ H2 ⟨v, rfl, rfl⟩
      refine ⟨_, rfl, a, _, rfl, ha1, _, rfl, rfl, _, rfl, itf (by rw [List.length_map]; simp) ?_⟩
      refine ⟨_, rfl, a, _, rfl, ha1, fun l hl => ?_⟩
      exact k _ l (same_new s1 hl) (s1.free hl) upd_same
theorem ok_meets_down (F : FnP K "meets_down" "meets_down" s_meets_down f fd) (M_Spread_slot_space : Mn P w K mg base 6 CR "slot_space" ["self"] (sp_slot_space CS CR)) (M_Space_and : Mn P w K mg base 6 CS "__and__" ["self", "other"] (sp_and CS)) (hsf : PySem.W.selfFirst K CS = true) : FnOk P w K mg base CX0 8 f fd ["spreads", "order"] (sp_meets_down CS CR) := by
  have nd := sc_meets_down.nd
  refine fnok F sc_meets_down (fun vs H Q E h => ?_) (fun cdv A outer s H vs Q E hr h => ?_)
  · obtain ⟨a, c, sps, b, L, o, rfl, _⟩ := h
    rfl
  · obtain ⟨a, c, sps, b, L, o, rfl, ha, hS, hc, ho, hl, hb, k⟩ := h
    have ll := hS.len
    refine ⟨_, (pss_cons (ps_set (i := 2) nd rfl (Or.inl rfl) (pe_lst pa_nil))
  (pss_cons (ps_for PassesOwn.never rfl (pi_seq (pv 1)) (pg_name (i := 3) nd rfl (Or.inl rfl))
    (pss_cons (ps_set (i := 4) nd rfl (Or.inl rfl) (pe_m0 (pe_ix ix_q (pv 0) (pv 3) (fun _ _ => rfl)) M_Spread_slot_space hr))
    (pss_one (ps_expr (pe_bm PySem.F.plainAttrs_list PySem.F.slot_list_append PySem.F.type_list_append mt_append (pv 2) (pa_cons (pe_ifExp (pt_cmpR (op_neEV hr.units) (pv 2) (pe_lst pa_nil) (nomark _)) (pe_op (op_own (by rfl) M_Space_and hsf hr) (pv 4) (pe_ix ix_lastL (pv 2) (pe_un un_neg pe_int) (fun _ _ => rfl))) (pv 4)) pa_nil))))))
  (pss_one (ps_ret (pv 2))))), ?_⟩
    refine ⟨(by show 0 ≤ sizeLine; decide), fun g hg => ?_⟩
    have s0 := same_new0 (o := .lst []) hg
    have eg0 : upd H g (.lst []) g = some (.lst []) := upd_same
    generalize upd H g (.lst []) = H0 at *
    have hL : ∀ i, i < L.length → ∀ x ∈ slt L i, x < 2 ^ b := fun i hi x hx => by
      have g : sps[i]? = some (sps[i]'(by omega)) := List.getElem?_eq_getElem (by omega)
      obtain ⟨ls, _, wf⟩ := hS.get g
      exact blen_le.mp (wf.s x hx)
    refine ⟨_, rfl, for_sq2 (K := K) (Tq.l (s0 _ _ hc)) (fun i σ H2 => ∃ v3 v4 ms, σ = [some (.ref a), some (.ref c), some (.ref g), v3, v4] ∧ Same H H2 ∧ H2 g = some (.lst (ms.map V.ref)) ∧ ms.length = i ∧ ∀ k m, ms[k]? = some m → SpaceAt CS H2 m b (mtE b (slt L) (o.take (k + 1)))) ⟨none, none, [], rfl, s0, eg0, rfl, fun k m z => by simp at z⟩ (fun i σ H2 hp o' ho' => ?_) ?_ ?_⟩
    · obtain ⟨_, _, _, _, z, _⟩ := hp
      rw [s0 _ _ hc] at ho'; cases ho'; exact z _ _ hc
    · rintro i x σ H2 hx ⟨v3, v4, ms, rfl, s2, eg, lm, hm⟩
      obtain ⟨at_, hat, rfl⟩ := map_get hx
      have il := (List.getElem?_eq_some_iff.mp hat).1
      have al := ho at_ (List.mem_of_getElem? hat)
      have gs : sps[at_]? = some (sps[at_]'(by omega)) := List.getElem?_eq_getElem (by omega)
      generalize sps[at_]'(by omega) = sp at gs
      obtain ⟨ls, h1, wf⟩ := (hS.same s2).get gs
      obtain ⟨dx, t, u, q1, q2, q3⟩ := id h1
      refine ⟨_, rfl, _, rfl, a, _, at_, .ref sp, rfl, rfl, .inl (s2 _ _ ha), by rw [List.getElem?_map, gs]; rfl, sp, dx, _, rfl, q1, rfl, sp, b, _, ls, rfl, h1, wf, fun H3 m s3 hm3 hA3 => ?_⟩
      have wS : WfS b (spn (slt L at_)) := WfS.of (by omega) fun x hx => blen_le.mpr (hL at_ al x hx)
      have eg3 := s3 _ _ eg
      have s03 := s2.trans s3
      have hg0 : ∀ {H' : Hp}, Same H3 H' → H' g = some (.lst (ms.map V.ref)) := fun s => s _ _ eg3
      have fin : ∀ (H' : Hp) (m' : Addr), Same H3 H' → SpaceAt CS H' m' b (mtE b (slt L) (o.take (i + 1))) → (ms.map V.ref).length < sizeLine ∧ ∃ (v3 v4 : Option V) (ms' : List Addr), [some (V.ref a), some (.ref c), some (.ref g), some (vN at_), some (.ref m)] = [some (.ref a), some (.ref c), some (.ref g), v3, v4] ∧ Same H (upd H' g (.lst (ms.map V.ref ++ [.ref m']))) ∧ upd H' g (.lst (ms.map V.ref ++ [.ref m'])) g = some (.lst (ms'.map V.ref)) ∧ ms'.length = i + 1 ∧ ∀ k m, ms'[k]? = some m → SpaceAt CS (upd H' g (.lst (ms.map V.ref ++ [.ref m']))) m b (mtE b (slt L) (o.take (k + 1))) := fun H' m' s' hA' => by
        have keep : ∀ {q : Addr} {r : List Nat}, SpaceAt CS H' q b r → SpaceAt CS (upd H' g (.lst (ms.map V.ref ++ [.ref m']))) q b r := fun h => by
          obtain ⟨d, t, z1, z2⟩ := h
          exact ⟨d, t, (upd_ne (ne_of z1 (hg0 s') (by intro z; cases z))).trans z1, (upd_ne (ne_of z2 (hg0 s') (by intro z; cases z))).trans z2⟩
        refine ⟨by rw [List.length_map, sizeLine_eq]; omega, _, _, ms ++ [m'], rfl, same_put (s03.trans s') hg, by rw [upd_same, List.map_append]; rfl, by rw [List.length_append, lm]; rfl, fun k q hk => ?_⟩
        by_cases e : k < ms.length
        · rw [List.getElem?_append_left e] at hk
          exact keep (((hm k q hk).same s3).same s')
        · rw [List.getElem?_append_right (by omega)] at hk
          have e0 : k - ms.length = 0 := by
            cases z : k - ms.length with
            | zero => rfl
            | succ n => rw [z] at hk; simp at hk
          rw [e0] at hk
          cases hk
          have ek : k = i := by omega
          subst ek
          exact keep hA'
      refine ⟨_, rfl, .inl ⟨rfl, _, SqL.of eg3⟩, _, rfl, (by show 0 ≤ sizeLine; decide), fun e hne => ?_⟩
      have s4 := same_new0 (o := .lst []) hne
      refine ⟨g, e, _, rfl, rfl, s4 _ _ eg3, upd_same, _, rfl, br (fun z => ?_) (fun z => ?_)⟩
      · have ipos : 0 < ms.length := by
          cases ms with
          | nil => simp at z
          | cons _ _ => simp
        have gl : ms[ms.length - 1]? = some (ms[ms.length - 1]'(by omega)) := List.getElem?_eq_getElem (by omega)
        generalize ms[ms.length - 1]'(by omega) = ml at gl
        have hml := ((hm _ ml gl).same s3).same s4
        rw [show ms.length - 1 + 1 = i by omega] at hml
        have hA4 := hA3.same s4
        obtain ⟨d1, t1, g1, _⟩ := id hA4
        obtain ⟨d2, t2, g2, _⟩ := id hml
        have wm : WfS b (mtE b (slt L) (o.take i)) := WfS.mtE hb hL fun j hj => ho j (List.mem_of_mem_take hj)
        refine ⟨_, rfl, _, rfl, 1, rfl, g, _, .ref ml, rfl, rfl, s4 _ _ eg3, ?_, m, ml, d1, d2, _, _, rfl, rfl, g1, g2, m, ml, b, _, _, rfl, hA4, hml, wS, wm, fun H5 m5 s5 hm5 hA5 => ?_⟩
        · rw [List.getLast?_map, List.getLast?_eq_getElem?, gl]
          rfl
        · refine ⟨g, _, _, rfl, rfl, (s4.trans s5) _ _ eg3, fin H5 m5 (s4.trans s5) ?_⟩
          rw [mtE_step hat, if_neg (fun e => by
            have e2 : (o.take i).length = 0 := by rw [e]; rfl
            rw [List.length_take] at e2
            omega)]
          exact hA5
      · have i0 : i = 0 := by
          cases ms with
          | nil => exact lm.symm
          | cons _ _ => simp at z
        refine ⟨_, rfl, g, _, _, rfl, rfl, s4 _ _ eg3, fin _ m s4 ?_⟩
        rw [mtE_step hat, i0, List.take_zero, if_pos rfl]
        exact hA3.same s4
    · rintro σ H2 ⟨v3, v4, ms, rfl, s2, eg, lm, hm⟩
      rw [List.length_map] at lm
      exact ⟨_, rfl, k H2 g ms s2 hg eg ⟨lm, hm⟩⟩
end
end LaneX
set_option Elab.async false
set_option linter.all false
set_option maxRecDepth 100000
set_option maxHeartbeats 4000000
namespace LaneX
open PySem PySem.Spec PyProof.Rows L2
theorem mk_SpaceP {C : Addr} {H1 : Hp} {b : Nat} {a : Addr} {ws : List Nat} {R : Addr → Hp → Prop} {E : XK} (hS : Tq H1 a (ws.map vN)) (hb : ∀ x ∈ ws, blen x ≤ b) (hl : ws.length ≤ 1000000) (k : ∀ H' p, Same H1 H' → H1 p = none → SpaceAt C H' p b (spn ws) → R p H') :
    ∀ x dx, H1 x = none → H1 dx = none → dx ≠ x → sp_Space C (.ref x :: ([vN b, .ref a] ++ [])) (upd (upd H1 dx (.own x)) x (.ins C dx [])) (fun v H2 => v = .non ∧ R x H2) E := by
  intro x dx nx ndx ne
  have nx' : upd H1 dx (.own x) x = none := (upd_ne ne.symm).trans nx
  refine ⟨x, dx, b, a, ws, rfl, upd_same, (hS.new ndx).new nx', hb, hl, fun H' hA kp => ⟨rfl, k _ _ (made_same nx ndx kp) nx hA⟩⟩
theorem cut_takeN (L : List Nat) (g : Nat) : cutV (L.map vN) none (some (g : Int)) = (L.take g).map vN := by
  unfold cutV
  rw [HT.sIx_none, HT.sIx_nat, List.drop_zero, Nat.sub_zero, List.length_map, List.map_take]
  by_cases h : g ≤ L.length
  · rw [Nat.min_eq_left h]
  · rw [Nat.min_eq_right (by omega), List.take_of_length_le (by rw [List.length_map]; exact Nat.le_refl _), List.take_of_length_le (by rw [List.length_map]; omega)]
theorem map_get' {α β : Type} {g : α → β} {l : List α} {i : Nat} {x : β} (h : (l.map g)[i]? = some x) : ∃ n, l[i]? = some n ∧ x = g n := by
  rw [List.getElem?_map] at h
  cases e : l[i]? with
  | none => rw [e] at h; cases h
  | some n => rw [e] at h; exact ⟨n, rfl, (Option.some.inj h).symm⟩
theorem rng_get {n i j : Nat} (h : (List.range n)[i]? = some j) : i < n ∧ j = i := by
  have l := (List.getElem?_eq_some_iff.mp h).1
  rw [List.length_range] at l
  rw [List.getElem?_range l] at h
  exact ⟨l, (Option.some.inj h).symm⟩
abbrev ordW (ws : List Nat) : List Nat := fallN ws (List.range ws.length)
abbrev wof (ws : List Nat) : Nat → Nat := fun i => ws.getD i 0
theorem ordW_perm (ws : List Nat) : (ordW ws).Perm (List.range ws.length) := List.mergeSort_perm ..
theorem ordW_len (ws : List Nat) : (ordW ws).length = ws.length := by rw [(ordW_perm ws).length_eq, List.length_range]
theorem ordW_pair (ws : List Nat) : (ordW ws).Pairwise fun i j => wof ws j ≤ wof ws i := by
  refine (List.pairwise_mergeSort (fun a b c h1 h2 => ?_) (fun a b => ?_) (List.range ws.length)).imp fun h => ?_
  · have h1 := of_decide_eq_true h1
    have h2 := of_decide_eq_true h2
    exact decide_eq_true (Int.le_trans h1 h2)
  · rw [Bool.or_eq_true, decide_eq_true_iff, decide_eq_true_iff]
    exact Int.le_total _ _
  · have h := of_decide_eq_true h
    show ws.getD _ 0 ≤ ws.getD _ 0
    omega
def fitB (b : Nat) (L : List (List Nat × List Nat)) (ws : List Nat) : Bool := (List.range ws.length).all fun k => decide (ws.getD ((ordW ws).getD k 0) 0 ≤ (mtE b (slt L) ((ordW ws).take (k + 1))).length)
theorem fitB_iff {b : Nat} {L : List (List Nat × List Nat)} {ws : List Nat} : fitB b L ws = true ↔ ∀ k, k < ws.length → wof ws ((ordW ws).getD k 0) ≤ (mtE b (slt L) ((ordW ws).take (k + 1))).length := by
  unfold fitB
  rw [List.all_eq_true]
  exact ⟨fun h k hk => of_decide_eq_true (h k (List.mem_range.mpr hk)), fun h k hk => decide_eq_true (h k (List.mem_range.mp hk))⟩
def ChAt (CS : Addr) (H : Hp) (ms : List Addr) (b : Nat) (L : List (List Nat × List Nat)) (ws : List Nat) : Prop := ms.length = ws.length ∧ ∀ i m, ms[i]? = some m → SpaceAt CS H m b (chn b (slt L) (wof ws) (ordW ws) i)
def spWid (T : List (Addr × Str)) (CR : Addr) (W : List (List Nat × List Nat) → Nat → List Nat → Hp → VK → Prop) : Sp := fun vs H Q _ => ∃ (a c : Addr) (sps : List Addr) (b : Nat) (L : List (List Nat × List Nat)) (ws : List Nat), vs = [.ref a, .ref c] ∧ H a = some (.lst (sps.map V.ref)) ∧ SprsAt CR H sps b L ∧ 0 < L.length ∧ L.length ≤ 100000 ∧ b ≤ 1000 ∧ Tq H c (ws.map vN) ∧ ws.length = L.length ∧ LamX.Tabs T H ∧ W L b ws H Q
def sp_fitting (T : List (Addr × Str)) (CR : Addr) : Sp := spWid T CR fun L b ws H Q => ∀ H', ExF T H H' → Q (.bl (fitB b L ws)) H'
def sp_chain (T : List (Addr × Str)) (CS CR : Addr) : Sp := spWid T CR fun L b ws H Q => (fitB b L ws = false → ∀ H', ExF T H H' → Q .non H') ∧ (fitB b L ws = true → ∀ H' t ms, ExF T H H' → H t = none → H' t = some (.tup (ms.map V.ref)) → ChAt CS H' ms b L ws → Q (.ref t) H')
/-- all but one stays -/
def Sx (d : Addr) (H H' : Hp) : Prop := ∀ c o, c ≠ d → H c = some o → H' c = some o
theorem Sx.same {d : Addr} {H H1 H2 : Hp} (a : Sx d H H1) (s : Same H1 H2) : Sx d H H2 := fun c o n h => s _ _ (a c o n h)
theorem Sx.put {d : Addr} {H H1 : Hp} {o : HO} (a : Sx d H H1) : Sx d H (upd H1 d o) := fun c u n h => (upd_ne n).trans (a c u n h)
theorem Sx.to {d : Addr} {H0 H H1 : Hp} (s : Same H0 H) (hd : H0 d = none) (a : Sx d H H1) : Same H0 H1 := fun c o h => a c o (fun z => by rw [z, hd] at h; cases h) (s c o h)
theorem SpaceAt.sx {C d : Addr} {H H1 : Hp} {p : Addr} {b : Nat} {rows : List Nat} {kvs : List (Key × V)} (h : SpaceAt C H p b rows) (ed : H d = some (.dK kvs)) (a : Sx d H H1) : SpaceAt C H1 p b rows := by
  obtain ⟨dx, t, h1, h2⟩ := h
  exact ⟨dx, t, a _ _ (ne_of h1 ed (by intro z; cases z)) h1, a _ _ (ne_of h2 ed (by intro z; cases z)) h2⟩
section
variable {P : Program} {w : World} {K : PySem.W.Frag} {mg : Str → Option Value} {base : Heap} {f : Addr} {fd : FuncData} {CS CR PT : Addr} (T : Bt mg) (TS : SpaceT K mg CS) (TR : SpreadT K mg CR)
include T TS TR
theorem ok_fitting (F : FnP K "fitting" "fitting" s_fitting f fd) (D_need_spreads : Dn P w K mg base 2 "need_spreads" ["value"] (sp_need_spreads CR)) (D_need_widths : Dn P w K mg base 3 "need_widths" ["value", "many"] sp_need_widths) (D_falling : Dn P w K mg base 3 "falling" ["widths"] (sp_falling [(PT, fallQ)])) (D_meets_down : Dn P w K mg base 8 "meets_down" ["spreads", "order"] (sp_meets_down CS CR)) : FnOk P w K mg base CX0 9 f fd ["spreads", "widths"] (sp_fitting [(PT, fallQ)] CR) := by
  have nd := sc_fitting.nd
  refine fnok F sc_fitting (fun vs H Q E h => ?_) (fun cdv A outer s H vs Q E hr h => ?_)
  · obtain ⟨a, c, sps, b, L, ws, rfl, _⟩ := h
    rfl
  · obtain ⟨a, c, sps, b, L, ws, rfl, ha, hS, h0, hl, hb, hc, lw, tb, k⟩ := h
    have ll := hS.len
    have ol := ordW_len ws
    refine ⟨_, (pss_cons (ps_set (i := 2) nd rfl (Or.inl rfl) (pe_d D_need_spreads hr (pa_cons (pv 0) pa_nil)))
  (pss_cons (ps_set (i := 3) nd rfl (Or.inr rfl) (pe_d D_need_widths hr (pa_cons (pv 1) (pa_cons (pe_callB call_lenQ (by rfl) T.len PySem.boot_len (pa_cons (pv 2) pa_nil)) pa_nil))))
  (pss_cons (ps_set (i := 4) nd rfl (Or.inl rfl) (pe_d D_falling hr (pa_cons (pv 3) pa_nil)))
  (pss_one (ps_ret (pe_callB (cr_all rfl) (by rfl) T.all (by decide +kernel) (pa_cons (pe_lc (own := [("at", 5), ("meet", 6)]) (g := gTup K 2 (gCons (gName 5) (gCons (gName 6) gNil)))  (by rfl) nd (pi_zip (by rfl) T.zip (pa_cons (pv 4) (pa_cons (pe_d D_meets_down hr (pa_cons (pv 2) (pa_cons (pv 4) pa_nil))) pa_nil))) (blkOk_by (own := [("at", 5), ("meet", 6)]) (N := ["spreads", "widths", "some", "wide", "order", "at", "meet"]) (sc := defScope s_fitting) (by decide +kernel)) (fun _ _ _ _ _ => (pg_tup (by rfl) (pgs_cons (pg_name (i := 5) nd rfl (Or.inl rfl)) (pgs_cons (pg_name (i := 6) nd rfl (Or.inl rfl)) pgs_nil)))) (fun _ _ _ _ _ => pts_nil) (fun _ _ _ _ _ => (pe_cmpR op_le (pe_ix ix_q (pv 3) (pv 5) (fun _ _ => rfl)) (pe_fldK (K := K) (pv 6) rfl) (nomark _)))) pa_nil))))))), ?_⟩
    refine ⟨_, rfl, a, sps, b, L, rfl, ha, hS, h0, hl, fun H1 q1 s1 f1 e1 => ?_⟩
    refine ⟨_, rfl, _, rfl, q1, _, rfl, .inl e1, ?_⟩
    refine ⟨c, ws, (by rw [List.length_map, ll, ← lw]; rfl), same_tq s1 hc, fun H2 q2 s2 f2 e2 => ?_⟩
    have s02 := s1.trans s2
    refine ⟨_, rfl, q2, ws, rfl, e2, (by omega), tb.ext (fun x o h => s02 x o h), fun H3 q3 x3 f3 e3 => ?_⟩
    have x03 : ExF [(PT, fallQ)] H H3 := (ExF.of s02 tb).trans x3
    refine ⟨_, rfl, _, rfl, _, rfl, q1, q3, sps, b, L, ordW ws, rfl, x3.lst (s2 _ _ e1), hS.ext x03.ext, e3, (fun i hi => by have := List.mem_range.mp ((ordW_perm ws).mem_iff.mp hi); omega), (by omega), hb, fun H4 q4 ms s4 f4 e4 hM => ?_⟩
    have m1 := hM.1
    have e24 := s4 _ _ (x3.lst e2)
    refine ⟨q3, q4, _, _, rfl, SqL.of (s4 _ _ e3), SqL.of e4, lc_zipN ((ordW ws).map vN) (ms.map V.ref) (fun i => .bl (decide (ws.getD ((ordW ws).getD i 0) 0 ≤ (mtE b (slt L) ((ordW ws).take (i + 1))).length))) (s4 _ _ e3) e4 (by rw [List.length_map, List.length_map, m1]) (by rw [List.length_map]; omega) (fun i x y H' t hx hy s eT => ?_) (fun D H5 hD s5 e5 => ?_)⟩
    · obtain ⟨at_, hat, rfl⟩ := map_get hx
      obtain ⟨m, hm, rfl⟩ := map_get hy
      have al : at_ < ws.length := List.mem_range.mp ((ordW_perm ws).mem_iff.mp (List.mem_of_getElem? hat))
      obtain ⟨dx, u, g1, g2⟩ := (hM.2 i m hm).same s
      have eat : (ordW ws).getD i 0 = at_ := by rw [List.getD_eq_getElem?_getD, hat]; rfl
      intro Z Nx z1 z2
      refine ⟨t, _, rfl, SqT.of eT, rfl, _, _, rfl, _, _, rfl, rfl, ?_⟩
      refine ⟨rfl, _, rfl, _, rfl, q2, _, at_, vN (ws.getD at_ 0), rfl, rfl, .inl (s _ _ e24), getD_getL al, _, rfl, m, CS, dx, _, vN (mtE b (slt L) ((ordW ws).take (i + 1))).length, rfl, g1, TS.cl, TS.nd, rfl, _, _, rfl, rfl, ?_⟩
      show Z (V.bl (decide (((ws.getD at_ 0 : Nat) : Int) ≤ (((mtE b (slt L) ((ordW ws).take (i + 1))).length : Nat) : Int)))) H'
      rw [show decide (((ws.getD at_ 0 : Nat) : Int) ≤ (((mtE b (slt L) ((ordW ws).take (i + 1))).length : Nat) : Int)) = decide (ws.getD ((ordW ws).getD i 0) 0 ≤ (mtE b (slt L) ((ordW ws).take (i + 1))).length) by rw [eat]; exact decide_eq_decide.mpr Int.ofNat_le]
      exact z1 rfl _ (Same.refl _)
    · rw [List.length_map, ol] at e5
      refine ⟨D, (List.range ws.length).map fun i => decide (ws.getD ((ordW ws).getD i 0) 0 ≤ (mtE b (slt L) ((ordW ws).take (i + 1))).length), rfl, SqL.of (by rw [e5, List.map_map]; rfl), ?_⟩
      have e : ((List.range ws.length).map fun i => decide (ws.getD ((ordW ws).getD i 0) 0 ≤ (mtE b (slt L) ((ordW ws).take (i + 1))).length)).all id = fitB b L ws := by
        rw [List.all_map]
        rfl
      rw [e]
      exact k _ ((x03.same s4).same s5)
theorem ok_chain (F : FnP K "chain" "chain" s_chain f fd) (D_fitting : Dn P w K mg base 9 "fitting" ["spreads", "widths"] (sp_fitting [(PT, fallQ)] CR)) (D_falling : Dn P w K mg base 3 "falling" ["widths"] (sp_falling [(PT, fallQ)])) (D_meets_down : Dn P w K mg base 8 "meets_down" ["spreads", "order"] (sp_meets_down CS CR)) (K_Space : Kn P w K mg base 4 CS "Space" ["self", "bits", "words"] (sp_Space CS)) (M_Space_completing : Mn P w K mg base 3 CS "completing" ["self", "other"] (sp_completing CS)) : FnOk P w K mg base CX0 10 f fd ["spreads", "widths"] (sp_chain [(PT, fallQ)] CS CR) := by
  have nd := sc_chain.nd
  refine fnok F sc_chain (fun vs H Q E h => ?_) (fun cdv A outer s H vs Q E hr h => ?_)
  · obtain ⟨a, c, sps, b, L, ws, rfl, _⟩ := h
    rfl
  · obtain ⟨a, c, sps, b, L, ws, rfl, ha, hS, h0, hl, hb, hc, lw, tb, kN, kT⟩ := h
    have ll := hS.len
    have ol := ordW_len ws
    refine ⟨_, (pss_cons (ps_if (pt_not (pt_val (pe_d D_fitting hr (pa_cons (pv 0) (pa_cons (pv 1) pa_nil)))))
    (pss_one (ps_ret pe_non))
    pss_nil)
  (pss_cons (ps_asg (pe_tup (pa_cons (pe_d D_falling hr (pa_cons (pe_callTy call_listQ (by rfl) T.list (by decide +kernel) (pa_cons (pv 1) pa_nil)) pa_nil)) (pa_cons pe_dnewK (pa_cons (pe_k K_Space hr (pa_cons (pe_fld (pe_ix ix_q (pv 0) pe_int (fun _ _ => rfl)) rfl) (pa_cons (pe_lst pa_nil) pa_nil))) pa_nil)))) (pg_tup (by rfl) (pgs_cons (pg_name (i := 2) nd rfl (Or.inl rfl)) (pgs_cons (pg_name (i := 3) nd rfl (Or.inr rfl)) (pgs_cons (pg_name (i := 4) nd rfl (Or.inl rfl)) pgs_nil)))))
  (pss_cons (ps_for PassesOwn.never rfl (pi_seq (pe_revL (pe_listZip rfl (by rfl) T.list (by rfl) T.zip (pa_cons (pv 2) (pa_cons (pe_d D_meets_down hr (pa_cons (pe_callTy call_listQ (by rfl) T.list (by decide +kernel) (pa_cons (pv 0) pa_nil)) (pa_cons (pv 2) pa_nil))) pa_nil))))) (pg_tup (by rfl) (pgs_cons (pg_name (i := 5) nd rfl (Or.inl rfl)) (pgs_cons (pg_name (i := 6) nd rfl (Or.inl rfl)) pgs_nil)))
    (pss_cons (ps_set (i := 7) nd rfl (Or.inl rfl) (pe_slice sl_list (pe_callTy call_listQ (by rfl) T.list (by decide +kernel) (pa_cons (pe_m (pv 4) M_Space_completing hr (pa_cons (pv 6) pa_nil)) pa_nil)) po_none (po_some (pe_op on_sub (pe_ix ix_q (pv 1) (pv 5) (fun _ _ => rfl)) (pe_fld (pv 4) rfl)))))
    (pss_cons (ps_set (i := 4) nd rfl (Or.inl rfl) (pe_k K_Space hr (pa_cons (pe_fld (pv 4) rfl) (pa_cons (pe_op op_cat (pe_callTy call_listQ (by rfl) T.list (by decide +kernel) (pa_cons (pe_fld (pv 4) rfl) pa_nil)) (pv 7)) pa_nil))))
    (pss_one (ps_dput (hu_of hr) (pv 3) (pv 5) (pv 4) rfl)))))
  (pss_one (ps_ret (pe_callTy call_tupleQ (by rfl) T.tuple (by decide +kernel) (pa_cons (pe_lc (own := [("at", 5)]) (g := gName 5) (by rfl) nd (pi_range1 (by rfl) T.range (pa_cons (pe_callB call_lenQ (by rfl) T.len PySem.boot_len (pa_cons (pv 1) pa_nil)) pa_nil)) (blkOk_by (own := [("at", 5)]) (N := ["spreads", "widths", "order", "found", "space", "at", "meet", "more"]) (sc := defScope s_chain) (by decide +kernel)) (fun _ _ _ _ _ => (pg_name (i := 5) nd rfl (Or.inl rfl))) (fun _ _ _ _ _ => pts_nil) (fun _ _ _ _ _ => (pe_dget (hu_of hr) (pv 3) (pv 5) (fun _ _ => rfl)))) pa_nil))))))), ?_⟩
    refine ⟨_, rfl, _, rfl, a, c, sps, b, L, ws, rfl, ha, hS, h0, hl, hb, hc, lw, tb, fun H1 x1 => ⟨_, rfl, ?_⟩⟩
    cases ef : fitB b L ws with
    | false => exact kN ef _ x1
    | true =>
    have hc1 : Tq H1 c (ws.map vN) := hc.elim (fun h => .inl (x1.lst h)) fun h => .inr (x1.tup h)
    have ha1 := x1.lst ha
    have hS1 := hS.ext x1.ext
    refine ⟨_, rfl, c, _, rfl, hc1, fun l hl0 => ?_⟩
    have s2 := same_new0 (o := .lst (ws.map vN)) hl0
    refine ⟨l, ws, rfl, upd_same, (by omega), x1.tab.ext (fun x o h => s2 x o h), fun H3 q3 x3 f3 e3 => ?_⟩
    have x13 : ExF [(PT, fallQ)] H1 H3 := (ExF.of s2 x1.tab).trans x3
    have x03 := x1.trans x13
    intro d hd
    have s4 := same_new0 (o := .dK []) hd
    have ha3 := x13.lst ha1
    have hS3 := hS1.ext x13.ext
    have hc3 : Tq H3 c (ws.map vN) := hc1.elim (fun h => .inl (x13.lst h)) fun h => .inr (x13.tup h)
    have ed4 : upd H3 d (.dK []) d = some (.dK []) := upd_same
    generalize upd H3 d (.dK []) = H4 at *
    have g0 : sps[0]? = some (sps[0]'(by omega)) := List.getElem?_eq_getElem (by omega)
    generalize sps[0]'(by omega) = sp0 at g0
    obtain ⟨ls0, ⟨d0, t0, u0, j1, j2, j3⟩, _⟩ := (hS3.same s4).get g0
    refine ⟨_, rfl, a, _, 0, .ref sp0, rfl, rfl, .inl (s4 _ _ ha3), by rw [List.getElem?_map, g0]; rfl, sp0, CR, d0, _, vN b, rfl, j1, TR.cl, TR.nb, rfl, (by show 0 ≤ sizeLine; decide), fun e he => ?_⟩
    have s5 := same_new0 (o := .lst []) he
    refine mk_SpaceP (b := b) (a := e) (ws := []) (.inl upd_same) (fun x hx => by cases hx) (by decide) (fun H5 sp s6 hsp A5 => ?_)
    have s45 := s5.trans s6
    refine ⟨(by show 3 ≤ sizeLine; decide), fun t ht => ⟨t, _, rfl, SqT.of upd_same, rfl, _, _, rfl, _, _, rfl, _, _, rfl, rfl, ?_⟩⟩
    have s7 := s45.trans (same_new0 (o := .tup [.ref q3, .ref d, .ref sp]) ht)
    have A6 := A5.same (same_new0 (o := .tup [.ref q3, .ref d, .ref sp]) ht)
    generalize upd H5 t (.tup [.ref q3, .ref d, .ref sp]) = H6 at *
    have s36 := s4.trans s7
    refine ⟨_, rfl, _, rfl, a, _, rfl, .inl (s36 _ _ ha3), fun l2 hl2 => ?_⟩
    have s8 := same_new0 (o := .lst (sps.map V.ref)) hl2
    have s38 := s36.trans s8
    refine ⟨_, rfl, l2, q3, sps, b, L, ordW ws, rfl, upd_same, hS3.same s38, s38 _ _ e3, (fun i hi => by have := List.mem_range.mp ((ordW_perm ws).mem_iff.mp hi); omega), (by omega), hb, fun H8 q8 ms s9 f8 e8 hM => ?_⟩
    have m1 := hM.1
    refine ⟨q3, q8, _, _, rfl, s9 _ _ (s38 _ _ e3), e8, (by rw [List.length_map, List.length_map, m1]), (by rw [List.length_map, ol]; omega), fun H9 q9 Ts s10 f9 e9 P9 => ?_⟩
    refine ⟨q9, _, rfl, SqL.of e9, fun p10 h10 => ?_⟩
    have s11 := same_new0 (o := .lst (Ts.map V.ref).reverse) h10
    have eL : upd H9 p10 (.lst (Ts.map V.ref).reverse) p10 = some (.lst (Ts.map V.ref).reverse) := upd_same
    generalize upd H9 p10 (.lst (Ts.map V.ref).reverse) = H10 at *
    have s610 := s8.trans (s9.trans (s10.trans s11))
    have s310 := s36.trans s610
    have hM10 := hM.same (s10.trans s11)
    have ed10 := s610 _ _ (s7 _ _ ed4)
    have A10 := A6.same s610
    have hc10 := same_tq s310 hc3
    have Tl : Ts.length = ws.length := by rw [P9.len, List.length_map, ol]
    have n0 : 0 < ws.length := by omega
    have hSlt : ∀ i, i < ws.length → ∀ x ∈ slt L i, x < 2 ^ b := fun i hi x hx => by
      have g : sps[i]? = some (sps[i]'(by omega)) := List.getElem?_eq_getElem (by omega)
      obtain ⟨ls, _, wf⟩ := hS.get g
      exact blen_le.mp (wf.s x hx)
    have wf := fitB_iff.mp ef
    have op := ordW_perm ws
    have od := ordW_pair ws
    refine for_sq2 (K := K) (Tq.l eL) (fun i σ H2 => ∃ v5 v6 v7 spA kvs, σ = [some (.ref a), some (.ref c), some (.ref q3), some (.ref d), some (.ref spA), v5, v6, v7] ∧ Sx d H10 H2 ∧ H2 d = some (.dK kvs) ∧ SpaceAt CS H2 spA b (chR (wof ws) ((chPr b (slt L) (ordW ws)).take i)) ∧ kvs.length ≤ i ∧ ∀ j p, j < i → (chPr b (slt L) (ordW ws))[j]? = some p → ∃ m, valV kvs (kn p.1) = some (.ref m) ∧ SpaceAt CS H2 m b (chR (wof ws) ((chPr b (slt L) (ordW ws)).take (j + 1)))) ⟨none, none, none, sp, [], rfl, fun _ _ _ h => h, ed10, A10, Nat.zero_le _, fun j p hj => absurd hj (Nat.not_lt_zero _)⟩ (fun i σ' H' hp o ho => ?_) ?_ ?_
    · obtain ⟨_, _, _, _, _, _, z, _⟩ := hp
      exact z _ _ (ne_of ho ed10 (by rw [eL] at ho; cases ho; intro z; cases z)) ho
    · rintro i x σ H2 hx ⟨v5, v6, v7, spA, kvs, rfl, sx, ed2, A2, lk, hk⟩
      have il := (List.getElem?_eq_some_iff.mp hx).1
      rw [List.length_reverse, List.length_map, Tl] at il
      rw [List.getElem?_reverse (by rw [List.length_map, Tl]; exact il), List.length_map, Tl] at hx
      obtain ⟨Tt, hT, rfl⟩ := map_get hx
      obtain ⟨x', y', g1, g2, g3⟩ := P9.at_ _ _ hT
      obtain ⟨at_, hat, rfl⟩ := map_get g1
      obtain ⟨m, hm, rfl⟩ := map_get g2
      have al : at_ < ws.length := List.mem_range.mp (op.mem_iff.mp (List.mem_of_getElem? hat))
      have pr := chPr_at (b := b) (S := slt L) (o := ordW ws) (j := i) (by omega)
      rw [ol, List.getD_eq_getElem?_getD, hat] at pr
      have pr : (chPr b (slt L) (ordW ws))[i]? = some (at_, mtE b (slt L) ((ordW ws).take (ws.length - 1 - i + 1))) := pr
      obtain ⟨c1, c2⟩ := ch_step op od hSlt wf il pr
      obtain ⟨Y, cY⟩ := ch_spn op od hSlt wf i (Nat.le_of_lt il)
      have clt := ch_lt op od hSlt wf i (Nat.le_of_lt il)
      have hm2 := (hM10.2 _ m hm).sx ed10 sx
      have mlt : WfS b (mtE b (slt L) ((ordW ws).take (ws.length - 1 - i + 1))) := WfS.mtE hb (fun i hi => hSlt i (by omega)) fun j hj => by have := List.mem_range.mp (op.mem_iff.mp (List.mem_of_mem_take hj)); omega
      generalize mtE b (slt L) ((ordW ws).take (ws.length - 1 - i + 1)) = M at *
      generalize chR (wof ws) ((chPr b (slt L) (ordW ws)).take i) = R at *
      have wfR : WfS b R := by rw [cY]; exact ⟨by omega, spn_rws Y, fun x hx => blen_le.mpr (clt x (by rw [cY]; exact hx))⟩
      have eT := sx _ _ (ne_of g3 (s9 _ _ (s8 _ _ (s7 _ _ ed4)) |> s10 _ _) (by intro z; cases z)) (s11 _ _ g3)
      obtain ⟨dxA, tA, y1, y2⟩ := id A2
      have hc2 : Tq H2 c (ws.map vN) := hc10.elim (fun h => .inl (sx _ _ (ne_of h ed10 (by intro z; cases z)) h)) fun h => .inr (sx _ _ (ne_of h ed10 (by intro z; cases z)) h)
      refine ⟨Tt, _, rfl, SqT.of eT, rfl, _, _, rfl, _, _, rfl, rfl, ?_⟩
      refine ⟨_, rfl, spA, dxA, _, rfl, y1, rfl, _, rfl, spA, m, b, R, M, rfl, A2, hm2, wfR, mlt, fun Ha t3 sa fa ea => ?_⟩
      refine ⟨t3, _, rfl, .inr ea, fun l3 hl3 => ?_⟩
      have sb := sa.trans (same_new0 (o := .lst ((cmpl R M).map vN)) hl3)
      refine ⟨_, rfl, _, rfl, c, _, at_, vN (ws.getD at_ 0), rfl, rfl, same_tq sb hc2, getD_getL al, _, rfl, spA, CS, dxA, _, vN R.length, rfl, sb _ _ y1, TS.cl, TS.nd, rfl, _, _, rfl, rfl, c2, _, rfl, l3, _, rfl, SqL.of upd_same, fun p4 hp4 => ?_⟩
      rw [cut_takeN]
      have sc := sb.trans (same_new0 (o := .lst (((cmpl R M).take (ws.getD at_ 0 - R.length)).map vN)) hp4)
      have e4 : upd (upd Ha l3 (.lst ((cmpl R M).map vN))) p4 (.lst (((cmpl R M).take (ws.getD at_ 0 - R.length)).map vN)) p4 = _ := upd_same
      generalize upd (upd Ha l3 (.lst ((cmpl R M).map vN))) p4 (.lst (((cmpl R M).take (ws.getD at_ 0 - R.length)).map vN)) = Hc at *
      have rl : R.length ≤ b := wfR.r.len_le wfR.b
      have ml : M.length ≤ b := mlt.r.len_le mlt.b
      have cl := (cms_len R M).2
      have cl : (cmpl R M).length ≤ M.length := cl
      refine ⟨_, rfl, spA, CS, dxA, _, vN b, rfl, sc _ _ y1, TS.cl, TS.nb, rfl, _, rfl, spA, CS, dxA, _, .ref tA, rfl, sc _ _ y1, TS.cl, TS.nr, rfl, tA, _, rfl, .inr (sc _ _ y2), fun l5 hl5 => ?_⟩
      have sd := same_new0 (o := .lst (R.map vN)) hl5
      refine ⟨_, rfl, _, _, _, _, rfl, rfl, upd_same, sd _ _ e4, (by rw [List.length_map, List.length_map, List.length_take, sizeLine_eq]; omega), fun p6 hp6 => ?_⟩
      have se := sd.trans (same_new0 (o := .lst (R.map vN ++ ((cmpl R M).take (ws.getD at_ 0 - R.length)).map vN)) hp6)
      refine mk_SpaceP (ws := R ++ (cmpl R M).take (ws.getD at_ 0 - R.length)) (.inl (by rw [upd_same, List.map_append])) (fun x hx => ?_) (by rw [List.length_append, List.length_take]; omega) (fun H7 spB s7' hspB A7 => ?_)
      · rcases List.mem_append.mp hx with q | q
        · exact wfR.b x q
        · exact mlt.b x (cmpl_mem _ x (List.mem_of_mem_take q))
      have sf := sc.trans (se.trans s7')
      have ed7 := sf _ _ ed2
      refine ⟨_, rfl, _, rfl, _, rfl, d, _, rfl, DPut.k (k := kn at_) ed7 (by rw [sizeLine_eq]; omega), ?_⟩
      have sx7 := sx.same sf
      have keep : ∀ {q : Addr} {r : List Nat}, SpaceAt CS H7 q b r → SpaceAt CS (upd H7 d (.dK (putK kvs (kn at_) (.ref spB)))) q b r := fun h => h.sx ed7 (Sx.put fun _ _ _ h => h)
      have e1' : chR (wof ws) ((chPr b (slt L) (ordW ws)).take (i + 1)) = spn (R ++ (cmpl R M).take (ws.getD at_ 0 - R.length)) := c1
      refine ⟨_, _, _, spB, _, rfl, sx7.put, upd_same, by rw [e1']; exact keep A7, Nat.le_trans (length_putK _ _ _) (by omega), fun j p hj hpj => ?_⟩
      rw [valV_put]
      by_cases ej : p.1 = at_
      · have eij : j = i := by
          have q1 := ch_uniq op od hSlt wf (j := j) (i := p.1) (M := p.2) hpj
          have q2 := ch_uniq op od hSlt wf pr
          rw [ej] at q1
          exact q1.symm.trans q2
        subst eij
        rw [ej, if_pos rfl, e1']
        exact ⟨spB, rfl, keep A7⟩
      · have ji : j ≠ i := fun z => by
          rw [z, pr] at hpj
          exact ej (congrArg Prod.fst (Option.some.inj hpj)).symm
        rw [if_neg (fun z => ej (by have := Sum.inl.inj z; omega))]
        obtain ⟨m', v1, v2⟩ := hk j p (by omega) hpj
        exact ⟨m', v1, keep (v2.same sf)⟩
    · rintro σ H2 ⟨v5, v6, v7, spA, kvs, rfl, sx, ed2, A2, lk, hk⟩
      rw [List.length_reverse, List.length_map, Tl] at hk
      have hc2 : Tq H2 c (ws.map vN) := hc10.elim (fun h => .inl (sx _ _ (ne_of h ed10 (by intro z; cases z)) h)) fun h => .inr (sx _ _ (ne_of h ed10 (by intro z; cases z)) h)
      have vat : ∀ i, i < ws.length → ∃ m, valV kvs (kn i) = some (.ref m) ∧ SpaceAt CS H2 m b (chn b (slt L) (wof ws) (ordW ws) i) := fun i hi => by
        obtain ⟨h1, M, h2⟩ := ch_idx op od hSlt wf hi
        exact hk _ _ h1 h2
      refine ⟨_, rfl, c, _, rfl, hc2, _, rfl, (by omega), (by rw [List.length_map]; omega), lc_pureR (n := (ws.map vN).length) (fun _ => true) (fun i => (valV kvs (kn i)).getD .non) (by rw [List.length_map]; omega) (fun i H' hi s => ?_) (fun D H11 hD s11 e11 => ?_)⟩
      · rw [List.length_map] at hi
        obtain ⟨m, v1, v2⟩ := vat i hi
        intro Z Nx z1 z2
        refine ⟨rfl, _, rfl, _, rfl, d, .ref m, rfl, (by rw [← v1]; exact DGet.k (k := kn i) (s _ _ ed2)), ?_⟩
        have := z1 rfl _ (Same.refl _)
        rw [v1] at this
        exact this
      · rw [filt_true, List.length_map] at e11
        refine ⟨D, _, rfl, e11, fun l hl => ?_⟩
        have sg := (Sx.to s310 hd sx).trans (same_new s11 hl (o := .tup ((List.range ws.length).map fun i => (valV kvs (kn i)).getD .non)))
        refine kT ef _ l ((List.range ws.length).map fun i => match valV kvs (kn i) with | some (.ref m) => m | _ => d) ((x03.same sg)) (x03.free _ ((Sx.to s310 hd sx).free (s11.free hl))) ?_ ⟨by rw [List.length_map, List.length_range], fun i m hm => ?_⟩
        · rw [upd_same, List.map_map]
          refine congrArg (fun z => some (HO.tup z)) (List.map_congr_left fun i hi => ?_)
          obtain ⟨m, v1, _⟩ := vat i (List.mem_range.mp hi)
          show (valV kvs (kn i)).getD .non = V.ref (match valV kvs (kn i) with | some (.ref m) => m | _ => d)
          rw [v1]
          rfl
        · obtain ⟨j, hj, e⟩ := map_get' hm
          obtain ⟨h1, rfl⟩ := rng_get hj
          obtain ⟨m', v1, v2⟩ := vat j h1
          rw [v1] at e
          subst e
          exact v2.same (same_new s11 hl)
end
end LaneX
set_option Elab.async false
set_option linter.all false
set_option maxRecDepth 100000
set_option maxHeartbeats 4000000
namespace LaneX
open PySem PySem.Spec PyProof.Rows L2
theorem mk_SpreadP {C : Addr} {H1 : Hp} {b : Nat} {a c : Addr} {ss ls : List Nat} {R : Addr → Hp → Prop} {E : XK} (hS : Tq H1 a (ss.map vN)) (hL : Tq H1 c (ls.map vN)) (wf : WfR b ss ls) (hk : b ≤ rk (ss ++ ls)) (k : ∀ H' p, Same H1 H' → H1 p = none → SpreadAt C H' p b ss ls → R p H') :
    ∀ x dx, H1 x = none → H1 dx = none → dx ≠ x → sp_Spread C (.ref x :: ([vN b, .ref a, .ref c] ++ [])) (upd (upd H1 dx (.own x)) x (.ins C dx [])) (fun v H2 => v = .non ∧ R x H2) E := by
  intro x dx nx ndx ne
  have nx' : upd H1 dx (.own x) x = none := (upd_ne ne.symm).trans nx
  refine ⟨x, dx, b, a, c, ss, ls, rfl, upd_same, (hS.new ndx).new nx', (hL.new ndx).new nx', wf.s, wf.l, wf.sl, wf.ll, hk, fun H' hA kp => ⟨rfl, k _ _ (made_same nx ndx kp) nx hA⟩⟩
def sp_truth : Sp := fun vs H Q _ => ∃ c : Bool, vs = [.bl c, .bl c] ∧ Q (.bl true) H
def sp_truthF : Sp := fun vs H Q _ => ∃ c e : Bool, vs = [.bl c, .bl e] ∧ Q (.bl (decide (c = e))) H
def sp_meetL : Sp := fun vs H Q _ => ∃ (a c : Addr) (A B : List Nat), vs = [.ref a, .ref c] ∧ Tq H a (A.map vN) ∧ Tq H c (B.map vN) ∧ A.length ≤ 400000 ∧ B.length ≤ 400000 ∧ ∀ H' q, Same H H' → H q = none → H' q = some (.lst ((mtL A B).map vN)) → Q (.ref q) H'
def sp_madeL (CR : Addr) : Sp := fun vs H Q _ => ∃ (p lc a : Addr) (N b : Nat) (ss : List Nat), vs = [.ref p, vN b, .ref a] ∧ Pn H p lc N ∧ Tq H a (ss.map vN) ∧ ss.length ≤ 1000 ∧ (∀ x ∈ ss, x < 2 ^ b) ∧ b ≤ 500 ∧ N + 10000 ≤ TOP ∧
  ∀ H' q s2 l2, s2.Perm ss → WfR b s2 l2 → SpreadAt CR H' q b s2 l2 → Pn H' p lc (N + 10000) → Kp H H' → Q (.ref q) H'
/-- the drawn lists -/
def LlsAt (H : Hp) (qs : List Addr) (LL : List (List Nat)) : Prop := qs.length = LL.length ∧ ∀ (i : Nat) (q : Addr) (l : List Nat), qs[i]? = some q → LL[i]? = some l → H q = some (.lst (l.map vN))
def LlsOk (b : Nat) (LL : List (List Nat)) : Prop := ∀ l ∈ LL, l.length ≤ 8 ∧ ∀ x ∈ l, x < 2 ^ b
def sp_slot_lists : Sp := fun vs H Q _ => ∃ (p lc : Addr) (N b n : Nat), vs = [.ref p, vN b, vN n] ∧ Pn H p lc N ∧ b ≤ 500 ∧ n ≤ 100 ∧ N + 10000000 ≤ TOP ∧
  ∀ H' q qs LL, H q = none → H' q = some (.lst (qs.map V.ref)) → LlsAt H' qs LL → LL.length = n → LlsOk b LL → Pn H' p lc (N + 10000000) → Kp H H' → Q (.ref q) H'
section
variable {P : Program} {w : World} {K : PySem.W.Frag} {mg : Str → Option Value} {base : Heap} {f : Addr} {fd : FuncData} {CS CR : Addr} (T : Bt mg) (TS : SpaceT K mg CS) (TR : SpreadT K mg CR)
theorem ok_truth (F : FnP K "_law_truth" "_law_truth" s_truthL f fd) : FnOk P w K mg base CX0 1 f fd ["_law_value", "_law_due"] sp_truthF := by
  have nd := sc_truthL.nd
  refine fnok F sc_truthL (fun vs H Q E h => ?_) (fun cdv A outer s H vs Q E hr h => ?_)
  · obtain ⟨c, e, rfl, _⟩ := h
    rfl
  · obtain ⟨c, e, rfl, k⟩ := h
    refine ⟨_, (pss_one (ps_ret (pe_ifExp (pt_val (pv 1)) (pe_cmpR op_is_bl (pv 0) pe_bl (nomark _)) (pe_cmpR op_is_bl (pv 0) pe_bl (nomark _))))), ?_⟩
    refine ⟨_, rfl, _, rfl, br (fun z => ?_) (fun z => ?_)⟩
    · refine ⟨_, rfl, c, true, rfl, rfl, ?_⟩
      rw [z] at k
      cases c <;> exact k
    · refine ⟨_, rfl, c, false, rfl, rfl, ?_⟩
      rw [z] at k
      cases c <;> exact k
include T
theorem ok_meetL (F : FnP K "_law_meet" "_law_meet" s_meetL f fd) (D_basisL : Dn P w K mg base 2 "_law_basis" ["_law_words"] sp_basis) (D_kernelL : Dn P w K mg base 2 "_law_kernel" ["_law_columns"] sp_kernel) (D_imageL : Dn P w K mg base 1 "_law_image" ["_law_columns", "_law_word_here"] sp_image) : FnOk P w K mg base CX0 3 f fd ["_law_one", "_law_other"] sp_meetL := by
  have nd := sc_meetL.nd
  refine fnok F sc_meetL (fun vs H Q E h => ?_) (fun cdv A outer s H vs Q E hr h => ?_)
  · obtain ⟨a, c, _, _, rfl, _⟩ := h
    rfl
  · obtain ⟨a, c, X, Y, rfl, hX, hY, lX, lY, k⟩ := h
    refine ⟨_, (pss_cons (ps_asg (pe_tup (pa_cons (pe_d D_basisL hr (pa_cons (pv 0) pa_nil)) (pa_cons (pe_d D_basisL hr (pa_cons (pv 1) pa_nil)) pa_nil))) (pg_tup (by rfl) (pgs_cons (pg_name (i := 2) nd rfl (Or.inr rfl)) (pgs_cons (pg_name (i := 3) nd rfl (Or.inl rfl)) pgs_nil))))
  (pss_one (ps_ret (pe_lc (own := [("_law_word_here", 4)]) (g := gName 4) (by rfl) nd (pi_seq (pe_d D_kernelL hr (pa_cons (pe_op op_cat (pv 2) (pv 3)) pa_nil))) (blkOk_by (own := [("_law_word_here", 4)]) (N := ["_law_one", "_law_other", "_law_first", "_law_second", "_law_word_here"]) (sc := defScope s_meetL) (by decide +kernel)) (fun _ _ _ _ _ => (pg_name (i := 4) nd rfl (Or.inl rfl))) (fun _ _ _ _ _ => pts_nil) (fun _ _ _ _ _ => (pe_d D_imageL hr (pa_cons (pv 2) (pa_cons (pe_op on_and (pv 4) (pe_op on_sub (pe_op on_shl pe_int (pe_callB call_lenQ (by rfl) T.len PySem.boot_len (pa_cons (pv 2) pa_nil))) pe_int)) pa_nil)))))))), ?_⟩
    refine ⟨_, rfl, a, X, rfl, hX, (by omega), fun H1 q1 s1 f1 e1 => ?_⟩
    refine ⟨_, rfl, c, Y, rfl, same_tq s1 hY, (by omega), fun H2 q2 s2 f2 e2 => ?_⟩
    refine ⟨(by show 2 ≤ sizeLine; decide), fun t ht => ⟨t, _, rfl, SqT.of upd_same, rfl, _, _, rfl, _, _, rfl, rfl, ?_⟩⟩
    have s3 := same_new0 (o := .tup [.ref q1, .ref q2]) ht
    have e13 := s3 _ _ (s2 _ _ e1)
    have e23 := s3 _ _ e2
    have s03 := (s1.trans s2).trans s3
    generalize upd H2 t (.tup [.ref q1, .ref q2]) = H3 at *
    have lb1 := bas_len_le X
    have lb2 := bas_len_le Y
    refine ⟨_, rfl, _, rfl, _, _, _, _, rfl, rfl, e13, e23, (by rw [List.length_map, List.length_map, sizeLine_eq]; omega), fun p hp => ?_⟩
    have s4 := same_new0 (o := .lst ((bas X).map vN ++ (bas Y).map vN)) hp
    refine ⟨p, bas X ++ bas Y, rfl, .inl (by rw [upd_same, List.map_append]), (by rw [List.length_append]; omega), fun H5 q5 s5 f5 e5 => ?_⟩
    have s35 := s4.trans s5
    have tl := tgd_len (bas X ++ bas Y)
    rw [List.length_append] at tl
    refine lc_pure (tgd (bas X ++ bas Y)).2 vN (fun _ => true) (fun w => vN (img (bas X) (w &&& (2 ^ (bas X).length - 1)))) (.inl e5) (by omega) (fun n H' hn s => ?_) (fun D H6 hD s6 e6 => ?_)
    · have e1' := s _ _ (s35 _ _ e13)
      intro Z Nx z1 z2
      refine ⟨rfl, _, rfl, _, rfl, _, rfl, q1, _, rfl, .inl e1', 1, ((bas X).map vN).length, rfl, rfl, shl_ok1 (by rw [blen_one]; decide) (by rw [List.length_map]; omega), _, _, rfl, rfl, ?_, _, _, rfl, rfl, q1, bas X, _, rfl, .inl e1', (by omega), ?_⟩
      · rw [Nat.one_shiftLeft]; exact Nat.two_pow_pos _
      · rw [List.length_map, Nat.one_shiftLeft]
        exact z1 rfl _ (Same.refl _)
    · rw [filt_true] at e6
      exact k _ D (s03.trans (s35.trans s6)) (s03.free (s35.free hD)) (by rw [e6]; unfold mtL; rw [List.map_map]; rfl)
include TR
theorem ok_madeL (F : FnP K "_law_made" "_law_made" s_madeL f fd) (D_basisL : Dn P w K mg base 2 "_law_basis" ["_law_words"] sp_basis) (D_leftL : Dn P w K mg base 1 "_law_left" ["_law_rows", "_law_word_here"] sp_left) (D_mixedL : Dn P w K mg base 2 "_law_mixed" ["_law_pen", "_law_some"] sp_mixed) (D_drawL : Dn P w K mg base 1 "_law_draw" ["_law_pen", "_law_span"] sp_draw) (D_wordL : Dn P w K mg base 2 "_law_word" ["_law_pen", "_law_bits"] sp_word) (K_Spread : Kn P w K mg base 4 CR "Spread" ["self", "bits", "slots", "lanes"] (sp_Spread CR)) : FnOk P w K mg base CX0 6 f fd ["_law_pen", "_law_bits", "_law_slots"] (sp_madeL CR) := by
  have nd := sc_madeL.nd
  refine fnok F sc_madeL (fun vs H Q E h => ?_) (fun cdv A outer s H vs Q E hr h => ?_)
  · obtain ⟨p, lc, a, N, b, ss, rfl, _⟩ := h
    rfl
  · obtain ⟨p, lc, a, N, b, ss, rfl, hpn, hS, ls, hss, hb, hN, k⟩ := h
    refine ⟨_, (pss_cons (ps_par (i := 3) (j := 4) (by rfl) nd rfl rfl (by decide) rfl rfl (pa_cons (pe_d D_basisL hr (pa_cons (pv 2) pa_nil)) (pa_cons (pe_lst pa_nil) pa_nil)) (by rfl))
  (pss_cons (ps_for PassesOwn.never rfl (pi_seq (pe_d D_mixedL hr (pa_cons (pv 0) (pa_cons (pe_listRg rfl (by rfl) T.list (prg_1 (by rfl) T.range (pv 1))) pa_nil)))) (pg_name (i := 5) nd rfl (Or.inl rfl))
    (pss_cons (ps_set (i := 6) nd rfl (Or.inl rfl) (pe_d D_leftL hr (pa_cons (pv 3) (pa_cons (pe_op on_shl pe_int (pv 5)) pa_nil))))
    (pss_one (ps_if (pt_cmpR op_ne (pv 6) pe_int (nomark _))
      (pss_cons (ps_expr (pe_bm PySem.F.plainAttrs_list PySem.F.slot_list_append PySem.F.type_list_append mt_append (pv 3) (pa_cons (pv 6) pa_nil)))
      (pss_one (ps_expr (pe_bm PySem.F.plainAttrs_list PySem.F.slot_list_append PySem.F.type_list_append mt_append (pv 4) (pa_cons (pe_op on_shl pe_int (pv 5)) pa_nil)))))
      pss_nil))))
  (pss_one (ps_ret (pe_k K_Spread hr (pa_cons (pv 1) (pa_cons (pe_d D_mixedL hr (pa_cons (pv 0) (pa_cons (pv 2) pa_nil))) (pa_cons (pe_op op_cat (pv 4) (pe_lc (own := [("_law_k", 7)]) (g := gName 7) (by rfl) nd (pi_range1 (by rfl) T.range (pa_cons (pe_d D_drawL hr (pa_cons (pv 0) (pa_cons pe_int pa_nil))) pa_nil)) (blkOk_by (own := [("_law_k", 7)]) (N := ["_law_pen", "_law_bits", "_law_slots", "_law_rows", "_law_lanes", "_law_bit", "_law_left_here", "_law_k"]) (sc := defScope s_madeL) (by decide +kernel)) (fun _ _ _ _ _ => (pg_name (i := 7) nd rfl (Or.inl rfl))) (fun _ _ _ _ _ => pts_nil) (fun _ _ _ _ _ => (pe_d D_wordL hr (pa_cons (pv 0) (pa_cons (pv 1) pa_nil)))))) pa_nil)))))))), ?_⟩
    refine ⟨_, rfl, a, ss, rfl, hS, (by omega), fun H1 q1 s1 f1 e1 => ?_⟩
    refine ⟨(by show 0 ≤ sizeLine; decide), fun q2 hq2 => ?_⟩
    have s2 := same_new0 (o := .lst []) hq2
    have e12 := s2 _ _ e1
    have e22 : upd H1 q2 (.lst []) q2 = some (.lst []) := upd_same
    have n12 : q1 ≠ q2 := ne_of_none e1 hq2
    generalize upd H1 q2 (.lst []) = H2 at *
    have fq1 : H q1 = none := f1
    have fq2 : H q2 = none := s1.free hq2
    have s02 := s1.trans s2
    refine ⟨_, _, rfl, ?_⟩
    refine ⟨_, rfl, _, rfl, b, rfl, RgOk.of_le (by decide) (by omega) (by decide) (by omega), fun l1 hl1 => ?_⟩
    rw [rgV_nat]
    have s3 := same_new0 (o := .lst ((List.range b).map vN)) hl1
    have s03 := s02.trans s3
    refine ⟨p, lc, l1, N, List.range b, rfl, hpn.same s03, .inl upd_same, (by rw [List.length_range]; omega), (by omega), fun H3 q3 ys pm f3 e3 pn3 k3 => ?_⟩
    have k03 := (Kp.of s03).trans k3
    have k23 := (Kp.of s3).trans k3
    have yl : ys.length = b := by rw [pm.length_eq, List.length_range]
    have n13 : q1 ≠ q3 := fun z => by rw [← z, s3 _ _ e12] at f3; cases f3
    have n23 : q2 ≠ q3 := fun z => by rw [← z, s3 _ _ e22] at f3; cases f3
    refine for_sq2 (K := K) (Tq.l e3) (fun i σ H' => ∃ v5 v6 l2, σ = [some (.ref p), some (vN b), some (.ref a), some (.ref q1), some (.ref q2), v5, v6, none] ∧ H' q1 = some (.lst ((bas (ss ++ (ys.take i).map fun i => 1 <<< i)).map vN)) ∧ H' q2 = some (.lst (l2.map vN)) ∧ l2.length ≤ i ∧ (∀ x ∈ l2, x < 2 ^ b) ∧ (∀ x, Spn (ss ++ l2) x ↔ Spn (ss ++ (ys.take i).map fun i => 1 <<< i) x) ∧ Kp H H' ∧ Pn H' p lc (N + 1000) ∧ H' q3 = some (.lst (ys.map vN))) ⟨none, none, [], rfl, by rw [List.take_zero, List.map_nil, List.append_nil]; exact k23 _ _ e12 rfl, k23 _ _ e22 rfl, Nat.zero_le _, (fun x hx => by cases hx), (fun x => by rw [List.take_zero, List.map_nil]), k03, pn3, e3⟩ (fun i σ' H' hp o ho => ?_) ?_ ?_
    · obtain ⟨_, _, _, _, _, _, _, _, _, _, _, z⟩ := hp
      rw [e3] at ho
      cases ho
      exact z
    · rintro i x σ H4 hx ⟨v5, v6, l2, rfl, h1, h2, h3, h4, h5, h6, h7, h8⟩
      obtain ⟨y, hy, rfl⟩ := map_get hx
      have yb : y < b := List.mem_range.mp (pm.mem_iff.mp (List.mem_of_getElem? hy))
      have il := (List.getElem?_eq_some_iff.mp hy).1
      have tk : (ys.take (i + 1)).map (fun i => 1 <<< i) = (ys.take i).map (fun i => 1 <<< i) ++ [1 <<< y] := by
        rw [take_succ hy, List.map_append]; rfl
      refine ⟨_, rfl, _, rfl, 1, y, rfl, rfl, shl_ok1 (by rw [blen_one]; decide) (by omega), q1, _, _, rfl, .inl h1, (bas_lws _).nz, ?_⟩
      refine ⟨_, rfl, rfl, _, rfl, br (fun z => ?_) (fun z => ?_)⟩
      · have ne : lft (bas (ss ++ (ys.take i).map fun i => 1 <<< i)) (1 <<< y) ≠ 0 := fun e => by rw [e] at z; simp at z
        have bl : (bas (ss ++ (ys.take i).map fun i => 1 <<< i)).length ≤ 1000000 := by
          refine Nat.le_trans (bas_len_le _) ?_
          rw [List.length_append, List.length_map, List.length_take]
          omega
        refine ⟨_, rfl, .inl ⟨rfl, _, SqL.of h1⟩, _, rfl, q1, _, _, rfl, rfl, h1, (by rw [List.length_map]; exact size6 bl), ?_⟩
        have e2' : upd H4 q1 (.lst ((bas (ss ++ (ys.take i).map fun i => 1 <<< i)).map vN ++ [vN (lft (bas (ss ++ (ys.take i).map fun i => 1 <<< i)) (1 <<< y))])) q2 = some (.lst (l2.map vN)) := (upd_ne n12.symm).trans h2
        refine ⟨_, rfl, .inl ⟨rfl, _, SqL.of e2'⟩, _, rfl, 1, y, rfl, rfl, shl_ok1 (by rw [blen_one]; decide) (by omega), q2, _, _, rfl, rfl, e2', (by rw [List.length_map]; exact size6 (by omega)), ?_⟩
        refine ⟨_, _, l2 ++ [1 <<< y], rfl, ?_, by rw [upd_same, List.map_append]; rfl, by rw [List.length_append]; exact Nat.succ_le_succ h3, fun x hx => ?_, fun x => ?_, kp_put (kp_put h6 fq1) fq2, ?_, ?_⟩
        · rw [upd_ne n12, upd_same, tk, ← List.append_assoc, bas_snoc]
          unfold bstep
          rw [if_neg ne, List.map_append]
          rfl
        · rcases List.mem_append.mp hx with q | q
          · exact h4 x q
          · rw [List.mem_singleton.mp q]; exact unit_lt yb
        · rw [tk, ← List.append_assoc, ← List.append_assoc]
          exact span_app h5
        · exact (h7.put (hpn.ne fq1)).put (hpn.ne fq2)
        · exact (upd_ne n23.symm).trans ((upd_ne n13.symm).trans h8)
      · have e0 : lft (bas (ss ++ (ys.take i).map fun i => 1 <<< i)) (1 <<< y) = 0 := by
          by_cases q : lft (bas (ss ++ (ys.take i).map fun i => 1 <<< i)) (1 <<< y) = 0
          · exact q
          · exfalso
            rw [show decide (V.int ((lft (bas (ss ++ (ys.take i).map fun i => 1 <<< i)) (1 <<< y) : Nat) : Int) = V.int 0) = false from decide_eq_false fun z => q (by have := V.int.inj z; omega)] at z
            cases z
        refine ⟨_, _, l2, rfl, ?_, h2, by omega, h4, fun x => ?_, h6, h7, h8⟩
        · rw [h1, tk, ← List.append_assoc, bas_snoc]
          unfold bstep
          rw [if_pos e0]
        · rw [h5 x, tk, ← List.append_assoc]
          exact (bas_more e0 x).symm
    · rintro σ H4 ⟨v5, v6, l2, rfl, h1, h2, h3, h4, h5, h6, h7, h8⟩
      rw [List.length_map, yl] at h3
      rw [List.length_map, List.take_length] at h5
      refine ⟨_, rfl, _, rfl, _, rfl, p, lc, a, N + 1000, ss, rfl, h7, kp_tq h6 hS, (by omega), (by omega), fun H5 q5 s2' pm5 f5 e5 pn5 k5 => ?_⟩
      refine ⟨_, rfl, _, rfl, p, lc, _, 3, rfl, pn5, (by decide), (by decide), (by omega), fun H6 r rl pn6 k6 => ?_⟩
      refine ⟨r, rfl, (by omega), (by omega), lc_drawnR (st := 1000) (fun _ v _ => ∃ x, v = vN x ∧ x < 2 ^ b) (fun _ _ _ _ h _ => h) (by omega) pn6 (fun i H' hi kk pn' => ?_) (fun D H7 ys7 hD k7 e7 l7 r7 pn7 => ?_)⟩
      · intro Z Nx z1
        refine ⟨rfl, _, rfl, _, rfl, p, lc, _, b, rfl, pn', (by omega), (by omega), fun H8 x hx pn8 k8 => ?_⟩
        exact z1 H8 _ k8 (pn8.mono (by rw [Nat.add_mul]; omega)) ⟨x, rfl, hx⟩
      · obtain ⟨ws, rfl, hw⟩ := nats_of (P := fun _ x => x < 2 ^ b) r7
        rw [List.length_map] at l7
        have wlt : ∀ x ∈ ws, x < 2 ^ b := fun x hx => by
          obtain ⟨i, hi, rfl⟩ := List.getElem_of_mem hx
          exact hw i _ (List.getElem?_eq_getElem hi)
        have k47 := k5.trans (k6.trans k7)
        refine ⟨_, _, _, _, rfl, rfl, k47 _ _ h2 rfl, e7, (by rw [List.length_map, List.length_map, sizeLine_eq]; omega), fun p8 hp8 => ?_⟩
        have s8 := same_new0 (o := .lst (l2.map vN ++ ws.map vN)) hp8
        have sl : s2'.length = ss.length := pm5.length_eq
        refine mk_SpreadP (ss := s2') (ls := l2 ++ ws) (.inl (s8 _ _ ((k6.trans k7) _ _ e5 rfl))) (.inl (by rw [upd_same, List.map_append])) ⟨by omega, fun x hx => blen_le.mpr (hss x (pm5.mem_iff.mp hx)), fun x hx => blen_le.mpr ((List.mem_append.mp hx).elim (h4 x) (wlt x)), by omega, by rw [List.length_append]; omega⟩ (full_of pm h5 s2' (l2 ++ ws) (fun x hx => pm5.mem_iff.mpr hx) fun x hx => List.mem_append_left _ hx) (fun H9 p9 s9 hp9 A9 => ?_)
        have k49 := k47.trans (Kp.of (s8.trans s9))
        exact k _ p9 s2' (l2 ++ ws) pm5 ⟨by omega, fun x hx => blen_le.mpr (hss x (pm5.mem_iff.mp hx)), fun x hx => blen_le.mpr ((List.mem_append.mp hx).elim (h4 x) (wlt x)), by omega, by rw [List.length_append]; omega⟩ A9 ((pn7.same (s8.trans s9)).mono (by omega)) (h6.trans k49)
end
end LaneX
set_option Elab.async false
set_option linter.all false
set_option maxRecDepth 100000
set_option maxHeartbeats 4000000
namespace LaneX
open PySem PySem.Spec PyProof.Rows L2
/-- what stands behind each branch of slot_lists -/
def JSl (p lc g d : Addr) (b n k : Nat) (H : Hp) (cs : List Nat) (qs : List Addr) (LL : List (List Nat)) (M m : Nat) (σ : L2.St) (H' : Hp) : Prop :=
  ∃ (q7 : Addr) (zs : List Nat) (v5 : Option V), σ = [some (.ref p), some (vN b), some (vN n), some (.ref g), some (.ref d), v5, some (vN k), some (.ref q7), none, none, none] ∧ Kp H H' ∧ H' g = some (.lst (qs.map V.ref)) ∧ H' d = some (.lst (cs.map vN)) ∧ LlsAt H' qs LL ∧
    H' q7 = some (.lst (zs.map vN)) ∧ (∀ x ∈ zs, x < 2 ^ b) ∧ zs.length ≤ 8 ∧ (k = 3 → zs.length ≤ m) ∧ Pn H' p lc M
theorem LlsAt.kp {H H' : Hp} {qs : List Addr} {LL : List (List Nat)} (h : LlsAt H qs LL) (k : Kp H H') : LlsAt H' qs LL := ⟨h.1, fun i q l h1 h2 => k _ _ (h.2 i q l h1 h2) rfl⟩
theorem LlsAt.same {H H' : Hp} {qs : List Addr} {LL : List (List Nat)} (h : LlsAt H qs LL) (k : Same H H') : LlsAt H' qs LL := h.kp (Kp.of k)
theorem mem_take_lt {b : Nat} {l : List Nat} (h : ∀ x ∈ l, x < 2 ^ b) {k : Nat} : ∀ x ∈ l.take k, x < 2 ^ b := fun x hx => h x (List.mem_of_mem_take hx)
section
variable {P : Program} {w : World} {K : PySem.W.Frag} {mg : Str → Option Value} {base : Heap} {f : Addr} {fd : FuncData} {CS CR : Addr} (T : Bt mg)
include T
theorem ok_slot_lists (F : FnP K "_law_slot_lists" "_law_slot_lists" s_slot_listsL f fd) (D_drawL : Dn P w K mg base 1 "_law_draw" ["_law_pen", "_law_span"] sp_draw) (D_wordL : Dn P w K mg base 2 "_law_word" ["_law_pen", "_law_bits"] sp_word) (D_pickL : Dn P w K mg base 2 "_law_pick" ["_law_pen", "_law_some"] sp_pick) (D_imageL : Dn P w K mg base 1 "_law_image" ["_law_columns", "_law_word_here"] sp_image) : FnOk P w K mg base CX0 4 f fd ["_law_pen", "_law_bits", "_law_many"] sp_slot_lists := by
  have nd := sc_slot_listsL.nd
  refine fnok F sc_slot_listsL (fun vs H Q E h => ?_) (fun cdv A outer s H vs Q E hr h => ?_)
  · obtain ⟨p, lc, N, b, n, rfl, _⟩ := h
    rfl
  · obtain ⟨p, lc, N, b, n, rfl, hpn, hb, hn, hN, k⟩ := h
    refine ⟨_, (pss_cons (ps_par (i := 3) (j := 4) (by rfl) nd rfl rfl (by decide) rfl rfl (pa_cons (pe_lst pa_nil) (pa_cons (pe_lc (own := [("_law_k", 5)]) (g := gName 5) (by rfl) nd (pi_range1 (by rfl) T.range (pa_cons (pe_d D_drawL hr (pa_cons (pv 0) (pa_cons pe_int pa_nil))) pa_nil)) (blkOk_by (own := [("_law_k", 5)]) (N := ["_law_pen", "_law_bits", "_law_many", "_law_found", "_law_common", "_law_k", "_law_kind", "_law_some", "_law_j", "_law_at", "_law_word_here"]) (sc := defScope s_slot_listsL) (by decide +kernel)) (fun _ _ _ _ _ => (pg_name (i := 5) nd rfl (Or.inl rfl))) (fun _ _ _ _ _ => pts_nil) (fun _ _ _ _ _ => (pe_d D_wordL hr (pa_cons (pv 0) (pa_cons (pv 1) pa_nil))))) pa_nil)) (by rfl))
  (pss_cons (ps_for PassesOwn.never rfl (pi_range1 (by rfl) T.range (pa_cons (pv 2) pa_nil)) (pg_name (i := 5) nd rfl (Or.inl rfl))
    (pss_cons (ps_set (i := 6) nd rfl (Or.inl rfl) (pe_d D_drawL hr (pa_cons (pv 0) (pa_cons pe_int pa_nil))))
    (pss_cons (ps_mid (ps_set (i := 7) nd rfl (Or.inr rfl) (pe_ifExp (pt_cmpR op_eq (pv 6) pe_int (nomark _)) (pe_slice sl_list (pv 4) po_none (po_some (pe_d D_drawL hr (pa_cons (pv 0) (pa_cons (pe_op on_add (pe_callB call_lenQ (by rfl) T.len PySem.boot_len (pa_cons (pv 4) pa_nil)) pe_int) pa_nil))))) (pe_callTy call_listQ (by rfl) T.list (by decide +kernel) (pa_cons (pv 4) pa_nil)))))
    (pss_cons (ps_mid (ps_if (PW.pt (pw_and (pt_cmpR op_eq (pv 6) pe_int (nomark _)) (pw_and1 (pt_cmpR (op_neEV hr.units) (pv 3) (pe_lst pa_nil) (nomark _)))))
      (pss_one (ps_set (i := 7) nd rfl (Or.inr rfl) (pe_callTy call_listQ (by rfl) T.list (by decide +kernel) (pa_cons (pe_d D_pickL hr (pa_cons (pv 0) (pa_cons (pv 3) pa_nil))) pa_nil))))
      pss_nil))
    (pss_cons (ps_mid (ps_if (pt_cmpR op_eq (pv 6) pe_int (nomark _))
      (pss_one (ps_set (i := 7) nd rfl (Or.inr rfl) (pe_lc (own := [("_law_j", 8)]) (g := gName 8) (by rfl) nd (pi_range1 (by rfl) T.range (pa_cons (pe_d D_drawL hr (pa_cons (pv 0) (pa_cons pe_int pa_nil))) pa_nil)) (blkOk_by (own := [("_law_j", 8)]) (N := ["_law_pen", "_law_bits", "_law_many", "_law_found", "_law_common", "_law_k", "_law_kind", "_law_some", "_law_j", "_law_at", "_law_word_here"]) (sc := defScope s_slot_listsL) (by decide +kernel)) (fun _ _ _ _ _ => (pg_name (i := 8) nd rfl (Or.inl rfl))) (fun _ _ _ _ _ => pts_nil) (fun _ _ _ _ _ => (pe_d D_wordL hr (pa_cons (pv 0) (pa_cons (pv 1) pa_nil)))))))
      pss_nil))
    (pss_cons (ps_mid (ps_if (pt_cmpR op_eq (pv 6) pe_int (nomark _))
      (pss_one (ps_set (i := 7) nd rfl (Or.inr rfl) (pe_op op_cat (pv 7) (pe_lc (own := [("_law_j", 8)]) (g := gName 8) (by rfl) nd (pi_range1 (by rfl) T.range (pa_cons (pe_op on_add pe_int (pe_d D_drawL hr (pa_cons (pv 0) (pa_cons pe_int pa_nil)))) pa_nil)) (blkOk_by (own := [("_law_j", 8)]) (N := ["_law_pen", "_law_bits", "_law_many", "_law_found", "_law_common", "_law_k", "_law_kind", "_law_some", "_law_j", "_law_at", "_law_word_here"]) (sc := defScope s_slot_listsL) (by decide +kernel)) (fun _ _ _ _ _ => (pg_name (i := 8) nd rfl (Or.inl rfl))) (fun _ _ _ _ _ => pts_nil) (fun _ _ _ _ _ => (pe_d D_wordL hr (pa_cons (pv 0) (pa_cons (pv 1) pa_nil))))))))
      pss_nil))
    (pss_one (ps_expr (pe_bm PySem.F.plainAttrs_list PySem.F.slot_list_append PySem.F.type_list_append mt_append (pv 3) (pa_cons (pe_lc (own := [("_law_at", 9), ("_law_word_here", 10)]) (g := gTup K 2 (gCons (gName 9) (gCons (gName 10) gNil)))  (by rfl) nd (pi_enum (by rfl) T.enumerate (pa_cons (pv 7) pa_nil)) (blkOk_by (own := [("_law_at", 9), ("_law_word_here", 10)]) (N := ["_law_pen", "_law_bits", "_law_many", "_law_found", "_law_common", "_law_k", "_law_kind", "_law_some", "_law_j", "_law_at", "_law_word_here"]) (sc := defScope s_slot_listsL) (by decide +kernel)) (fun _ _ _ _ _ => (pg_tup (by rfl) (pgs_cons (pg_name (i := 9) nd rfl (Or.inl rfl)) (pgs_cons (pg_name (i := 10) nd rfl (Or.inl rfl)) pgs_nil)))) (fun _ _ _ _ _ => pts_nil) (fun _ _ _ _ _ => (pe_op on_xor (pv 10) (pe_d D_imageL hr (pa_cons (pe_slice sl_listK (pv 7) po_none (po_some (pv 9))) (pa_cons (pe_d D_wordL hr (pa_cons (pv 0) (pa_cons (pv 9) pa_nil))) pa_nil)))))) pa_nil))))))))))
  (pss_one (ps_ret (pv 3))))), ?_⟩
    refine ⟨(by show 0 ≤ sizeLine; decide), fun g hg => ?_⟩
    have s1 := same_new0 (o := .lst []) hg
    have e1 : upd H g (.lst []) g = some (.lst []) := upd_same
    generalize upd H g (.lst []) = H1 at *
    refine ⟨_, rfl, p, lc, N, 6, rfl, hpn.same s1, (by decide), (by decide), (by omega), fun H2 r rl pn2 k2 => ?_⟩
    refine ⟨r, rfl, (by omega), (by omega), lc_drawnR (st := 1000) (fun _ v _ => ∃ x, v = vN x ∧ x < 2 ^ b) (fun _ _ _ _ h _ => h) (by omega) pn2 (fun i H' hi kk pn' => ?_) (fun D H3 ys3 hD k3 e3 l3 r3 pn3 => ?_)⟩
    · intro Z Nx z1
      refine ⟨rfl, _, rfl, _, rfl, p, lc, _, b, rfl, pn', (by omega), (by omega), fun H8 x hx pn8 k8 => ?_⟩
      exact z1 H8 _ k8 (pn8.mono (by rw [Nat.add_mul]; omega)) ⟨x, rfl, hx⟩
    obtain ⟨cs, rfl, hw⟩ := nats_of (P := fun _ x => x < 2 ^ b) r3
    rw [List.length_map] at l3
    have clt : ∀ x ∈ cs, x < 2 ^ b := fun x hx => by
      obtain ⟨i, hi, rfl⟩ := List.getElem_of_mem hx
      exact hw i _ (List.getElem?_eq_getElem hi)
    have k03 := (Kp.of s1).trans (k2.trans k3)
    have eg3 := k3 _ _ (k2 _ _ e1 rfl) rfl
    have gD : g ≠ D := ne_of_none (k2 _ _ e1 rfl) hD
    refine ⟨_, _, rfl, ?_⟩
    refine ⟨_, rfl, _, rfl, (by omega), (by omega), for_range (n := n) (fun i σ H' => ∃ v5 v6 v7 qs LL, σ = [some (.ref p), some (vN b), some (vN n), some (.ref g), some (.ref D), v5, v6, v7, none, none, none] ∧ Kp H H' ∧ H' g = some (.lst (qs.map V.ref)) ∧ H' D = some (.lst (cs.map vN)) ∧ LlsAt H' qs LL ∧ LL.length = i ∧ LlsOk b LL ∧ Pn H' p lc (N + 10000 + i * 40000) ∧ ∀ q ∈ qs, q ≠ g) ⟨none, none, none, [], [], rfl, k03, eg3, e3, ⟨rfl, fun i q l h => by simp at h⟩, rfl, (fun l hl => by cases hl), pn3.mono (by omega), fun q hq => by cases hq⟩ ?_ ?_⟩
    · rintro i σ H4 hi ⟨v5, v6, v7, qs, LL, rfl, kp4, eg, ed, hL, lL, okL, pn4, hq⟩
      rw [show (0 : Int) + (i : Int) = (i : Int) by omega]
      have NN : N + 10000 + i * 40000 + 40000 ≤ TOP := by omega
      have NM : N + 10000 + (i + 1) * 40000 = N + 10000 + i * 40000 + 40000 := by omega
      rw [NM]
      generalize N + 10000 + i * 40000 = M at *
      refine ⟨_, rfl, p, lc, M, 5, rfl, pn4, (by decide), (by decide), (by omega), fun H5 kd kl pn5 k5 => ?_⟩
      have kp5 := kp4.trans k5
      have eg5 := k5 _ _ eg rfl
      have ed5 := k5 _ _ ed rfl
      have hL5 := hL.kp k5
      refine ⟨JSl p lc g D b n kd H cs qs LL (M + 2) 5, ?_, ?_⟩
      · refine ⟨_, rfl, rfl, _, rfl, br (fun z => ?_) (fun z => ?_)⟩
        · have z0 : kd = 0 := by have := V.int.inj (of_decide_eq_true z); omega
          refine ⟨_, rfl, _, rfl, _, rfl, D, _, rfl, .inl ed5, (cs.map vN).length, 1, rfl, rfl, p, lc, _, _, rfl, pn5, ?_, ?_, (by omega), fun H6 r6 rl6 pn6 k6 => ?_⟩
          · rw [List.length_map]; omega
          · rw [List.length_map]; omega
          refine ⟨_, rfl, D, _, rfl, SqL.of (k6 _ _ ed5 rfl), fun p7 hp7 => ?_⟩
          rw [cut_takeN]
          have s7 := same_new0 (o := .lst ((cs.take r6).map vN)) hp7
          have k7 := k6.trans (Kp.of s7)
          exact ⟨p7, cs.take r6, _, rfl, kp5.trans k7, k7 _ _ eg5 rfl, k7 _ _ ed5 rfl, hL5.kp k7, upd_same, mem_take_lt clt, by rw [List.length_take]; omega, fun _ => by rw [List.length_take]; omega, pn6.same s7⟩
        · refine ⟨_, rfl, D, _, rfl, .inl ed5, fun p7 hp7 => ?_⟩
          have s7 := same_new0 (o := .lst (cs.map vN)) hp7
          have k7 := Kp.of s7
          exact ⟨p7, cs, _, rfl, kp5.trans k7, k7 _ _ eg5 rfl, k7 _ _ ed5 rfl, hL5.kp k7, upd_same, clt, by omega, fun _ => by omega, (pn5.same s7).mono (by omega)⟩
      rintro σ H6 ⟨q7, zs, v5, rfl, kp6, eg6, ed6, hL6, e6, zlt, zl, z3, pn6⟩
      refine ⟨JSl p lc g D b n kd H cs qs LL (M + 3) 5, ?_, ?_⟩
      · have stay : ∀ {H' : Hp}, Same H6 H' → ∃ (q7' : Addr) (zs' : List Nat) (v5' : Option V), [some (V.ref p), some (vN b), some (vN n), some (.ref g), some (.ref D), v5, some (vN kd), some (.ref q7), none, none, none] = [some (.ref p), some (vN b), some (vN n), some (.ref g), some (.ref D), v5', some (vN kd), some (.ref q7'), none, none, none] ∧ Kp H H' ∧ H' g = some (.lst (qs.map V.ref)) ∧ H' D = some (.lst (cs.map vN)) ∧ LlsAt H' qs LL ∧
            H' q7' = some (.lst (zs'.map vN)) ∧ (∀ x ∈ zs', x < 2 ^ b) ∧ zs'.length ≤ 8 ∧ (kd = 3 → zs'.length ≤ 5) ∧ Pn H' p lc (M + 3) := fun s => ⟨q7, zs, v5, rfl, kp6.trans (Kp.of s), s _ _ eg6, s _ _ ed6, hL6.same s, s _ _ e6, zlt, zl, z3, (pn6.same s).mono (by omega)⟩
        refine ⟨_, rfl, rfl, _, rfl, br (fun z => ?_) (fun z => iteF (stay (Same.refl _)))⟩
        have z1 : kd = 1 := by have := V.int.inj (of_decide_eq_true z); omega
        refine ⟨_, rfl, (by show 0 ≤ sizeLine; decide), fun e hne => ?_⟩
        have s7 := same_new0 (o := .lst []) hne
        refine ⟨g, e, _, rfl, rfl, s7 _ _ eg6, upd_same, _, rfl, br (fun z => ?_) (fun z => stay s7)⟩
        refine ⟨_, rfl, _, rfl, p, lc, g, _, qs.map V.ref, rfl, pn6.same s7, .inl (s7 _ _ eg6), (by
          rw [List.length_map]
          cases qs with
          | nil => simp at z
          | cons _ _ => simp), (by rw [List.length_map, hL.1, lL]; omega), (by omega), fun H8 v hv pn8 k8 => ?_⟩
        obtain ⟨q, hq', rfl⟩ := List.mem_map.mp hv
        obtain ⟨j, hj, rfl⟩ := List.getElem_of_mem hq'
        have jl : j < LL.length := by rw [← hL.1]; exact hj
        have e8 := k8 _ _ (s7 _ _ (hL6.2 j _ _ (List.getElem?_eq_getElem hj) (List.getElem?_eq_getElem jl))) rfl
        obtain ⟨o1, o2⟩ := okL _ (List.getElem_mem jl)
        refine ⟨qs[j], _, rfl, .inl e8, fun p9 hp9 => ?_⟩
        have s9 := same_new0 (o := .lst (LL[j].map vN)) hp9
        have k69 := (Kp.of s7).trans (k8.trans (Kp.of s9))
        exact ⟨p9, LL[j], _, rfl, kp6.trans k69, k69 _ _ eg6 rfl, k69 _ _ ed6 rfl, hL6.kp k69, upd_same, o2, o1, (fun h => by omega), (pn8.same s9).mono (by omega)⟩
      clear e6 zlt zl z3 pn6 hL6 ed6 eg6 kp6
      rintro σ H6 ⟨q7, zs, v5, rfl, kp6, eg6, ed6, hL6, e6, zlt, zl, z3, pn6⟩
      refine ⟨JSl p lc g D b n kd H cs qs LL (M + 10000) 5, ?_, ?_⟩
      · refine ⟨_, rfl, rfl, _, rfl, br (fun z => ?_) (fun z => ⟨q7, zs, v5, rfl, kp6, eg6, ed6, hL6, e6, zlt, zl, z3, pn6.mono (by omega)⟩)⟩
        have z2 : kd = 2 := by have := V.int.inj (of_decide_eq_true z); omega
        refine ⟨_, rfl, p, lc, _, 5, rfl, pn6, (by decide), (by decide), (by omega), fun H7 r7 rl7 pn7 k7 => ?_⟩
        refine ⟨r7, rfl, (by omega), (by omega), lc_drawnR (st := 1000) (fun _ v _ => ∃ x, v = vN x ∧ x < 2 ^ b) (fun _ _ _ _ h _ => h) (by omega) pn7 (fun i H' hi kk pn' => ?_) (fun D8 H8 ys8 hD8 k8 e8 l8 r8 pn8 => ?_)⟩
        · intro Z Nx z1
          refine ⟨rfl, _, rfl, _, rfl, p, lc, _, b, rfl, pn', (by omega), (by omega), fun H8 x hx pn8 k8 => ?_⟩
          exact z1 H8 _ k8 (pn8.mono (by rw [Nat.add_mul]; omega)) ⟨x, rfl, hx⟩
        obtain ⟨ws, rfl, hw8⟩ := nats_of (P := fun _ x => x < 2 ^ b) r8
        rw [List.length_map] at l8
        have k68 := k7.trans k8
        exact ⟨D8, ws, _, rfl, kp6.trans k68, k68 _ _ eg6 rfl, k68 _ _ ed6 rfl, hL6.kp k68, e8, (fun x hx => by
          obtain ⟨i, hi, rfl⟩ := List.getElem_of_mem hx
          exact hw8 i _ (List.getElem?_eq_getElem hi)), by omega, (fun h => by omega), pn8.mono (by omega)⟩
      clear e6 zlt zl z3 pn6 hL6 ed6 eg6 kp6
      rintro σ H6 ⟨q7, zs, v5, rfl, kp6, eg6, ed6, hL6, e6, zlt, zl, z3, pn6⟩
      refine ⟨JSl p lc g D b n kd H cs qs LL (M + 20000) 8, ?_, ?_⟩
      · refine ⟨_, rfl, rfl, _, rfl, br (fun z => ?_) (fun z => ⟨q7, zs, v5, rfl, kp6, eg6, ed6, hL6, e6, zlt, zl, fun _ => zl, pn6.mono (by omega)⟩)⟩
        have z2 : kd = 3 := by have := V.int.inj (of_decide_eq_true z); omega
        have z3' := z3 z2
        refine ⟨_, rfl, _, rfl, p, lc, _, 3, rfl, pn6, (by decide), (by decide), (by omega), fun H7 r7 rl7 pn7 k7 => ?_⟩
        refine ⟨1, r7, rfl, rfl, 1 + r7, rfl, (by omega), (by omega), lc_drawnR (st := 1000) (fun _ v _ => ∃ x, v = vN x ∧ x < 2 ^ b) (fun _ _ _ _ h _ => h) (by omega) pn7 (fun i H' hi kk pn' => ?_) (fun D8 H8 ys8 hD8 k8 e8 l8 r8 pn8 => ?_)⟩
        · intro Z Nx z1
          refine ⟨rfl, _, rfl, _, rfl, p, lc, _, b, rfl, pn', (by omega), (by omega), fun H8 x hx pn8 k8 => ?_⟩
          exact z1 H8 _ k8 (pn8.mono (by rw [Nat.add_mul]; omega)) ⟨x, rfl, hx⟩
        obtain ⟨ws, rfl, hw8⟩ := nats_of (P := fun _ x => x < 2 ^ b) r8
        rw [List.length_map] at l8
        have k68 := k7.trans k8
        refine ⟨_, _, _, _, rfl, rfl, k68 _ _ e6 rfl, e8, (by rw [List.length_map, List.length_map, sizeLine_eq]; omega), fun p9 hp9 => ?_⟩
        have s9 := same_new0 (o := .lst (zs.map vN ++ ws.map vN)) hp9
        have k69 := k68.trans (Kp.of s9)
        exact ⟨p9, zs ++ ws, _, rfl, kp6.trans k69, k69 _ _ eg6 rfl, k69 _ _ ed6 rfl, hL6.kp k69, (by rw [upd_same, List.map_append]), (fun x hx => by
          rcases List.mem_append.mp hx with q | q
          · exact zlt x q
          · obtain ⟨i, hi, rfl⟩ := List.getElem_of_mem q
            exact hw8 i _ (List.getElem?_eq_getElem hi)), (by rw [List.length_append]; omega), (fun h => by rw [List.length_append]; omega), (pn8.same s9).mono (by omega)⟩
      clear e6 zlt zl z3 pn6 hL6 ed6 eg6 kp6
      rintro σ H6 ⟨q7, zs, v5, rfl, kp6, eg6, ed6, hL6, e6, zlt, zl, z3, pn6⟩
      refine ⟨_, rfl, .inl ⟨rfl, _, SqL.of eg6⟩, _, rfl, q7, _, rfl, SqL.of e6, lc_drawnE (st := 1000) (fun _ v _ => ∃ x, v = vN x ∧ x < 2 ^ b) (fun _ _ _ _ h _ => h) e6 (by rw [List.length_map]; omega) pn6 (fun i u H' t hu kk pn' et => ?_) (fun D8 H8 ys8 hD8 k8 e8 l8 r8 pn8 => ?_)⟩
      · obtain ⟨x, hx, rfl⟩ := map_get hu
        have il := (List.getElem?_eq_some_iff.mp hx).1
        have xlt := zlt x (List.mem_of_getElem? hx)
        intro Z Nx z1
        refine ⟨t, _, rfl, SqT.of et, rfl, _, _, rfl, _, _, rfl, rfl, ?_⟩
        refine ⟨rfl, _, rfl, _, rfl, _, rfl, _, rfl, q7, _, rfl, kk _ _ e6 rfl, fun p9 hp9 => ?_⟩
        rw [cut_takeN]
        have s9 := same_new0 (o := .lst ((zs.take i).map vN)) hp9
        refine ⟨_, rfl, _, rfl, p, lc, _, i, rfl, pn'.same s9, (by omega), (by omega), fun H10 y hy pn10 k10 => ?_⟩
        refine ⟨p9, zs.take i, y, rfl, .inl (k10 _ _ upd_same rfl), (by rw [List.length_take]; omega), ?_⟩
        refine ⟨x, _, rfl, rfl, z1 H10 _ ((Kp.of s9).trans k10) (pn10.mono (by rw [Nat.add_mul]; omega)) ⟨_, rfl, Nat.xor_lt_two_pow xlt (imf_lt (mem_take_lt zlt) _ _)⟩⟩
      obtain ⟨ws, rfl, hw8⟩ := nats_of (P := fun _ x => x < 2 ^ b) r8
      rw [List.length_map, List.length_map] at l8
      have eg8 := k8 _ _ eg6 rfl
      have nDg : D8 ≠ g := (ne_of_none eg6 hD8).symm
      refine ⟨g, _, _, rfl, rfl, eg8, (by rw [List.length_map, hL6.1, lL, sizeLine_eq]; omega), ?_⟩
      refine ⟨_, _, _, qs ++ [D8], LL ++ [ws], rfl, kp_put (kp6.trans k8) hg, (by rw [upd_same, List.map_append]; rfl), (upd_ne gD.symm).trans (k8 _ _ ed6 rfl), ⟨by rw [List.length_append, List.length_append, hL6.1]; rfl, fun j q l hj hl => ?_⟩, (by rw [List.length_append, lL]; rfl), (fun l hl => ?_), ?_, (fun q hq' => ?_)⟩
      · by_cases ej : j < qs.length
        · rw [List.getElem?_append_left ej] at hj
          rw [List.getElem?_append_left (by rw [← hL6.1]; exact ej)] at hl
          exact (upd_ne (hq q (List.mem_of_getElem? hj))).trans (k8 _ _ (hL6.2 j q l hj hl) rfl)
        · rw [List.getElem?_append_right (by omega)] at hj
          rw [List.getElem?_append_right (by rw [← hL6.1]; omega), ← hL6.1] at hl
          have e0 : j - qs.length = 0 := by
            cases z : j - qs.length with
            | zero => rfl
            | succ n => rw [z] at hj; simp at hj
          rw [e0] at hj hl
          cases hj
          cases hl
          exact (upd_ne nDg).trans e8
      · rcases List.mem_append.mp hl with q | q
        · exact okL l q
        · rw [List.mem_singleton.mp q]
          refine ⟨by omega, fun x hx => ?_⟩
          obtain ⟨i, hi, rfl⟩ := List.getElem_of_mem hx
          exact hw8 i _ (List.getElem?_eq_getElem hi)
      · refine (pn8.put (hpn.ne hg)).mono ?_
        rw [List.length_map]
        omega
      · rcases List.mem_append.mp hq' with z | z
        · exact hq q z
        · rw [List.mem_singleton.mp z]; exact nDg
    · rintro σ H4 ⟨v5, v6, v7, qs, LL, rfl, kp4, eg, ed, hL, lL, okL, pn4, hq⟩
      exact ⟨_, rfl, k H4 g qs LL hg eg hL lL okL (pn4.mono (by omega)) kp4⟩
end
end LaneX
set_option Elab.async false
set_option linter.all false
set_option maxRecDepth 100000
set_option maxHeartbeats 4000000
namespace LaneX
open PySem PySem.Spec PyProof.Rows L2
abbrev ltl (LL : List (List Nat)) : Nat → List Nat := fun i => LL.getD i []
def sp_has_chain : Sp := fun vs H Q _ => ∃ (a c : Addr) (qs : List Addr) (LL : List (List Nat)) (ws : List Nat) (b : Nat), vs = [.ref a, .ref c] ∧ H a = some (.lst (qs.map V.ref)) ∧ LlsAt H qs LL ∧ LlsOk b LL ∧ b ≤ 500 ∧ ws.length = LL.length ∧ 0 < LL.length ∧ LL.length ≤ 100 ∧ H c = some (.lst (ws.map vN)) ∧
  ∀ H' r, Same H H' → (r = true ↔ Fit LL.length (wof ws) (ltl LL)) → Q (.bl r) H'
def sp_chain_right (CS : Addr) : Sp := fun vs H Q _ => ∃ (t a c : Addr) (ms qs : List Addr) (LL : List (List Nat)) (ws : List Nat) (b : Nat) (R : Nat → List Nat), vs = [.ref t, vN b, .ref a, .ref c] ∧ H t = some (.tup (ms.map V.ref)) ∧ H a = some (.lst (qs.map V.ref)) ∧ LlsAt H qs LL ∧ LlsOk b LL ∧ H c = some (.lst (ws.map vN)) ∧ b ≤ 500 ∧ LL.length ≤ 100 ∧
  ms.length = ws.length ∧ LL.length = ws.length ∧ (∀ (i : Nat) (m : Addr), ms[i]? = some m → SpaceAt CS H m b (R i)) ∧ (∀ i, i < ws.length → (R i).length = ws.getD i 0 ∧ (R i).length ≤ b ∧ rk (R i) = ws.getD i 0 ∧ rk (R i ++ ltl LL i) = rk (ltl LL i)) ∧ (∀ i j, i < ws.length → j < ws.length → rk (R i ++ R j) = max (ws.getD i 0) (ws.getD j 0)) ∧
  ∀ H', Same H H' → Q (.bl true) H'
/-- the pair at an address -/
def prK (H : Hp) (v : V) : Int × Int := match v with
  | .ref t => match H t with
    | some (.tup [.int i, .int j]) => (i, j)
    | _ => (0, 0)
  | _ => (0, 0)
theorem prK_at {H : Hp} {t : Addr} {i j : Int} (h : H t = some (.tup [.int i, .int j])) : prK H (.ref t) = (i, j) := by
  simp only [prK, h]
theorem getD_take_lt {l : List Nat} {i : Nat} (h : i < l.length) : l[i]? = some (l.getD i 0) := by rw [List.getD_eq_getElem?_getD, List.getElem?_eq_getElem h]; rfl
theorem sorted_order {H : Hp} {ws : List Nat} {xs ys : List V} (hl : xs.length = ws.length) (hx : ∀ (i : Nat) (v : V), xs[i]? = some v → prK H v = (-((ws.getD i 0 : Nat) : Int), (i : Int))) (so : SrtO.Srtd (ltP (prK H)) ys) (st : SrtO.Stb (ltP (prK H)) ys xs) :
    (ys.map fun v => (prK H v).2.toNat).Perm (List.range ws.length) ∧ (ys.map fun v => (prK H v).2.toNat).Pairwise (fun i j => wof ws j ≤ wof ws i) := by
  have pm : ys.Perm xs := st.1
  have ex : xs.map (fun v => (prK H v).2.toNat) = List.range ws.length := by
    refine List.ext_getElem? fun i => ?_
    rw [List.getElem?_map]
    by_cases h : i < ws.length
    · rw [List.getElem?_range h, List.getElem?_eq_getElem (by omega)]
      have := hx i _ (List.getElem?_eq_getElem (by omega))
      rw [Option.map_some, this]
      rfl
    · rw [List.getElem?_eq_none (by omega), List.getElem?_eq_none (by rw [List.length_range]; omega)]
      rfl
  refine ⟨by rw [← ex]; exact pm.map _, ?_⟩
  have at_ : ∀ v ∈ ys, (prK H v).1 = -((ws.getD (prK H v).2.toNat 0 : Nat) : Int) := fun v hv => by
    obtain ⟨i, hi, rfl⟩ := List.getElem_of_mem (pm.mem_iff.mp hv)
    rw [hx i _ (List.getElem?_eq_getElem hi)]
    rfl
  rw [List.pairwise_map]
  refine so.imp_of_mem fun {x y} hx' hy' h => ?_
  have h := SrtO.lexB_no.mp h
  have e1 := at_ x hx'
  have e2 := at_ y hy'
  show ws.getD (prK H y).2.toNat 0 ≤ ws.getD (prK H x).2.toNat 0
  omega
section
variable {P : Program} {w : World} {K : PySem.W.Frag} {mg : Str → Option Value} {base : Heap} {f : Addr} {fd : FuncData} {CS CR : Addr} (T : Bt mg) (TS : SpaceT K mg CS)
include T
theorem ok_has_chain (F : FnP K "_law_has_chain" "_law_has_chain" s_has_chainL f fd) (D_meetL : Dn P w K mg base 3 "_law_meet" ["_law_one", "_law_other"] sp_meetL) (D_sizeL : Dn P w K mg base 3 "_law_size" ["_law_words"] sp_size) : FnOk P w K mg base CX0 4 f fd ["_law_lists", "_law_widths"] sp_has_chain := by
  have nd := sc_has_chainL.nd
  refine fnok F sc_has_chainL (fun vs H Q E h => ?_) (fun cdv A outer s H vs Q E hr h => ?_)
  · obtain ⟨a, c, qs, LL, ws, b, rfl, _⟩ := h
    rfl
  · obtain ⟨a, c, qs, LL, ws, b, rfl, ha, hL, okL, hb, lw, l0, l1, hc, k⟩ := h
    have okg : ∀ i, i < LL.length → (ltl LL i).length ≤ 8 ∧ ∀ x ∈ ltl LL i, x < 2 ^ b := fun i hi => okL _ (by
      show LL.getD i [] ∈ LL
      rw [List.getD_eq_getElem?_getD, List.getElem?_eq_getElem hi]
      exact List.getElem_mem hi)
    have hLg : ∀ {H' : Hp} (i : Nat), LlsAt H' qs LL → i < LL.length → ∃ q, qs[i]? = some q ∧ H' q = some (.lst ((ltl LL i).map vN)) := fun {H'} i h hi => by
      have e1 : qs[i]? = some (qs[i]'(by rw [h.1]; exact hi)) := List.getElem?_eq_getElem _
      have e2 : LL[i]? = some (ltl LL i) := by
        show _ = some (LL.getD i [])
        rw [List.getD_eq_getElem?_getD, List.getElem?_eq_getElem hi]; rfl
      exact ⟨_, e1, h.2 i _ _ e1 e2⟩
    refine ⟨_, (pss_cons (ps_setLc (i := 2) (own := [("_law_size_here", 5), ("_law_at", 4)]) (g := gTup K 2 (gCons (gName 5) (gCons (gName 4) gNil)))  (by rfl) nd rfl rfl (sw_true rfl rfl rfl (by decide +kernel)) (pi_seq (pe_callB cr_sortedPO (by rfl) T.sorted (by decide +kernel) (pa_cons (pe_lc (own := [("_law_at", 4)]) (g := gName 4) (by rfl) nd (pi_range1 (by rfl) T.range (pa_cons (pe_callB call_lenQ (by rfl) T.len PySem.boot_len (pa_cons (pv 1) pa_nil)) pa_nil)) (blkOk_by (own := [("_law_at", 4)]) (N := ["_law_lists", "_law_widths", "_law_order", "_law_meet_here", "_law_at", "_law_size_here"]) (sc := defScope s_has_chainL) (by decide +kernel)) (fun _ _ _ _ _ => (pg_name (i := 4) nd rfl (Or.inl rfl))) (fun _ _ _ _ _ => pts_nil) (fun _ _ _ _ _ => (pe_tup (pa_cons (pe_un un_neg (pe_ix ix_q (pv 1) (pv 4) (fun _ _ => rfl))) (pa_cons (pv 4) pa_nil))))) pa_nil))) (blkOk_by (own := [("_law_size_here", 5), ("_law_at", 4)]) (N := ["_law_lists", "_law_widths", "_law_order", "_law_meet_here", "_law_at", "_law_size_here"]) (sc := defScope s_has_chainL) (by decide +kernel)) (fun _ _ _ _ _ => (pg_tup (by rfl) (pgs_cons (pg_name (i := 5) nd rfl (Or.inl rfl)) (pgs_cons (pg_name (i := 4) nd rfl (Or.inl rfl)) pgs_nil)))) (fun _ _ _ _ _ => pts_nil) (fun _ _ _ _ _ => (pv 4)))
  (pss_cons (ps_set (i := 3) nd rfl (Or.inl rfl) (pe_ix ix_q (pv 0) (pe_ix ix_q (pv 2) pe_int (fun _ _ => rfl)) (fun _ _ => rfl)))
  (pss_cons (ps_for PassesOwn.never rfl (pi_seq (pv 2)) (pg_name (i := 4) nd rfl (Or.inl rfl))
    (pss_cons (ps_set (i := 3) nd rfl (Or.inl rfl) (pe_d D_meetL hr (pa_cons (pv 3) (pa_cons (pe_ix ix_q (pv 0) (pv 4) (fun _ _ => rfl)) pa_nil))))
    (pss_one (ps_if (pt_cmpR op_gt (pe_ix ix_q (pv 1) (pv 4) (fun _ _ => rfl)) (pe_d D_sizeL hr (pa_cons (pv 3) pa_nil)) (nomark _))
      (pss_one (ps_ret pe_bl))
      pss_nil))))
  (pss_one (ps_ret pe_bl))))), ?_⟩
    refine ⟨_, rfl, c, _, rfl, .inl hc, _, rfl, (by omega), (by rw [List.length_map]; omega), lc_newR (n := (ws.map vN).length) (fun i v H' => ∃ t, v = .ref t ∧ H' t = some (.tup [.int (-((ws.getD i 0 : Nat) : Int)), vN i])) (fun i v H1 H2 h kt => by obtain ⟨t, rfl, h⟩ := h; exact ⟨t, rfl, kt _ _ h rfl⟩) (by rw [List.length_map]; omega) (fun i H' hi s => ?_) (fun D H1 xs hD s1 e1 lx rx => ?_)⟩
    · rw [List.length_map] at hi
      intro Z Nx z1
      refine ⟨rfl, _, rfl, _, rfl, c, _, i, _, rfl, rfl, .inl (s _ _ hc), getD_getL hi, _, rfl, _, rfl, (by show 2 ≤ sizeLine; decide), fun t ht => ?_⟩
      exact z1 _ _ (same_new0 ht) ⟨t, rfl, upd_same⟩
    rw [List.length_map] at lx
    have hx : ∀ (i : Nat) (v : V), xs[i]? = some v → prK H1 v = (-((ws.getD i 0 : Nat) : Int), (i : Int)) := fun i v hv => by
      obtain ⟨t, rfl, h⟩ := rx i v hv
      exact prK_at h
    refine ⟨D, xs, prK H1, rfl, SqL.of e1, (fun x hx' => ?_), fun ys p2 so st hp2 => ?_⟩
    · obtain ⟨i, hi, rfl⟩ := List.getElem_of_mem hx'
      obtain ⟨t, e, h⟩ := rx i _ (List.getElem?_eq_getElem hi)
      rw [e, prK_at h]
      exact ⟨t, rfl, h⟩
    obtain ⟨op, od⟩ := sorted_order lx hx so st
    have ol : (ys.map fun v => (prK H1 v).2.toNat).length = ws.length := by rw [op.length_eq, List.length_range]
    have s2 := same_new0 (o := .lst ys) hp2
    have pm : ys.Perm xs := st.1
    have yl : ys.length = ws.length := by rw [pm.length_eq, lx]
    refine lc_pure ys id (fun _ => true) (fun v => vN (prK H1 v).2.toNat) (.inl (by rw [upd_same, List.map_id])) (by omega) (fun v H' hv s => ?_) (fun D3 H3 hD3 s3 e3 => ?_)
    · obtain ⟨i, hi, rfl⟩ := List.getElem_of_mem (pm.mem_iff.mp hv)
      obtain ⟨t, e, h⟩ := rx i _ (List.getElem?_eq_getElem hi)
      intro Z Nx z1 z2
      refine ⟨t, _, e, SqT.of ((s2.trans s) _ _ h), rfl, _, _, rfl, _, _, rfl, rfl, ?_⟩
      refine ⟨rfl, _, rfl, ?_⟩
      have := z1 rfl _ (Same.refl _)
      rw [e, prK_at h] at this
      exact this
    rw [filt_true] at e3
    have e3 : H3 D3 = some (.lst ((ys.map fun v => (prK H1 v).2.toNat).map vN)) := by rw [e3, List.map_map]; rfl
    generalize (ys.map fun v => (prK H1 v).2.toNat) = o at *
    have s03 := s1.trans (s2.trans s3)
    have oat : ∀ i, i < ws.length → o[i]? = some (o.getD i 0) := fun i hi => at_getD (by omega)
    have olt : ∀ i, i < ws.length → o.getD i 0 < LL.length := fun i hi => by rw [← lw]; exact perm_lt op hi
    obtain ⟨q0, g0, h0⟩ := hLg (o.getD 0 0) hL (olt 0 (by omega))
    refine ⟨_, rfl, _, rfl, D3, _, 0, _, rfl, rfl, .inl e3, getD_getL (by omega), a, _, o.getD 0 0, .ref q0, rfl, rfl, .inl (s03 _ _ ha), by rw [List.getElem?_map, g0]; rfl, ?_⟩
    have hS : ∀ i, i < ws.length → ∀ x ∈ ltl LL i, x < 2 ^ b := fun i hi => (okg i (by omega)).2
    have hSl : ∀ i, i < ws.length → (ltl LL i).length ≤ 2 * b + 1000 := fun i hi => by have := (okg i (by omega)).1; omega
    have om : ∀ a ∈ o, a < ws.length := fun a ha => List.mem_range.mp (op.mem_iff.mp ha)
    have fin : (∀ k, k < ws.length → wof ws (o.getD k 0) ≤ rk (mlt (ltl LL) o (k + 1))) ↔ Fit LL.length (wof ws) (ltl LL) := by
      rw [← lw]
      exact mlt_fit op od
    refine ⟨_, rfl, for_sq2 (K := K) (Tq.l e3) (fun i σ H' => ∃ m v4 v5, σ = [some (.ref a), some (.ref c), some (.ref D3), some (.ref m), v4, v5] ∧ Same H3 H' ∧ H' m = some (.lst ((mlt (ltl LL) o i).map vN)) ∧ ∀ k, k < i → wof ws (o.getD k 0) ≤ rk (mlt (ltl LL) o (k + 1))) ⟨q0, none, none, rfl, Same.refl _, s03 _ _ h0, fun k hk => absurd hk (Nat.not_lt_zero _)⟩ (fun i σ' H' hp o ho => ?_) ?_ ?_⟩
    · obtain ⟨_, _, _, _, z, _⟩ := hp
      exact z _ _ ho
    · rintro i x σ H4 hx4 ⟨m, v4, v5, rfl, s4, hm, hk⟩
      have il := (List.getElem?_eq_some_iff.mp hx4).1
      rw [List.length_map, ol] at il
      rw [List.getElem?_map, oat i il] at hx4
      cases hx4
      have s04 := s03.trans s4
      obtain ⟨q, g1, h1⟩ := hLg (o.getD i 0) (hL.same s04) (olt i il)
      have ml := mlt_len hS hSl om (by omega) i (by omega)
      refine ⟨_, rfl, _, rfl, _, rfl, a, _, o.getD i 0, .ref q, rfl, rfl, .inl (s04 _ _ ha), by rw [List.getElem?_map, g1]; rfl, m, q, _, _, rfl, .inl hm, .inl h1, (by omega), (by have := (okg _ (olt i il)).1; omega), fun H5 m5 s5 f5 e5 => ?_⟩
      have es := mlt_succ (S := ltl LL) (oat i il)
      rw [← es] at e5
      have ml5 := mlt_len hS hSl om (by omega) (i + 1) (by omega)
      refine ⟨_, rfl, _, rfl, c, _, o.getD i 0, _, rfl, rfl, .inl ((s04.trans s5) _ _ hc), getD_getL (by have := olt i il; omega), _, rfl, m5, _, rfl, .inl e5, (by omega), fun H6 s6 => ?_⟩
      refine ⟨_, _, rfl, rfl, _, rfl, br (fun z => ?_) (fun z => ?_)⟩
      · have z : ((rk (mlt (ltl LL) o (i + 1)) : Nat) : Int) < ((ws.getD (o.getD i 0) 0 : Nat) : Int) := of_decide_eq_true z
        refine k _ false (s04.trans (s5.trans s6)) ⟨(fun h => by cases h), fun h => ?_⟩
        have := fin.mpr h i il
        have : ws.getD (o.getD i 0) 0 ≤ _ := this
        omega
      · have z : ¬ ((rk (mlt (ltl LL) o (i + 1)) : Nat) : Int) < ((ws.getD (o.getD i 0) 0 : Nat) : Int) := of_decide_eq_false z
        refine ⟨m5, _, _, rfl, s4.trans (s5.trans s6), s6 _ _ e5, fun k hk' => ?_⟩
        rcases Nat.lt_or_ge k i with q | q
        · exact hk k q
        · have : k = i := by omega
          subst this
          show ws.getD (o.getD k 0) 0 ≤ _
          omega
    · rintro σ H4 ⟨m, v4, v5, rfl, s4, hm, hk⟩
      rw [List.length_map, ol] at hk
      exact k _ true (s03.trans s4) ⟨fun _ => fin.mp hk, fun _ => rfl⟩
include TS
theorem ok_chain_right (F : FnP K "_law_chain_right" "_law_chain_right" s_chain_rightL f fd) (D_sizeL : Dn P w K mg base 3 "_law_size" ["_law_words"] sp_size) : FnOk P w K mg base CX0 4 f fd ["_law_told", "_law_bits", "_law_lists", "_law_widths"] (sp_chain_right CS) := by
  have nd := sc_chain_rightL.nd
  refine fnok F sc_chain_rightL (fun vs H Q E h => ?_) (fun cdv A outer s H vs Q E hr h => ?_)
  · obtain ⟨t, a, c, ms, qs, LL, ws, b, R, rfl, _⟩ := h
    rfl
  · obtain ⟨t, a, c, ms, qs, LL, ws, b, R, rfl, ht, ha, hL, okL, hc, hb, l1, ml, lw, hA, r1, r2, k⟩ := h
    have okg : ∀ i, i < LL.length → (ltl LL i).length ≤ 8 := fun i hi => (okL _ (by
      show LL.getD i [] ∈ LL
      rw [List.getD_eq_getElem?_getD, List.getElem?_eq_getElem hi]
      exact List.getElem_mem hi)).1
    have hLg : ∀ {H' : Hp} (i : Nat), LlsAt H' qs LL → i < LL.length → ∃ q, qs[i]? = some q ∧ H' q = some (.lst ((ltl LL i).map vN)) := fun {H'} i h hi => by
      have e1 : qs[i]? = some (qs[i]'(by rw [h.1]; exact hi)) := List.getElem?_eq_getElem _
      have e2 : LL[i]? = some (ltl LL i) := by
        show _ = some (LL.getD i [])
        rw [List.getD_eq_getElem?_getD, List.getElem?_eq_getElem hi]; rfl
      exact ⟨_, e1, h.2 i _ _ e1 e2⟩
    refine ⟨_, (pss_cons (ps_if (PW.pt (pw_or (pt_not (pt_val (pe_callB call_isi (by rfl) T.isinstance (by decide +kernel) (pa_cons (pv 0) (pa_cons (pe_bltn (v := .ty "tuple") (by rfl) T.tuple (by decide +kernel) rfl) pa_nil))))) (pw_or1 (pt_cmpR op_ne (pe_callB call_lenQ (by rfl) T.len PySem.boot_len (pa_cons (pv 0) pa_nil)) (pe_callB call_lenQ (by rfl) T.len PySem.boot_len (pa_cons (pv 3) pa_nil)) (nomark _)))))
    (pss_one (ps_ret pe_bl))
    pss_nil)
  (pss_cons (ps_for PassesOwn.never rfl (pi_enumT (by rfl) T.enumerate (pa_cons (pv 0) pa_nil)) (pg_tup (by rfl) (pgs_cons (pg_name (i := 4) nd rfl (Or.inl rfl)) (pgs_cons (pg_name (i := 5) nd rfl (Or.inl rfl)) pgs_nil)))
    (pss_cons (ps_if (PW.pt (pw_or (pt_not (pt_val (pe_callB call_isi (by rfl) T.isinstance (by decide +kernel) (pa_cons (pv 5) (pa_cons (pe_glob (v := .ref CS) (by rfl) TS.gl rfl) pa_nil))))) (pw_or (pt_cmpR op_ne (pe_fld (pv 5) rfl) (pv 1) (nomark _)) (pw_or1 (pt_cmpR op_ne (pe_callB call_lenQ (by rfl) T.len PySem.boot_len (pa_cons (pe_fld (pv 5) rfl) pa_nil)) (pe_ix ix_q (pv 3) (pv 4) (fun _ _ => rfl)) (nomark _))))))
      (pss_one (ps_ret pe_bl))
      pss_nil)
    (pss_cons (ps_if (PW.pt (pw_or (pt_cmpR op_ne (pe_d D_sizeL hr (pa_cons (pe_fld (pv 5) rfl) pa_nil)) (pe_ix ix_q (pv 3) (pv 4) (fun _ _ => rfl)) (nomark _)) (pw_or1 (pt_cmpR op_ne (pe_d D_sizeL hr (pa_cons (pe_op op_cat (pe_callTy call_listQ (by rfl) T.list (by decide +kernel) (pa_cons (pe_fld (pv 5) rfl) pa_nil)) (pe_ix ix_q (pv 2) (pv 4) (fun _ _ => rfl))) pa_nil)) (pe_d D_sizeL hr (pa_cons (pe_ix ix_q (pv 2) (pv 4) (fun _ _ => rfl)) pa_nil)) (nomark _)))))
      (pss_one (ps_ret pe_bl))
      pss_nil)
    (pss_one (ps_for PassesOwn.never rfl (pi_seq (pe_slice sl_tup (pv 0) po_none (po_some (pv 4)))) (pg_name (i := 6) nd rfl (Or.inl rfl))
      (pss_one (ps_if (pt_cmpR op_ne (pe_d D_sizeL hr (pa_cons (pe_op op_cat (pe_callTy call_listQ (by rfl) T.list (by decide +kernel) (pa_cons (pe_fld (pv 5) rfl) pa_nil)) (pe_callTy call_listQ (by rfl) T.list (by decide +kernel) (pa_cons (pe_fld (pv 6) rfl) pa_nil))) pa_nil)) (pe_callB (call_max2 rfl) (by rfl) T.max (by decide +kernel) (pa_cons (pe_callB call_lenQ (by rfl) T.len PySem.boot_len (pa_cons (pe_fld (pv 5) rfl) pa_nil)) (pa_cons (pe_callB call_lenQ (by rfl) T.len PySem.boot_len (pa_cons (pe_fld (pv 6) rfl) pa_nil)) pa_nil))) (nomark _))
        (pss_one (ps_ret pe_bl))
        pss_nil)))))))
  (pss_one (ps_ret pe_bl)))), ?_⟩
    refine ⟨_, rfl, _, _, _, _, _, rfl, .ty _, .base (.tup ht), kit_ty (r := true) (by decide +kernel), _, rfl, iteF ?_⟩
    refine ⟨_, rfl, t, _, rfl, .inr ht, _, rfl, c, _, rfl, .inl hc, rfl, _, rfl, ?_⟩
    rw [show (!decide (V.int ((ms.map V.ref).length : Int) = V.int ((ws.map vN).length : Int))) = false by rw [List.length_map, List.length_map, ml]; simp]
    refine iteF ?_
    refine ⟨_, rfl, t, _, rfl, SqT.of ht, for_it walk_enumT (fun i σ H' => ∃ v4 v5 v6, σ = [some (.ref t), some (vN b), some (.ref a), some (.ref c), v4, v5, v6] ∧ Same H H') ⟨none, none, none, rfl, Same.refl _⟩ (fun i σ H' _ hp => by obtain ⟨_, _, _, _, z⟩ := hp; exact SqT.of (z _ _ ht)) ?_ ?_⟩
    · rintro i x σ Hi Hj hi ⟨v4, v5, v6, rfl, si⟩ ⟨T', u, z, rfl, hT, rfl, q1, q2⟩
      rw [List.length_map, ml] at hi
      cases q1
      obtain ⟨m, hm, rfl⟩ := map_get (show (ms.map V.ref)[i]? = some z from q2)
      have sj := same_new0 (o := .tup [.int (i : Nat), V.ref m]) hT
      have eT : upd Hi T' (.tup [.int (i : Nat), V.ref m]) T' = some (.tup [.int (i : Nat), V.ref m]) := upd_same
      generalize upd Hi T' (.tup [.int (i : Nat), V.ref m]) = Hj at *
      have s1 := si.trans sj
      obtain ⟨dx, u, g1, g2⟩ := (hA i m hm).same s1
      obtain ⟨a1, a2, a3, a4⟩ := r1 i hi
      refine ⟨T', _, rfl, SqT.of eT, rfl, _, _, rfl, _, _, rfl, rfl, ?_⟩
      refine ⟨_, rfl, _, _, _, _, _, rfl, .own _, TS.ty g1, TS.me, _, rfl, iteF ?_⟩
      refine ⟨_, rfl, m, CS, dx, _, vN b, rfl, g1, TS.cl, TS.nb, rfl, _, rfl, rfl, _, rfl, ?_⟩
      rw [show (!decide (vN b = vN b)) = false by simp]
      refine iteF ?_
      refine ⟨_, rfl, m, CS, dx, _, .ref u, rfl, g1, TS.cl, TS.nr, rfl, u, _, rfl, .inr g2, _, rfl, _, rfl, c, _, i, _, rfl, rfl, .inl (s1 _ _ hc), getD_getL hi, rfl, _, rfl, ?_⟩
      rw [show (!decide (V.int (((R i).map vN).length : Int) = vN (ws.getD i 0))) = false by rw [List.length_map, a1]; simp]
      refine iteF ?_
      obtain ⟨q, h1, h2⟩ := hLg i (hL.same s1) (by omega)
      refine ⟨_, rfl, m, CS, dx, _, .ref u, rfl, g1, TS.cl, TS.nr, rfl, u, R i, rfl, .inr g2, (by omega), fun H5 s5 => ?_⟩
      have s05 := s1.trans s5
      refine ⟨_, rfl, _, rfl, c, _, i, _, rfl, rfl, .inl (s05 _ _ hc), getD_getL hi, rfl, _, rfl, ?_⟩
      rw [show (!decide (vN (rk (R i)) = vN (ws.getD i 0))) = false by rw [a3]; simp]
      refine iteF ?_
      refine ⟨_, rfl, m, CS, dx, _, .ref u, rfl, s5 _ _ g1, TS.cl, TS.nr, rfl, u, _, rfl, .inr (s5 _ _ g2), fun p6 hp6 => ?_⟩
      have s6 := same_new0 (o := .lst ((R i).map vN)) hp6
      have s06 := s05.trans s6
      have ok := okg i (by omega)
      refine ⟨_, rfl, _, rfl, a, _, i, .ref q, rfl, rfl, .inl (s06 _ _ ha), (by rw [List.getElem?_map, h1]; rfl), _, _, _, _, rfl, rfl, upd_same, (s5.trans s6) _ _ h2, (by rw [List.length_map, List.length_map, sizeLine_eq]; omega), fun p7 hp7 => ?_⟩
      have s7 := same_new0 (o := .lst ((R i).map vN ++ (ltl LL i).map vN)) hp7
      have s07 := s06.trans s7
      refine ⟨p7, R i ++ ltl LL i, rfl, .inl (by rw [upd_same, List.map_append]), (by rw [List.length_append]; omega), fun H8 s8 => ?_⟩
      have s08 := s07.trans s8
      refine ⟨_, rfl, _, rfl, a, _, i, .ref q, rfl, rfl, .inl (s08 _ _ ha), (by rw [List.getElem?_map, h1]; rfl), q, ltl LL i, rfl, .inl ((s5.trans (s6.trans (s7.trans s8))) _ _ h2), (by omega), fun H9 s9 => ?_⟩
      have s09 := s08.trans s9
      refine ⟨rfl, _, rfl, ?_⟩
      rw [show (!decide (vN (rk (R i ++ ltl LL i)) = vN (rk (ltl LL i)))) = false by rw [a4]; simp]
      refine iteF ?_
      have hcut : ¬ (HT.sIx (ms.map V.ref).length 0 none = 0 ∧ HT.sIx (ms.map V.ref).length (ms.map V.ref).length (some (i : Int)) = (ms.map V.ref).length) := fun z => by
        have z := z.2
        rw [HT.sIx_nat, List.length_map, ml] at z
        omega
      refine ⟨_, rfl, _, rfl, _, rfl, t, _, rfl, SqT.of (s09 _ _ ht), hcut, fun p10 hp10 => ?_⟩
      have s10 := same_new0 (o := .tup (cutV (ms.map V.ref) none (some (i : Int)))) hp10
      have e10 : upd H9 p10 (.tup (cutV (ms.map V.ref) none (some (i : Int)))) p10 = some (.tup ((ms.take i).map V.ref)) := by
        rw [upd_same]
        unfold cutV
        rw [HT.sIx_none, HT.sIx_nat, List.drop_zero, Nat.sub_zero, List.length_map, Nat.min_eq_left (by omega), List.map_take]
      generalize upd H9 p10 (.tup (cutV (ms.map V.ref) none (some (i : Int)))) = H10 at *
      have s010 := s09.trans s10
      have s1_10 := s5.trans (s6.trans (s7.trans (s8.trans (s9.trans s10))))
      refine for_sq2 (K := K) (.inr e10) (fun j σ H' => ∃ v6, σ = [some (.ref t), some (vN b), some (.ref a), some (.ref c), some (vN i), some (.ref m), v6] ∧ Same H10 H') ⟨_, rfl, Same.refl _⟩ (fun j σ' H' hp o ho => by obtain ⟨_, _, z⟩ := hp; exact z _ _ ho) ?_ ?_
      · rintro j x σ H11 hx11 ⟨v6, rfl, s11⟩
        obtain ⟨m2, hm2, rfl⟩ := map_get hx11
        have jl := (List.getElem?_eq_some_iff.mp hm2).1
        rw [List.length_take] at jl
        rw [List.getElem?_take, if_pos (by omega)] at hm2
        have s011 := s010.trans s11
        obtain ⟨dx2, u2, y1, y2⟩ := (hA j m2 hm2).same s011
        have g1' := (s1_10.trans s11) _ _ g1
        have g2' := (s1_10.trans s11) _ _ g2
        obtain ⟨b1, b2, b3, b4⟩ := r1 j (by omega)
        refine ⟨_, rfl, m, CS, dx, _, .ref u, rfl, g1', TS.cl, TS.nr, rfl, u, _, rfl, .inr g2', fun p12 hp12 => ?_⟩
        have s12 := same_new0 (o := .lst ((R i).map vN)) hp12
        refine ⟨_, rfl, m2, CS, dx2, _, .ref u2, rfl, s12 _ _ y1, TS.cl, TS.nr, rfl, u2, _, rfl, .inr (s12 _ _ y2), fun p13 hp13 => ?_⟩
        have s13 := same_new s12 hp13 (o := .lst ((R j).map vN))
        refine ⟨_, _, _, _, rfl, rfl, upd_new hp13 upd_same, upd_same, (by rw [List.length_map, List.length_map, sizeLine_eq]; omega), fun p14 hp14 => ?_⟩
        have s14 := same_new s13 hp14 (o := .lst ((R i).map vN ++ (R j).map vN))
        refine ⟨p14, R i ++ R j, rfl, .inl (by rw [upd_same, List.map_append]), (by rw [List.length_append]; omega), fun H15 s15 => ?_⟩
        have sA := s14.trans s15
        refine ⟨_, rfl, m, CS, dx, _, .ref u, rfl, sA _ _ g1', TS.cl, TS.nr, rfl, u, _, rfl, .inr (sA _ _ g2'), _, rfl, m2, CS, dx2, _, .ref u2, rfl, sA _ _ y1, TS.cl, TS.nr, rfl, u2, _, rfl, .inr (sA _ _ y2), _, _, rfl, rfl, _, rfl, ?_⟩
        refine itf ?_ ⟨_, rfl, s11.trans sA⟩
        have e := r2 i j hi (by omega)
        rw [e, List.length_map, List.length_map, a1, b1]
        have : (if ((ws.getD j 0 : Nat) : Int) > ((ws.getD i 0 : Nat) : Int) then ((ws.getD j 0 : Nat) : Int) else ((ws.getD i 0 : Nat) : Int)) = ((max (ws.getD i 0) (ws.getD j 0) : Nat) : Int) := by
          split <;> omega
        rw [this]
        simp
      · rintro σ H11 ⟨v6, rfl, s11⟩
        exact ⟨_, _, _, rfl, s010.trans s11⟩
    · rintro σ H' ⟨v4, v5, v6, rfl, s1⟩
      exact k _ s1
end
end LaneX
set_option Elab.async false
set_option linter.all false
set_option maxRecDepth 100000
set_option maxHeartbeats 4000000
namespace LaneX
open PySem PySem.Spec PyProof.Rows L2
theorem tabs_same {T : List (Addr × Str)} {H H' : Hp} (t : LamX.Tabs T H) (s : Same H H') : LamX.Tabs T H' := t.ext fun b o h => s b o h
theorem tabs_kp {T : List (Addr × Str)} {H H' : Hp} (t : LamX.Tabs T H) (s : Kp H H') : LamX.Tabs T H' := fun p hp => by
  obtain ⟨ps, h1, h2, h3⟩ := t p hp
  refine ⟨ps, s _ _ h1 rfl, h2, fun pos cv hc => ?_⟩
  obtain ⟨c, e1, e2⟩ := h3 pos cv hc
  exact ⟨c, e1, s _ _ e2 rfl⟩
def sp_lawT (K : PySem.W.Frag) (PT : Addr) : Sp := fun vs H Q _ => ∃ (a : Addr) (ns : List Int), vs = [.ref a] ∧ SqL K H a (ns.map V.int) ∧ ns.length ≤ 63 ∧ H PT = some (.tbl #[]) ∧ ∀ H', Q (.bl true) H'
theorem pn_ext {H H' : Hp} {p lc : Addr} {N : Nat} (h : Pn H p lc N) (z : LamX.ExtN H H') : Pn H' p lc N := by
  obtain ⟨cs, n, m, h1, h2, h3⟩ := h
  exact ⟨cs, n, m, z _ _ h1 (fun ps q => by cases q), z _ _ h2 (fun ps q => by cases q), h3⟩
theorem LlsAt.ext {H H' : Hp} {qs : List Addr} {LL : List (List Nat)} (h : LlsAt H qs LL) (k : LamX.ExtN H H') : LlsAt H' qs LL := ⟨h.1, fun i q l h1 h2 => k _ _ (h.2 i q l h1 h2) (fun ps q => by cases q)⟩
theorem SpreadAt.kt {C : Addr} {H H' : Hp} {p : Addr} {b : Nat} {ss ls : List Nat} (h : SpreadAt C H p b ss ls) (z : Kt H H') : SpreadAt C H' p b ss ls := by
  obtain ⟨dx, t, u, h1, h2, h3⟩ := h
  exact ⟨dx, t, u, z _ _ h1 rfl, z _ _ h2 rfl, z _ _ h3 rfl⟩
theorem ChAt.ext {CS : Addr} {H H' : Hp} {ms : List Addr} {b : Nat} {L : List (List Nat × List Nat)} {ws : List Nat} (h : ChAt CS H ms b L ws) (z : LamX.ExtN H H') : ChAt CS H' ms b L ws := ⟨h.1, fun i m q => (h.2 i m q).ext z⟩
theorem ChAt.kp {CS : Addr} {H H' : Hp} {ms : List Addr} {b : Nat} {L : List (List Nat × List Nat)} {ws : List Nat} (h : ChAt CS H ms b L ws) (z : Kp H H') : ChAt CS H' ms b L ws := ⟨h.1, fun i m q => (h.2 i m q).kp z⟩
theorem ChAt.same {CS : Addr} {H H' : Hp} {ms : List Addr} {b : Nat} {L : List (List Nat × List Nat)} {ws : List Nat} (h : ChAt CS H ms b L ws) (z : Same H H') : ChAt CS H' ms b L ws := h.kp (Kp.of z)
/-- what the law's turn carries -/
structure LZ (CR : Addr) (TT : List (Addr × Str)) (H : Hp) (p lc : Addr) (N : Nat) (q5 : Addr) (qs : List Addr) (LL : List (List Nat)) (D6 : Addr) (sps : List Addr) (b : Nat) (L : List (List Nat × List Nat)) (c7 : Addr) (ws : List Nat) : Prop where
  pn : Pn H p lc N
  tb : LamX.Tabs TT H
  e5 : H q5 = some (.lst (qs.map V.ref))
  lls : LlsAt H qs LL
  e6 : H D6 = some (.lst (sps.map V.ref))
  sp : SprsAt CR H sps b L
  e7 : H c7 = some (.lst (ws.map vN))
theorem LZ.exf {CR : Addr} {TT : List (Addr × Str)} {H H' : Hp} {p lc : Addr} {N : Nat} {q5 : Addr} {qs : List Addr} {LL : List (List Nat)} {D6 : Addr} {sps : List Addr} {b : Nat} {L : List (List Nat × List Nat)} {c7 : Addr} {ws : List Nat} (h : LZ CR TT H p lc N q5 qs LL D6 sps b L c7 ws) (x : ExF TT H H') : LZ CR TT H' p lc N q5 qs LL D6 sps b L c7 ws := ⟨pn_ext h.pn x.ext, x.tab, x.lst h.e5, h.lls.ext x.ext, x.lst h.e6, h.sp.ext x.ext, x.lst h.e7⟩
theorem LZ.same {CR : Addr} {TT : List (Addr × Str)} {H H' : Hp} {p lc : Addr} {N : Nat} {q5 : Addr} {qs : List Addr} {LL : List (List Nat)} {D6 : Addr} {sps : List Addr} {b : Nat} {L : List (List Nat × List Nat)} {c7 : Addr} {ws : List Nat} (h : LZ CR TT H p lc N q5 qs LL D6 sps b L c7 ws) (s : Same H H') : LZ CR TT H' p lc N q5 qs LL D6 sps b L c7 ws := h.exf (ExF.of s h.tb)
theorem LZ.kp {CR : Addr} {TT : List (Addr × Str)} {H H' : Hp} {p lc : Addr} {N M : Nat} {q5 : Addr} {qs : List Addr} {LL : List (List Nat)} {D6 : Addr} {sps : List Addr} {b : Nat} {L : List (List Nat × List Nat)} {c7 : Addr} {ws : List Nat} (h : LZ CR TT H p lc N q5 qs LL D6 sps b L c7 ws) (pn : Pn H' p lc M) (k : Kp H H') : LZ CR TT H' p lc M q5 qs LL D6 sps b L c7 ws := ⟨pn, tabs_kp h.tb k, k _ _ h.e5 rfl, h.lls.kp k, k _ _ h.e6 rfl, h.sp.kp k, k _ _ h.e7 rfl⟩
/-- what chain tells -/
def Tld (CS : Addr) (H : Hp) (b : Nat) (L : List (List Nat × List Nat)) (ws : List Nat) (v : V) : Prop := (fitB b L ws = false ∧ v = .non) ∨ (fitB b L ws = true ∧ ∃ t ms, v = .ref t ∧ H t = some (.tup (ms.map V.ref)) ∧ ChAt CS H ms b L ws)
theorem Tld.exf {CS : Addr} {TT : List (Addr × Str)} {H H' : Hp} {b : Nat} {L : List (List Nat × List Nat)} {ws : List Nat} {v : V} (h : Tld CS H b L ws v) (x : ExF TT H H') : Tld CS H' b L ws v := by
  rcases h with h | ⟨h, t, ms, e, ht, hc⟩
  · exact .inl h
  · exact .inr ⟨h, t, ms, e, x.tup ht, hc.ext x.ext⟩
theorem Tld.kp {CS : Addr} {H H' : Hp} {b : Nat} {L : List (List Nat × List Nat)} {ws : List Nat} {v : V} (h : Tld CS H b L ws v) (k : Kp H H') : Tld CS H' b L ws v := by
  rcases h with h | ⟨h, t, ms, e, ht, hc⟩
  · exact .inl h
  · exact .inr ⟨h, t, ms, e, k _ _ ht rfl, hc.kp k⟩
/-! ### lists of rows, compared -/
abbrev rowD (r : List Nat) : PyData := .tuple ((r.map Int.ofNat).map PyData.int)
theorem canLay_rows : ∀ rs : List (List Nat), PyData.canLayAll0 (rs.map rowD) = true
  | [] => rfl
  | r :: rs => by
    have h := canLay_rows rs
    simp only [List.map_cons, PyData.canLayAll0, PyData.canLay0, PySem.W.ke_canLayAll0, h, Bool.and_self]
theorem depth_rows : ∀ rs : List (List Nat), PyData.depthAll (rs.map rowD) ≤ 10
  | [] => by simp [PyData.depthAll]
  | r :: rs => by
    have h := depth_rows rs
    have h2 := PySem.W.ke_depthAll (r.map Int.ofNat)
    simp only [List.map_cons, PyData.depthAll, PyData.depth] at h2 ⊢
    omega
theorem shaped_rows (rs : List (List Nat)) : SeqAt.shaped (.list (rs.map rowD)) = true := by
  have h := depth_rows rs
  unfold SeqAt.shaped
  rw [Bool.and_eq_true]
  refine ⟨?_, decide_eq_true ?_⟩
  · rw [PyData.canLay0]
    exact canLay_rows rs
  · rw [PyData.depth]
    omega
theorem dpAll_rows {K : PySem.W.Frag} {H : Hp} : ∀ (rs : List (List Nat)) (ys : List V), ys.length = rs.length → (∀ (i : Nat) (v : V) (r : List Nat), ys[i]? = some v → rs[i]? = some r → ∃ t, v = .ref t ∧ H t = some (.tup (r.map vN))) → DpAll K H ys (rs.map rowD)
  | [], [], _, _ => .nil
  | [], _ :: _, h, _ => by simp at h
  | _ :: _, [], h, _ => by simp at h
  | r :: rs, y :: ys, hl, h => by
    obtain ⟨t, rfl, ht⟩ := h 0 y r rfl rfl
    refine .cons (.tup (xs := r.map vN) (SqT.of ht) ?_) (dpAll_rows rs ys (by simpa using hl) fun i v q h1 h2 => h (i + 1) v q (by simpa using h1) (by simpa using h2))
    have e : r.map vN = (r.map Int.ofNat).map V.int := by rw [List.map_map]; rfl
    rw [e]
    exact dpAll_ints _
theorem rows_ne {K : PySem.W.Frag} {H : Hp} {a c : Addr} {xs ys : List V} {n : Nat} (R : Nat → List Nat) {Q : VK} (ha : H a = some (.lst xs)) (hc : H c = some (.lst ys)) (lx : xs.length = n) (ly : ys.length = n) (hx : ∀ (i : Nat) (v : V), xs[i]? = some v → ∃ t, v = .ref t ∧ H t = some (.tup ((R i).map vN))) (hy : ∀ (i : Nat) (v : V), ys[i]? = some v → ∃ t, v = .ref t ∧ H t = some (.tup ((R i).map vN))) (q : Q (.bl false) H) : rNeD K (.ref a) (.ref c) H Q := by
  have at_ : ∀ {zs : List V}, zs.length = n → (∀ (i : Nat) (v : V), zs[i]? = some v → ∃ t, v = .ref t ∧ H t = some (.tup ((R i).map vN))) → DpAll K H zs (((List.range n).map R).map rowD) := fun {zs} l h => dpAll_rows _ _ (by rw [l]; simp) fun i v r h1 h2 => by
    obtain ⟨j, hj, rfl⟩ := map_get' h2
    obtain ⟨_, rfl⟩ := rng_get hj
    exact h j v h1
  have sh := shaped_rows ((List.range n).map R)
  refine ⟨_, _, .lst (SqL.of ha) (at_ lx hx), .lst (SqL.of hc) (at_ ly hy), sh, sh, ?_⟩
  rw [SeqAt.eqv_refl _ (SeqAt.canLay_of_shaped sh)]
  exact q
section
variable {P : Program} {w : World} {K : PySem.W.Frag} {mg : Str → Option Value} {base : Heap} {f : Addr} {fd : FuncData} {CS CR PT : Addr} (T : Bt mg) (TS : SpaceT K mg CS) (TR : SpreadT K mg CR)
include T TS TR
theorem ok_law (F : FnP K "law" "law" s_law f fd) (D_beginL : Dn P w K mg base 1 "_law_begin" ["_law_script"] (sp_begin K)) (D_drawL : Dn P w K mg base 1 "_law_draw" ["_law_pen", "_law_span"] sp_draw) (D_pickL : Dn P w K mg base 2 "_law_pick" ["_law_pen", "_law_some"] sp_pick) (D_mixedL : Dn P w K mg base 2 "_law_mixed" ["_law_pen", "_law_some"] sp_mixed) (D_sizeL : Dn P w K mg base 3 "_law_size" ["_law_words"] sp_size) (D_slot_listsL : Dn P w K mg base 4 "_law_slot_lists" ["_law_pen", "_law_bits", "_law_many"] sp_slot_lists) (D_madeL : Dn P w K mg base 6 "_law_made" ["_law_pen", "_law_bits", "_law_slots"] (sp_madeL CR)) (D_has_chainL : Dn P w K mg base 4 "_law_has_chain" ["_law_lists", "_law_widths"] sp_has_chain) (D_chain : Dn P w K mg base 10 "chain" ["spreads", "widths"] (sp_chain [(PT, fallQ)] CS CR)) (D_fitting : Dn P w K mg base 9 "fitting" ["spreads", "widths"] (sp_fitting [(PT, fallQ)] CR)) (D_truthL : Dn P w K mg base 1 "_law_truth" ["_law_value", "_law_due"] sp_truthF) (D_chain_rightL : Dn P w K mg base 4 "_law_chain_right" ["_law_told", "_law_bits", "_law_lists", "_law_widths"] (sp_chain_right CS)) : FnOk P w K mg base CX0 11 f fd ["_law_script"] (sp_lawT K PT) := by
  have nd := sc_law.nd
  refine fnok F sc_law (fun vs H Q E h => ?_) (fun cdv A outer s H vs Q E hr h => ?_)
  · obtain ⟨a, ns, rfl, _⟩ := h
    rfl
  · obtain ⟨a, ns, rfl, hS, hl, tb, k⟩ := h
    have tb : LamX.Tabs [(PT, fallQ)] H := fun p hp => by
      rw [List.mem_singleton.mp hp]
      exact LamX.TabS.nil tb
    refine ⟨_, (pss_cons (ps_set (i := 1) nd rfl (Or.inr rfl) (pe_d D_beginL hr (pa_cons (pv 0) pa_nil)))
  (pss_cons (ps_for PassesOwn.never rfl (pi_range1 (by rfl) T.range (pa_cons (pe_op on_add pe_int (pe_callB (call_min2 rfl) (by rfl) T.min (by decide +kernel) (pa_cons pe_int (pa_cons (pe_callB call_len_seq (by rfl) T.len PySem.boot_len (pa_cons (pv 0) pa_nil)) pa_nil)))) pa_nil)) (pg_name (i := 2) nd rfl (Or.inl rfl))
    (pss_cons (ps_asg (pe_tup (pa_cons (pe_d D_drawL hr (pa_cons (pv 1) (pa_cons pe_int pa_nil))) (pa_cons (pe_op on_add pe_int (pe_d D_pickL hr (pa_cons (pv 1) (pa_cons (pe_lst (pa_cons pe_int (pa_cons pe_int (pa_cons pe_int (pa_cons pe_int (pa_cons pe_int (pa_cons pe_int (pa_cons pe_int pa_nil)))))))) pa_nil)))) pa_nil))) (pg_tup (by rfl) (pgs_cons (pg_name (i := 3) nd rfl (Or.inr rfl)) (pgs_cons (pg_name (i := 4) nd rfl (Or.inl rfl)) pgs_nil))))
    (pss_cons (ps_set (i := 5) nd rfl (Or.inl rfl) (pe_d D_slot_listsL hr (pa_cons (pv 1) (pa_cons (pv 3) (pa_cons (pv 4) pa_nil)))))
    (pss_cons (ps_set (i := 6) nd rfl (Or.inr rfl) (pe_lc (own := [("_law_slots", 12)]) (g := gName 12) (by rfl) nd (pi_seq (pv 5)) (blkOk_by (own := [("_law_slots", 12)]) (N := ["_law_script", "_law_pen", "_law_turn", "_law_bits", "_law_many", "_law_lists", "_law_spreads", "_law_widths", "_law_due", "_law_told", "_law_again", "_law_order", "_law_slots", "_law_width", "_law_space", "_law_at"]) (sc := defScope s_law) (by decide +kernel)) (fun _ _ _ _ _ => (pg_name (i := 12) nd rfl (Or.inl rfl))) (fun _ _ _ _ _ => pts_nil) (fun _ _ _ _ _ => (pe_d D_madeL hr (pa_cons (pv 1) (pa_cons (pv 3) (pa_cons (pv 12) pa_nil)))))))
    (pss_cons (ps_set (i := 7) nd rfl (Or.inr rfl) (pe_lc (own := [("_law_slots", 12)]) (g := gName 12) (by rfl) nd (pi_seq (pv 5)) (blkOk_by (own := [("_law_slots", 12)]) (N := ["_law_script", "_law_pen", "_law_turn", "_law_bits", "_law_many", "_law_lists", "_law_spreads", "_law_widths", "_law_due", "_law_told", "_law_again", "_law_order", "_law_slots", "_law_width", "_law_space", "_law_at"]) (sc := defScope s_law) (by decide +kernel)) (fun _ _ _ _ _ => (pg_name (i := 12) nd rfl (Or.inl rfl))) (fun _ _ _ _ _ => pts_nil) (fun _ _ _ _ _ => (pe_op on_add (pe_callB (call_max2 rfl) (by rfl) T.max (by decide +kernel) (pa_cons pe_int (pa_cons (pe_op op_sub (pe_d D_sizeL hr (pa_cons (pv 12) pa_nil)) (pe_d D_drawL hr (pa_cons (pv 1) (pa_cons pe_int pa_nil)))) pa_nil))) (pe_d D_pickL hr (pa_cons (pv 1) (pa_cons (pe_lst (pa_cons pe_int (pa_cons pe_int (pa_cons pe_int (pa_cons pe_int (pa_cons pe_int pa_nil)))))) pa_nil)))))))
    (pss_cons (ps_mid (ps_if (pt_cmpR op_eq (pe_d D_drawL hr (pa_cons (pv 1) (pa_cons pe_int pa_nil))) pe_int (nomark _))
      (pss_one (ps_set (i := 7) nd rfl (Or.inr rfl) (pe_lc (own := [("_law_width", 13)]) (g := gName 13) (by rfl) nd (pi_seq (pv 7)) (blkOk_by (own := [("_law_width", 13)]) (N := ["_law_script", "_law_pen", "_law_turn", "_law_bits", "_law_many", "_law_lists", "_law_spreads", "_law_widths", "_law_due", "_law_told", "_law_again", "_law_order", "_law_slots", "_law_width", "_law_space", "_law_at"]) (sc := defScope s_law) (by decide +kernel)) (fun _ _ _ _ _ => (pg_name (i := 13) nd rfl (Or.inl rfl))) (fun _ _ _ _ _ => pts_nil) (fun _ _ _ _ _ => (pe_callB (call_min2 rfl) (by rfl) T.min (by decide +kernel) (pa_cons (pe_callTy call_intQ (by rfl) T.int (by decide +kernel) (pa_cons (pv 13) pa_nil)) (pa_cons (pe_d D_drawL hr (pa_cons (pv 1) (pa_cons pe_int pa_nil))) pa_nil)))))))
      pss_nil))
    (pss_cons (ps_mid (ps_par (i := 8) (j := 9) (by rfl) nd rfl rfl (by decide) rfl rfl (pa_cons (pe_d D_has_chainL hr (pa_cons (pv 5) (pa_cons (pv 7) pa_nil))) (pa_cons (pe_d D_chain hr (pa_cons (pv 6) (pa_cons (pv 7) pa_nil))) pa_nil)) (by rfl)))
    (pss_cons (ps_if (PW.pt (pw_or (pt_not (pt_val (pe_d D_truthL hr (pa_cons (pe_d D_fitting hr (pa_cons (pv 6) (pa_cons (pv 7) pa_nil))) (pa_cons (pv 8) pa_nil))))) (pw_or1 (pt_cmpR op_eq (pe_cmpR op_isN (pv 9) pe_non (nomark _)) (pv 8) (nomark _)))))
      (pss_one (ps_ret pe_bl))
      pss_nil)
    (pss_cons (ps_mid (ps_if (PW.pt (pw_and (pt_val (pv 8)) (pw_and1 (pt_not (pt_val (pe_d D_chain_rightL hr (pa_cons (pv 9) (pa_cons (pv 3) (pa_cons (pv 5) (pa_cons (pv 7) pa_nil))))))))))
      (pss_one (ps_ret pe_bl))
      pss_nil))
    (pss_cons (ps_mid (ps_set (i := 10) nd rfl (Or.inl rfl) (pe_d D_chain hr (pa_cons (pe_callTy call_listQ (by rfl) T.list (by decide +kernel) (pa_cons (pv 6) pa_nil)) (pa_cons (pe_callTy call_listQ (by rfl) T.list (by decide +kernel) (pa_cons (pv 7) pa_nil)) pa_nil)))))
    (pss_cons (ps_mid (ps_if (PW.pt (pw_and (pt_val (pv 8)) (pw_and1 (pt_cmpR (op_neD hr.units) (pe_lc (own := [("_law_space", 14)]) (g := gName 14) (by rfl) nd (pi_seq (pv 10)) (blkOk_by (own := [("_law_space", 14)]) (N := ["_law_script", "_law_pen", "_law_turn", "_law_bits", "_law_many", "_law_lists", "_law_spreads", "_law_widths", "_law_due", "_law_told", "_law_again", "_law_order", "_law_slots", "_law_width", "_law_space", "_law_at"]) (sc := defScope s_law) (by decide +kernel)) (fun _ _ _ _ _ => (pg_name (i := 14) nd rfl (Or.inl rfl))) (fun _ _ _ _ _ => pts_nil) (fun _ _ _ _ _ => (pe_fldK (K := K) (pv 14) rfl))) (pe_lc (own := [("_law_space", 14)]) (g := gName 14) (by rfl) nd (pi_seq (pv 9)) (blkOk_by (own := [("_law_space", 14)]) (N := ["_law_script", "_law_pen", "_law_turn", "_law_bits", "_law_many", "_law_lists", "_law_spreads", "_law_widths", "_law_due", "_law_told", "_law_again", "_law_order", "_law_slots", "_law_width", "_law_space", "_law_at"]) (sc := defScope s_law) (by decide +kernel)) (fun _ _ _ _ _ => (pg_name (i := 14) nd rfl (Or.inl rfl))) (fun _ _ _ _ _ => pts_nil) (fun _ _ _ _ _ => (pe_fldK (K := K) (pv 14) rfl))) (nomark _)))))
      (pss_one (ps_ret pe_bl))
      pss_nil))
    (pss_cons (ps_set (i := 11) nd rfl (Or.inl rfl) (pe_d D_mixedL hr (pa_cons (pv 1) (pa_cons (pe_listRg rfl (by rfl) T.list (prg_1 (by rfl) T.range (pv 4))) pa_nil))))
    (pss_one (ps_if (pt_cmpR op_ne (pe_d D_fitting hr (pa_cons (pe_lc (own := [("_law_at", 15)]) (g := gName 15) (by rfl) nd (pi_seq (pv 11)) (blkOk_by (own := [("_law_at", 15)]) (N := ["_law_script", "_law_pen", "_law_turn", "_law_bits", "_law_many", "_law_lists", "_law_spreads", "_law_widths", "_law_due", "_law_told", "_law_again", "_law_order", "_law_slots", "_law_width", "_law_space", "_law_at"]) (sc := defScope s_law) (by decide +kernel)) (fun _ _ _ _ _ => (pg_name (i := 15) nd rfl (Or.inl rfl))) (fun _ _ _ _ _ => pts_nil) (fun _ _ _ _ _ => (pe_ix ix_q (pv 6) (pv 15) (fun _ _ => rfl)))) (pa_cons (pe_callTy call_tupleQ (by rfl) T.tuple (by decide +kernel) (pa_cons (pe_lc (own := [("_law_at", 15)]) (g := gName 15) (by rfl) nd (pi_seq (pv 11)) (blkOk_by (own := [("_law_at", 15)]) (N := ["_law_script", "_law_pen", "_law_turn", "_law_bits", "_law_many", "_law_lists", "_law_spreads", "_law_widths", "_law_due", "_law_told", "_law_again", "_law_order", "_law_slots", "_law_width", "_law_space", "_law_at"]) (sc := defScope s_law) (by decide +kernel)) (fun _ _ _ _ _ => (pg_name (i := 15) nd rfl (Or.inl rfl))) (fun _ _ _ _ _ => pts_nil) (fun _ _ _ _ _ => (pe_ix ix_q (pv 7) (pv 15) (fun _ _ => rfl)))) pa_nil)) pa_nil))) (pv 8) (nomark _))
      (pss_one (ps_ret pe_bl))
      pss_nil))))))))))))))
  (pss_one (ps_ret pe_bl)))), ?_⟩
    refine ⟨_, rfl, a, ns, rfl, hS, fun H1 p lc z1 hpn hp1 => ?_⟩
    have em : (if ((ns.map V.int).length : Int) < 3 then ((ns.map V.int).length : Int) else 3) = ((min 3 ns.length : Nat) : Int) := by rw [List.length_map]; split <;> omega
    refine ⟨_, rfl, a, _, rfl, .inl (Same.seq z1 hS), _, _, rfl, ?_⟩
    rw [em]
    have tb1 := tabs_same tb z1
    refine ⟨3, _, rfl, rfl, _, rfl, (by omega), (by omega), for_range (n := 3 + min 3 ns.length) (fun i σ H2 => ∃ v2 v3 v4 v5 v6 v7 v8 v9 v10 v11, σ = [some (.ref a), some (.ref p), v2, v3, v4, v5, v6, v7, v8, v9, v10, v11, none, none, none, none] ∧ Pn H2 p lc (20000000 * i) ∧ LamX.Tabs [(PT, fallQ)] H2) ⟨none, none, none, none, none, none, none, none, none, none, rfl, hp1, tb1⟩ ?_ fun σ H2 hp => by
      obtain ⟨_, _, _, _, _, _, _, _, _, _, rfl, _⟩ := hp
      exact k _⟩
    rintro i σ Hi hi ⟨v2, v3, v4, v5, v6, v7, v8, v9, v10, v11, rfl, hpi, tbi⟩
    have NN : 20000000 * i + 20000000 ≤ TOP := by show _ ≤ 1099511627776; omega
    rw [show 20000000 * (i + 1) = 20000000 * i + 20000000 by omega]
    generalize 20000000 * i = M at *
    refine ⟨_, rfl, p, lc, M, 21, rfl, hpi, (by decide), (by decide), (by omega), fun H2 b hb hp2 kp2 => ?_⟩
    refine ⟨_, rfl, (by show 7 ≤ sizeLine; decide), fun l7 hl7 => ?_⟩
    have s3 := same_new0 (o := .lst [.int 0, .int 1, .int 1, .int 2, .int 2, .int 3, .int 7]) hl7
    refine ⟨p, lc, l7, _, _, rfl, hp2.same s3, .inl upd_same, (by decide), (by decide), (by omega), fun H3 v hv hp3 kp3 => ?_⟩
    have hm : ∃ m : Nat, v = vN m ∧ m ≤ 7 := by
      simp only [List.mem_cons, List.not_mem_nil, or_false] at hv
      rcases hv with rfl | rfl | rfl | rfl | rfl | rfl | rfl
      · exact ⟨0, rfl, by decide⟩
      · exact ⟨1, rfl, by decide⟩
      · exact ⟨1, rfl, by decide⟩
      · exact ⟨2, rfl, by decide⟩
      · exact ⟨2, rfl, by decide⟩
      · exact ⟨3, rfl, by decide⟩
      · exact ⟨7, rfl, by decide⟩
    obtain ⟨m0, rfl, hm0⟩ := hm
    refine ⟨1, m0, rfl, rfl, (by show 2 ≤ sizeLine; decide), fun t ht => ⟨t, _, rfl, SqT.of upd_same, rfl, _, _, rfl, _, _, rfl, rfl, ?_⟩⟩
    have s4 := same_new0 (o := .tup [vN b, .int ((1 + m0 : Nat) : Int)]) ht
    have k4 := (kp2.trans (Kp.of s3)).trans (kp3.trans (Kp.of s4))
    have hp4 := hp3.same s4
    have tb4 := tabs_kp tbi k4
    generalize upd H3 t (.tup [vN b, .int ((1 + m0 : Nat) : Int)]) = H4 at *
    have n1 : 0 < 1 + m0 := by omega
    have n8 : 1 + m0 ≤ 8 := by omega
    generalize 1 + m0 = n at *
    refine ⟨_, rfl, _, rfl, _, rfl, p, lc, _, b, n, rfl, hp4, (by omega), (by omega), (by omega), fun H5 q5 qs LL hq5 e5 hL5 lL okL hp5 kp5 => ?_⟩
    have tb5 := tabs_kp tb4 kp5
    have lq : qs.length = n := by rw [hL5.1, lL]
    have okg : ∀ i, i < n → (ltl LL i).length ≤ 8 ∧ ∀ x ∈ ltl LL i, x < 2 ^ b := fun i hi => okL _ (by
      show LL.getD i [] ∈ LL
      rw [List.getD_eq_getElem?_getD, List.getElem?_eq_getElem (by omega)]
      exact List.getElem_mem _)
    have hLg : ∀ {H' : Hp} (i : Nat) (q : Addr), LlsAt H' qs LL → qs[i]? = some q → i < n ∧ H' q = some (.lst ((ltl LL i).map vN)) := fun {H'} i q h hq => by
      have il := (List.getElem?_eq_some_iff.mp hq).1
      have e2 : LL[i]? = some (ltl LL i) := by
        show _ = some (LL.getD i [])
        rw [List.getD_eq_getElem?_getD, List.getElem?_eq_getElem (by omega)]; rfl
      exact ⟨by omega, h.2 i _ _ hq e2⟩
    -- the spreads
    refine ⟨_, rfl, lc_drawnS (st := 10000) (fun i v H' => ∃ (q : Addr) (z : List Nat × List Nat), v = .ref q ∧ (z.1.Perm (ltl LL i) ∧ WfR b z.1 z.2 ∧ SpreadAt CR H' q b z.1 z.2)) (fun i v H1 H2 h kt => by obtain ⟨q, z, rfl, h1, h2, h3⟩ := h; exact ⟨q, z, rfl, h1, h2, h3.kt kt⟩) (Sq.l e5) (by rw [List.length_map]; omega) hp5 (fun i u H' hu kk pn' => ?_) (fun D6 H6 ys6 hD6 k6 e6 l6 r6 pn6 => ?_)⟩
    · obtain ⟨q, hq, rfl⟩ := map_get hu
      obtain ⟨il, eq⟩ := hLg i q (hL5.kp kk) hq
      obtain ⟨g1, g2⟩ := okg i il
      intro Z Nx z1
      refine ⟨rfl, _, rfl, _, rfl, _, rfl, p, lc, q, _, b, ltl LL i, rfl, pn', .inl eq, (by omega), g2, (by omega), (by omega), fun H7 q7 s2 l2 pm wf a7 pn7 k7 => ?_⟩
      exact z1 H7 _ k7 (pn7.mono (by rw [Nat.add_mul]; omega)) ⟨q7, (s2, l2), rfl, pm, wf, a7⟩
    rw [List.length_map, lq] at l6 pn6
    obtain ⟨sps, L, rfl, lsp, hsp⟩ := refs_of (P := fun i q (z : List Nat × List Nat) => z.1.Perm (ltl LL i) ∧ WfR b z.1 z.2 ∧ SpreadAt CR H6 q b z.1 z.2) r6
    rw [List.length_map] at l6
    have lLn : L.length = n := by omega
    have hS6 : SprsAt CR H6 sps b L := ⟨lsp, fun i q z h1 h2 => ⟨(hsp i q z h1 h2).2.2, (hsp i q z h1 h2).2.1⟩⟩
    have pmL : ∀ i, i < n → (slt L i).Perm (ltl LL i) := fun i hi => by
      have h1 : sps[i]? = some (sps[i]'(by omega)) := List.getElem?_eq_getElem _
      have h2 : L[i]? = some (L[i]'(by omega)) := List.getElem?_eq_getElem _
      have := (hsp i _ _ h1 h2).1
      show (L.getD i ([], [])).1.Perm _
      rw [List.getD_eq_getElem?_getD, h2]
      exact this
    have hL6 := hL5.kp k6
    have tb6 := tabs_kp tb5 k6
    have e56 := k6 _ _ e5 rfl
    -- the widths
    refine ⟨_, rfl, lc_drawnS (st := 2) (fun i v H' => ∃ x, v = vN x ∧ True) (fun i v H1 H2 h kt => h) (Sq.l e56) (by rw [List.length_map]; omega) pn6 (fun i u H' hu kk pn' => ?_) (fun D7 H7 ys7 hD7 k7 e7 l7 r7 pn7 => ?_)⟩
    · obtain ⟨q, hq, rfl⟩ := map_get hu
      obtain ⟨il, eq⟩ := hLg i q (hL6.kp kk) hq
      obtain ⟨g1, g2⟩ := okg i il
      intro Z Nx z1
      refine ⟨rfl, _, rfl, q, ltl LL i, rfl, .inl eq, (by omega), fun H8 s8 => ?_⟩
      refine ⟨_, rfl, p, lc, _, 4, rfl, pn'.same s8, (by decide), (by decide), (by omega), fun H9 d hd pn9 k9 => ?_⟩
      refine ⟨_, _, rfl, rfl, _, _, rfl, ?_⟩
      have k89 := (Kp.of s8).trans k9
      refine ⟨_, rfl, (by show 5 ≤ sizeLine; decide), fun l5 hl5 => ?_⟩
      have s10 := same_new0 (o := .lst [.int 0, .int 0, .int 0, .int 0, .int 1]) hl5
      refine ⟨p, lc, l5, _, _, rfl, pn9.same s10, .inl upd_same, (by decide), (by decide), (by omega), fun H11 v hv pn11 k11 => ?_⟩
      have hm : ∃ m : Nat, v = vN m := by
        simp only [List.mem_cons, List.not_mem_nil, or_false] at hv
        rcases hv with rfl | rfl | rfl | rfl | rfl
        · exact ⟨0, rfl⟩
        · exact ⟨0, rfl⟩
        · exact ⟨0, rfl⟩
        · exact ⟨0, rfl⟩
        · exact ⟨1, rfl⟩
      obtain ⟨m1, rfl⟩ := hm
      refine ⟨rk (ltl LL i) - d, m1, ?_, rfl, z1 H11 _ ((k89.trans (Kp.of s10)).trans k11) (pn11.mono (by omega)) ⟨_, rfl, trivial⟩⟩
      congr 1
      split <;> omega
    rw [List.length_map, lq] at l7 pn7
    obtain ⟨ws0, rfl, _⟩ := nats_of (P := fun _ _ => True) r7
    rw [List.length_map] at l7
    have tb7 := tabs_kp tb6 k7
    have hS7 : SprsAt CR H7 sps b L := hS6.kp k7
    have e67 := k7 _ _ e6 rfl
    have e57 := k7 _ _ e56 rfl
    have hL7 := hL6.kp k7
    have Z7 : LZ CR [(PT, fallQ)] H7 p lc (M + 11000000) q5 qs LL D6 sps b L D7 ws0 := ⟨pn7.mono (by omega), tb7, e57, hL7, e67, hS7, e7⟩
    have hSlt : ∀ i, i < n → ∀ x ∈ slt L i, x < 2 ^ b := fun i hi x hx => (okg i hi).2 x ((pmL i hi).mem_iff.mp hx)
    refine ⟨fun σ H' => ∃ v2 c7 ws, σ = [some (.ref a), some (.ref p), v2, some (vN b), some (vN n), some (.ref q5), some (.ref D6), some (.ref c7), v8, v9, v10, v11, none, none, none, none] ∧ ws.length = n ∧ LZ CR [(PT, fallQ)] H' p lc (M + 12000000) q5 qs LL D6 sps b L c7 ws, ?_, ?_⟩
    · refine ⟨_, rfl, p, lc, _, 2, rfl, Z7.pn, (by decide), (by decide), (by omega), fun H8 r8 hr8 pn8 k8 => ⟨rfl, _, rfl, br (fun z => ?_) (fun z => ⟨_, D7, ws0, rfl, l7, Z7.kp (pn8.mono (by omega)) k8⟩)⟩⟩
      refine ⟨_, rfl, lc_drawnS (st := 1) (fun i v H' => ∃ x, v = vN x ∧ True) (fun i v H1 H2 h kt => h) (Sq.l (k8 _ _ e7 rfl)) (by rw [List.length_map]; omega) pn8 (fun i u H' hu kk pn' => ?_) (fun D9 H9 ys9 hD9 k9 e9 l9 r9 pn9 => ?_)⟩
      · obtain ⟨w0, hw0, rfl⟩ := map_get hu
        have il := (List.getElem?_eq_some_iff.mp hw0).1
        intro Z Nx z1
        refine ⟨rfl, _, rfl, w0, rfl, _, rfl, p, lc, _, 4, rfl, pn', (by decide), (by decide), (by omega), fun H10 d hd pn10 k10 => ?_⟩
        refine ⟨_, _, rfl, z1 H10 _ k10 (pn10.mono (by omega)) ⟨min w0 d, ?_, trivial⟩⟩
        show V.int _ = V.int _
        congr 1
        split <;> omega
      rw [List.length_map, l7] at l9 pn9
      obtain ⟨ws9, rfl, _⟩ := nats_of (P := fun _ _ => True) r9
      rw [List.length_map] at l9
      have Z9 := (Z7.kp pn8 k8).kp pn9 k9
      exact ⟨_, D9, ws9, rfl, l9, Z9.pn.mono (by omega), Z9.tb, Z9.e5, Z9.lls, Z9.e6, Z9.sp, e9⟩
    clear Z7 e7 l7 pn7 tb7 hS7 e67 e57 hL7
    rintro σ H8 ⟨v2, c7, ws, rfl, lw, Z8⟩
    have hfit : fitB b L ws = true ↔ Fit n (wof ws) (ltl LL) := by
      rw [fitB_iff, fit_len (ordW_perm ws) (ordW_pair ws) (fun i hi => hSlt i (by omega)), lw]
      exact Fit.perm pmL
    refine ⟨fun σ H' => ∃ v2 u9, σ = [some (.ref a), some (.ref p), v2, some (vN b), some (vN n), some (.ref q5), some (.ref D6), some (.ref c7), some (.bl (fitB b L ws)), some u9, v10, v11, none, none, none, none] ∧ Tld CS H' b L ws u9 ∧ LZ CR [(PT, fallQ)] H' p lc (M + 12000000) q5 qs LL D6 sps b L c7 ws, ?_, ?_⟩
    · refine ⟨_, rfl, _, rfl, q5, c7, qs, LL, ws, b, rfl, Z8.e5, Z8.lls, okL, (by omega), (by omega), (by omega), (by omega), Z8.e7, fun H9 r s9 hr9 => ?_⟩
      rw [lL, ← hfit] at hr9
      obtain rfl : r = fitB b L ws := Bool.eq_iff_iff.mpr hr9
      have Z9 := Z8.same s9
      refine ⟨_, rfl, _, rfl, D6, c7, sps, b, L, ws, rfl, Z9.e6, Z9.sp, (by omega), (by omega), (by omega), .inl Z9.e7, (by omega), Z9.tb, fun ef H10 x10 => ?_, fun ef H10 t10 ms x10 f10 e10 c10 => ?_⟩
      · exact ⟨_, _, rfl, _, _, rfl, .inl ⟨ef, rfl⟩, Z9.exf x10⟩
      · exact ⟨_, _, rfl, _, _, rfl, .inr ⟨ef, t10, ms, rfl, e10, c10⟩, Z9.exf x10⟩
    clear Z8
    rintro σ H9 ⟨v2, u9, rfl, t9, Z9⟩
    refine ⟨_, rfl, _, rfl, D6, c7, sps, b, L, ws, rfl, Z9.e6, Z9.sp, (by omega), (by omega), (by omega), .inl Z9.e7, (by omega), Z9.tb, fun H10 x10 => ?_⟩
    have Z10 := Z9.exf x10
    have t10 := t9.exf x10
    refine ⟨_, rfl, _, _, rfl, _, rfl, itf (by simp) ?_⟩
    refine ⟨_, rfl, rfl, _, rfl, rfl, _, rfl, itf ?_ ?_⟩
    · rcases t10 with ⟨ef, rfl⟩ | ⟨ef, t, ms, rfl, _, _⟩ <;> rw [ef]
      · decide
      · rw [show decide (V.ref t = V.non) = false from decide_eq_false fun z => by cases z]; decide
    clear Z9 t9
    have NE : fitB b L ws = true → ∀ k, k < ws.length → wof ws ((ordW ws).getD k 0) ≤ (mtE b (slt L) ((ordW ws).take (k + 1))).length := fun h => fitB_iff.mp h
    refine ⟨fun σ H' => ∃ v2 u9, σ = [some (.ref a), some (.ref p), v2, some (vN b), some (vN n), some (.ref q5), some (.ref D6), some (.ref c7), some (.bl (fitB b L ws)), some u9, v10, v11, none, none, none, none] ∧ Tld CS H' b L ws u9 ∧ LZ CR [(PT, fallQ)] H' p lc (M + 12000000) q5 qs LL D6 sps b L c7 ws, ?_, ?_⟩
    · refine ⟨_, rfl, _, rfl, br (fun z => ?_) (fun z => iteF ⟨_, _, rfl, t10, Z10⟩)⟩
      rcases t10 with ⟨ef, _⟩ | ⟨ef, t, ms, rfl, et, hch⟩
      · rw [ef] at z; cases z
      have op := ordW_perm ws
      have od := ordW_pair ws
      have hSw : ∀ i, i < ws.length → ∀ x ∈ slt L i, x < 2 ^ b := fun i hi => hSlt i (by omega)
      have wf := NE ef
      have co := fun i hi => chn_ok op od hSw wf (i := i) hi
      refine ⟨_, rfl, _, rfl, _, rfl, _, rfl, t, q5, c7, ms, qs, LL, ws, b, chn b (slt L) (wof ws) (ordW ws), rfl, et, Z10.e5, Z10.lls, okL, Z10.e7, (by omega), (by omega), hch.1, (by omega), hch.2, (fun i hi => ⟨(co i hi).2.1, ?_, chn_rk op od hSw wf hi, chn_in op od hSw wf hi fun x => ?_⟩), (fun i j hi hj => chn_max op od hSw wf hi hj), fun H11 s11 => ⟨_, rfl, itf rfl ⟨_, _, rfl, .inr ⟨ef, t, ms, rfl, s11 _ _ et, hch.same s11⟩, Z10.same s11⟩⟩⟩
      · obtain ⟨⟨Y, e⟩, _⟩ := co i hi
        have e2 : rk (chn b (slt L) (wof ws) (ordW ws) i) = (chn b (slt L) (wof ws) (ordW ws) i).length := by rw [e]; exact spn_id (spn_rws Y)
        rw [← e2]
        exact rk_le_bits fun x hx => ((co i hi).2.2 x (.of hx)).lt (hSw i hi)
      · exact ⟨fun z => z.sub fun y hy => (pmL i (by omega)).mem_iff.mpr hy, fun z => z.sub fun y hy => (pmL i (by omega)).mem_iff.mp hy⟩
    clear Z10 t10
    rintro σ H10 ⟨v2, u9, rfl, t10, Z10⟩
    refine ⟨fun σ H' => ∃ v2 u9 u10, σ = [some (.ref a), some (.ref p), v2, some (vN b), some (vN n), some (.ref q5), some (.ref D6), some (.ref c7), some (.bl (fitB b L ws)), some u9, some u10, v11, none, none, none, none] ∧ Tld CS H' b L ws u9 ∧ Tld CS H' b L ws u10 ∧ LZ CR [(PT, fallQ)] H' p lc (M + 12000000) q5 qs LL D6 sps b L c7 ws, ?_, ?_⟩
    · refine ⟨_, rfl, D6, _, rfl, .inl Z10.e6, fun l1 hl1 => ?_⟩
      have s11 := same_new0 (o := .lst (sps.map V.ref)) hl1
      refine ⟨_, rfl, c7, _, rfl, .inl (s11 _ _ Z10.e7), fun l2 hl2 => ?_⟩
      have s12 := same_new s11 hl2 (o := .lst (ws.map vN))
      have Z12 := Z10.same s12
      have t12 := t10.exf (ExF.of s12 Z10.tb)
      refine ⟨l1, l2, sps, b, L, ws, rfl, upd_new hl2 upd_same, Z12.sp, (by omega), (by omega), (by omega), .inl upd_same, (by omega), Z12.tb, fun ef H13 x13 => ?_, fun ef H13 t13 ms x13 f13 e13 c13 => ?_⟩
      · exact ⟨_, _, _, rfl, t12.exf x13, .inl ⟨ef, rfl⟩, Z12.exf x13⟩
      · exact ⟨_, _, _, rfl, t12.exf x13, .inr ⟨ef, t13, ms, rfl, e13, c13⟩, Z12.exf x13⟩
    clear Z10 t10
    rintro σ H10 ⟨v2, u9, u10, rfl, t10, w10, Z10⟩
    refine ⟨fun σ H' => ∃ v2 u9 u10, σ = [some (.ref a), some (.ref p), v2, some (vN b), some (vN n), some (.ref q5), some (.ref D6), some (.ref c7), some (.bl (fitB b L ws)), some u9, some u10, v11, none, none, none, none] ∧ LZ CR [(PT, fallQ)] H' p lc (M + 12000000) q5 qs LL D6 sps b L c7 ws, ?_, ?_⟩
    · refine ⟨_, rfl, _, rfl, br (fun z => ?_) (fun z => iteF ⟨_, _, _, rfl, Z10⟩)⟩
      rcases t10 with ⟨ef, _⟩ | ⟨_, t, ms, rfl, et, hch⟩
      · rw [ef] at z; cases z
      rcases w10 with ⟨ef, _⟩ | ⟨_, t2, ms2, rfl, et2, hch2⟩
      · rw [ef] at z; cases z
      have kt : ∀ (i : Nat) (v : V) (H1 H2 : Hp), (∃ t, v = .ref t ∧ H1 t = some (.tup ((chn b (slt L) (wof ws) (ordW ws) i).map vN))) → Kt H1 H2 → ∃ t, v = .ref t ∧ H2 t = some (.tup ((chn b (slt L) (wof ws) (ordW ws) i).map vN)) := fun i v H1 H2 h k => by
        obtain ⟨t, rfl, h⟩ := h
        exact ⟨t, rfl, k _ _ h rfl⟩
      refine ⟨_, rfl, lc_newS (fun i v H' => ∃ t, v = .ref t ∧ H' t = some (.tup ((chn b (slt L) (wof ws) (ordW ws) i).map vN))) kt (Sq.t et2) (by rw [List.length_map, hch2.1]; omega) (fun i u H' hu s => ?_) (fun D11 H11 xs11 hD11 s11 e11 l11 r11 => ?_)⟩
      · obtain ⟨m, hm, rfl⟩ := map_get hu
        obtain ⟨dx, tt, g1, g2⟩ := (hch2.2 i m hm).same s
        intro Z Nx z1
        exact ⟨rfl, _, rfl, m, CS, dx, _, .ref tt, rfl, g1, TS.cl, TS.nr, rfl, z1 _ _ (Same.refl _) ⟨tt, rfl, g2⟩⟩
      refine ⟨_, rfl, lc_newS (fun i v H' => ∃ t, v = .ref t ∧ H' t = some (.tup ((chn b (slt L) (wof ws) (ordW ws) i).map vN))) kt (Sq.t (s11 _ _ et)) (by rw [List.length_map, hch.1]; omega) (fun i u H' hu s => ?_) (fun D12 H12 xs12 hD12 s12 e12 l12 r12 => ?_)⟩
      · obtain ⟨m, hm, rfl⟩ := map_get hu
        obtain ⟨dx, tt, g1, g2⟩ := (hch.2 i m hm).same (s11.trans s)
        intro Z Nx z1
        exact ⟨rfl, _, rfl, m, CS, dx, _, .ref tt, rfl, g1, TS.cl, TS.nr, rfl, z1 _ _ (Same.refl _) ⟨tt, rfl, g2⟩⟩
      rw [List.length_map, hch2.1] at l11
      rw [List.length_map, hch.1] at l12
      exact rows_ne (chn b (slt L) (wof ws) (ordW ws)) (s12 _ _ e11) e12 l11 l12 (fun i v hv => kt i v _ _ (r11 i v hv) (Kt.same s12)) r12 ⟨_, rfl, itf rfl ⟨_, _, _, rfl, Z10.same (s11.trans s12)⟩⟩
    clear Z10 t10 w10
    rintro σ H10 ⟨v2, u9, u10, rfl, Z10⟩
    refine ⟨_, rfl, _, rfl, n, rfl, RgOk.of_le (by decide) (by omega) (by decide) (by omega), fun l1 hl1 => ?_⟩
    rw [rgV_nat]
    have s11 := same_new0 (o := .lst ((List.range n).map vN)) hl1
    refine ⟨p, lc, l1, _, List.range n, rfl, Z10.pn.same s11, .inl upd_same, (by rw [List.length_range]; omega), (by omega), fun H12 q12 o pm f12 e12 pn12 k12 => ?_⟩
    have Z12 := (Z10.same s11).kp pn12 k12
    have ol : o.length = n := by rw [pm.length_eq, List.length_range]
    have om : ∀ j ∈ o, j < n := fun j hj => List.mem_range.mp (pm.mem_iff.mp hj)
    refine ⟨_, rfl, lc_pure o vN (fun _ => true) (fun j => .ref (sps.getD j D6)) (.inl e12) (by omega) (fun j H' hj s => ?_) (fun D13 H13 hD13 s13 e13 => ?_)⟩
    · have jl := om j hj
      intro Z Nx z1 z2
      exact ⟨rfl, _, rfl, _, rfl, D6, _, j, .ref (sps.getD j D6), rfl, rfl, .inl (s _ _ Z12.e6), (by rw [List.getElem?_map, List.getD_eq_getElem?_getD, List.getElem?_eq_getElem (by omega)]; rfl), z1 rfl _ (Same.refl _)⟩
    rw [filt_true] at e13
    refine ⟨_, rfl, lc_pure o vN (fun _ => true) (fun j => vN (ws.getD j 0)) (.inl (s13 _ _ e12)) (by omega) (fun j H' hj s => ?_) (fun D14 H14 hD14 s14 e14 => ?_)⟩
    · have jl := om j hj
      intro Z Nx z1 z2
      exact ⟨rfl, _, rfl, _, rfl, c7, _, j, vN (ws.getD j 0), rfl, rfl, .inl ((s13.trans s) _ _ Z12.e7), getD_getL (by omega), z1 rfl _ (Same.refl _)⟩
    rw [filt_true] at e14
    refine ⟨D14, _, rfl, e14, fun t15 ht15 => ?_⟩
    have s15 := s13.trans (s14.trans (same_new0 (o := .tup (o.map fun j => vN (ws.getD j 0))) ht15))
    have e15 : upd H14 t15 (.tup (o.map fun j => vN (ws.getD j 0))) t15 = some (.tup ((o.map fun j => ws.getD j 0).map vN)) := by rw [upd_same, List.map_map]; rfl
    have e13' : upd H14 t15 (.tup (o.map fun j => vN (ws.getD j 0))) D13 = some (.lst ((o.map fun j => sps.getD j D6).map V.ref)) := by rw [upd_new ht15 (s14 _ _ e13), List.map_map]; rfl
    generalize upd H14 t15 (.tup (o.map fun j => vN (ws.getD j 0))) = H15 at *
    have Z15 := Z12.same s15
    have sp15 : SprsAt CR H15 (o.map fun j => sps.getD j D6) b (o.map fun j => L.getD j ([], [])) := ⟨by rw [List.length_map, List.length_map], fun i q z h1 h2 => by
      obtain ⟨j, hj, rfl⟩ := map_get' h1
      obtain ⟨j', hj', rfl⟩ := map_get' h2
      rw [hj] at hj'
      cases hj'
      have jl := om j (List.mem_of_getElem? hj)
      refine Z15.sp.at_ j _ _ ?_ ?_
      · rw [List.getD_eq_getElem?_getD, List.getElem?_eq_getElem (by omega)]; rfl
      · rw [List.getD_eq_getElem?_getD, List.getElem?_eq_getElem (by omega)]; rfl⟩
    refine ⟨D13, t15, o.map (fun j => sps.getD j D6), b, o.map (fun j => L.getD j ([], [])), o.map (fun j => ws.getD j 0), rfl, e13', sp15, (by rw [List.length_map]; omega), (by rw [List.length_map]; omega), (by omega), .inr e15, (by rw [List.length_map, List.length_map]), Z15.tb, fun H16 x16 => ?_⟩
    have og : ∀ i, i < n → (o.map fun j => ws.getD j 0).getD i 0 = ws.getD (o.getD i 0) 0 ∧ slt (o.map fun j => L.getD j ([], [])) i = slt L (o.getD i 0) := fun i hi => by
      have e : o[i]? = some (o.getD i 0) := at_getD (by omega)
      refine ⟨by rw [List.getD_eq_getElem?_getD, List.getElem?_map, e]; rfl, ?_⟩
      show ((o.map fun j => L.getD j ([], [])).getD i ([], [])).1 = _
      rw [List.getD_eq_getElem?_getD, List.getElem?_map, e]
      rfl
    have ef : fitB b (o.map fun j => L.getD j ([], [])) (o.map fun j => ws.getD j 0) = fitB b L ws := by
      refine Bool.eq_iff_iff.mpr ?_
      rw [fitB_iff, fit_len (ordW_perm _) (ordW_pair _) (fun i hi => ?_), fitB_iff, fit_len (ordW_perm ws) (ordW_pair ws) (fun i hi => hSlt i (by omega)), List.length_map, ol, lw]
      · rw [Fit.cg (W' := fun i => wof ws (o.getD i 0)) (S' := fun i => slt L (o.getD i 0)) (fun i hi => (og i hi).1) fun i hi => (og i hi).2]
        exact fit_perm pm
      · rw [List.length_map, ol] at hi
        rw [(og i hi).2]
        exact hSlt _ (perm_lt pm hi)
    refine ⟨_, rfl, rfl, _, rfl, itf ?_ ⟨_, _, _, _, _, _, _, _, _, _, rfl, (Z15.exf x16).pn.mono (by omega), x16.tab⟩⟩
    rw [ef]
    simp
end
end LaneX
set_option Elab.async false
set_option linter.all false
set_option maxRecDepth 100000
set_option maxHeartbeats 0
namespace LaneX
open PySem PySem.Spec PyProof.Rows L2
theorem exC_ok {K : PySem.W.Frag} {C : Addr} (c : Cls K C) (h : exC K C = true) : ObjT K C ∧ PySem.W.selfFirst K C = true := by
  obtain ⟨h1, h⟩ := He.ba h
  obtain ⟨h2, h⟩ := He.ba h
  obtain ⟨h3, h⟩ := He.ba h
  obtain ⟨h4, h⟩ := He.ba h
  obtain ⟨h5, h6⟩ := He.ba h
  exact ⟨⟨c, He.eqO_ok h1, He.eqO_ok h5, of_decide_eq_true h2, of_decide_eq_true h3, of_decide_eq_true h4⟩, h6⟩
theorem facts {w : World} {K : PySem.W.Frag} {h : Heap} {mg : Str → Option Value} {f : Addr} (X : K.In h) (G : h.Ns mainGlobals mg) (hfa : mg ("law" : Str) = some (.ref f)) (c : He.SaysD fa fn K) (ex : exB K = true) :
    ∃ fd : FuncData, (∀ (s : Shared) (v : Value), BindsTo s fd ⟨[v], []⟩ [("_law_script", v)]) ∧ ∀ base : Heap, K.In base → base.Ns mainGlobals mg → LamX.TabB base mg (He.cT K ("falling", none)).1 (He.cT K ("falling", none)).2 → FnOk PySem.Challenge.rw_laneswap_k38_whole_widths.prog w K mg base CX0 11 f fd ["_law_script"] (sp_lawT K (He.cT K ("falling", none)).2) := by
  obtain ⟨fd_is_whole, F_is_whole⟩ := c.def_ 0 (d := d_is_whole) rfl
  obtain ⟨fd_need_whole, F_need_whole⟩ := c.def_ 1 (d := d_need_whole) rfl
  obtain ⟨fd_need_items, F_need_items⟩ := c.def_ 2 (d := d_need_items) rfl
  obtain ⟨fd_need_word, F_need_word⟩ := c.def_ 3 (d := d_need_word) rfl
  obtain ⟨fd_need_words, F_need_words⟩ := c.def_ 4 (d := d_need_words) rfl
  obtain ⟨fd_cleared, F_cleared⟩ := c.def_ 5 (d := d_cleared) rfl
  obtain ⟨fd_grown, F_grown⟩ := c.def_ 6 (d := d_grown) rfl
  obtain ⟨fd_spanned, F_spanned⟩ := c.def_ 7 (d := d_spanned) rfl
  obtain ⟨fd_met, F_met⟩ := c.def_ 8 (d := d_met) rfl
  obtain ⟨fd_Space_init, F_Space_init⟩ := c.def_ 9 (d := d_Space_init) rfl
  obtain ⟨fd_Spread_init, F_Spread_init⟩ := c.def_ 10 (d := d_Spread_init) rfl
  obtain ⟨fd_need_space, F_need_space⟩ := c.def_ 11 (d := d_need_space) rfl
  obtain ⟨fd_any_spread, F_any_spread⟩ := c.def_ 12 (d := d_any_spread) rfl
  obtain ⟨fd_Space_and, F_Space_and⟩ := c.def_ 13 (d := d_Space_and) rfl
  obtain ⟨fd_Space_completing, F_Space_completing⟩ := c.def_ 14 (d := d_Space_completing) rfl
  obtain ⟨fd_Spread_slot_space, F_Spread_slot_space⟩ := c.def_ 15 (d := d_Spread_slot_space) rfl
  obtain ⟨fd_drawL, F_drawL⟩ := c.def_ 16 (d := d_drawL) rfl
  obtain ⟨fd_beginL, F_beginL⟩ := c.def_ 17 (d := d_beginL) rfl
  obtain ⟨fd_pickL, F_pickL⟩ := c.def_ 18 (d := d_pickL) rfl
  obtain ⟨fd_wordL, F_wordL⟩ := c.def_ 19 (d := d_wordL) rfl
  obtain ⟨fd_mixedL, F_mixedL⟩ := c.def_ 20 (d := d_mixedL) rfl
  obtain ⟨fd_leftL, F_leftL⟩ := c.def_ 21 (d := d_leftL) rfl
  obtain ⟨fd_basisL, F_basisL⟩ := c.def_ 22 (d := d_basisL) rfl
  obtain ⟨fd_sizeL, F_sizeL⟩ := c.def_ 23 (d := d_sizeL) rfl
  obtain ⟨fd_imageL, F_imageL⟩ := c.def_ 24 (d := d_imageL) rfl
  obtain ⟨fd_taggedL, F_taggedL⟩ := c.def_ 25 (d := d_taggedL) rfl
  obtain ⟨fd_kernelL, F_kernelL⟩ := c.def_ 26 (d := d_kernelL) rfl
  obtain ⟨fd_falling, F_falling⟩ := c.def_ 27 (d := d_falling) rfl
  obtain ⟨fd_need_spreads, F_need_spreads⟩ := c.def_ 28 (d := d_need_spreads) rfl
  obtain ⟨fd_need_widths, F_need_widths⟩ := c.def_ 29 (d := d_need_widths) rfl
  obtain ⟨fd_meets_down, F_meets_down⟩ := c.def_ 30 (d := d_meets_down) rfl
  obtain ⟨fd_fitting, F_fitting⟩ := c.def_ 31 (d := d_fitting) rfl
  obtain ⟨fd_chain, F_chain⟩ := c.def_ 32 (d := d_chain) rfl
  obtain ⟨fd_truthL, F_truthL⟩ := c.def_ 33 (d := d_truthL) rfl
  obtain ⟨fd_meetL, F_meetL⟩ := c.def_ 34 (d := d_meetL) rfl
  obtain ⟨fd_madeL, F_madeL⟩ := c.def_ 35 (d := d_madeL) rfl
  obtain ⟨fd_slot_listsL, F_slot_listsL⟩ := c.def_ 36 (d := d_slot_listsL) rfl
  obtain ⟨fd_has_chainL, F_has_chainL⟩ := c.def_ 37 (d := d_has_chainL) rfl
  obtain ⟨fd_chain_rightL, F_chain_rightL⟩ := c.def_ 38 (d := d_chain_rightL) rfl
  obtain ⟨fd_law, F_law⟩ := c.def_ 39 (d := d_law) rfl
  have T : Bt mg := ⟨He.free_ok X G (c.fact 0 (f := .free "abs") rfl), He.free_ok X G (c.fact 1 (f := .free "all") rfl), He.free_ok X G (c.fact 2 (f := .free "any") rfl), He.free_ok X G (c.fact 3 (f := .free "bool") rfl), He.free_ok X G (c.fact 4 (f := .free "enumerate") rfl), He.free_ok X G (c.fact 5 (f := .free "int") rfl), He.free_ok X G (c.fact 6 (f := .free "isinstance") rfl), He.free_ok X G (c.fact 7 (f := .free "len") rfl), He.free_ok X G (c.fact 8 (f := .free "list") rfl), He.free_ok X G (c.fact 9 (f := .free "max") rfl), He.free_ok X G (c.fact 10 (f := .free "min") rfl), He.free_ok X G (c.fact 11 (f := .free "range") rfl), He.free_ok X G (c.fact 12 (f := .free "sorted") rfl), He.free_ok X G (c.fact 13 (f := .free "tuple") rfl), He.free_ok X G (c.fact 14 (f := .free "zip") rfl)⟩
  have hcode : fd_falling.code = .ref (He.cT K ("falling", none)).1 := by
    obtain ⟨oc, od, dV, kV, doc, pm, an, cdv, ct, osl, e, lk, hcd, _, _⟩ := F_falling.ex
    obtain ⟨c0, e0⟩ := He.codeIn_ref hcd
    have e1 : fd_falling.code = .ref c0 := by rw [e]; exact e0
    rw [e1]
    show Value.ref c0 = .ref (He.codeOf K ("falling", none))
    exact congrArg Value.ref (He.codeOf_eq lk e1).symm
  have TSo := exC_ok (He.cls_ok (c.fact 16 (f := .cls "Space") rfl)) ((He.ba ex).1)
  have TS : SpaceT K mg (He.ga K "Space") := { TSo.1 with gl := He.glo_ok X G (c.fact 15 (f := .glo "Space") rfl), nb := He.noat_ok (c.fact 18 (f := .noat "Space" "bits") rfl), nr := He.noat_ok (c.fact 19 (f := .noat "Space" "rows") rfl), nd := He.noat_ok (c.fact 20 (f := .noat "Space" "dimension") rfl) }
  have TRo := exC_ok (He.cls_ok (c.fact 22 (f := .cls "Spread") rfl)) ((He.ba ex).2)
  have TR : SpreadT K mg (He.ga K "Spread") := { TRo.1 with gl := He.glo_ok X G (c.fact 21 (f := .glo "Spread") rfl), nb := He.noat_ok (c.fact 24 (f := .noat "Spread" "bits") rfl), ns := He.noat_ok (c.fact 25 (f := .noat "Spread" "slots") rfl), nl := He.noat_ok (c.fact 26 (f := .noat "Spread" "lanes") rfl) }
  have e := hfa.symm.trans (He.glo_ok X G (c.fact 64 (f := .glo "law") rfl))
  cases e
  have b := FunD.bindsA (ps := ["_law_script"]) F_law fun _ _ _ _ _ _ us hl => match us, hl with | [_], _ => rfl
  refine ⟨fd_law, fun s v => b s [v] rfl, fun base _ _ TB => ?_⟩
  have D_is_whole : Dn PySem.Challenge.rw_laneswap_k38_whole_widths.prog w K mg base 1 "is_whole" ["value"] sp_is_whole := ⟨_, fd_is_whole, He.glo_ok X G (c.fact 27 (f := .glo "is_whole") rfl), F_is_whole.kp, (F_is_whole.bindsN fun _ _ _ _ _ _ us hl => match us, hl with | [_], _ => rfl), ok_is_whole T F_is_whole⟩
  have D_need_whole : Dn PySem.Challenge.rw_laneswap_k38_whole_widths.prog w K mg base 2 "need_whole" ["value"] sp_need_whole := ⟨_, fd_need_whole, He.glo_ok X G (c.fact 28 (f := .glo "need_whole") rfl), F_need_whole.kp, (F_need_whole.bindsN fun _ _ _ _ _ _ us hl => match us, hl with | [_], _ => rfl), ok_need_whole T F_need_whole D_is_whole⟩
  have D_need_items : Dn PySem.Challenge.rw_laneswap_k38_whole_widths.prog w K mg base 1 "need_items" ["value"] sp_need_items := ⟨_, fd_need_items, He.glo_ok X G (c.fact 29 (f := .glo "need_items") rfl), F_need_items.kp, (F_need_items.bindsN fun _ _ _ _ _ _ us hl => match us, hl with | [_], _ => rfl), ok_need_items T F_need_items⟩
  have D_need_word : Dn PySem.Challenge.rw_laneswap_k38_whole_widths.prog w K mg base 2 "need_word" ["value", "bits"] sp_need_word := ⟨_, fd_need_word, He.glo_ok X G (c.fact 30 (f := .glo "need_word") rfl), F_need_word.kp, (F_need_word.bindsN fun _ _ _ _ _ _ us hl => match us, hl with | [_, _], _ => rfl), ok_need_word T F_need_word D_is_whole⟩
  have D_need_words : Dn PySem.Challenge.rw_laneswap_k38_whole_widths.prog w K mg base 3 "need_words" ["values", "bits"] sp_need_words := ⟨_, fd_need_words, He.glo_ok X G (c.fact 31 (f := .glo "need_words") rfl), F_need_words.kp, (F_need_words.bindsN fun _ _ _ _ _ _ us hl => match us, hl with | [_, _], _ => rfl), ok_need_words T F_need_words D_need_items D_need_word⟩
  have D_cleared : Dn PySem.Challenge.rw_laneswap_k38_whole_widths.prog w K mg base 1 "cleared" ["rows", "word"] sp_cleared := ⟨_, fd_cleared, He.glo_ok X G (c.fact 32 (f := .glo "cleared") rfl), F_cleared.kp, (F_cleared.bindsN fun _ _ _ _ _ _ us hl => match us, hl with | [_, _], _ => rfl), ok_cleared T F_cleared⟩
  have D_grown : Dn PySem.Challenge.rw_laneswap_k38_whole_widths.prog w K mg base 2 "grown" ["rows", "word"] sp_grown := ⟨_, fd_grown, He.glo_ok X G (c.fact 33 (f := .glo "grown") rfl), F_grown.kp, (F_grown.bindsN fun _ _ _ _ _ _ us hl => match us, hl with | [_, _], _ => rfl), ok_grown T F_grown D_cleared⟩
  have D_spanned : Dn PySem.Challenge.rw_laneswap_k38_whole_widths.prog w K mg base 3 "spanned" ["words"] sp_spanned := ⟨_, fd_spanned, He.glo_ok X G (c.fact 34 (f := .glo "spanned") rfl), F_spanned.kp, (F_spanned.bindsN fun _ _ _ _ _ _ us hl => match us, hl with | [_], _ => rfl), ok_spanned T F_spanned D_grown⟩
  have D_met : Dn PySem.Challenge.rw_laneswap_k38_whole_widths.prog w K mg base 4 "met" ["bits", "rows", "others"] sp_met := ⟨_, fd_met, He.glo_ok X G (c.fact 35 (f := .glo "met") rfl), F_met.kp, (F_met.bindsN fun _ _ _ _ _ _ us hl => match us, hl with | [_, _, _], _ => rfl), ok_met T F_met D_spanned⟩
  have K_Space : Kn PySem.Challenge.rw_laneswap_k38_whole_widths.prog w K mg base 4 (He.ga K "Space") "Space" ["self", "bits", "words"] (sp_Space (He.ga K "Space")) := ⟨He.glo_ok X G (c.fact 15 (f := .glo "Space") rfl), _, fd_Space_init, He.mkr_ok (c.fact 17 (f := .mkr "Space") rfl), (F_Space_init.bindsN fun _ _ _ _ _ _ us hl => match us, hl with | [_, _, _], _ => rfl), ok_Space T TS F_Space_init D_need_whole D_need_words D_spanned⟩
  have K_Spread : Kn PySem.Challenge.rw_laneswap_k38_whole_widths.prog w K mg base 4 (He.ga K "Spread") "Spread" ["self", "bits", "slots", "lanes"] (sp_Spread (He.ga K "Spread")) := ⟨He.glo_ok X G (c.fact 21 (f := .glo "Spread") rfl), _, fd_Spread_init, He.mkr_ok (c.fact 23 (f := .mkr "Spread") rfl), (F_Spread_init.bindsN fun _ _ _ _ _ _ us hl => match us, hl with | [_, _, _, _], _ => rfl), ok_Spread T TR F_Spread_init D_need_whole D_need_words D_spanned⟩
  have D_need_space : Dn PySem.Challenge.rw_laneswap_k38_whole_widths.prog w K mg base 1 "need_space" ["value", "bits"] (sp_need_space (He.ga K "Space")) := ⟨_, fd_need_space, He.glo_ok X G (c.fact 36 (f := .glo "need_space") rfl), F_need_space.kp, (F_need_space.bindsN fun _ _ _ _ _ _ us hl => match us, hl with | [_, _], _ => rfl), ok_need_space T TS F_need_space⟩
  have D_any_spread : Dn PySem.Challenge.rw_laneswap_k38_whole_widths.prog w K mg base 1 "any_spread" ["value"] (sp_any_spread (He.ga K "Spread")) := ⟨_, fd_any_spread, He.glo_ok X G (c.fact 37 (f := .glo "any_spread") rfl), F_any_spread.kp, (F_any_spread.bindsN fun _ _ _ _ _ _ us hl => match us, hl with | [_], _ => rfl), ok_any_spread T TR F_any_spread⟩
  have M_Space_and : Mn PySem.Challenge.rw_laneswap_k38_whole_widths.prog w K mg base 6 (He.ga K "Space") "__and__" ["self", "other"] (sp_and (He.ga K "Space")) := ⟨TS.cl, _, fd_Space_and, He.meth_ok (c.fact 38 (f := .meth "Space" "__and__") rfl), (F_Space_and.bindsN fun _ _ _ _ _ _ us hl => match us, hl with | [_, _], _ => rfl), ok_and T TS F_Space_and D_need_space D_met K_Space⟩
  have M_Space_completing : Mn PySem.Challenge.rw_laneswap_k38_whole_widths.prog w K mg base 3 (He.ga K "Space") "completing" ["self", "other"] (sp_completing (He.ga K "Space")) := ⟨TS.cl, _, fd_Space_completing, He.meth_ok (c.fact 39 (f := .meth "Space" "completing") rfl), (F_Space_completing.bindsN fun _ _ _ _ _ _ us hl => match us, hl with | [_, _], _ => rfl), ok_completing T TS F_Space_completing D_need_space D_cleared D_grown⟩
  have M_Spread_slot_space : Mn PySem.Challenge.rw_laneswap_k38_whole_widths.prog w K mg base 6 (He.ga K "Spread") "slot_space" ["self"] (sp_slot_space (He.ga K "Space") (He.ga K "Spread")) := ⟨TR.cl, _, fd_Spread_slot_space, He.meth_ok (c.fact 40 (f := .meth "Spread" "slot_space") rfl), (F_Spread_slot_space.bindsN fun _ _ _ _ _ _ us hl => match us, hl with | [_], _ => rfl), ok_slot_space T TR F_Spread_slot_space K_Space⟩
  have D_drawL : Dn PySem.Challenge.rw_laneswap_k38_whole_widths.prog w K mg base 1 "_law_draw" ["_law_pen", "_law_span"] sp_draw := ⟨_, fd_drawL, He.glo_ok X G (c.fact 41 (f := .glo "_law_draw") rfl), F_drawL.kp, (F_drawL.bindsN fun _ _ _ _ _ _ us hl => match us, hl with | [_, _], _ => rfl), ok_draw T F_drawL⟩
  have D_beginL : Dn PySem.Challenge.rw_laneswap_k38_whole_widths.prog w K mg base 1 "_law_begin" ["_law_script"] (sp_begin K) := ⟨_, fd_beginL, He.glo_ok X G (c.fact 42 (f := .glo "_law_begin") rfl), F_beginL.kp, (F_beginL.bindsN fun _ _ _ _ _ _ us hl => match us, hl with | [_], _ => rfl), ok_begin T F_beginL⟩
  have D_pickL : Dn PySem.Challenge.rw_laneswap_k38_whole_widths.prog w K mg base 2 "_law_pick" ["_law_pen", "_law_some"] sp_pick := ⟨_, fd_pickL, He.glo_ok X G (c.fact 43 (f := .glo "_law_pick") rfl), F_pickL.kp, (F_pickL.bindsN fun _ _ _ _ _ _ us hl => match us, hl with | [_, _], _ => rfl), ok_pick T F_pickL D_drawL⟩
  have D_wordL : Dn PySem.Challenge.rw_laneswap_k38_whole_widths.prog w K mg base 2 "_law_word" ["_law_pen", "_law_bits"] sp_word := ⟨_, fd_wordL, He.glo_ok X G (c.fact 44 (f := .glo "_law_word") rfl), F_wordL.kp, (F_wordL.bindsN fun _ _ _ _ _ _ us hl => match us, hl with | [_, _], _ => rfl), ok_word T F_wordL D_drawL⟩
  have D_mixedL : Dn PySem.Challenge.rw_laneswap_k38_whole_widths.prog w K mg base 2 "_law_mixed" ["_law_pen", "_law_some"] sp_mixed := ⟨_, fd_mixedL, He.glo_ok X G (c.fact 45 (f := .glo "_law_mixed") rfl), F_mixedL.kp, (F_mixedL.bindsN fun _ _ _ _ _ _ us hl => match us, hl with | [_, _], _ => rfl), ok_mixed T F_mixedL D_drawL⟩
  have D_leftL : Dn PySem.Challenge.rw_laneswap_k38_whole_widths.prog w K mg base 1 "_law_left" ["_law_rows", "_law_word_here"] sp_left := ⟨_, fd_leftL, He.glo_ok X G (c.fact 46 (f := .glo "_law_left") rfl), F_leftL.kp, (F_leftL.bindsN fun _ _ _ _ _ _ us hl => match us, hl with | [_, _], _ => rfl), ok_left T F_leftL⟩
  have D_basisL : Dn PySem.Challenge.rw_laneswap_k38_whole_widths.prog w K mg base 2 "_law_basis" ["_law_words"] sp_basis := ⟨_, fd_basisL, He.glo_ok X G (c.fact 47 (f := .glo "_law_basis") rfl), F_basisL.kp, (F_basisL.bindsN fun _ _ _ _ _ _ us hl => match us, hl with | [_], _ => rfl), ok_basis T F_basisL D_leftL⟩
  have D_sizeL : Dn PySem.Challenge.rw_laneswap_k38_whole_widths.prog w K mg base 3 "_law_size" ["_law_words"] sp_size := ⟨_, fd_sizeL, He.glo_ok X G (c.fact 48 (f := .glo "_law_size") rfl), F_sizeL.kp, (F_sizeL.bindsN fun _ _ _ _ _ _ us hl => match us, hl with | [_], _ => rfl), ok_size T F_sizeL D_basisL⟩
  have D_imageL : Dn PySem.Challenge.rw_laneswap_k38_whole_widths.prog w K mg base 1 "_law_image" ["_law_columns", "_law_word_here"] sp_image := ⟨_, fd_imageL, He.glo_ok X G (c.fact 49 (f := .glo "_law_image") rfl), F_imageL.kp, (F_imageL.bindsN fun _ _ _ _ _ _ us hl => match us, hl with | [_, _], _ => rfl), ok_image T F_imageL⟩
  have D_taggedL : Dn PySem.Challenge.rw_laneswap_k38_whole_widths.prog w K mg base 1 "_law_tagged" ["_law_columns"] sp_tagged := ⟨_, fd_taggedL, He.glo_ok X G (c.fact 50 (f := .glo "_law_tagged") rfl), F_taggedL.kp, (F_taggedL.bindsN fun _ _ _ _ _ _ us hl => match us, hl with | [_], _ => rfl), ok_tagged T F_taggedL⟩
  have D_kernelL : Dn PySem.Challenge.rw_laneswap_k38_whole_widths.prog w K mg base 2 "_law_kernel" ["_law_columns"] sp_kernel := ⟨_, fd_kernelL, He.glo_ok X G (c.fact 51 (f := .glo "_law_kernel") rfl), F_kernelL.kp, (F_kernelL.bindsN fun _ _ _ _ _ _ us hl => match us, hl with | [_], _ => rfl), ok_kernel T F_kernelL D_taggedL⟩
  have D_falling : Dn PySem.Challenge.rw_laneswap_k38_whole_widths.prog w K mg base 3 "falling" ["widths"] (sp_falling [((He.cT K ("falling", none)).2, fallQ)]) := ⟨_, fd_falling, He.glo_ok X G (c.fact 52 (f := .glo "falling") rfl), F_falling.kp, (F_falling.bindsN fun _ _ _ _ _ _ us hl => match us, hl with | [_], _ => rfl), ok_falling T F_falling TB hcode⟩
  have D_need_spreads : Dn PySem.Challenge.rw_laneswap_k38_whole_widths.prog w K mg base 2 "need_spreads" ["value"] (sp_need_spreads (He.ga K "Spread")) := ⟨_, fd_need_spreads, He.glo_ok X G (c.fact 53 (f := .glo "need_spreads") rfl), F_need_spreads.kp, (F_need_spreads.bindsN fun _ _ _ _ _ _ us hl => match us, hl with | [_], _ => rfl), ok_need_spreads T TR F_need_spreads D_need_items D_any_spread⟩
  have D_need_widths : Dn PySem.Challenge.rw_laneswap_k38_whole_widths.prog w K mg base 3 "need_widths" ["value", "many"] sp_need_widths := ⟨_, fd_need_widths, He.glo_ok X G (c.fact 54 (f := .glo "need_widths") rfl), F_need_widths.kp, (F_need_widths.bindsN fun _ _ _ _ _ _ us hl => match us, hl with | [_, _], _ => rfl), ok_need_widths T TR F_need_widths D_need_items D_need_whole⟩
  have D_meets_down : Dn PySem.Challenge.rw_laneswap_k38_whole_widths.prog w K mg base 8 "meets_down" ["spreads", "order"] (sp_meets_down (He.ga K "Space") (He.ga K "Spread")) := ⟨_, fd_meets_down, He.glo_ok X G (c.fact 55 (f := .glo "meets_down") rfl), F_meets_down.kp, (F_meets_down.bindsN fun _ _ _ _ _ _ us hl => match us, hl with | [_, _], _ => rfl), ok_meets_down T TR F_meets_down M_Spread_slot_space M_Space_and TSo.2⟩
  have D_fitting : Dn PySem.Challenge.rw_laneswap_k38_whole_widths.prog w K mg base 9 "fitting" ["spreads", "widths"] (sp_fitting [((He.cT K ("falling", none)).2, fallQ)] (He.ga K "Spread")) := ⟨_, fd_fitting, He.glo_ok X G (c.fact 56 (f := .glo "fitting") rfl), F_fitting.kp, (F_fitting.bindsN fun _ _ _ _ _ _ us hl => match us, hl with | [_, _], _ => rfl), ok_fitting T TS TR F_fitting D_need_spreads D_need_widths D_falling D_meets_down⟩
  have D_chain : Dn PySem.Challenge.rw_laneswap_k38_whole_widths.prog w K mg base 10 "chain" ["spreads", "widths"] (sp_chain [((He.cT K ("falling", none)).2, fallQ)] (He.ga K "Space") (He.ga K "Spread")) := ⟨_, fd_chain, He.glo_ok X G (c.fact 57 (f := .glo "chain") rfl), F_chain.kp, (F_chain.bindsN fun _ _ _ _ _ _ us hl => match us, hl with | [_, _], _ => rfl), ok_chain T TS TR F_chain D_fitting D_falling D_meets_down K_Space M_Space_completing⟩
  have D_truthL : Dn PySem.Challenge.rw_laneswap_k38_whole_widths.prog w K mg base 1 "_law_truth" ["_law_value", "_law_due"] sp_truthF := ⟨_, fd_truthL, He.glo_ok X G (c.fact 58 (f := .glo "_law_truth") rfl), F_truthL.kp, (F_truthL.bindsN fun _ _ _ _ _ _ us hl => match us, hl with | [_, _], _ => rfl), ok_truth F_truthL⟩
  have D_meetL : Dn PySem.Challenge.rw_laneswap_k38_whole_widths.prog w K mg base 3 "_law_meet" ["_law_one", "_law_other"] sp_meetL := ⟨_, fd_meetL, He.glo_ok X G (c.fact 59 (f := .glo "_law_meet") rfl), F_meetL.kp, (F_meetL.bindsN fun _ _ _ _ _ _ us hl => match us, hl with | [_, _], _ => rfl), ok_meetL T F_meetL D_basisL D_kernelL D_imageL⟩
  have D_madeL : Dn PySem.Challenge.rw_laneswap_k38_whole_widths.prog w K mg base 6 "_law_made" ["_law_pen", "_law_bits", "_law_slots"] (sp_madeL (He.ga K "Spread")) := ⟨_, fd_madeL, He.glo_ok X G (c.fact 60 (f := .glo "_law_made") rfl), F_madeL.kp, (F_madeL.bindsN fun _ _ _ _ _ _ us hl => match us, hl with | [_, _, _], _ => rfl), ok_madeL T TR F_madeL D_basisL D_leftL D_mixedL D_drawL D_wordL K_Spread⟩
  have D_slot_listsL : Dn PySem.Challenge.rw_laneswap_k38_whole_widths.prog w K mg base 4 "_law_slot_lists" ["_law_pen", "_law_bits", "_law_many"] sp_slot_lists := ⟨_, fd_slot_listsL, He.glo_ok X G (c.fact 61 (f := .glo "_law_slot_lists") rfl), F_slot_listsL.kp, (F_slot_listsL.bindsN fun _ _ _ _ _ _ us hl => match us, hl with | [_, _, _], _ => rfl), ok_slot_lists T F_slot_listsL D_drawL D_wordL D_pickL D_imageL⟩
  have D_has_chainL : Dn PySem.Challenge.rw_laneswap_k38_whole_widths.prog w K mg base 4 "_law_has_chain" ["_law_lists", "_law_widths"] sp_has_chain := ⟨_, fd_has_chainL, He.glo_ok X G (c.fact 62 (f := .glo "_law_has_chain") rfl), F_has_chainL.kp, (F_has_chainL.bindsN fun _ _ _ _ _ _ us hl => match us, hl with | [_, _], _ => rfl), ok_has_chain T F_has_chainL D_meetL D_sizeL⟩
  have D_chain_rightL : Dn PySem.Challenge.rw_laneswap_k38_whole_widths.prog w K mg base 4 "_law_chain_right" ["_law_told", "_law_bits", "_law_lists", "_law_widths"] (sp_chain_right (He.ga K "Space")) := ⟨_, fd_chain_rightL, He.glo_ok X G (c.fact 63 (f := .glo "_law_chain_right") rfl), F_chain_rightL.kp, (F_chain_rightL.bindsN fun _ _ _ _ _ _ us hl => match us, hl with | [_, _, _, _], _ => rfl), ok_chain_right T TS F_chain_rightL D_sizeL⟩
  exact ok_law T TS TR F_law D_beginL D_drawL D_pickL D_mixedL D_sizeL D_slot_listsL D_madeL D_has_chainL D_chain D_fitting D_truthL D_chain_rightL
end LaneX
open PySem PySem.W PySem.Calls PyProof.Rows
theorem PySem.Challenge.cw_laneswap_k38_whole_widths_holds : PySem.Challenge.rw_laneswap_k38_whole_widths.Holds := by
  refine LaneX.hd ?_
  refine LamX.walk_ofTsE (l := PySem.Challenge.rw_laneswap_k38_whole_widths) (n := 63) (k := 11) (x := "_law_script") (CX := fun _ => L2.CX0) rfl (by decide) LaneX.dp_law ⟨rfl, by decide, by decide⟩ ?F (fun _ _ _ _ _ z => z)
  intro w mg fa h Y G hmg0
  obtain ⟨K, KX, c⟩ := Y
  have hmg : mg ("law" : PySem.Str) = some (.ref fa) := by
    rw [← LaneX.nm_law]
    exact hmg0
  obtain ⟨fd, hb, hF⟩ := LaneX.facts (w := w) KX G hmg c.t.d c.more
  refine ⟨K, KX, fd, [He.cT K ("falling", none)], LaneX.sp_lawT K (He.cT K ("falling", none)).2, fun p hp => ?_, fun p hp => ?_, fun p hp => ?_, hb, fun H a ns hl _ hT hS => ⟨a, ns, rfl, hS, hl, hT _ (List.mem_singleton.mpr rfl), fun _ => rfl⟩, fun base X G TB => hF base X G (TB _ (List.mem_singleton.mpr rfl))⟩
  · rw [List.mem_singleton.mp hp]
    exact c.empty _ (List.mem_singleton.mpr rfl)
  · rw [List.mem_singleton.mp hp]
    exact c.out _ (List.mem_singleton.mpr rfl)
  · rw [List.mem_singleton.mp hp]
    exact PySem.W.codeHd_of_K KX (c.hd _ (List.mem_singleton.mpr rfl))
