import PyProof.Rows.All
import Wide.All
import OpenK.AllK
import Wide.FinOn
import KE.KStateDown
import KE.BitLaws
import HandS.ForMost
import HandS.Flow
import HandS.Wide
import HandS.WideBits
import HandS.IsInst
import HandS.SortInts
import HandS.Conv
import HandS.Zip
import HandS.More
import HandS.WordsExc
import HandS.Defaults
import HandS.Walk
import KE.KEqSeq
import HandS.OwnEq
import PyProof.InstEq
import HandS.Iter
import KE.GoesMore
import HandS.SetFor
import HandS.Exc
import HandS.ExcOwn
import HandS.ExcIs
import HandS.TryOnly
import HandS.Star
import HandS.TupLe
import KE.KOpsOwn
import HandS.Style
import KE.KExcSuper
import HandS.ExcSuper
import HandS.ExcInit
import HandS.HeadHook2
import HandS.HeadHook4
import HandS.HeadWalk
import PySem.Challenge.RW_laneswap_k26_whole_free_for_three
import HandS.Base
import HandS.Call
import HandS.Ends
import HandS.Words
import HandS.Head0
import HandS.Head1
import HandS.Head2
import HandS.HeadEnd
import HandS.HeadHook1
import HandS.HeadHook3
import HandS.ExcField
import HandS.TryMany
import KE.KExcIs
import HandS.TupAny
import HandS.Small
import HandS.Lambda
set_option linter.all false
namespace LaneX
/-! ### plain mathematics: words, rows -/
/-- the number of bits -/
def blen (n : Nat) : Nat := if n = 0 then 0 else n.log2 + 1
theorem blen_zero : blen 0 = 0 := rfl
theorem blen_pos {n : Nat} (h : n ≠ 0) : 1 ≤ blen n := by unfold blen; rw [if_neg h]; omega
theorem lt_blen (n : Nat) : n < 2 ^ blen n := by
  unfold blen
  split
  · subst_vars; decide
  · exact Nat.lt_log2_self
theorem blen_le {n k : Nat} : blen n ≤ k ↔ n < 2 ^ k := by
  constructor
  · intro h; exact Nat.lt_of_lt_of_le (lt_blen n) (Nat.pow_le_pow_right (by decide) h)
  · intro h
    unfold blen
    split
    · omega
    · rename_i h0
      have := (Nat.log2_lt h0).mpr h
      omega
theorem testBit_top {n : Nat} (h : n ≠ 0) : n.testBit (blen n - 1) = true := by
  unfold blen
  rw [if_neg h, Nat.add_sub_cancel]
  exact Nat.testBit_log2 h
theorem testBit_ge {n i : Nat} (h : blen n ≤ i) : n.testBit i = false :=
  Nat.testBit_lt_two_pow (blen_le.mp h)
theorem shr_and_one (n i : Nat) : ((n >>> i) &&& 1 = 1) ↔ n.testBit i = true := by
  rw [Nat.testBit_eq_decide_div_mod_eq, Nat.shiftRight_eq_div_pow, Nat.and_one_is_mod, decide_eq_true_iff]
/-- a word cleared by rows -/
def clr (rows : List Nat) (w : Nat) : Nat := rows.foldl (fun l r => if l.testBit (blen r - 1) = true then l ^^^ r else l) w
/-- sorting by insertion -/
def ins (x : Nat) : List Nat → List Nat
  | [] => [x]
  | y :: r => if x ≤ y then x :: y :: r else y :: ins x r
def srt : List Nat → List Nat
  | [] => []
  | x :: r => ins x (srt r)
theorem ins_perm (x : Nat) : ∀ l, (ins x l).Perm (x :: l)
  | [] => .refl _
  | y :: r => by
    unfold ins
    split
    · exact .refl _
    · exact ((ins_perm x r).cons y).trans (.swap _ _ _)
theorem srt_perm : ∀ l, (srt l).Perm l
  | [] => .refl _
  | x :: r => (ins_perm x (srt r)).trans ((srt_perm r).cons x)
theorem ins_sorted {x : Nat} : ∀ {l : List Nat}, l.Pairwise (· ≤ ·) → (ins x l).Pairwise (· ≤ ·)
  | [], _ => by simp [ins]
  | y :: r, h => by
    unfold ins
    have h' := List.pairwise_cons.mp h
    split
    · rename_i hxy
      refine List.pairwise_cons.mpr ⟨fun z hz => ?_, h⟩
      rcases List.mem_cons.mp hz with rfl | hz
      · exact hxy
      · exact Nat.le_trans hxy (h'.1 z hz)
    · rename_i hxy
      refine List.pairwise_cons.mpr ⟨fun z hz => ?_, ins_sorted h'.2⟩
      rcases List.mem_cons.mp ((ins_perm x r).mem_iff.mp hz) with rfl | hz
      · omega
      · exact h'.1 z hz
theorem srt_sorted : ∀ l, (srt l).Pairwise (· ≤ ·)
  | [] => .nil
  | x :: r => ins_sorted (srt_sorted r)
theorem sorted_unique : ∀ {l m : List Nat}, l.Perm m → l.Pairwise (· ≤ ·) → m.Pairwise (· ≤ ·) → l = m
  | [], m, p, _, _ => by simpa using p.symm.eq_nil
  | x :: l, [], p, _, _ => by simpa using p.eq_nil
  | x :: l, y :: m, p, h1, h2 => by
    have a := List.pairwise_cons.mp h1
    have b := List.pairwise_cons.mp h2
    have e : x = y := by
      have hx : x ∈ y :: m := p.mem_iff.mp List.mem_cons_self
      have hy : y ∈ x :: l := p.mem_iff.mpr List.mem_cons_self
      rcases List.mem_cons.mp hx with rfl | hx
      · rfl
      · rcases List.mem_cons.mp hy with rfl | hy
        · rfl
        · exact Nat.le_antisymm (a.1 y hy) (b.1 x hx)
    subst e
    rw [sorted_unique ((List.perm_cons x).mp p) a.2 b.2]
theorem srt_of {l m : List Nat} (p : m.Perm l) (h : m.Pairwise (· ≤ ·)) : m = srt l := sorted_unique (p.trans (srt_perm l).symm) h (srt_sorted l)
/-- rows with one more word -/
def grw (rows : List Nat) (w : Nat) : List Nat := if clr rows w = 0 then rows else
  srt ((rows.map fun r => if r.testBit (blen (clr rows w) - 1) = true then r ^^^ clr rows w else r) ++ [clr rows w])
def spn (ws : List Nat) : List Nat := ws.foldl grw []
theorem clr_append (a b : List Nat) (w : Nat) : clr (a ++ b) w = clr b (clr a w) := List.foldl_append ..
theorem spn_append (a b : List Nat) : spn (a ++ b) = b.foldl grw (spn a) := List.foldl_append ..
theorem clr_lt {k : Nat} : ∀ {rows : List Nat} {w : Nat}, (∀ r ∈ rows, r < 2 ^ k) → w < 2 ^ k → clr rows w < 2 ^ k
  | [], w, _, h => h
  | r :: rs, w, hr, h => by
    show clr rs _ < 2 ^ k
    refine clr_lt (fun x hx => hr x (.tail _ hx)) ?_
    dsimp only
    split
    · exact Nat.xor_lt_two_pow h (hr r (.head _))
    · exact h
theorem grw_len (rows : List Nat) (w : Nat) : (grw rows w).length ≤ rows.length + 1 := by
  unfold grw
  split
  · omega
  · rw [(srt_perm _).length_eq]
    simp
theorem xor_eq_zero {a b : Nat} (e : a ^^^ b = 0) : a = b := by
  have h : a ^^^ b ^^^ b = 0 ^^^ b := by rw [e]
  rw [Nat.xor_assoc, Nat.xor_self, Nat.xor_zero, Nat.zero_xor] at h
  exact h
theorem xor_ne {a b : Nat} (h : a ≠ b) : a ^^^ b ≠ 0 := fun e => h (xor_eq_zero e)
/-- what rows are at least: no 0, and cleared words have 0 at their tops -/
structure Rws (rows : List Nat) : Prop where
  nz : ∀ r ∈ rows, r ≠ 0
  /-- the top of each is 0 in all others -/
  red : rows.Pairwise fun r s => r.testBit (blen s - 1) = false ∧ s.testBit (blen r - 1) = false
theorem Rws.nil : Rws [] := ⟨fun _ h => (by cases h), .nil⟩
end LaneX
set_option linter.all false
namespace LaneX
/-! ### clearing is linear -/
def bx (b : Bool) (r : Nat) : Nat := if b = true then r else 0
theorem bx_xor (a b : Bool) (r : Nat) : bx (a ^^ b) r = bx a r ^^^ bx b r := by
  cases a <;> cases b <;> simp [bx]
theorem stp_eq (l r : Nat) : (if l.testBit (blen r - 1) = true then l ^^^ r else l) = l ^^^ bx (l.testBit (blen r - 1)) r := by
  cases l.testBit (blen r - 1) <;> simp [bx]
theorem clr_cons (r : Nat) (rs : List Nat) (x : Nat) : clr (r :: rs) x = clr rs (x ^^^ bx (x.testBit (blen r - 1)) r) := by
  show clr rs _ = _
  dsimp only
  rw [stp_eq]
theorem xor4 (a b c d : Nat) : (a ^^^ b) ^^^ (c ^^^ d) = (a ^^^ c) ^^^ (b ^^^ d) := by
  rw [Nat.xor_assoc, Nat.xor_assoc]
  congr 1
  rw [← Nat.xor_assoc, Nat.xor_comm b c, Nat.xor_assoc]
theorem clr_xor : ∀ (rows : List Nat) (x y : Nat), clr rows (x ^^^ y) = clr rows x ^^^ clr rows y
  | [], _, _ => rfl
  | r :: rs, x, y => by
    rw [clr_cons, clr_cons, clr_cons, Nat.testBit_xor, bx_xor, xor4, clr_xor rs]
theorem clr_zero : ∀ rows : List Nat, clr rows 0 = 0
  | [] => rfl
  | r :: rs => by rw [clr_cons]; simp [bx, clr_zero rs]
/-- rows that do not speak of a bit leave it -/
theorem clr_bit {b : Nat} : ∀ {rows : List Nat} {x : Nat}, (∀ r ∈ rows, r.testBit b = false) → (clr rows x).testBit b = x.testBit b
  | [], x, _ => rfl
  | r :: rs, x, h => by
    rw [clr_cons, clr_bit fun s hs => h s (.tail _ hs), Nat.testBit_xor]
    have := h r (.head _)
    cases x.testBit (blen r - 1) <;> simp [bx, this]
theorem clr_of_none : ∀ {rows : List Nat} {x : Nat}, (∀ r ∈ rows, x.testBit (blen r - 1) = false) → clr rows x = x
  | [], x, _ => rfl
  | r :: rs, x, h => by
    rw [clr_cons, h r (.head _)]
    simp only [bx, Bool.false_eq_true, if_false, Nat.xor_zero]
    exact clr_of_none fun s hs => h s (.tail _ hs)
theorem clr_tops : ∀ {rows : List Nat} {x : Nat}, Rws rows → ∀ r ∈ rows, (clr rows x).testBit (blen r - 1) = false
  | [], x, _, r, h => by cases h
  | s :: rs, x, R, r, h => by
    have hp := List.pairwise_cons.mp R.red
    have R' : Rws rs := ⟨fun t ht => R.nz t (.tail _ ht), hp.2⟩
    rw [clr_cons]
    rcases List.mem_cons.mp h with rfl | h
    · rw [clr_bit fun t ht => (hp.1 t ht).2, Nat.testBit_xor]
      have := testBit_top (R.nz r (.head _))
      cases q : x.testBit (blen r - 1) <;> simp [bx, this]
    · exact clr_tops R' r h
theorem clr_self : ∀ {rows : List Nat}, Rws rows → ∀ r ∈ rows, clr rows r = 0
  | [], _, r, h => by cases h
  | s :: rs, R, r, h => by
    have hp := List.pairwise_cons.mp R.red
    have R' : Rws rs := ⟨fun t ht => R.nz t (.tail _ ht), hp.2⟩
    rw [clr_cons]
    rcases List.mem_cons.mp h with rfl | h
    · rw [testBit_top (R.nz r (.head _))]
      simp only [bx, if_true, Nat.xor_self]
      exact clr_zero rs
    · rw [(hp.1 r h).2]
      simp only [bx, Bool.false_eq_true, if_false, Nat.xor_zero]
      exact clr_self R' r h
/-! ### spans -/
inductive Spn (ws : List Nat) : Nat → Prop where
  | zero : Spn ws 0
  | add {x w : Nat} : w ∈ ws → Spn ws x → Spn ws (x ^^^ w)
theorem Spn.of {ws : List Nat} {w : Nat} (h : w ∈ ws) : Spn ws w := by
  have := Spn.add h Spn.zero
  rwa [Nat.zero_xor] at this
theorem Spn.xor {ws : List Nat} {x y : Nat} (hx : Spn ws x) (hy : Spn ws y) : Spn ws (x ^^^ y) := by
  induction hy with
  | zero => rwa [Nat.xor_zero]
  | add hw _ ih => rw [← Nat.xor_assoc]; exact .add hw ih
theorem Spn.mono {ws vs : List Nat} {x : Nat} (hx : Spn ws x) (h : ∀ w ∈ ws, Spn vs w) : Spn vs x := by
  induction hx with
  | zero => exact .zero
  | add hw _ ih => exact ih.xor (h _ hw)
theorem Spn.nil {x : Nat} (h : Spn [] x) : x = 0 := by
  cases h with
  | zero => rfl
  | add hw _ => cases hw
theorem Spn.lt {ws : List Nat} {k x : Nat} (hx : Spn ws x) (h : ∀ w ∈ ws, w < 2 ^ k) : x < 2 ^ k := by
  induction hx with
  | zero => exact Nat.two_pow_pos k
  | add hw _ ih => exact Nat.xor_lt_two_pow ih (h _ hw)
theorem Spn.sub {ws vs : List Nat} {x : Nat} (hx : Spn ws x) (h : ∀ w ∈ ws, w ∈ vs) : Spn vs x := hx.mono fun w hw => .of (h w hw)
theorem spn_clr : ∀ (rows : List Nat) (x : Nat), Spn rows (x ^^^ clr rows x)
  | [], x => by show Spn [] (x ^^^ x); rw [Nat.xor_self]; exact .zero
  | r :: rs, x => by
    rw [clr_cons]
    have ih := (spn_clr rs (x ^^^ bx (x.testBit (blen r - 1)) r)).sub (vs := r :: rs) fun w hw => .tail _ hw
    have hb : Spn (r :: rs) (bx (x.testBit (blen r - 1)) r) := by
      cases x.testBit (blen r - 1)
      · exact .zero
      · exact .of (.head _)
    have := ih.xor hb
    have e : x ^^^ bx (x.testBit (blen r - 1)) r ^^^ clr rs (x ^^^ bx (x.testBit (blen r - 1)) r) ^^^ bx (x.testBit (blen r - 1)) r = x ^^^ clr rs (x ^^^ bx (x.testBit (blen r - 1)) r) := by
      rw [Nat.xor_assoc, Nat.xor_comm (clr rs _) _, ← Nat.xor_assoc, Nat.xor_assoc x, Nat.xor_self, Nat.xor_zero]
    rw [e] at this
    exact this
theorem Rws.span {rows : List Nat} (R : Rws rows) {x : Nat} : Spn rows x ↔ clr rows x = 0 := by
  constructor
  · intro h
    induction h with
    | zero => exact clr_zero rows
    | add hw _ ih => rw [clr_xor, ih, clr_self R _ hw]; rfl
  · intro h
    have := spn_clr rows x
    rwa [h, Nat.xor_zero] at this
/-! ### one more word -/
theorem blen_xor {r l : Nat} (h : blen l < blen r) : blen (r ^^^ l) = blen r := by
  have hr : r ≠ 0 := fun e => by subst e; simp [blen] at h
  have h1 : r ^^^ l < 2 ^ blen r := Nat.xor_lt_two_pow (lt_blen r) (Nat.lt_of_lt_of_le (lt_blen l) (Nat.pow_le_pow_right (by decide) (by omega)))
  have h2 : (r ^^^ l).testBit (blen r - 1) = true := by
    rw [Nat.testBit_xor, testBit_top hr, testBit_ge (n := l) (by omega)]
    rfl
  have h3 : blen (r ^^^ l) ≤ blen r := blen_le.mpr h1
  have h4 : ¬ blen (r ^^^ l) ≤ blen r - 1 := fun q => by rw [testBit_ge q] at h2; cases h2
  omega
theorem blen_of_bits {r l : Nat} (h1 : r.testBit (blen l - 1) = true) (h2 : l.testBit (blen r - 1) = false) (hl : l ≠ 0) : blen l < blen r := by
  have hr : r ≠ 0 := fun e => by subst e; simp at h1
  have a := blen_pos hl
  have b := blen_pos hr
  have c : ¬ blen r ≤ blen l - 1 := fun q => by rw [testBit_ge q] at h1; cases h1
  have d : blen l ≠ blen r := fun q => by
    rw [← q, testBit_top hl] at h2
    cases h2
  omega
theorem Rws.perm {a b : List Nat} (R : Rws a) (p : a.Perm b) : Rws b :=
  ⟨fun r h => R.nz r (p.mem_iff.mpr h), (p.pairwise_iff (fun h => ⟨h.2, h.1⟩)).mp R.red⟩
section
variable {rows : List Nat} {l : Nat}
def chg (l r : Nat) : Nat := if r.testBit (blen l - 1) = true then r ^^^ l else r
theorem chg_blen {r : Nat} (h : l.testBit (blen r - 1) = false) (hl : l ≠ 0) : blen (chg l r) = blen r := by
  unfold chg
  split
  · rename_i q
    exact blen_xor (blen_of_bits q h hl)
  · rfl
theorem chg_bit {r b : Nat} (h : l.testBit b = false) : (chg l r).testBit b = r.testBit b := by
  unfold chg
  split
  · rw [Nat.testBit_xor, h, Bool.xor_false]
  · rfl
theorem chg_top {r : Nat} (hl : l ≠ 0) : (chg l r).testBit (blen l - 1) = false := by
  unfold chg
  split
  · rename_i q
    rw [Nat.testBit_xor, q, testBit_top hl]; rfl
  · rename_i q
    cases e : r.testBit (blen l - 1) <;> simp_all
theorem Rws.grow (R : Rws rows) (hl : l ≠ 0) (h : ∀ r ∈ rows, l.testBit (blen r - 1) = false) : Rws (rows.map (chg l) ++ [l]) := by
  have bl : ∀ r ∈ rows, blen (chg l r) = blen r := fun r hr => chg_blen (h r hr) hl
  refine ⟨fun x hx => ?_, ?_⟩
  · rcases List.mem_append.mp hx with hx | hx
    · obtain ⟨r, hr, rfl⟩ := List.mem_map.mp hx
      intro e
      have b := bl r hr
      rw [e] at b
      have := blen_pos (R.nz r hr)
      rw [← b] at this
      simp [blen] at this
    · rcases List.mem_singleton.mp hx with rfl
      exact hl
  · refine List.pairwise_append.mpr ⟨?_, by simp, ?_⟩
    · rw [List.pairwise_map]
      refine R.red.imp_of_mem fun {a b} ha hb hab => ?_
      rw [bl a ha, bl b hb, chg_bit (h b hb), chg_bit (h a ha)]
      exact hab
    · intro x hx y hy
      obtain ⟨r, hr, rfl⟩ := List.mem_map.mp hx
      rcases List.mem_singleton.mp hy with rfl
      exact ⟨chg_top hl, by rw [bl r hr]; exact h r hr⟩
end
theorem grw_eq (rows : List Nat) (w : Nat) : grw rows w = if clr rows w = 0 then rows else srt (rows.map (chg (clr rows w)) ++ [clr rows w]) := rfl
theorem grw_rws {rows : List Nat} (R : Rws rows) (w : Nat) : Rws (grw rows w) := by
  rw [grw_eq]
  split
  · exact R
  · rename_i h
    exact (R.grow h fun r hr => clr_tops R r hr).perm (srt_perm _).symm
theorem grw_span {rows : List Nat} (w x : Nat) : Spn (grw rows w) x ↔ Spn (rows ++ [w]) x := by
  rw [grw_eq]
  have hw := spn_clr rows w
  split
  · rename_i h
    rw [h, Nat.xor_zero] at hw
    constructor
    · exact fun hx => hx.sub fun y hy => List.mem_append_left _ hy
    · refine fun hx => hx.mono fun y hy => ?_
      rcases List.mem_append.mp hy with hy | hy
      · exact .of hy
      · rcases List.mem_singleton.mp hy with rfl
        exact hw
  · rename_i h
    generalize hl : clr rows w = l at *
    have e1 : ∀ y, Spn (rows ++ [w]) y ↔ Spn (rows ++ [l]) y := fun y => by
      have lw : Spn (rows ++ [w]) l := by
        have a := (hw.sub (vs := rows ++ [w]) fun z hz => List.mem_append_left _ hz).xor (Spn.of (List.mem_append_right rows (List.mem_singleton_self w)))
        rwa [Nat.xor_comm w l, Nat.xor_assoc, Nat.xor_self, Nat.xor_zero] at a
      have wl : Spn (rows ++ [l]) w := by
        have a := (hw.sub (vs := rows ++ [l]) fun z hz => List.mem_append_left _ hz).xor (Spn.of (List.mem_append_right rows (List.mem_singleton_self l)))
        rwa [Nat.xor_assoc, Nat.xor_self, Nat.xor_zero] at a
      constructor
      · refine fun hx => hx.mono fun z hz => ?_
        rcases List.mem_append.mp hz with hz | hz
        · exact .of (List.mem_append_left _ hz)
        · rcases List.mem_singleton.mp hz with rfl; exact wl
      · refine fun hx => hx.mono fun z hz => ?_
        rcases List.mem_append.mp hz with hz | hz
        · exact .of (List.mem_append_left _ hz)
        · rcases List.mem_singleton.mp hz with rfl; exact lw
    rw [e1]
    have sl : Spn (rows ++ [l]) l := .of (List.mem_append_right _ (List.mem_singleton_self l))
    constructor
    · refine fun hx => hx.mono fun z hz => ?_
      rcases List.mem_append.mp ((srt_perm _).mem_iff.mp hz) with hz | hz
      · obtain ⟨r, hr, rfl⟩ := List.mem_map.mp hz
        have : Spn (rows ++ [l]) r := .of (List.mem_append_left _ hr)
        unfold chg
        split
        · exact this.xor sl
        · exact this
      · exact .of (List.mem_append_right _ hz)
    · refine fun hx => hx.mono fun z hz => ?_
      have ml : Spn (srt (rows.map (chg l) ++ [l])) l := .of ((srt_perm _).mem_iff.mpr (List.mem_append_right _ (List.mem_singleton_self l)))
      rcases List.mem_append.mp hz with hz | hz
      · have mc : Spn (srt (rows.map (chg l) ++ [l])) (chg l z) := .of ((srt_perm _).mem_iff.mpr (List.mem_append_left _ (List.mem_map.mpr ⟨z, hz, rfl⟩)))
        unfold chg at mc
        split at mc
        · have := mc.xor ml
          rwa [Nat.xor_assoc, Nat.xor_self, Nat.xor_zero] at this
        · exact mc
      · rcases List.mem_singleton.mp hz with rfl; exact ml
theorem grw_length {rows : List Nat} (w : Nat) : (grw rows w).length = if clr rows w = 0 then rows.length else rows.length + 1 := by
  rw [grw_eq]
  split
  · rfl
  · rw [(srt_perm _).length_eq]; simp
/-! ### the rows of a list of words -/
theorem spn_rws_from : ∀ (ws : List Nat) {rows : List Nat}, Rws rows → Rws (ws.foldl grw rows)
  | [], _, R => R
  | w :: ws, _, R => spn_rws_from ws (grw_rws R w)
theorem spn_rws (ws : List Nat) : Rws (spn ws) := spn_rws_from ws Rws.nil
theorem spn_span_from : ∀ (ws : List Nat) (rows : List Nat) (x : Nat), Spn (ws.foldl grw rows) x ↔ Spn (rows ++ ws) x
  | [], rows, x => by simp
  | w :: ws, rows, x => by
    show Spn (ws.foldl grw (grw rows w)) x ↔ _
    rw [spn_span_from ws]
    have key : ∀ (a b c : List Nat) (y : Nat), (∀ z, Spn a z ↔ Spn b z) → (Spn (a ++ c) y ↔ Spn (b ++ c) y) := fun a b c y h => by
      constructor
      · refine fun hx => hx.mono fun z hz => ?_
        rcases List.mem_append.mp hz with hz | hz
        · exact ((h z).mp (.of hz)).sub fun u hu => List.mem_append_left _ hu
        · exact .of (List.mem_append_right _ hz)
      · refine fun hx => hx.mono fun z hz => ?_
        rcases List.mem_append.mp hz with hz | hz
        · exact ((h z).mpr (.of hz)).sub fun u hu => List.mem_append_left _ hu
        · exact .of (List.mem_append_right _ hz)
    rw [key _ _ ws x fun z => grw_span w z, List.append_assoc]
    rfl
theorem spn_span (ws : List Nat) (x : Nat) : Spn (spn ws) x ↔ Spn ws x := by
  have := spn_span_from ws [] x
  rwa [List.nil_append] at this
theorem spn_len_from : ∀ (ws rows : List Nat), (ws.foldl grw rows).length ≤ rows.length + ws.length
  | [], _ => by simp
  | w :: ws, rows => by
    have h1 := spn_len_from ws (grw rows w)
    have h2 := grw_len rows w
    simp only [List.foldl_cons, List.length_cons] at h1 ⊢
    omega
theorem spn_len (ws : List Nat) : (spn ws).length ≤ ws.length := by
  have := spn_len_from ws []
  rw [List.length_nil, Nat.zero_add] at this
  exact this
/-! ### tops tell the rank -/
theorem top_keep {t : Nat} : ∀ {rows : List Nat} {l : Nat}, (∀ r ∈ rows, r ≠ 0) → (∀ r ∈ rows, blen r ≠ t + 1) → l < 2 ^ (t + 1) → l.testBit t = true → (clr rows l).testBit t = true
  | [], l, _, _, _, h => h
  | r :: rs, l, nz, nt, hl, h => by
    rw [clr_cons]
    have a := nt r (.head _)
    have b := blen_pos (nz r (.head _))
    refine top_keep (fun s hs => nz s (.tail _ hs)) (fun s hs => nt s (.tail _ hs)) ?_ ?_
    · cases q : l.testBit (blen r - 1) with
      | false => simpa [bx] using hl
      | true =>
        have c : blen r ≤ t + 1 := by
          refine Nat.le_of_not_lt fun z => ?_
          have := testBit_ge (n := l) (i := blen r - 1) (Nat.le_trans (blen_le.mpr hl) (by omega))
          rw [this] at q; cases q
        simp only [bx, if_true]
        exact Nat.xor_lt_two_pow hl (blen_le.mp c)
    · cases q : l.testBit (blen r - 1) with
      | false => simpa [bx] using h
      | true =>
        have c : blen r ≤ t + 1 := by
          refine Nat.le_of_not_lt fun z => ?_
          have := testBit_ge (n := l) (i := blen r - 1) (Nat.le_trans (blen_le.mpr hl) (by omega))
          rw [this] at q; cases q
        simp only [bx, if_true]
        rw [Nat.testBit_xor, h, testBit_ge (n := r) (by omega)]
        rfl
theorem Rws.top_mem {rows : List Nat} (R : Rws rows) {x : Nat} (h : Spn rows x) (hx : x ≠ 0) : ∃ r ∈ rows, blen r = blen x := by
  refine Classical.byContradiction fun hn => ?_
  have h1 : ∀ r ∈ rows, blen r ≠ (blen x - 1) + 1 := fun r hr e => hn ⟨r, hr, by have := blen_pos hx; omega⟩
  have h2 := top_keep (t := blen x - 1) R.nz h1 (by have := blen_pos hx; rw [Nat.sub_add_cancel this]; exact lt_blen x) (testBit_top hx)
  rw [R.span.mp h] at h2
  simp at h2
theorem nodup_sub_len : ∀ {l m : List Nat}, l.Nodup → (∀ x ∈ l, x ∈ m) → l.length ≤ m.length
  | [], _, _, _ => Nat.zero_le _
  | x :: l, m, hn, hs => by
    have hn' := List.nodup_cons.mp hn
    have hx := hs x (.head _)
    have ih := nodup_sub_len (l := l) (m := m.erase x) hn'.2 fun y hy => by
      have : y ≠ x := fun e => hn'.1 (e ▸ hy)
      exact (List.mem_erase_of_ne this).mpr (hs y (.tail _ hy))
    have := List.length_erase_of_mem hx
    have hp : 0 < m.length := List.length_pos_of_mem hx
    simp only [List.length_cons]
    omega
theorem Rws.tops_nodup {rows : List Nat} (R : Rws rows) : (rows.map blen).Nodup := by
  unfold List.Nodup
  rw [List.pairwise_map]
  refine R.red.imp_of_mem fun {a b} ha hb hab e => ?_
  have := hab.1
  rw [← e, testBit_top (R.nz a ha)] at this
  cases this
theorem Rws.le {a b : List Nat} (A : Rws a) (B : Rws b) (h : ∀ x ∈ a, Spn b x) : a.length ≤ b.length := by
  have := nodup_sub_len A.tops_nodup (m := b.map blen) fun t ht => by
    obtain ⟨x, hx, rfl⟩ := List.mem_map.mp ht
    obtain ⟨r, hr, e⟩ := B.top_mem (h x hx) (A.nz x hx)
    exact List.mem_map.mpr ⟨r, hr, e⟩
  simpa using this
/-- the rank -/
def rk (ws : List Nat) : Nat := (spn ws).length
theorem rk_le {a b : List Nat} (h : ∀ x ∈ a, Spn b x) : rk a ≤ rk b := by
  refine (spn_rws a).le (spn_rws b) fun x hx => ?_
  rw [spn_span]
  exact ((spn_span a x).mp (.of hx)).mono h
theorem rk_eq {a b : List Nat} (h : ∀ x, Spn a x ↔ Spn b x) : rk a = rk b :=
  Nat.le_antisymm (rk_le fun x hx => (h x).mp (.of hx)) (rk_le fun x hx => (h x).mpr (.of hx))
theorem rk_spn (a : List Nat) : rk (spn a) = rk a := rk_eq fun x => spn_span a x
theorem rk_snoc (a : List Nat) (w : Nat) : rk (a ++ [w]) = if clr (spn a) w = 0 then rk a else rk a + 1 := by
  unfold rk
  rw [spn_append]
  exact grw_length w
theorem clr_spn_zero {a : List Nat} {w : Nat} : clr (spn a) w = 0 ↔ Spn a w := by rw [← (spn_rws a).span, spn_span]
theorem rk_snoc_in {a : List Nat} {w : Nat} (h : Spn a w) : rk (a ++ [w]) = rk a := by rw [rk_snoc, if_pos (clr_spn_zero.mpr h)]
theorem rk_snoc_out {a : List Nat} {w : Nat} (h : ¬ Spn a w) : rk (a ++ [w]) = rk a + 1 := by rw [rk_snoc, if_neg (fun z => h (clr_spn_zero.mp z))]
/-- words, none of which is a sum of those ahead -/
inductive Ind : List Nat → Prop where
  | nil : Ind []
  | snoc {a : List Nat} {w : Nat} : Ind a → ¬ Spn a w → Ind (a ++ [w])
theorem Ind.rk {a : List Nat} (h : Ind a) : rk a = a.length := by
  induction h with
  | nil => rfl
  | snoc _ hw ih => rw [rk_snoc_out hw, ih]; simp
theorem rk_len (a : List Nat) : rk a ≤ a.length := spn_len a
theorem spn_id {rows : List Nat} (R : Rws rows) : rk rows = rows.length := by
  have h1 := (spn_rws rows).le R (fun x hx => (spn_span rows x).mp (.of hx))
  have h2 := R.le (spn_rws rows) (fun x hx => (spn_span rows x).mpr (.of hx))
  exact Nat.le_antisymm h1 h2
end LaneX
namespace LaneX
/-! ### pairs, kernels, meets: what the program makes -/
def prs (cols : List Nat) : List Nat := (List.range cols.length).map fun i => (cols.getD i 0 <<< cols.length) + (1 <<< i)
def prd (cols : List Nat) : List Nat := spn (prs cols)
def ker (cols : List Nat) : List Nat := (prd cols).filter fun r => decide (blen r ≤ cols.length)
def mts (bits : Nat) (rows others : List Nat) : List Nat := (rows.map fun r => (r <<< bits) + r) ++ others.map fun r => r <<< bits
def mtd (bits : Nat) (rows others : List Nat) : List Nat := (spn (mts bits rows others)).filter fun r => decide (blen r ≤ bits)
end LaneX
namespace LaneX
theorem Rws.len_le {rows : List Nat} (R : Rws rows) {b : Nat} (h : ∀ r ∈ rows, blen r ≤ b) : rows.length ≤ b := by
  have := nodup_sub_len R.tops_nodup (m := List.range' 1 b) fun t ht => by
    obtain ⟨x, hx, rfl⟩ := List.mem_map.mp ht
    have h1 := blen_pos (R.nz x hx)
    have h2 := h x hx
    rw [List.mem_range']
    exact ⟨blen x - 1, by omega, by omega⟩
  simpa using this
theorem spn_lt {ws : List Nat} {k : Nat} (h : ∀ w ∈ ws, w < 2 ^ k) : ∀ r ∈ spn ws, r < 2 ^ k := fun r hr => ((spn_span ws r).mp (.of hr)).lt h
theorem spn_blen {ws : List Nat} {k : Nat} (h : ∀ w ∈ ws, blen w ≤ k) : ∀ r ∈ spn ws, blen r ≤ k := fun r hr => blen_le.mpr (spn_lt (fun w hw => blen_le.mp (h w hw)) r hr)
theorem clr_blen {rows : List Nat} {k w : Nat} (h : ∀ r ∈ rows, blen r ≤ k) (hw : blen w ≤ k) : blen (clr rows w) ≤ k := blen_le.mpr (clr_lt (fun r hr => blen_le.mp (h r hr)) (blen_le.mp hw))
theorem ker_blen (cols : List Nat) : ∀ r ∈ ker cols, blen r ≤ cols.length := fun r hr => by
  have := (List.mem_filter.mp hr).2
  simpa using this
theorem ker_rws (cols : List Nat) : Rws (ker cols) := by
  have R := spn_rws (prs cols)
  exact ⟨fun r hr => R.nz r (List.mem_filter.mp hr).1, R.red.sublist List.filter_sublist⟩
theorem ker_len (cols : List Nat) : (ker cols).length ≤ cols.length := (ker_rws cols).len_le (ker_blen cols)
theorem mtd_blen (b : Nat) (rs os : List Nat) : ∀ r ∈ mtd b rs os, blen r ≤ b := fun r hr => by
  have := (List.mem_filter.mp hr).2
  simpa using this
theorem mtd_rws (b : Nat) (rs os : List Nat) : Rws (mtd b rs os) := by
  have R := spn_rws (mts b rs os)
  exact ⟨fun r hr => R.nz r (List.mem_filter.mp hr).1, R.red.sublist List.filter_sublist⟩
/-- the rows of others that complete -/
def cms (rows others : List Nat) : List Nat × List Nat := others.foldl (fun st r => if clr st.1 r = 0 then st else (grw st.1 r, st.2 ++ [r])) (rows, [])
def cmpl (rows others : List Nat) : List Nat := (cms rows others).2
theorem cms_snoc (rows a : List Nat) (r : Nat) : cms rows (a ++ [r]) = if clr (cms rows a).1 r = 0 then cms rows a else (grw (cms rows a).1 r, (cms rows a).2 ++ [r]) := by
  unfold cms
  rw [List.foldl_append]
  rfl
/-- lists are told by their last item -/
theorem snoc_rec {p : List Nat → Prop} (h0 : p []) (hs : ∀ a x, p a → p (a ++ [x])) : ∀ l, p l := fun l => by
  have : ∀ n (l : List Nat), l.length = n → p l := by
    intro n
    induction n with
    | zero => intro l hl; rw [List.length_eq_zero_iff.mp hl]; exact h0
    | succ n ih =>
      intro l hl
      have hne : l ≠ [] := fun e => by rw [e] at hl; cases hl
      rw [← List.dropLast_concat_getLast hne]
      exact hs _ _ (ih _ (by rw [List.length_dropLast, hl]; rfl))
  exact this _ l rfl
theorem cms_rws {rows : List Nat} (R : Rws rows) (others : List Nat) : Rws (cms rows others).1 := by
  refine snoc_rec (p := fun l => Rws (cms rows l).1) R (fun a x ih => ?_) others
  rw [cms_snoc]
  split
  · exact ih
  · exact grw_rws ih x
theorem cms_len (rows others : List Nat) : (cms rows others).1.length ≤ rows.length + others.length ∧ (cms rows others).2.length ≤ others.length := by
  refine snoc_rec (p := fun l => (cms rows l).1.length ≤ rows.length + l.length ∧ (cms rows l).2.length ≤ l.length) ⟨by simp [cms], by simp [cms]⟩ (fun a x ih => ?_) others
  rw [cms_snoc]
  split
  · simp only [List.length_append, List.length_cons, List.length_nil]; omega
  · have := grw_len (cms rows a).1 x
    simp only [List.length_append, List.length_cons, List.length_nil]
    omega
/-- the twins, the partners of a spread -/
def twn (ss ls : List Nat) : List Nat := spn (ker (ls.map (clr (spn ss))))
def prw (ss ls rows : List Nat) : List Nat := ker (ls.map (clr (spn (ss ++ rows))))
def prt (ss ls rows : List Nat) : List Nat := spn (prw ss ls rows)
def ldr (ss ls rows : List Nat) : List Nat := cmpl (twn ss ls) (prt ss ls rows)
def kpt (b : Nat) (ss rows : List Nat) : Int := ((spn ss).length : Int) - ((spn (mtd b (spn ss) rows)).length : Int)
def rdf (bits apart : Nat) : Nat := if apart ≤ bits then 1 <<< bits - 1 <<< (bits - apart) else 1 <<< bits - 1 + apart - bits
def smr (b : Nat) (ss ls rows : List Nat) : Nat := rdf (kpt b ss rows - (twn ss ls).length).toNat (ldr ss ls rows).length
/-- a spread's words, a space's rows are as they must -/
structure WfR (b : Nat) (ss ls : List Nat) : Prop where
  bb : b ≤ 400000
  s : ∀ x ∈ ss, blen x ≤ b
  l : ∀ x ∈ ls, blen x ≤ b
  sl : ss.length ≤ 400000
  ll : ls.length ≤ 400000
structure WfS (b : Nat) (rows : List Nat) : Prop where
  bb : b ≤ 400000
  r : Rws rows
  b : ∀ x ∈ rows, blen x ≤ b
theorem WfS.len {b : Nat} {rows : List Nat} (h : WfS b rows) : rows.length ≤ 400000 := Nat.le_trans (h.r.len_le h.b) h.bb
theorem WfS.of {b : Nat} {ws : List Nat} (h : b ≤ 400000) (hw : ∀ x ∈ ws, blen x ≤ b) : WfS b (spn ws) := ⟨h, spn_rws ws, spn_blen hw⟩
theorem twn_wf {b : Nat} {ss ls : List Nat} (h : WfR b ss ls) : WfS ls.length (twn ss ls) := WfS.of h.ll fun x hx => by have := ker_blen _ x hx; simpa using this
theorem prt_wf {b : Nat} {ss ls : List Nat} (h : WfR b ss ls) (rows : List Nat) : WfS ls.length (prt ss ls rows) := WfS.of h.ll fun x hx => by have := ker_blen _ x hx; simpa using this
end LaneX
set_option linter.all false
namespace LaneX
/-! ### lowest bits; an elimination by them -/
def lwb (n : Nat) : Nat := n - (n &&& (n - 1))
def low (n : Nat) : Nat := if h : n = 0 then 0 else if n % 2 = 1 then 0 else low (n / 2) + 1
termination_by n
decreasing_by omega
theorem and_split (a b : Nat) : a &&& b = 2 * (a / 2 &&& b / 2) + (if a % 2 = 1 ∧ b % 2 = 1 then 1 else 0) := by
  have h1 : (a &&& b) / 2 = a / 2 &&& b / 2 := Nat.and_div_two
  have h2 : (a &&& b) % 2 = if a % 2 = 1 ∧ b % 2 = 1 then 1 else 0 := by
    have : (a &&& b).testBit 0 = (a.testBit 0 && b.testBit 0) := Nat.testBit_and ..
    simp only [Nat.testBit_zero] at this
    split
    · rename_i h
      simp only [h.1, h.2, decide_true, Bool.and_self] at this
      exact of_decide_eq_true this
    · rename_i h
      have h3 : (a &&& b) % 2 ≠ 1 := fun z => by
        rw [z] at this
        simp at this
        exact h this
      omega
  omega
theorem lwb_eq {n : Nat} (h : n ≠ 0) : lwb n = 2 ^ low n := by
  induction n using Nat.strongRecOn with
  | _ n ih =>
    unfold low lwb
    rw [dif_neg h]
    split
    · rename_i ho
      rw [and_split, if_neg (by omega), show (n - 1) / 2 = n / 2 by omega, Nat.and_self]
      simp
      omega
    · rename_i he
      have hm : n / 2 ≠ 0 := by omega
      have q := ih (n / 2) (by omega) hm
      unfold lwb at q
      have le : n / 2 &&& (n / 2 - 1) ≤ n / 2 := Nat.and_le_left
      rw [and_split, if_neg (by omega), show (n - 1) / 2 = n / 2 - 1 by omega, Nat.pow_succ, ← q]
      omega
theorem low_bit {n : Nat} (h : n ≠ 0) : n.testBit (low n) = true := by
  induction n using Nat.strongRecOn with
  | _ n ih =>
    unfold low
    rw [dif_neg h]
    split
    · rename_i ho
      rw [Nat.testBit_zero]
      exact decide_eq_true ho
    · rename_i he
      rw [Nat.testBit_succ]
      exact ih (n / 2) (by omega) (by omega)
theorem and_lwb {w r : Nat} (h : r ≠ 0) : (w &&& lwb r ≠ 0) ↔ w.testBit (low r) = true := by
  rw [lwb_eq h]
  constructor
  · intro hn
    refine Classical.byContradiction fun hb => hn ?_
    apply Nat.eq_of_testBit_eq
    intro i
    rw [Nat.testBit_and, Nat.testBit_two_pow, Nat.zero_testBit]
    by_cases e : low r = i
    · subst e
      cases q : w.testBit (low r)
      · rfl
      · exact absurd q hb
    · simp [e]
  · intro hb hz
    have : (w &&& 2 ^ low r).testBit (low r) = true := by
      rw [Nat.testBit_and, hb, Nat.testBit_two_pow]
      simp
    rw [hz] at this
    simp at this
def lft (rows : List Nat) (w : Nat) : Nat := rows.foldl (fun l r => if l.testBit (low r) = true then l ^^^ r else l) w
theorem lft_cons (r : Nat) (rs : List Nat) (x : Nat) : lft (r :: rs) x = lft rs (x ^^^ bx (x.testBit (low r)) r) := by
  show lft rs _ = _
  dsimp only
  cases x.testBit (low r) <;> simp [bx]
theorem lft_snoc (a : List Nat) (r w : Nat) : lft (a ++ [r]) w = if (lft a w).testBit (low r) = true then lft a w ^^^ r else lft a w := List.foldl_append ..
theorem lft_xor : ∀ (rows : List Nat) (x y : Nat), lft rows (x ^^^ y) = lft rows x ^^^ lft rows y
  | [], _, _ => rfl
  | r :: rs, x, y => by
    rw [lft_cons, lft_cons, lft_cons, Nat.testBit_xor, bx_xor, xor4, lft_xor rs]
theorem lft_zero : ∀ rows : List Nat, lft rows 0 = 0
  | [] => rfl
  | r :: rs => by rw [lft_cons]; simp [bx, lft_zero rs]
theorem spn_lft : ∀ (rows : List Nat) (x : Nat), Spn rows (x ^^^ lft rows x)
  | [], x => by show Spn [] (x ^^^ x); rw [Nat.xor_self]; exact .zero
  | r :: rs, x => by
    rw [lft_cons]
    generalize hb : bx (x.testBit (low r)) r = c
    have ih := (spn_lft rs (x ^^^ c)).sub (vs := r :: rs) fun w hw => .tail _ hw
    have hc : Spn (r :: rs) c := by
      rw [← hb]
      cases x.testBit (low r)
      · exact .zero
      · exact .of (.head _)
    have := ih.xor hc
    have e : x ^^^ c ^^^ lft rs (x ^^^ c) ^^^ c = x ^^^ lft rs (x ^^^ c) := by
      rw [Nat.xor_assoc, Nat.xor_comm (lft rs _) _, ← Nat.xor_assoc, Nat.xor_assoc x, Nat.xor_self, Nat.xor_zero]
    rw [e] at this
    exact this
/-- rows of the law's own: none is 0, later ones are 0 at the lowest bits of earlier ones -/
structure Lws (rows : List Nat) : Prop where
  nz : ∀ r ∈ rows, r ≠ 0
  red : rows.Pairwise fun r s => s.testBit (low r) = false
theorem lft_bit {b : Nat} : ∀ {rows : List Nat} {x : Nat}, (∀ r ∈ rows, r.testBit b = false) → (lft rows x).testBit b = x.testBit b
  | [], x, _ => rfl
  | r :: rs, x, h => by
    rw [lft_cons, lft_bit fun s hs => h s (.tail _ hs), Nat.testBit_xor]
    have := h r (.head _)
    cases x.testBit (low r) <;> simp [bx, this]
theorem lft_lows : ∀ {rows : List Nat} {x : Nat}, Lws rows → ∀ r ∈ rows, (lft rows x).testBit (low r) = false
  | [], x, _, r, h => by cases h
  | s :: rs, x, R, r, h => by
    have hp := List.pairwise_cons.mp R.red
    have R' : Lws rs := ⟨fun t ht => R.nz t (.tail _ ht), hp.2⟩
    rw [lft_cons]
    rcases List.mem_cons.mp h with rfl | h
    · rw [lft_bit fun t ht => hp.1 t ht, Nat.testBit_xor]
      have := low_bit (R.nz r (.head _))
      cases q : x.testBit (low r) <;> simp [bx, this]
    · exact lft_lows R' r h
theorem lft_of_none : ∀ {rows : List Nat} {x : Nat}, (∀ r ∈ rows, x.testBit (low r) = false) → lft rows x = x
  | [], x, _ => rfl
  | r :: rs, x, h => by
    rw [lft_cons, h r (.head _)]
    simp only [bx, Bool.false_eq_true, if_false, Nat.xor_zero]
    exact lft_of_none fun s hs => h s (.tail _ hs)
theorem lft_self : ∀ {rows : List Nat}, Lws rows → ∀ r ∈ rows, lft rows r = 0
  | [], _, r, h => by cases h
  | s :: rs, R, r, h => by
    have hp := List.pairwise_cons.mp R.red
    have R' : Lws rs := ⟨fun t ht => R.nz t (.tail _ ht), hp.2⟩
    rw [lft_cons]
    rcases List.mem_cons.mp h with rfl | h
    · rw [low_bit (R.nz r (.head _))]
      simp only [bx, if_true, Nat.xor_self]
      exact lft_zero rs
    · rw [hp.1 r h]
      simp only [bx, Bool.false_eq_true, if_false, Nat.xor_zero]
      exact lft_self R' r h
theorem Lws.span {rows : List Nat} (R : Lws rows) {x : Nat} : Spn rows x ↔ lft rows x = 0 := by
  constructor
  · intro h
    induction h with
    | zero => exact lft_zero rows
    | add hw _ ih => rw [lft_xor, ih, lft_self R _ hw]; rfl
  · intro h
    have := spn_lft rows x
    rwa [h, Nat.xor_zero] at this
def bstep (rows : List Nat) (w : Nat) : List Nat := if lft rows w = 0 then rows else rows ++ [lft rows w]
def bas (ws : List Nat) : List Nat := ws.foldl bstep []
theorem bas_snoc (a : List Nat) (w : Nat) : bas (a ++ [w]) = bstep (bas a) w := List.foldl_append ..
theorem Lws.nil : Lws [] := ⟨fun _ h => (by cases h), .nil⟩
theorem Lws.step {rows : List Nat} (R : Lws rows) (w : Nat) : Lws (bstep rows w) := by
  unfold bstep
  split
  · exact R
  · rename_i h
    refine ⟨fun r hr => ?_, List.pairwise_append.mpr ⟨R.red, by simp, fun r hr s hs => ?_⟩⟩
    · rcases List.mem_append.mp hr with hr | hr
      · exact R.nz r hr
      · rcases List.mem_singleton.mp hr with rfl; exact h
    · rcases List.mem_singleton.mp hs with rfl
      exact lft_lows R r hr
theorem Lws.ind {rows : List Nat} (R : Lws rows) : Ind rows := by
  have : ∀ n (l : List Nat), l.length = n → Lws l → Ind l := by
    intro n
    induction n with
    | zero => intro l hl _; rw [List.length_eq_zero_iff.mp hl]; exact .nil
    | succ n ih =>
      intro l hl L
      have hne : l ≠ [] := fun e => by rw [e] at hl; cases hl
      have e := List.dropLast_concat_getLast hne
      rw [← e] at L ⊢
      have hp := List.pairwise_append.mp L.red
      have L' : Lws l.dropLast := ⟨fun r hr => L.nz r (List.mem_append_left _ hr), hp.1⟩
      refine .snoc (ih _ (by rw [List.length_dropLast, hl]; rfl) L') fun hs => ?_
      have z := L'.span.mp hs
      rw [lft_of_none fun r hr => hp.2.2 r hr _ (List.mem_singleton_self _)] at z
      exact L.nz _ (List.mem_append_right _ (List.mem_singleton_self _)) z
  exact this _ rows rfl R
theorem Lws.rk {rows : List Nat} (R : Lws rows) : rk rows = rows.length := R.ind.rk
theorem bas_lws (ws : List Nat) : Lws (bas ws) := snoc_rec (p := fun l => Lws (bas l)) Lws.nil (fun a x ih => by rw [bas_snoc]; exact ih.step x) ws
theorem span_app {a b c : List Nat} {x : Nat} (h : ∀ z, Spn a z ↔ Spn b z) : Spn (a ++ c) x ↔ Spn (b ++ c) x := by
  constructor
  · refine fun hx => hx.mono fun z hz => ?_
    rcases List.mem_append.mp hz with hz | hz
    · exact ((h z).mp (.of hz)).sub fun u hu => List.mem_append_left _ hu
    · exact .of (List.mem_append_right _ hz)
  · refine fun hx => hx.mono fun z hz => ?_
    rcases List.mem_append.mp hz with hz | hz
    · exact ((h z).mpr (.of hz)).sub fun u hu => List.mem_append_left _ hu
    · exact .of (List.mem_append_right _ hz)
theorem span_swap (u v : List Nat) (y : Nat) : Spn (u ++ v) y ↔ Spn (v ++ u) y := by
  have key : ∀ u v : List Nat, Spn (u ++ v) y → Spn (v ++ u) y := fun u v h => h.sub fun w hw => by
    rcases List.mem_append.mp hw with h | h
    · exact List.mem_append_right _ h
    · exact List.mem_append_left _ h
  exact ⟨key u v, key v u⟩
theorem span_app2 {a b c d : List Nat} {x : Nat} (h : ∀ z, Spn a z ↔ Spn b z) (g : ∀ z, Spn c z ↔ Spn d z) : Spn (a ++ c) x ↔ Spn (b ++ d) x := by
  rw [span_app h]
  rw [span_swap, span_app g, span_swap]
theorem bstep_span (rows : List Nat) (w x : Nat) : Spn (bstep rows w) x ↔ Spn (rows ++ [w]) x := by
  have hw := spn_lft rows w
  unfold bstep
  split
  · rename_i h
    rw [h, Nat.xor_zero] at hw
    constructor
    · exact fun hx => hx.sub fun y hy => List.mem_append_left _ hy
    · refine fun hx => hx.mono fun y hy => ?_
      rcases List.mem_append.mp hy with hy | hy
      · exact .of hy
      · rcases List.mem_singleton.mp hy with rfl; exact hw
  · generalize lft rows w = l at *
    have lw : Spn (rows ++ [w]) l := by
      have a := (hw.sub (vs := rows ++ [w]) fun z hz => List.mem_append_left _ hz).xor (Spn.of (List.mem_append_right rows (List.mem_singleton_self w)))
      rwa [Nat.xor_comm w l, Nat.xor_assoc, Nat.xor_self, Nat.xor_zero] at a
    have wl : Spn (rows ++ [l]) w := by
      have a := (hw.sub (vs := rows ++ [l]) fun z hz => List.mem_append_left _ hz).xor (Spn.of (List.mem_append_right rows (List.mem_singleton_self l)))
      rwa [Nat.xor_assoc, Nat.xor_self, Nat.xor_zero] at a
    constructor
    · refine fun hx => hx.mono fun z hz => ?_
      rcases List.mem_append.mp hz with hz | hz
      · exact .of (List.mem_append_left _ hz)
      · rcases List.mem_singleton.mp hz with rfl; exact lw
    · refine fun hx => hx.mono fun z hz => ?_
      rcases List.mem_append.mp hz with hz | hz
      · exact .of (List.mem_append_left _ hz)
      · rcases List.mem_singleton.mp hz with rfl; exact wl
theorem bas_span (ws : List Nat) : ∀ x, Spn (bas ws) x ↔ Spn ws x := snoc_rec (p := fun l => ∀ x, Spn (bas l) x ↔ Spn l x) (fun x => Iff.rfl) (fun a w ih x => by rw [bas_snoc, bstep_span, span_app ih]) ws
theorem bas_len (ws : List Nat) : (bas ws).length = rk ws := by rw [← (bas_lws ws).rk]; exact rk_eq (bas_span ws)
theorem lft_bas {ws : List Nat} {x : Nat} : lft (bas ws) x = 0 ↔ Spn ws x := by rw [← (bas_lws ws).span, bas_span]
theorem bas_len_le (ws : List Nat) : (bas ws).length ≤ ws.length := by rw [bas_len]; exact rk_len ws
theorem lft_lt {k : Nat} {rows : List Nat} {w : Nat} (hr : ∀ r ∈ rows, r < 2 ^ k) (h : w < 2 ^ k) : lft rows w < 2 ^ k := by
  have := (spn_lft rows w).lt hr
  have e : lft rows w = w ^^^ (w ^^^ lft rows w) := by rw [← Nat.xor_assoc, Nat.xor_self, Nat.zero_xor]
  rw [e]
  exact Nat.xor_lt_two_pow h this
theorem bas_lt {k : Nat} {ws : List Nat} (h : ∀ w ∈ ws, w < 2 ^ k) : ∀ r ∈ bas ws, r < 2 ^ k := fun r hr => ((bas_span ws r).mp (.of hr)).lt h
/-- the sum of the columns of the bits of a word -/
def imf (cols : List Nat) (w : Nat) (n : Nat) : Nat := (List.range n).foldl (fun acc i => if w.testBit i = true then acc ^^^ cols.getD i 0 else acc) 0
def img (cols : List Nat) (w : Nat) : Nat := imf cols w cols.length
theorem imf_succ (cols : List Nat) (w n : Nat) : imf cols w (n + 1) = if w.testBit n = true then imf cols w n ^^^ cols.getD n 0 else imf cols w n := by
  unfold imf
  rw [List.range_succ, List.foldl_append]
  rfl
/-- rows with tags, and the tags of words that come to 0 -/
def tgl (rows : List (Nat × Nat)) (st : Nat × Nat) : Nat × Nat := rows.foldl (fun st r => if st.1.testBit (low r.1) = true then (st.1 ^^^ r.1, st.2 ^^^ r.2) else st) st
def tgs (cols : List Nat) (n : Nat) : List (Nat × Nat) × List Nat := (List.range n).foldl (fun st i =>
  if (tgl st.1 (cols.getD i 0, 1 <<< i)).1 = 0 then (st.1, st.2 ++ [(tgl st.1 (cols.getD i 0, 1 <<< i)).2]) else (st.1 ++ [tgl st.1 (cols.getD i 0, 1 <<< i)], st.2)) ([], [])
def tgd (cols : List Nat) : List (Nat × Nat) × List Nat := tgs cols cols.length
theorem tgs_succ (cols : List Nat) (n : Nat) : tgs cols (n + 1) = if (tgl (tgs cols n).1 (cols.getD n 0, 1 <<< n)).1 = 0 then ((tgs cols n).1, (tgs cols n).2 ++ [(tgl (tgs cols n).1 (cols.getD n 0, 1 <<< n)).2]) else ((tgs cols n).1 ++ [tgl (tgs cols n).1 (cols.getD n 0, 1 <<< n)], (tgs cols n).2) := by
  unfold tgs
  rw [List.range_succ, List.foldl_append]
  rfl
theorem tgs_len (cols : List Nat) : ∀ n, (tgs cols n).1.length + (tgs cols n).2.length = n
  | 0 => rfl
  | n + 1 => by
    have := tgs_len cols n
    rw [tgs_succ]
    split <;> simp <;> omega
theorem rk_app_len (a : List Nat) : ∀ b, rk (a ++ b) ≤ rk a + b.length := snoc_rec (p := fun b => rk (a ++ b) ≤ rk a + b.length) (by simp) (fun b x ih => by
  rw [← List.append_assoc, rk_snoc]
  split <;> simp <;> omega)
theorem rk_app (a b : List Nat) : rk (a ++ b) ≤ rk a + rk b := by
  have e : rk (a ++ b) = rk (a ++ spn b) := rk_eq fun x => (span_app2 (fun _ => Iff.rfl) (fun z => (spn_span b z).symm))
  rw [e]
  exact rk_app_len a (spn b)
theorem rk_left (a b : List Nat) : rk a ≤ rk (a ++ b) := rk_le fun x hx => .of (List.mem_append_left _ hx)
theorem rk_right (a b : List Nat) : rk b ≤ rk (a ++ b) := rk_le fun x hx => .of (List.mem_append_right _ hx)
theorem rk_perm {a b : List Nat} (p : a.Perm b) : rk a = rk b := rk_eq fun x => ⟨fun h => h.sub fun w hw => p.mem_iff.mp hw, fun h => h.sub fun w hw => p.mem_iff.mpr hw⟩
/-- units -/
def units (b : Nat) : List Nat := (List.range b).map fun i => 1 <<< i
theorem blen_unit (i : Nat) : blen (1 <<< i) = i + 1 := by
  have h : 1 <<< i ≠ 0 := by rw [Nat.one_shiftLeft]; exact Nat.ne_of_gt (Nat.two_pow_pos i)
  have h1 : blen (1 <<< i) ≤ i + 1 := by
    rw [blen_le, Nat.one_shiftLeft]
    exact Nat.pow_lt_pow_right (by decide) (Nat.lt_succ_self i)
  have h2 : ¬ blen (1 <<< i) ≤ i := by
    rw [blen_le, Nat.one_shiftLeft]
    exact Nat.lt_irrefl _
  omega
theorem unit_bit (i j : Nat) : (1 <<< i).testBit j = decide (i = j) := by
  rw [Nat.one_shiftLeft, Nat.testBit_two_pow]
theorem units_rws (b : Nat) : Rws (units b) := by
  refine ⟨fun r hr => ?_, ?_⟩
  · obtain ⟨i, _, rfl⟩ := List.mem_map.mp hr
    rw [Nat.one_shiftLeft]
    exact Nat.ne_of_gt (Nat.two_pow_pos i)
  · unfold units
    rw [List.pairwise_map]
    refine List.Pairwise.imp (R := fun a b => a ≠ b) (fun {i j} h => ?_) List.nodup_range
    rw [blen_unit, blen_unit, Nat.add_sub_cancel, Nat.add_sub_cancel, unit_bit, unit_bit]
    exact ⟨decide_eq_false h, decide_eq_false fun z => h z.symm⟩
theorem units_rk (b : Nat) : rk (units b) = b := by
  rw [spn_id (units_rws b)]
  simp [units]
theorem units_span {b x : Nat} (h : x < 2 ^ b) : Spn (units b) x := by
  have R := units_rws b
  rw [R.span]
  refine Classical.byContradiction fun hn => ?_
  have h1 : clr (units b) x < 2 ^ b := clr_lt (fun r hr => by
    obtain ⟨i, hi, rfl⟩ := List.mem_map.mp hr
    rw [Nat.one_shiftLeft]
    exact Nat.pow_lt_pow_right (by decide) (List.mem_range.mp hi)) h
  have h2 := testBit_top hn
  have h3 : blen (clr (units b) x) ≤ b := blen_le.mpr h1
  have h4 := blen_pos hn
  have h5 := clr_tops (x := x) R (1 <<< (blen (clr (units b) x) - 1)) (List.mem_map.mpr ⟨_, List.mem_range.mpr (by omega), rfl⟩)
  rw [blen_unit, Nat.add_sub_cancel] at h5
  rw [h5] at h2
  cases h2
/-- what is spanned by n bits has at most n dimensions; all of it has n -/
theorem rk_le_bits {ws : List Nat} {b : Nat} (h : ∀ w ∈ ws, w < 2 ^ b) : rk ws ≤ b := by
  rw [← units_rk b]
  exact rk_le fun x hx => units_span (h x hx)
theorem rk_full {ws : List Nat} {b : Nat} (h : ∀ u ∈ units b, Spn ws u) : b ≤ rk ws := by
  rw [← units_rk b]
  exact rk_le h
end LaneX
set_option Elab.async false
set_option linter.all false
set_option maxRecDepth 100000
set_option maxHeartbeats 4000000
namespace LaneX
open PySem PySem.Spec PyProof.Rows L2

/-! ### natural numbers as values -/
abbrev vN (n : Nat) : V := .int (n : Int)
theorem nnAnd (n m : Nat) : Builtin.bitAnd (n : Int) (m : Int) = ((n &&& m : Nat) : Int) := by
  unfold Builtin.bitAnd
  have h1 : decide (0 ≤ (n : Int)) = true := decide_eq_true (Int.natCast_nonneg _)
  have h2 : decide (0 ≤ (m : Int)) = true := decide_eq_true (Int.natCast_nonneg _)
  simp
theorem nnOr (n m : Nat) : Builtin.bitOr (n : Int) (m : Int) = ((n ||| m : Nat) : Int) := by
  rw [bitOr_nn (Int.natCast_nonneg _) (Int.natCast_nonneg _)]
  simp
theorem and_or_xor (n m : Nat) : (n ||| m) = (n ^^^ m) + (n &&& m) := by
  have h : (n ^^^ m) &&& (n &&& m) = 0 := by
    apply Nat.eq_of_testBit_eq
    intro i
    simp only [Nat.testBit_and, Nat.testBit_xor, Nat.zero_testBit]
    cases n.testBit i <;> cases m.testBit i <;> rfl
  have h2 : (n ^^^ m) ||| (n &&& m) = n ||| m := by
    apply Nat.eq_of_testBit_eq
    intro i
    simp only [Nat.testBit_and, Nat.testBit_xor, Nat.testBit_or]
    cases n.testBit i <;> cases m.testBit i <;> rfl
  have add : ∀ (k a b : Nat), a < 2 ^ k → a &&& b = 0 → a + b = a ||| b := by
    intro k
    induction k with
    | zero =>
      intro a b ha _
      have : a = 0 := by simpa using ha
      subst this
      simp
    | succ k ih =>
      intro a b ha hab
      have e1 : a / 2 &&& b / 2 = 0 := by
        rw [← Nat.and_div_two, hab]
      have e2 := ih (a / 2) (b / 2) (by rw [Nat.pow_succ] at ha; omega) e1
      have e3 : (a ||| b) / 2 = a / 2 ||| b / 2 := Nat.or_div_two
      have e8 : a / 2 + b / 2 = (a ||| b) / 2 := by rw [e3]; exact e2
      clear e1 e2 e3 ih
      have e5 : (a &&& b).testBit 0 = false := by rw [hab]; simp
      have e6 : (a ||| b).testBit 0 = (a.testBit 0 || b.testBit 0) := Nat.testBit_or ..
      have e7 : (a.testBit 0 && b.testBit 0) = false := by rw [← Nat.testBit_and]; exact e5
      have t : ∀ x : Nat, x % 2 = if x.testBit 0 = true then 1 else 0 := by
        intro x
        rw [Nat.testBit_zero]
        split <;> simp_all
      have ta := t a
      have tb := t b
      have to := t (a ||| b)
      rw [e6] at to
      cases h1 : a.testBit 0 <;> cases h2 : b.testBit 0 <;> rw [h1] at ta to e7 <;> rw [h2] at tb to e7
      · simp only [Bool.or_false, Bool.false_eq_true, if_false] at ta tb to; omega
      · simp only [Bool.or_true, Bool.false_eq_true, if_false, if_true] at ta tb to; omega
      · simp only [Bool.or_false, Bool.false_eq_true, if_false, if_true] at ta tb to; omega
      · cases e7
  have := add ((n ^^^ m) + 1) (n ^^^ m) (n &&& m) (Nat.lt_of_lt_of_le Nat.lt_two_pow_self (Nat.pow_le_pow_right (by decide) (Nat.le_succ _))) h
  rw [h2] at this
  exact this.symm
theorem nnXor (n m : Nat) : Builtin.bitXor (n : Int) (m : Int) = ((n ^^^ m : Nat) : Int) := by
  unfold Builtin.bitXor
  rw [nnOr, nnAnd, and_or_xor]
  omega
theorem blen_bits (n : Nat) : Builtin.Int.intBits (n : Int) = blen n := by
  unfold Builtin.Int.intBits blen
  by_cases h : n = 0
  · subst h; rfl
  · have : ((n : Int) == 0) = false := by simp [h]
    rw [this]
    simp [h]

section
variable {X : Cx}
/-- two naturals, a condition, a natural -/
def rN (C : Nat → Nat → Prop) (g : Nat → Nat → Nat) : R2 := fun x y H Q => ∃ n m : Nat, x = .int (n : Int) ∧ y = .int (m : Int) ∧ C n m ∧ Q (.int (g n m : Nat)) H
def rN0 (g : Nat → Nat → Nat) : R2 := fun x y H Q => ∃ n m : Nat, x = .int (n : Int) ∧ y = .int (m : Int) ∧ Q (.int (g n m : Nat)) H
theorem on_xor : OpR X (binaryOp .BitXor) (fun x y H Q => ∃ n m : Nat, x = .int (n : Int) ∧ y = .int (m : Int) ∧ Q (.int ((n ^^^ m : Nat) : Int)) H) := by
  intro pins s σ H x y v u Q I rx ry h
  obtain ⟨n, m, rfl, rfl, q⟩ := h
  rw [← nnXor] at q
  exact op_xor pins s σ H _ _ v u Q I rx ry ⟨_, _, rfl, rfl, q⟩
theorem on_and : OpR X (binaryOp .BitAnd) (fun x y H Q => ∃ n m : Nat, x = .int (n : Int) ∧ y = .int (m : Int) ∧ Q (.int ((n &&& m : Nat) : Int)) H) := by
  intro pins s σ H x y v u Q I rx ry h
  obtain ⟨n, m, rfl, rfl, q⟩ := h
  rw [← nnAnd] at q
  exact op_and pins s σ H _ _ v u Q I rx ry ⟨_, _, rfl, rfl, q⟩
theorem on_or : OpR X (binaryOp .BitOr) (fun x y H Q => ∃ n m : Nat, x = .int (n : Int) ∧ y = .int (m : Int) ∧ Q (.int ((n ||| m : Nat) : Int)) H) := by
  intro pins s σ H x y v u Q I rx ry h
  obtain ⟨n, m, rfl, rfl, q⟩ := h
  rw [← nnOr] at q
  exact op_or pins s σ H _ _ v u Q I rx ry ⟨_, _, rfl, rfl, q⟩
theorem on_add : OpR X (binaryOp .Add) (fun x y H Q => ∃ n m : Nat, x = .int (n : Int) ∧ y = .int (m : Int) ∧ Q (.int ((n + m : Nat) : Int)) H) := op_addN
theorem on_sub : OpR X (binaryOp .Sub) (fun x y H Q => ∃ n m : Nat, x = .int (n : Int) ∧ y = .int (m : Int) ∧ (m ≤ n) ∧ Q (.int ((n - m : Nat) : Int)) H) := op_subN
theorem on_shr : OpR X (binaryOp .RShift) (fun x y H Q => ∃ n m : Nat, x = .int (n : Int) ∧ y = .int (m : Int) ∧ Q (.int ((n >>> m : Nat) : Int)) H) := by
  intro pins s σ H x y v u Q I rx ry h
  obtain ⟨n, m, rfl, rfl, q⟩ := h
  refine op_shrN pins s σ H _ _ v u Q I rx ry ⟨_, _, rfl, rfl, ?_⟩
  have e : ((n >>> m : Nat) : Int) = (n : Int) / 2 ^ m := by
    rw [Nat.shiftRight_eq_div_pow, Int.natCast_ediv]
    simp
  rw [← e]
  exact q
/-- a shift to the left: few bits in all -/
def CShN (n m : Nat) : Prop := blen n + m ≤ 100000000
theorem on_shl : OpR X (binaryOp .LShift) (fun x y H Q => ∃ n m : Nat, x = .int (n : Int) ∧ y = .int (m : Int) ∧ CShN n m ∧ Q (.int ((n <<< m : Nat) : Int)) H) := by
  intro pins s σ H x y v u Q I rx ry h
  obtain ⟨n, m, rfl, rfl, hc, q⟩ := h
  refine op_shlN pins s σ H _ _ v u Q I rx ry ⟨_, _, rfl, rfl, ⟨by omega, ?_⟩, ?_⟩
  · rw [blen_bits]
    have : blen n + m ≤ 100000000 := hc
    omega
  · have e : ((n <<< m : Nat) : Int) = (n : Int) * 2 ^ m := by
      rw [Nat.shiftLeft_eq]
      simp
    rw [← e]
    exact q
theorem on_mul : OpR X (binaryOp .Mult) (fun x y H Q => ∃ n m : Nat, x = .int (n : Int) ∧ y = .int (m : Int) ∧ (n < 2 ^ 64) ∧ Q (.int ((n * m : Nat) : Int)) H) := by
  intro pins s σ H x y v u Q I rx ry h
  obtain ⟨n, m, rfl, rfl, c, q⟩ := h
  rw [Int.natCast_mul] at q
  exact op_mul pins s σ H _ _ v u Q I rx ry ⟨_, _, rfl, rfl, show CMul (n : Int) (m : Int) from Or.inl ⟨by omega, by have : n < 18446744073709551616 := c; omega⟩, q⟩
theorem on_fdiv : OpR X (binaryOp .FloorDiv) (fun x y H Q => ∃ n m : Nat, x = .int (n : Int) ∧ y = .int (m : Int) ∧ (0 < m ∧ m < 1073741824) ∧ Q (.int ((n / m : Nat) : Int)) H) := op_fdivNN
/-- the left one any size, the divisor below 2 ^ 9000 -/
theorem on_fdivW : OpR X (binaryOp .FloorDiv) (fun x y H Q => ∃ n m : Nat, x = .int (n : Int) ∧ y = .int (m : Int) ∧ (0 < m ∧ m < 2 ^ 8999) ∧ Q (.int ((n / m : Nat) : Int)) H) := by
  intro pins s σ H x y v u Q I rx ry h
  obtain ⟨n, m, rfl, rfl, ⟨c1, c2⟩, q⟩ := h
  rw [Int.natCast_ediv] at q
  refine op_fdivW pins s σ H _ _ v u Q I rx ry ⟨_, _, rfl, rfl, wide_div (b := 8999) (by omega) ?_ (by decide) (by decide), q⟩
  simpa using c2
theorem on_mod : OpR X (binaryOp .Mod) (fun x y H Q => ∃ n m : Nat, x = .int (n : Int) ∧ y = .int (m : Int) ∧ (0 < m) ∧ Q (.int ((n % m : Nat) : Int)) H) := by
  intro pins s σ H x y v u Q I rx ry h
  obtain ⟨n, m, rfl, rfl, c, q⟩ := h
  rw [Int.natCast_emod] at q
  exact op_mod pins s σ H _ _ v u Q I rx ry ⟨_, _, rfl, rfl, show (0 : Int) < (m : Int) by have : 0 < m := c; omega, q⟩
end
end LaneX
set_option Elab.async false
set_option linter.all false
set_option maxRecDepth 100000
set_option maxHeartbeats 4000000
namespace LaneX
open PySem PySem.Spec PyProof.Rows L2

/-! ### defs, methods, classes by their names -/
section
variable (P : Program) (w : World) (K : PySem.W.Frag) (mg : Str → Option Value) (base : Heap)
/-- the def x keeps the promise sp at level k -/
structure Dn (k : Nat) (x : Str) (ps : List Str) (sp : Sp) : Prop where
  ex : ∃ (f : Addr) (fd : FuncData), mg x = some (.ref f) ∧ PySem.W.keepIn K (.ref f) = true ∧ Binds K fd ps [] ∧ FnOk P w K mg base CX0 k f fd ps sp
/-- the method m of the class at C -/
structure Mn (k : Nat) (C : Addr) (m : Str) (ps : List Str) (sp : Sp) : Prop where
  cl : Cls K C
  ex : ∃ (f : Addr) (fd : FuncData), Meth K C m f ∧ Binds K fd ps [] ∧ FnOk P w K mg base CX0 k f fd ps sp
/-- the class x at C, made by its __init__ -/
structure Kn (k : Nat) (C : Addr) (x : Str) (ps : List Str) (sp : Sp) : Prop where
  gl : mg x = some (.ref C)
  ex : ∃ (f : Addr) (fd : FuncData), Mk K C f ∧ Binds K fd ps [] ∧ FnOk P w K mg base CX0 k f fd ps sp
end
section
variable {X : Cx} {k j : Nat} {x m : Str} {ps : List Str} {sp : Sp} {C : Addr} {p pos apos : Pos} {e o : Expr} {es : List Expr} {t : TA} {to : TE}
theorem pe_d (D : Dn X.prog X.w X.K X.mg X.base k x ps sp) (hr : Room j X.A) (ha : PA X (e :: es) t) (hk : k ≤ j := by decide) (hg : Gl X x := by rfl) (hdb : (x == ("__debug__" : Str)) = false := by decide)
    (he : starEach (e :: es) X.env = (false, eval e X.env) :: starEach es X.env := by rfl) (hpl : (backTo pos (starEach es X.env)).any (·.1) = false := by rfl) :
    PE X (.Call (.Name x p) (e :: es) [] pos) (tCall sp [] E0 t) := by
  obtain ⟨f, fd, h1, h2, h3, h4⟩ := D.ex
  exact pe_call h4 (hr.mono hk) hg h1 h2 h3 .nil pass0 ha hdb he hpl
theorem pe_k (D : Kn X.prog X.w X.K X.mg X.base k C x ps sp) (hr : Room j X.A) (ha : PA X (e :: es) t) (hk : k + 1 ≤ j := by decide) (hg : Gl X x := by rfl) (hdb : (x == ("__debug__" : Str)) = false := by decide)
    (he : starEach (e :: es) X.env = (false, eval e X.env) :: starEach es X.env := by rfl) (hpl : (backTo pos (starEach es X.env)).any (·.1) = false := by rfl) :
    PE X (.Call (.Name x p) (e :: es) [] pos) (tMake C sp [] E0 t) := by
  obtain ⟨f, fd, h1, h3, h4⟩ := D.ex
  exact pe_make h1 h4 (hr.mono hk) hg D.gl h3 .nil pass0 ha hdb he hpl
theorem pe_m {pl : Sem Bool} (ho : PE X o to) (D : Mn X.prog X.w X.K X.mg X.base k C m ps sp) (hr : Room j X.A) (ha : PA X (e :: es) t) (hk : k ≤ j := by decide)
    (hst : starEach (e :: es) X.env = (false, eval e X.env) :: starEach es X.env := by rfl) (hpl : (backTo pos (starEach es X.env)).any (·.1) = false := by rfl)
    (ht : eval (.Call (.Attribute o m apos) (e :: es) [] pos) X.env = (do
      let ov ← eval o X.env
      standAt apos.atName
      let (f, first) ← holding [ov] (getMethod ov m pl)
      callWith pos f first (backTo pos (starEach (e :: es) X.env)) (backToKw pos (keywordEach [] X.env))) := by rfl) :
    PE X (.Call (.Attribute o m apos) (e :: es) [] pos) (tMeth C m sp [] E0 to t) := by
  obtain ⟨f, fd, h1, h3, h4⟩ := D.ex
  exact pe_meth ho D.cl h1 h4 (hr.mono hk) h3 .nil pass0 ha hst hpl ht
theorem pe_m0 {pl : Sem Bool} (ho : PE X o to) (D : Mn X.prog X.w X.K X.mg X.base k C m ps sp) (hr : Room j X.A) (hk : k ≤ j := by decide)
    (ht : eval (.Call (.Attribute o m apos) [] [] pos) X.env = (do
      let ov ← eval o X.env
      standAt apos.atName
      let (f, first) ← holding [ov] (getMethod ov m pl)
      callWith pos f first (backTo pos (starEach [] X.env)) (backToKw pos (keywordEach [] X.env))) := by rfl) :
    PE X (.Call (.Attribute o m apos) [] [] pos) (tMeth C m sp [] E0 to tNil) := by
  obtain ⟨f, fd, h1, h3, h4⟩ := D.ex
  exact pe_meth0 ho D.cl h1 h4 (hr.mono hk) h3 .nil pass0 ht
end
/-- a def of the text (no defaults) -/
abbrev FnP (K : PySem.W.Frag) (x qual : Str) (st : Stmt) (f : Addr) (fd : FuncData) : Prop := FunD K x qual (defArgs st) (defBody st) (defScope st) [] [] f fd
section
variable {P : Program} {w : World} {K : PySem.W.Frag} {mg : Str → Option Value} {base : Heap}
theorem fnok {x qual : Str} {st : Stmt} {f : Addr} {fd : FuncData} {N ps : List Str} {k : Nat} {sp : Sp} (F : FnP K x qual st f fd) (S : FnScope N ps (defScope st)) (len : ∀ vs H Q E, sp vs H Q E → vs.length = ps.length)
    (hbody : ∀ (cdv : Value) (A : Around) (outer : List Env) (s : Shared) (H : Hp) (vs : List V) (Q : VK) (E : XK), Room k (A.deeper (envOfC qual (defScope st) s.heap.objs.size f cdv)) → sp vs H Q E →
      ∃ t, PSs (cxOf CX0 P w K mg base N qual (defScope st) f cdv A outer s H E).nox (defBody st) t ∧ t { nx := fun _ H' => Q .non H', rt := Q } (start N vs) H) : FnOk P w K mg base CX0 (k + 1) f fd ps sp := by
  refine F.ok S len (fun cdv A outer s H vs Q E hr h => ?_)
  obtain ⟨t, h1, h2⟩ := hbody cdv A outer s H vs Q E hr h
  exact ⟨t, PSs.nox h1, h2⟩
end

/-! ### lists and tuples alike -/
def Sq (K : PySem.W.Frag) (H : Hp) (a : Addr) (xs : List V) : Prop := SqL K H a xs ∨ SqT K H a xs
def iSeq (K : PySem.W.Frag) (tl : TE) : TI := fun σ H R => tl σ H fun x H1 => ∃ (a : Addr) (xs : List V), x = .ref a ∧ ((SqL K H1 a xs ∧ R (Itl K a) H1) ∨ (SqT K H1 a xs ∧ R (Itt K a) H1))
theorem pi_seq {X : Cx} {tg : Expr} {l : Expr} {tl : TE} (hl : PE X l tl) : PI X tg l (iSeq X.K tl) := by
  refine ⟨fun pins s σ H R I h => ?_⟩
  refine thn (hl.run pins s σ H _ I h) fun v s1 hh => ?_
  obtain ⟨x, H1, I1, r1, a, xs, e, q⟩ := hh
  subst e
  cases r1
  have fp : ∀ b ∈ [s1.heap.objs.size], FpOk X pins H1 b := fun b hb => by
    have e : b = s1.heap.objs.size := by simpa using hb
    subst e
    exact I1.fpOk (Nat.le_refl _) (I1.hok.fresh (Nat.le_refl _))
  rcases q with ⟨hq, q⟩ | ⟨hq, q⟩
  · obtain ⟨its, rv, p, hz⟩ := I1.list hq
    exact wpAny_pyIter_list p.isList ⟨_, _, _, _, H1, rfl, I1.kept (t' := s1.toks) fun b o e => Heap.get?_push_of_some _ e, turn_list a _, ⟨_, Heap.get?_push_size _ rfl, rfl, rfl⟩, fp, q⟩
  · obtain ⟨its, rv, p, hz⟩ := I1.tuple hq
    exact wpAny_pyIter_tuple (show s1.heap.IsTuple a its.toArray from p) ⟨_, _, _, _, H1, rfl, I1.kept (t' := s1.toks) fun b o e => Heap.get?_push_of_some _ e, turn_tuple a _, ⟨_, Heap.get?_push_size _ rfl, rfl, rfl⟩, fp, q⟩

/-! ### heaps: all is kept; all but dicts is kept -/
/-- all but a dict whose first key is a text (the pen) -/
def notD : HO → Bool
  | .dK ((.inr _, _) :: _) => false
  | _ => true
structure Kp (H H' : Hp) : Prop where
  keep : ∀ b o, H b = some o → notD o = true → H' b = some o
  free : ∀ b, H' b = none → H b = none
instance {H H' : Hp} : CoeFun (Kp H H') (fun _ => ∀ b o, H b = some o → notD o = true → H' b = some o) := ⟨Kp.keep⟩
theorem Kp.refl (H : Hp) : Kp H H := ⟨fun _ _ h _ => h, fun _ h => h⟩
theorem Kp.of {H H' : Hp} (s : Same H H') : Kp H H' := ⟨fun b o h _ => s b o h, fun b h => s.free h⟩
theorem Kp.trans {H H1 H2 : Hp} (a : Kp H H1) (b : Kp H1 H2) : Kp H H2 := ⟨fun c o h n => b.keep c o (a.keep c o h n) n, fun c h => a.free c (b.free c h)⟩
theorem upd_new {H : Hp} {p a : Addr} {o u : HO} (n : H p = none) (h : H a = some u) : upd H p o a = some u := (upd_ne (ne_of_none h n)).trans h
theorem same_new {H H' : Hp} {p : Addr} {o : HO} (s : Same H H') (n : H' p = none) : Same H (upd H' p o) := fun b u e => upd_new n (s b u e)
theorem same_new0 {H : Hp} {p : Addr} {o : HO} (n : H p = none) : Same H (upd H p o) := fun b u e => upd_new n e
/-- a list of one's own is written -/
theorem same_put {H H' : Hp} {p : Addr} {o : HO} (s : Same H H') (n : H p = none) : Same H (upd H' p o) := fun b u e => (upd_ne (ne_of_none e n)).trans (s b u e)
theorem upd_free {H : Hp} {p b : Addr} {o : HO} (h : upd H p o b = none) : H b = none := by
  by_cases e : b = p
  · subst e; rw [upd_same] at h; cases h
  · rw [upd_ne e] at h; exact h
theorem kp_new {H H' : Hp} {p : Addr} {o : HO} (s : Kp H H') (n : H' p = none) : Kp H (upd H' p o) := ⟨fun b u e q => upd_new n (s.keep b u e q), fun b h => s.free b (upd_free h)⟩
theorem kp_put {H H' : Hp} {p : Addr} {o : HO} (s : Kp H H') (n : H p = none) : Kp H (upd H' p o) := ⟨fun b u e q => (upd_ne (ne_of_none e n)).trans (s.keep b u e q), fun b h => s.free b (upd_free h)⟩
theorem same_l {H H' : Hp} (s : Same H H') {a : Addr} {xs : List V} (h : H a = some (.lst xs)) : H' a = some (.lst xs) := s _ _ h
theorem same_sq {K : PySem.W.Frag} {H H' : Hp} (s : Same H H') {a : Addr} {xs : List V} (h : Sq K H a xs) : Sq K H' a xs := by
  rcases h with h | h
  · exact .inl (s.seq h)
  · refine .inr ?_
    rcases h with (h | ⟨o, h⟩) | h
    · exact .inl (.inl (s _ _ h))
    · exact .inl (.inr ⟨o, s _ _ h⟩)
    · exact .inr h
theorem kp_sqL {K : PySem.W.Frag} {H H' : Hp} (s : Kp H H') {a : Addr} {xs : List V} (h : SqL K H a xs) : SqL K H' a xs := by
  rcases h with (h | ⟨o, h⟩) | h
  · exact .inl (.inl (s _ _ h rfl))
  · exact .inl (.inr ⟨o, s _ _ h rfl⟩)
  · exact .inr h
theorem kp_sqT {K : PySem.W.Frag} {H H' : Hp} (s : Kp H H') {a : Addr} {xs : List V} (h : SqT K H a xs) : SqT K H' a xs := by
  rcases h with (h | ⟨o, h⟩) | h
  · exact .inl (.inl (s _ _ h rfl))
  · exact .inl (.inr ⟨o, s _ _ h rfl⟩)
  · exact .inr h
theorem kp_sq {K : PySem.W.Frag} {H H' : Hp} (s : Kp H H') {a : Addr} {xs : List V} (h : Sq K H a xs) : Sq K H' a xs := h.elim (fun h => .inl (kp_sqL s h)) fun h => .inr (kp_sqT s h)
theorem Sq.l {K : PySem.W.Frag} {H : Hp} {a : Addr} {xs : List V} (h : H a = some (.lst xs)) : Sq K H a xs := .inl (SqL.of h)
theorem Sq.t {K : PySem.W.Frag} {H : Hp} {a : Addr} {xs : List V} (h : H a = some (.tup xs)) : Sq K H a xs := .inr (SqT.of h)

/-- a tracked list or tuple -/
def Tq (H : Hp) (a : Addr) (xs : List V) : Prop := H a = some (.lst xs) ∨ H a = some (.tup xs)
theorem Tq.sq {K : PySem.W.Frag} {H : Hp} {a : Addr} {xs : List V} (h : Tq H a xs) : Sq K H a xs := h.elim Sq.l Sq.t
theorem Tq.l {H : Hp} {a : Addr} {xs : List V} (h : H a = some (.lst xs)) : Tq H a xs := .inl h
theorem Tq.t {H : Hp} {a : Addr} {xs : List V} (h : H a = some (.tup xs)) : Tq H a xs := .inr h
theorem same_tq {H H' : Hp} (s : Same H H') {a : Addr} {xs : List V} (h : Tq H a xs) : Tq H' a xs := h.elim (fun h => .inl (s _ _ h)) fun h => .inr (s _ _ h)
theorem kp_tq {H H' : Hp} (s : Kp H H') {a : Addr} {xs : List V} (h : Tq H a xs) : Tq H' a xs := h.elim (fun h => .inl (s _ _ h rfl)) fun h => .inr (s _ _ h rfl)
theorem Tq.new {H : Hp} {a p : Addr} {o : HO} {xs : List V} (h : Tq H a xs) (n : H p = none) : Tq (upd H p o) a xs := h.elim (fun h => .inl (upd_new n h)) fun h => .inr (upd_new n h)
theorem Tq.sqlt {K : PySem.W.Frag} {H : Hp} {a : Addr} {xs : List V} (h : Tq H a xs) : SqL K H a xs ∨ SqT K H a xs := h.elim (fun h => .inl (SqL.of h)) fun h => .inr (SqT.of h)
theorem Tq.ty {K : PySem.W.Frag} {H : Hp} {a : Addr} {xs : List V} (h : Tq H a xs) : ∃ t, TyX K H (.ref a) t ∧ PySem.W.kitAny K t [.type "list", .type "tuple"] = some true := by
  rcases h with h | h
  · exact ⟨_, .base (.lst h), kitAny_cons (b := true) (kit_ty (by decide +kernel)) (fun z => by cases z) (fun _ => rfl)⟩
  · exact ⟨_, .base (.tup h), kitAny_cons (b := false) (kit_ty (by decide +kernel)) (fun _ => kitAny_cons (b := true) (kit_ty (by decide +kernel)) (fun z => by cases z) (fun _ => rfl)) (fun z => by cases z)⟩

theorem same_free {H H' : Hp} (e : Same H H') {l : Addr} (h : H' l = none) : H l = none := e.free h
theorem map_get {α : Type} {g : α → V} {l : List α} {i : Nat} {x : V} (h : (l.map g)[i]? = some x) : ∃ n, l[i]? = some n ∧ x = g n := by
  rw [List.getElem?_map] at h
  cases e : l[i]? with
  | none => rw [e] at h; cases h
  | some n => rw [e] at h; exact ⟨n, rfl, (Option.some.inj h).symm⟩
/-! ### a for, a comprehension over a list or tuple, over a range -/
def ForR (g : TG) (tb : TS) (D : Ends) (σ : L2.St) : It → Hp → Prop := fun J H => ∃ W : Nat → Nat → L2.St → Hp → Prop, (∃ m, W 0 m σ H) ∧ ∀ i m σ H, W i m σ H →
  (J.stop i H ∧ D.nx σ H) ∨ (J.go i H ∧ ∃ N : L2.St → Hp → Prop, (∀ σ' H', N σ' H' → ∃ m', m' < m ∧ W (i + 1) m' σ' H') ∧ ∀ x H', J.yld i H x H' → g x σ H' fun σ2 H2 => tb { D with nx := N, ct := N, bk := D.nx } σ2 H2)
def LcR (g : TG) (tt : TT) (te : TE) (vs : List Nat) (σ : L2.St) (Q : Addr → Hp → Prop) : It → Hp → Prop := fun J H1 => ∀ D, H1 D = none → ∃ W : Nat → Nat → Hp → Prop, (∃ m, W 0 m (upd H1 D (.lst []))) ∧ ∀ i m H, W i m H →
  (J.stop i H ∧ Q D H) ∨ (J.go i H ∧ ∃ Nx : Hp → Prop, (∀ H', Nx H' → ∃ m', m' < m ∧ W (i + 1) m' H') ∧ ∀ x H', J.yld i H x H' → g x (wipe σ vs) H' fun σ2 H2 => wipe σ2 vs = wipe σ vs ∧ tt σ2 H2 fun b H3 =>
    if b = true then te σ2 H3 fun y H4 => ∃ acc, H4 D = some (.lst acc) ∧ acc.length < sizeLine ∧ Nx (upd H4 D (.lst (acc ++ [y]))) else Nx H3)
theorem for_seq {K : PySem.W.Frag} {a : Addr} {xs : List V} {g : TG} {tb : TS} {D : Ends} {σ : L2.St} {H : Hp} (hS : Sq K H a xs) (Pv : Nat → L2.St → Hp → Prop) (h0 : Pv 0 σ H) (hk : ∀ i σ' H', Pv i σ' H' → Kp H H')
    (hs : ∀ i x σ H, xs[i]? = some x → Pv i σ H → g x σ H fun σ2 H2 => tb { D with nx := Pv (i + 1), ct := Pv (i + 1), bk := D.nx } σ2 H2) (hd : ∀ σ H, Pv xs.length σ H → D.nx σ H) :
    ∃ (a' : Addr) (xs' : List V), V.ref a = .ref a' ∧ ((SqL K H a' xs' ∧ ForR g tb D σ (Itl K a') H) ∨ (SqT K H a' xs' ∧ ForR g tb D σ (Itt K a') H)) := by
  refine ⟨a, xs, rfl, ?_⟩
  rcases hS with h | h
  · exact .inl ⟨h, for_it walk_list Pv h0 (fun i σ' H' hi p => kp_sqL (hk i σ' H' p) h) (fun i x σ' H' H'' _ p y => by obtain ⟨e, hx⟩ := y; subst e; exact hs i x σ' _ hx p) hd⟩
  · exact .inr ⟨h, for_it walk_tup Pv h0 (fun i σ' H' hi p => kp_sqT (hk i σ' H' p) h) (fun i x σ' H' H'' _ p y => by obtain ⟨e, hx⟩ := y; subst e; exact hs i x σ' _ hx p) hd⟩
/-- .. where what is walked alone must stay -/
theorem for_sq2 {K : PySem.W.Frag} {a : Addr} {xs : List V} {g : TG} {tb : TS} {D : Ends} {σ : L2.St} {H : Hp} (hS : Tq H a xs) (Pv : Nat → L2.St → Hp → Prop) (h0 : Pv 0 σ H) (hk : ∀ i σ' H', Pv i σ' H' → ∀ o, H a = some o → H' a = some o)
    (hs : ∀ i x σ H, xs[i]? = some x → Pv i σ H → g x σ H fun σ2 H2 => tb { D with nx := Pv (i + 1), ct := Pv (i + 1), bk := D.nx } σ2 H2) (hd : ∀ σ H, Pv xs.length σ H → D.nx σ H) :
    ∃ (a' : Addr) (xs' : List V), V.ref a = .ref a' ∧ ((SqL K H a' xs' ∧ ForR g tb D σ (Itl K a') H) ∨ (SqT K H a' xs' ∧ ForR g tb D σ (Itt K a') H)) := by
  refine ⟨a, xs, rfl, ?_⟩
  rcases hS with h | h
  · exact .inl ⟨SqL.of h, for_it walk_list Pv h0 (fun i σ' H' hi p => SqL.of (hk i σ' H' p _ h)) (fun i x σ' H' H'' _ p y => by obtain ⟨e, hx⟩ := y; subst e; exact hs i x σ' _ hx p) hd⟩
  · exact .inr ⟨SqT.of h, for_it walk_tup Pv h0 (fun i σ' H' hi p => SqT.of (hk i σ' H' p _ h)) (fun i x σ' H' H'' _ p y => by obtain ⟨e, hx⟩ := y; subst e; exact hs i x σ' _ hx p) hd⟩
/-- what stood under the loop stands, by what stood ahead -/
theorem stay_of {H HB H2 : Hp} {a : Addr} {u : HO} (h : H a = some u) (s0 : Same H HB) (s2 : ∀ c o, H c = some o → H2 c = some o) : ∀ o, HB a = some o → H2 a = some o := fun o ho => by
  rw [s0 _ _ h] at ho
  cases ho
  exact s2 _ _ h
/-- Pv speaks of the heap and the new list at D -/
theorem lc_seq {K : PySem.W.Frag} {a : Addr} {xs : List V} {g : TG} {tt : TT} {te : TE} {vs : List Nat} {σ : L2.St} {H : Hp} {Q : Addr → Hp → Prop} (hS : Sq K H a xs) (Pv : Addr → Nat → Hp → Prop) (h0 : ∀ D, H D = none → Pv D 0 (upd H D (.lst [])))
    (hk : ∀ D i H', H D = none → Pv D i H' → Kp H H')
    (hs : ∀ D i x H', H D = none → xs[i]? = some x → Pv D i H' → g x (wipe σ vs) H' fun σ2 H2 => wipe σ2 vs = wipe σ vs ∧ tt σ2 H2 fun b H3 =>
      if b = true then te σ2 H3 fun y H4 => ∃ acc, H4 D = some (.lst acc) ∧ acc.length < sizeLine ∧ Pv D (i + 1) (upd H4 D (.lst (acc ++ [y]))) else Pv D (i + 1) H3) (hd : ∀ D H', H D = none → Pv D xs.length H' → Q D H') :
    ∃ (a' : Addr) (xs' : List V), V.ref a = .ref a' ∧ ((SqL K H a' xs' ∧ LcR g tt te vs σ Q (Itl K a') H) ∨ (SqT K H a' xs' ∧ LcR g tt te vs σ Q (Itt K a') H)) := by
  refine ⟨a, xs, rfl, ?_⟩
  rcases hS with h | h
  · exact .inl ⟨h, fun D hD => lc_it walk_list (Pv D) (h0 D hD) (fun i H' _ p => kp_sqL (hk D i H' hD p) h) (fun i x H' H'' _ p y => by obtain ⟨e, hx⟩ := y; subst e; exact hs D i x _ hD hx p) fun H' p => hd D H' hD p⟩
  · exact .inr ⟨h, fun D hD => lc_it walk_tup (Pv D) (h0 D hD) (fun i H' _ p => kp_sqT (hk D i H' hD p) h) (fun i x H' H'' _ p y => by obtain ⟨e, hx⟩ := y; subst e; exact hs D i x _ hD hx p) fun H' p => hd D H' hD p⟩
/-! ### pure comprehensions -/
theorem br {b : Bool} {A B : Prop} (h1 : b = true → A) (h2 : b = false → B) : if b = true then A else B := by
  cases b with
  | true => exact iteT (h1 rfl)
  | false => exact iteF (h2 rfl)
theorem take_succ {α : Type} {l : List α} {i : Nat} {x : α} (h : l[i]? = some x) : l.take (i + 1) = l.take i ++ [x] := by
  rw [List.take_succ, h]
  rfl
theorem size6 {n : Nat} (h : n ≤ 1000000) : n < sizeLine := by rw [sizeLine_eq]; omega
theorem size6' {n : Nat} (h : n ≤ 1000000) : n ≤ sizeLine := Nat.le_of_lt (size6 h)
section
variable {α : Type} {K : PySem.W.Frag} {g : TG} {tt : TT} {te : TE} {vs : List Nat} {σ : L2.St} {H : Hp} {Q : Addr → Hp → Prop}
/-- one turn of a comprehension: all is kept, the item is v n if p n -/
def LcT (g : TG) (tt : TT) (te : TE) (vs : List Nat) (σ : L2.St) (x : V) (H' : Hp) (p : Bool) (v : V) : Prop :=
  ∀ (Z : VK) (Nx : Hp → Prop), (p = true → ∀ H4, Same H' H4 → Z v H4) → (p = false → ∀ H4, Same H' H4 → Nx H4) →
    g x (wipe σ vs) H' fun σ2 H2 => wipe σ2 vs = wipe σ vs ∧ tt σ2 H2 fun b H3 => if b = true then te σ2 H3 Z else Nx H3
theorem lc_turn {l : List α} {ι : α → V} {p : α → Bool} {v : α → V} (hlen : l.length ≤ 1000000) {D : Addr} {i : Nat} {n : α} {H' : Hp} (hD : H D = none) (hn : l[i]? = some n) (s : Same H H') (hH : H' D = some (.lst (((l.take i).filter p).map v)))
    (hs : LcT g tt te vs σ (ι n) H' (p n) (v n)) :
    g (ι n) (wipe σ vs) H' fun σ2 H2 => wipe σ2 vs = wipe σ vs ∧ tt σ2 H2 fun b H3 =>
      if b = true then te σ2 H3 fun y H4 => ∃ acc, H4 D = some (.lst acc) ∧ acc.length < sizeLine ∧ (Same H (upd H4 D (.lst (acc ++ [y]))) ∧ upd H4 D (.lst (acc ++ [y])) D = some (.lst (((l.take (i + 1)).filter p).map v))) else (Same H H3 ∧ H3 D = some (.lst (((l.take (i + 1)).filter p).map v))) := by
  have e1 := take_succ hn
  refine hs _ _ (fun hp H4 s4 => ⟨_, s4 _ _ hH, ?_, same_put (s.trans s4) hD, ?_⟩) (fun hp H4 s4 => ⟨s.trans s4, ?_⟩)
  · refine size6 (Nat.le_trans ?_ hlen)
    rw [List.length_map]
    exact Nat.le_trans (List.length_filter_le _ _) (by rw [List.length_take]; omega)
  · rw [upd_same, e1, List.filter_append, List.map_append]
    simp [hp]
  · rw [s4 _ _ hH, e1, List.filter_append, List.map_append]
    simp [hp]
theorem lc_pure {a : Addr} (l : List α) (ι : α → V) (p : α → Bool) (v : α → V) (hS : Tq H a (l.map ι)) (hlen : l.length ≤ 1000000) (hs : ∀ n H', n ∈ l → Same H H' → LcT g tt te vs σ (ι n) H' (p n) (v n))
    (hd : ∀ D H', H D = none → Same H H' → H' D = some (.lst ((l.filter p).map v)) → Q D H') :
    ∃ (a' : Addr) (xs' : List V), V.ref a = .ref a' ∧ ((SqL K H a' xs' ∧ LcR g tt te vs σ Q (Itl K a') H) ∨ (SqT K H a' xs' ∧ LcR g tt te vs σ Q (Itt K a') H)) := by
  refine lc_seq hS.sq (fun D i H' => Same H H' ∧ H' D = some (.lst (((l.take i).filter p).map v))) (fun D hD => ⟨same_new0 hD, upd_same⟩) (fun D i H' hD hp => Kp.of hp.1) (fun D i x H' hD hx hp => ?_) (fun D H' hD hp => ?_)
  · obtain ⟨n, hn, rfl⟩ := map_get hx
    exact lc_turn hlen hD hn hp.1 hp.2 (hs n H' (List.mem_of_getElem? hn) hp.1)
  · obtain ⟨h1, h2⟩ := hp
    rw [List.length_map, List.take_length] at h2
    exact hd D H' hD h1 h2
theorem range_get {n i : Nat} (h : i < n) : (List.range n)[i]? = some i := by simp [h]
/-- .. over range(n) -/
theorem lc_pureR {n : Nat} (p : Nat → Bool) (v : Nat → V) (hlen : n ≤ 1000000) (hs : ∀ i H', i < n → Same H H' → LcT g tt te vs σ (vN i) H' (p i) (v i))
    (hd : ∀ D H', H D = none → Same H H' → H' D = some (.lst (((List.range n).filter p).map v)) → Q D H') : LcR g tt te vs σ Q (Itr 0 n) H := by
  intro D hD
  refine lc_range (fun i H' => Same H H' ∧ H' D = some (.lst ((((List.range n).take i).filter p).map v))) ⟨same_new0 hD, by simpa using upd_same⟩ (fun i H' hi hp => ?_) (fun H' hp => ?_)
  · have q := lc_turn (ι := vN) (l := List.range n) (by simpa using hlen) hD (range_get hi) hp.1 hp.2 (hs i H' hi hp.1)
    rw [show (0 : Int) + (i : Int) = (i : Int) by omega]
    exact q
  · obtain ⟨h1, h2⟩ := hp
    rw [List.take_of_length_le (by simp)] at h2
    exact hd D H' hD h1 h2
end
section
variable {X : Cx}
/-- sorted(xs), naturals -/
theorem cr_sortedN : CallR X (.builtin "sorted") (fun xs H Q => ∃ (a : Addr) (ns : List Nat), xs = [.ref a] ∧ H a = some (.lst (ns.map vN)) ∧ ∀ p, H p = none → Q (.ref p) (upd H p (.lst ((srt ns).map vN)))) := by
  intro pins s σ H xs us Q I r h
  obtain ⟨a, ns, rfl, hS, h⟩ := h
  have em : ∀ l : List Nat, l.map vN = (l.map Int.ofNat).map V.int := fun l => by rw [List.map_map]; rfl
  refine cr_sortedI pins s σ H _ us Q I r ⟨a, ns.map Int.ofNat, rfl, SqL.of (by rw [← em]; exact hS), fun ns' p hp hs hn => ?_⟩
  have e : ns' = (srt ns).map Int.ofNat := by
    have e1 : ns' = (ns'.map Int.toNat).map Int.ofNat := by
      rw [List.map_map]
      have : ∀ z ∈ ns', (Int.ofNat ∘ Int.toNat) z = z := fun z hz => by
        obtain ⟨k, _, hk⟩ := List.mem_map.mp (hp.mem_iff.mp hz)
        subst hk
        rfl
      rw [List.map_congr_left this, List.map_id']
    have e2 : ns'.map Int.toNat = srt ns := by
      refine srt_of ?_ ?_
      · have := hp.map Int.toNat
        rw [List.map_map] at this
        have e3 : ns.map (Int.toNat ∘ Int.ofNat) = ns := by
          exact (List.map_congr_left (g := id) (fun z _ => rfl)).trans (List.map_id _)
        rw [e3] at this
        exact this
      · rw [List.pairwise_map]
        exact hs.imp fun h => by omega
    rw [← e2]
    exact e1
  rw [e, ← em]
  exact h p hn
end
/-! ### items by place, ranges -/
section
variable {X : Cx}
def rIxQ : R2 := fun x y H Q => ∃ (p : Addr) (xs : List V) (n : Nat) (v : V), x = .ref p ∧ y = .int (n : Int) ∧ Tq H p xs ∧ xs[n]? = some v ∧ Q v H
theorem ix_q : IxR X rIxQ := by
  intro value slice pins s σ H x y v u Q I rx ry h hs
  obtain ⟨p, xs, n, z, rfl, rfl, hq, he, q⟩ := h
  refine ix_seq value slice pins s σ H _ _ v u Q I rx ry ?_ hs
  rcases hq with hq | hq
  · exact .inl ⟨p, xs, n, z, rfl, rfl, SqL.of hq, atI_nat he, q⟩
  · exact .inr (.inl ⟨p, xs, n, z, rfl, rfl, SqT.of hq, atI_nat he, q⟩)
theorem call_lenQ : CallR X (.builtin "len") (fun xs H Q => ∃ (p : Addr) (ys : List V), xs = [.ref p] ∧ Tq H p ys ∧ Q (.int (ys.length : Nat)) H) := by
  intro pins s σ H xs us Q I r h
  obtain ⟨p, ys, rfl, hq, q⟩ := h
  exact call_len_seq pins s σ H _ us Q I r ⟨p, ys, rfl, hq.sqlt, q⟩
theorem call_listQ : CallR X (.type "list") (fun xs H Q => ∃ (p : Addr) (ys : List V), xs = [.ref p] ∧ Tq H p ys ∧ ∀ l, H l = none → Q (.ref l) (upd H l (.lst ys))) := by
  intro pins s σ H xs us Q I r h
  obtain ⟨p, ys, rfl, hq, q⟩ := h
  exact call_list_of pins s σ H _ us Q I r ⟨p, ys, rfl, hq.sqlt, q⟩
/-- tuple(xs), xs a list -/
theorem call_tupleQ : CallR X (.type "tuple") (fun xs H Q => ∃ (p : Addr) (ys : List V), xs = [.ref p] ∧ H p = some (.lst ys) ∧ ∀ l, H l = none → Q (.ref l) (upd H l (.tup ys))) := by
  intro pins s σ H xs us Q I r h
  obtain ⟨p, ys, rfl, hq, q⟩ := h
  exact call_tuple_of pins s σ H _ us Q I r ⟨p, ys, rfl, .inl ⟨SqL.of hq, q⟩⟩
end
end LaneX
set_option Elab.async false
set_option linter.all false
set_option maxRecDepth 100000
set_option maxHeartbeats 4000000
namespace LaneX
open PySem PySem.Spec PyProof.Rows L2
/-! ### an operator of an own class, both operands of that class -/
def rOwn (C : Addr) (sp : Sp) : R2 := fun x y H Q => ∃ (a b dx dy : Addr) (fs gs : List (Str × V)), x = .ref a ∧ y = .ref b ∧ H a = some (.ins C dx fs) ∧ H b = some (.ins C dy gs) ∧ sp [.ref a, .ref b] H Q E0
section
variable {X : Cx}
theorem back_of {pins : List (Addr × Obj)} {σ : L2.St} {Q : VK} {v : Value} {s : Shared} (h : EP X pins σ Q v s) : PySem.W.CmpBack (EP X pins σ Q) v s := by
  have h' := h
  obtain ⟨x, H', I, r, q⟩ := h'
  have nn : v ≠ Value.notImplemented := fun z => by
    subst z
    cases x with
    | non => exact absurd (show Value.notImplemented = Value.none from r) (fun z => nomatch z)
    | bl b => exact absurd (show Value.notImplemented = Value.bool b from r) (fun z => nomatch z)
    | int i => obtain ⟨t, z⟩ := (show ∃ t, Value.notImplemented = Value.int i t from r); exact nomatch z
    | str i => obtain ⟨t, z⟩ := (show ∃ t, Value.notImplemented = Value.str i t from r); exact nomatch z
    | byt i => obtain ⟨t, z⟩ := (show ∃ t, Value.notImplemented = Value.bytes i t from r); exact nomatch z
    | flt i => obtain ⟨t, z⟩ := (show ∃ t, Value.notImplemented = Value.float i t from r); exact nomatch z
    | ref a => exact absurd (show Value.notImplemented = Value.ref a from r) (fun z => nomatch z)
    | ty n => exact absurd (show Value.notImplemented = Value.type n from r) (fun z => nomatch z)
  cases v <;> first | exact h | exact absurd rfl nn
theorem op_own {op : Operator} {m : Str} {k j : Nat} {C : Addr} {ps : List Str} {sp : Sp} (hm : m = PySem.dunder op.info.2) (D : Mn X.prog X.w X.K X.mg X.base k C m ps sp) (hc : PySem.W.selfFirst X.K C = true) (hr : Room j X.A) (hk : k ≤ j := by decide) : OpR X (binaryOp op) (rOwn C sp) := by
  intro pins s σ H x y v u Q I rx ry h
  obtain ⟨a, b, dx, dy, fs, gs, rfl, rfl, ha, hb, hsp⟩ := h
  obtain ⟨f, fd, h1, h3, h4⟩ := D.ex
  cases (show v = Value.ref a from rx)
  cases (show u = Value.ref b from ry)
  obtain ⟨mA, O, _⟩ := ins_get I.hok ha
  obtain ⟨od, J, _⟩ := O.look
  obtain ⟨mB, O2, _⟩ := ins_get I.hok hb
  obtain ⟨od2, J2, _⟩ := O2.look
  obtain ⟨mm, F⟩ := I.fr
  subst hm
  refine PySem.W.binop_K F I.mod.kin J J2.type hc h1.at_ h1.fn ?_
  exact wpAny_mono (run_fn h4 (hr.mono hk) h3 .nil pass0 I (vs := [.ref a, .ref b]) (.cons rfl (.cons rfl .nil)) hsp) (fun v s' hq => back_of hq) fun _ _ z => z
end
end LaneX
set_option Elab.async false
set_option linter.all false
set_option maxRecDepth 100000
set_option maxHeartbeats 4000000
namespace LaneX
open PySem PySem.Spec PyProof.Rows L2
/-! ### lists of ints compared -/
theorem dpAll_ints {K : PySem.W.Frag} {H : Hp} : ∀ ns : List Int, DpAll K H (ns.map V.int) (ns.map PyData.int)
  | [] => .nil
  | n :: r => .cons (.int n) (dpAll_ints r)
theorem eqvAll_ints : ∀ ns ms : List Int, PyData.eqvAll (ns.map PyData.int) (ms.map PyData.int) = decide (ns = ms)
  | [], [] => rfl
  | [], _ :: _ => rfl
  | _ :: _, [] => rfl
  | n :: r, m :: q => by
    show (PyData.eqv (.int n) (.int m) && PyData.eqvAll (r.map PyData.int) (q.map PyData.int)) = _
    rw [eqvAll_ints r q]
    show ((n == m) && decide (r = q)) = _
    by_cases h : n = m
    · subst h; simp
    · simp [h]
theorem shaped_tints (ns : List Int) : SeqAt.shaped (.tuple (ns.map PyData.int)) = true := by
  have h := PySem.W.ke_shaped_ints ns
  unfold SeqAt.shaped at h ⊢
  exact h
section
variable {X : Cx}
theorem op_neL (hu : X.A.units + 64 < cLine) : OpR X (compareOp .NotEq) (fun x y H Q => ∃ (a b : Addr) (ns ms : List Int), x = .ref a ∧ y = .ref b ∧ H a = some (.lst (ns.map V.int)) ∧ H b = some (.lst (ms.map V.int)) ∧ Q (.bl (!decide (ns = ms))) H) := by
  intro pins s σ H x y v u Q I rx ry h
  obtain ⟨a, b, ns, ms, rfl, rfl, ha, hb, q⟩ := h
  refine op_neD hu pins s σ H _ _ v u Q I rx ry ⟨.list (ns.map .int), .list (ms.map .int), .lst (SqL.of ha) (dpAll_ints ns), .lst (SqL.of hb) (dpAll_ints ms), PySem.W.ke_shaped_ints ns, PySem.W.ke_shaped_ints ms, ?_⟩
  show Q (.bl (!PyData.eqvAll (ns.map .int) (ms.map .int))) H
  rw [eqvAll_ints]
  exact q
theorem op_eqL (hu : X.A.units + 64 < cLine) : OpR X (compareOp .Eq) (fun x y H Q => ∃ (a b : Addr) (ns ms : List Int), x = .ref a ∧ y = .ref b ∧ H a = some (.lst (ns.map V.int)) ∧ H b = some (.lst (ms.map V.int)) ∧ Q (.bl (decide (ns = ms))) H) := by
  intro pins s σ H x y v u Q I rx ry h
  obtain ⟨a, b, ns, ms, rfl, rfl, ha, hb, q⟩ := h
  refine op_eqD hu pins s σ H _ _ v u Q I rx ry ⟨.list (ns.map .int), .list (ms.map .int), .lst (SqL.of ha) (dpAll_ints ns), .lst (SqL.of hb) (dpAll_ints ms), PySem.W.ke_shaped_ints ns, PySem.W.ke_shaped_ints ms, ?_⟩
  show Q (.bl (PyData.eqvAll (ns.map .int) (ms.map .int))) H
  rw [eqvAll_ints]
  exact q
theorem vN_ints (l : List Nat) : l.map vN = (l.map Int.ofNat).map V.int := by rw [List.map_map]; rfl
/-- a list of naturals against the empty list -/
theorem op_neE (hu : X.A.units + 64 < cLine) : OpR X (compareOp .NotEq) (fun x y H Q => ∃ (a b : Addr) (ns : List Nat), x = .ref a ∧ y = .ref b ∧ H a = some (.lst (ns.map vN)) ∧ H b = some (.lst []) ∧ Q (.bl (!ns.isEmpty)) H) := by
  intro pins s σ H x y v u Q I rx ry h
  obtain ⟨a, b, ns, rfl, rfl, ha, hb, q⟩ := h
  rw [vN_ints] at ha
  refine op_neL hu pins s σ H _ _ v u Q I rx ry ⟨a, b, _, [], rfl, rfl, ha, hb, ?_⟩
  have e : (!decide (ns.map Int.ofNat = [])) = !ns.isEmpty := by cases ns <;> simp
  rw [e]
  exact q
theorem op_eqE (hu : X.A.units + 64 < cLine) : OpR X (compareOp .Eq) (fun x y H Q => ∃ (a b : Addr) (ns : List Nat), x = .ref a ∧ y = .ref b ∧ H a = some (.lst (ns.map vN)) ∧ H b = some (.lst []) ∧ Q (.bl ns.isEmpty) H) := by
  intro pins s σ H x y v u Q I rx ry h
  obtain ⟨a, b, ns, rfl, rfl, ha, hb, q⟩ := h
  rw [vN_ints] at ha
  refine op_eqL hu pins s σ H _ _ v u Q I rx ry ⟨a, b, _, [], rfl, rfl, ha, hb, ?_⟩
  have e : decide (ns.map Int.ofNat = []) = ns.isEmpty := by cases ns <;> simp
  rw [e]
  exact q
/-- min and max of two naturals -/
theorem call_minN (hc : X.calm = true) : CallR X (.builtin "min") (fun xs H Q => ∃ n m : Nat, xs = [.int (n : Int), .int (m : Int)] ∧ Q (.int ((min n m : Nat) : Int)) H) := by
  intro pins s σ H xs us Q I r h
  obtain ⟨n, m, rfl, q⟩ := h
  refine call_min2 hc pins s σ H _ us Q I r ⟨_, _, rfl, ?_⟩
  have e : (if (m : Int) < (n : Int) then (m : Int) else (n : Int)) = ((min n m : Nat) : Int) := by split <;> omega
  rw [e]
  exact q
/-! ### numbers -/
theorem call_intQ : CallR X (.type "int") (fun xs H Q => ∃ i : Int, xs = [.int i] ∧ Q (.int i) H) := by
  intro pins s σ H xs us Q I r h
  obtain ⟨i, rfl, q⟩ := h
  exact call_int1 pins s σ H _ us Q I r (.inl ⟨i, rfl, q⟩)
theorem call_absN : CallR X (.builtin "abs") (fun xs H Q => ∃ i : Int, xs = [.int i] ∧ Q (.int (i.natAbs : Nat)) H) := by
  intro pins s σ H xs us Q I r h
  obtain ⟨i, rfl, q⟩ := h
  refine call_abs pins s σ H _ us Q I r ⟨i, rfl, ?_⟩
  have e : (if i < 0 then -i else i) = (i.natAbs : Int) := by split <;> omega
  rw [e]
  exact q
theorem on_pow : OpR X (binaryOp .Pow) (fun x y H Q => ∃ n m : Nat, x = .int (n : Int) ∧ y = .int (m : Int) ∧ (n < 2 ^ 64 ∧ m ≤ 1000000) ∧ Q (.int ((n ^ m : Nat) : Int)) H) := by
  intro pins s σ H x y v u Q I rx ry h
  obtain ⟨n, m, rfl, rfl, ⟨c1, c2⟩, q⟩ := h
  refine op_pow pins s σ H _ _ v u Q I rx ry ⟨_, _, rfl, rfl, ⟨by omega, by omega, by simpa using c1⟩, ?_⟩
  rw [Int.natCast_pow] at q
  exact q
/-- an int of any sign, a positive divisor -/
theorem on_modI : OpR X (binaryOp .Mod) (fun x y H Q => ∃ (i : Int) (m : Nat), x = .int i ∧ y = .int (m : Int) ∧ 0 < m ∧ Q (.int ((i % (m : Int)).toNat : Nat)) H) := by
  intro pins s σ H x y v u Q I rx ry h
  obtain ⟨i, m, rfl, rfl, c, q⟩ := h
  have e : (((i % (m : Int)).toNat : Nat) : Int) = i % (m : Int) := by
    have := Int.emod_nonneg i (b := (m : Int)) (by omega)
    omega
  rw [e] at q
  exact op_mod pins s σ H _ _ v u Q I rx ry ⟨_, _, rfl, rfl, show (0 : Int) < (m : Int) by omega, q⟩
end
section
variable {X : Cx}
theorem and_neg (n : Nat) : Builtin.bitAnd (n : Int) (-(n : Int)) = ((lwb n : Nat) : Int) := by
  unfold Builtin.bitAnd lwb
  by_cases h : n = 0
  · subst h
    rfl
  · have h1 : decide (0 ≤ (n : Int)) = true := decide_eq_true (Int.natCast_nonneg _)
    have h2 : decide (0 ≤ -(n : Int)) = false := decide_eq_false (by omega)
    rw [h1, h2]
    show (n : Int) - (((n : Int).toNat &&& (Builtin.bitNot (-(n : Int))).toNat : Nat) : Int) = _
    have e : (Builtin.bitNot (-(n : Int))).toNat = n - 1 := by
      unfold Builtin.bitNot
      omega
    rw [e, Int.toNat_natCast]
    have le : n &&& (n - 1) ≤ n := Nat.and_le_left
    omega
/-- n & -n -/
theorem on_low : OpR X (binaryOp .BitAnd) (fun x y H Q => ∃ n : Nat, x = .int (n : Int) ∧ y = .int (-(n : Int)) ∧ Q (.int ((lwb n : Nat) : Int)) H) := by
  intro pins s σ H x y v u Q I rx ry h
  obtain ⟨n, rfl, rfl, q⟩ := h
  rw [← and_neg] at q
  exact op_and pins s σ H _ _ v u Q I rx ry ⟨_, _, rfl, rfl, q⟩
end
/-! ### the pen -/
def pen (a b c : Str) (lc : Addr) (n m : Nat) : List (Key × V) := [(.inr a, .ref lc), (.inr b, vN n), (.inr c, vN m)]
structure PenN (a b c : Str) : Prop where
  ab : a ≠ b
  ac : a ≠ c
  bc : b ≠ c
def PenAt (a b c : Str) (H : Hp) (p lc : Addr) (N : Nat) : Prop := ∃ (cs : List Int) (n m : Nat), H p = some (.dK (pen a b c lc n m)) ∧ H lc = some (.lst (cs.map V.int)) ∧ n ≤ N
section
variable {a b c : Str} {H H' : Hp} {p lc : Addr} {N M : Nat}
theorem PenAt.mono (h : PenAt a b c H p lc N) (l : N ≤ M) : PenAt a b c H p lc M := by
  obtain ⟨cs, n, m, h1, h2, h3⟩ := h
  exact ⟨cs, n, m, h1, h2, Nat.le_trans h3 l⟩
theorem PenAt.same (h : PenAt a b c H p lc N) (s : Same H H') : PenAt a b c H' p lc N := by
  obtain ⟨cs, n, m, h1, h2, h3⟩ := h
  exact ⟨cs, n, m, s _ _ h1, s _ _ h2, h3⟩
theorem PenAt.ne (h : PenAt a b c H p lc N) {l : Addr} (hl : H l = none) : lc ≠ l ∧ p ≠ l := by
  obtain ⟨cs, n, m, h1, h2, h3⟩ := h
  exact ⟨ne_of_none h2 hl, ne_of_none h1 hl⟩
/-- a list of one's own is written -/
theorem PenAt.put {l : Addr} {o : HO} (h : PenAt a b c H p lc N) (h1 : lc ≠ l ∧ p ≠ l) : PenAt a b c (upd H l o) p lc N := by
  obtain ⟨cs, n, m, g1, g2, g3⟩ := h
  exact ⟨cs, n, m, (upd_ne h1.2).trans g1, (upd_ne h1.1).trans g2, g3⟩
theorem pen_a (n m : Nat) : valV (pen a b c lc n m) (.inr a) = some (.ref lc) := valV_pos rfl
theorem pen_b (hN : PenN a b c) (n m : Nat) : valV (pen a b c lc n m) (.inr b) = some (vN n) := by
  unfold pen valV
  simp [hN.ab]
theorem pen_c (hN : PenN a b c) (n m : Nat) : valV (pen a b c lc n m) (.inr c) = some (vN m) := by
  unfold pen valV
  simp [hN.ac, hN.bc]
theorem pen_pb (hN : PenN a b c) (n m k : Nat) : putK (pen a b c lc n m) (.inr b) (vN k) = pen a b c lc k m := by
  unfold pen putK
  simp [hN.ab, hN.bc.symm]
theorem pen_pc (hN : PenN a b c) (n m k : Nat) : putK (pen a b c lc n m) (.inr c) (vN k) = pen a b c lc n k := by
  unfold pen putK
  simp [hN.ac, hN.bc]
theorem pen_len (n m : Nat) : (pen a b c lc n m).length < sizeLine := by
  show 3 < sizeLine
  decide
end
end LaneX
set_option Elab.async false
set_option linter.all false
set_option maxRecDepth 100000
set_option maxHeartbeats 4000000
namespace LaneX
open PySem PySem.Spec PyProof.Rows L2
/-! ### == and != of own classes -/
section
variable {X : Cx}
/-- an own def, called somewhere below the running body -/
theorem call_below {k : Nat} {f : Addr} {fd : FuncData} {ps : List Str} {sp : Sp} {A : Around} {pins : List (Addr × Obj)} {σ : L2.St} {H : Hp} {s : Shared} {vs : List V} {us : List Value} {Q : VK} (F : FnOk X.prog X.w X.K X.mg X.base CX0 k f fd ps sp) (hb : Binds X.K fd ps [])
    (sb : Sub X k A) (I : Inv X pins σ H s) (r : Vals vs us) (hsp : sp vs H Q E0) : wpAny (model X.prog X.w) A (call (.ref f) us) (EP X pins σ Q) X.xe s := by
  have e0 : Env0 X.prog X.w X.K X.mg X.base A X.stack s H := by
    have e := I.env0
    exact ⟨by rw [sb.fr]; exact e.frames, e.mod, e.bs, e.bsz, e.funs, e.frf, e.hok, e.bare⟩
  have hl := F.len _ _ _ _ hsp
  refine wpAny_call (codeAny_mono (F.run A X.stack s H ⟨us, []⟩ us vs _ E0 sb.room e0 (by
    have := hb s us I.kIn (by have := r.length; simp; omega)
    simpa using this) r hsp) fun r s' hq => ?_)
  cases r with
  | error e => exact pass0 pins σ H s e s' I hq
  | ok fl =>
    cases fl with
    | ret w =>
      obtain ⟨z, H', I', rz, q⟩ := I.after hq
      exact ⟨z, H', I', rz, q⟩
    | next => exact False.elim hq
    | brk => exact False.elim hq
    | cont => exact False.elim hq
/-- x == y, both of the class at C, by its own __eq__ -/
theorem op_eqO {k j : Nat} {C : Addr} {ps : List Str} {sp : Sp} (D : Mn X.prog X.w X.K X.mg X.base k C "__eq__" ps sp) (hr : Room j X.A) (hk : k ≤ j := by decide) : OpR X (compareOp .Eq) (rOwn C sp) := by
  intro pins s σ H x y v u Q I rx ry h
  obtain ⟨a, b, dx, dy, fs, gs, rfl, rfl, ha, hb, hsp⟩ := h
  obtain ⟨f, fd, h1, h3, h4⟩ := D.ex
  cases (show v = Value.ref a from rx)
  cases (show u = Value.ref b from ry)
  obtain ⟨mA, O, _⟩ := ins_get I.hok ha
  obtain ⟨od, J, _⟩ := O.look
  obtain ⟨mB, O2, _⟩ := ins_get I.hok hb
  obtain ⟨od2, J2, _⟩ := O2.look
  obtain ⟨mm, F⟩ := I.fr
  show wpAny (model X.prog X.w) X.A (richCompare .Eq (.ref a) (.ref b)) (EP X pins σ Q) X.xe s
  refine PySem.W.cmp_K (op := .Eq) (tb := .ref C) hr.units0 F I.mod.kin J J2.type (by simp [PySem.W.notFirst]) h1.at_ h1.fn ?_
  exact wpAny_mono (call_below (vs := [.ref a, .ref b]) (us := [Value.ref a, Value.ref b]) h4 h3 ⟨hr.mono hk, rfl⟩ I (.cons rfl (.cons rfl .nil)) hsp) (fun v s' hq => back_of hq) fun _ _ z => z
/-- x != y, both of the class at C, by its own __eq__ (no own __ne__) -/
def rNeO (C : Addr) (sp : Sp) : R2 := fun x y H Q => ∃ (a b dx dy : Addr) (fs gs : List (Str × V)), x = .ref a ∧ y = .ref b ∧ H a = some (.ins C dx fs) ∧ H b = some (.ins C dy gs) ∧ sp [.ref a, .ref b] H (fun v H' => ∃ r : Bool, v = .bl r ∧ Q (.bl (!r)) H') E0
theorem ifBound_ne {M : Model} {A : Around} {E : Value → Shared → Prop} {s : Shared} {K : PySem.W.Frag} {x C : Addr} {ox : Obj} {od : Option Obj} {args : List Value} {Q : Option Value → Shared → Prop} (X : K.In s.heap) (I : PySem.W.InstAt s.heap x ox C od)
    (hs : PySem.W.findIn K (.ref C) "__ne__" = some (some (.builtin "object.__ne__"))) (h : wpAny M A (call (.builtin "object.__ne__") (.ref x :: args)) (fun v => Q (some v)) E s) : wpAny M A (callSpecialIfBound? (.ref x) "__ne__" args) Q E s := by
  simp only [callSpecialIfBound?, bindSpecialIfBound?]
  refine wpAny_holding (wpAny_bind (wpAny_bind (wpAny_bind (I.type.here ((PySem.W.looks_findIn X hs).here ?_)))))
  refine wpAny_bind (wpAny_askSetting (wpAny_ite ?_))
  have fin : wpAny M A (call (.builtin "object.__ne__") ([.ref x] ++ args) >>= fun v => pure (some v)) Q E s := wpAny_bind (wpAny_mono h (fun v s' h' => wpAny_pure h') fun _ _ h' => h')
  split
  · exact wpAny_bind (wpAny_of_eq (F.cmp_object.ne.bind _) (wpAny_pure (by exact fin)))
  · exact wpAny_tryCatch (wpAny_bind (wpAny_of_eq (F.cmp_object.ne.bind _) (wpAny_pure (by exact fin))))
theorem op_neO {k j : Nat} {C : Addr} {ps : List Str} {sp : Sp} (D : Mn X.prog X.w X.K X.mg X.base k C "__eq__" ps sp) (hne : PySem.W.findIn X.K (.ref C) "__ne__" = some (some (.builtin "object.__ne__"))) (hm : PySem.W.mroIn X.K C (.type "object") = some true) (hr : Room j X.A) (hk : k + 1 ≤ j := by decide) :
    OpR X (compareOp .NotEq) (rNeO C sp) := by
  intro pins s σ H x y v u Q I rx ry h
  obtain ⟨a, b, dx, dy, fs, gs, rfl, rfl, ha, hb, hsp⟩ := h
  obtain ⟨f, fd, h1, h3, h4⟩ := D.ex
  cases (show v = Value.ref a from rx)
  cases (show u = Value.ref b from ry)
  obtain ⟨mA, O, _⟩ := ins_get I.hok ha
  obtain ⟨od, J, _⟩ := O.look
  obtain ⟨mB, O2, _⟩ := ins_get I.hok hb
  obtain ⟨od2, J2, _⟩ := O2.look
  have KX := I.kIn
  have r1 : Room (k + 1) X.A := hr.mono hk
  have rb := call_below (A := X.A.in1) h4 h3 ⟨r1.in1, rfl⟩ I (.cons rfl (.cons rfl .nil)) hsp (vs := [.ref a, .ref b]) (us := [Value.ref a, Value.ref b])
  have hu1 : X.A.in1.units < cLine := r1.in1.units0
  have one : wpAny (model X.prog X.w) X.A (tryCompare (.ref a) "__ne__" (.ref b)) (fun r s' => ∃ v, r = some v ∧ EP X pins σ Q v s') X.xe s := by
    unfold tryCompare
    refine wpAny_bind (ifBound_ne KX J hne (wpAny_call (codeAny_call_builtin F.cmp_object.ne.plain F.cmpEntry_ne (PySem.W.check_slot F.cmpKind_ne F.cmpSplit_ne (J.type.andThen (PySem.W.looks_mroIn KX hm)) (F.cmpArgs_ne _ _) ?_))))
    unfold Builtin.«object.__ne__»
    repeat (first | with_reducible refine wpAny_cRoomFor hu1 ?_ | (with_reducible refine PySem.W.ifBound_K KX J h1.at_ h1.fn ?_; refine wpAny_mono rb ?_ ?_) | wp_step)
    · intro v s' hq
      obtain ⟨z, H', I', rz, r, ez, q⟩ := hq
      subst ez
      cases (show v = Value.bool r from rz)
      refine wpAny_bind (wpAny_truthy_bool (wpAny_pure ?_))
      exact wpAny_pure ⟨_, rfl, .bl (!r), H', I', rfl, q⟩
    · exact fun _ _ z => z
  show wpAny (model X.prog X.w) X.A (richCompare .NotEq (.ref a) (.ref b)) (EP X pins σ Q) X.xe s
  unfold richCompare
  simp only [oneThing_ref]
  refine wpAny_holding (wpAny_bind (wpAny_cRoomFor hr.units0 ?_))
  refine wpAny_bind (J.type.here (wpAny_bind (J2.type.here ?_)))
  rw [if_neg (by simp)]
  refine wpAny_bind (wpAny_pure ?_)
  simp only [Bool.false_eq_true, if_false]
  refine wpAny_bind (wpAny_mono one (fun r s' z => ?_) fun _ _ e => e)
  obtain ⟨v, rfl, hq⟩ := z
  exact wpAny_pure hq
/-- x == y of two instances of one class without an own __eq__ -/
def rEqI (C : Addr) : R2 := fun x y H Q => ∃ (a b dx dy : Addr) (fs gs : List (Str × V)), x = .ref a ∧ y = .ref b ∧ a ≠ b ∧ H a = some (.ins C dx fs) ∧ H b = some (.ins C dy gs) ∧ Q (.bl false) H
theorem op_eqI {j : Nat} {C : Addr} (heq : PySem.W.findIn X.K (.ref C) "__eq__" = some (some (.builtin "object.__eq__"))) (hm : PySem.W.mroIn X.K C (.type "object") = some true) (hr : Room j X.A) : OpR X (compareOp .Eq) (rEqI C) := by
  intro pins s σ H x y v u Q I rx ry h
  obtain ⟨a, b, dx, dy, fs, gs, rfl, rfl, hne, ha, hb, q⟩ := h
  cases (show v = Value.ref a from rx)
  cases (show u = Value.ref b from ry)
  obtain ⟨mA, O, _⟩ := ins_get I.hok ha
  obtain ⟨od, J, _⟩ := O.look
  obtain ⟨mB, O2, _⟩ := ins_get I.hok hb
  obtain ⟨od2, J2, _⟩ := O2.look
  have KX := I.kIn
  have one : ∀ {x y : Addr} {ox oy : Obj} {ex ey : Option Obj}, x ≠ y → PySem.W.InstAt s.heap x ox C ex → PySem.W.InstAt s.heap y oy C ey → wpAny (model X.prog X.w) X.A (tryCompare (.ref x) "__eq__" (.ref y)) (fun r s' => r = none ∧ s' = s) X.xe s := by
    intro x y ox oy ex ey nxy Jx Jy
    unfold tryCompare
    refine wpAny_bind (HN.ifBound_objEq KX Jx heq (wpAny_call (codeAny_call_builtin F.cmp_object.eq.plain F.cmpEntry_eq (PySem.W.check_slot F.cmpKind_eq F.cmpSplit_eq (Jx.type.andThen (PySem.W.looks_mroIn KX hm)) (F.cmpArgs_eq _ _) ?_))))
    exact objEq_entry_other nxy Jx.at_ Jy.at_ (by rw [Jx.cls]; intro z; cases z) (wpAny_pure ⟨rfl, rfl⟩)
  show wpAny (model X.prog X.w) X.A (richCompare .Eq (.ref a) (.ref b)) (EP X pins σ Q) X.xe s
  simp only [richCompare, cmpInfo_Eq, oneThing_ref]
  refine wpAny_holding (wpAny_bind (wpAny_cRoomFor hr.units0 ?_))
  refine wpAny_bind (J.type.here (wpAny_bind (J2.type.here ?_)))
  rw [if_neg (by simp)]
  refine wpAny_bind (wpAny_pure ?_)
  simp only [Bool.false_eq_true, if_false, Bool.not_false, if_true]
  refine wpAny_bind (wpAny_mono (one hne J J2) (fun r s1 z => ?_) fun _ _ e => e)
  obtain ⟨z1, z2⟩ := z
  subst z1
  subst z2
  refine wpAny_bind (wpAny_mono (one hne.symm J2 J) (fun r s2 z => ?_) fun _ _ e => e)
  obtain ⟨z1, z2⟩ := z
  subst z1
  subst z2
  exact wpAny_bind (wpAny_rule (wpAny_bind (wpAny_isSame_ref_other hne J.at_ J2.at_ (by rw [J.cls]; intro z; cases z) (wpAny_pure ⟨.bl false, H, I, rfl, q⟩))))
end
end LaneX
set_option Elab.async false
set_option linter.all false
set_option maxRecDepth 100000
set_option maxHeartbeats 4000000
namespace LaneX
open PySem PySem.Spec PyProof.Rows L2
/-! ### enumerate(t), t a tuple -/
theorem meets_enumT {v : Value} {o : Obj} {H : Heap → Prop} (B : Begins v o H) :
    Meets (Builtin.«enumerate.__new__» ⟨[.type "enumerate", v], []⟩) (fun _ R s => H s.heap ∧
      R (.ok (.ret (.ref (s.heap.push o).objs.size))) { s with heap := (s.heap.push o).push { cls := .type "enumerate", data := .fields #[.none, .bool false, .ref s.heap.objs.size, rawInt 0, .none, .none] } }) := by
  refine .of_wp fun prog w A R s h => ?_
  obtain ⟨hp, g, d, tk, os⟩ := s
  obtain ⟨h1, h2⟩ := h
  have subE := sub_enumerate
  have itE : ∀ {A1 : Around} {E1 : Value → Shared → Prop} {Q1 : Value → Shared → Prop}, Q1 (.ref hp.objs.size) ⟨hp.push o, g, d, tk, os⟩ → wpAny (model prog w) A1 (pyIter v) Q1 E1 ⟨hp, g, d, tk, os⟩ := fun q => B.iter prog w _ _ ⟨hp, g, d, tk, os⟩ _ h1 q
  wp_walk using itE
  refine wpAny_stack_any fun st => wpAny_pure ?_
  split
  · rename_i c _ _ _ _ _
    cases (c == Value.type "enumerate") <;> (wp_walk using itE; exact ⟨_, rfl, h2⟩)
  · wp_walk using itE
    exact ⟨_, rfl, h2⟩
theorem call_enumT {P : Program} {w : World} {A : Around} {E : Value → Shared → Prop} {s : Shared} {t : Addr} {items : Array Value} {Q : Value → Shared → Prop} (hT : s.heap.IsTuple t items)
    (h : ∀ h', IsEnum h' (s.heap.objs.size + 1) s.heap.objs.size 0 .none → h'.IsTupleIter s.heap.objs.size t 0 → (∀ b o, s.heap.get? b = some o → h'.get? b = some o) → Q (.ref (s.heap.objs.size + 1)) { s with heap := h' }) :
    wpAny (model P w) A (call (.type "enumerate") [.ref t]) Q E s := by
  refine callType_new F.called_enumerate (by decide) (F.typeCall_enumerate_1 _) (F.newCall_enumerate_1 _) (fun obj => F.args_object_init_2 obj _) F.entry_enumerate_new (meets_enumT (begins_tuple t items)) ⟨hT, ?_⟩
  have sz : ∀ o : Obj, (s.heap.push o).objs.size = s.heap.objs.size + 1 := fun o => Heap.size_push ..
  show _ ∧ _
  rw [sz]
  have e1 : ∀ (o u : Obj), u.isFreed = false → ((s.heap.push o).push u).get? (s.heap.objs.size + 1) = some u := fun o u hu => by
    have := Heap.get?_push_size (s.heap.push o) (o := u) hu
    rwa [sz] at this
  have he := e1 { cls := .type "tuple_iterator", data := .fields #[.ref t, .int 0 0] } { cls := .type "enumerate", data := .fields #[.none, .bool false, .ref s.heap.objs.size, rawInt 0, .none, .none] } rfl
  exact ⟨⟨_, he, rfl⟩, h _ he ⟨_, Heap.get?_push_of_some _ (Heap.get?_push_size _ rfl), rfl, rfl⟩ fun b o z => Heap.get?_push_of_some _ (Heap.get?_push_of_some _ z)⟩
def Itu (K : PySem.W.Frag) (a : Addr) : It :=
  ⟨fun i H => ∃ (xs : List V) (x : V), SqT K H a xs ∧ xs[i]? = some x, fun i H v H' => ∃ T x, v = .ref T ∧ H T = none ∧ H' = upd H T (.tup [.int (i : Nat), x]) ∧ ∀ xs, SqT K H a xs → xs[i]? = some x, fun i H => ∃ xs : List V, SqT K H a xs ∧ xs.length ≤ i⟩
theorem turn_enumT {P : Program} {w : World} {K : PySem.W.Frag} {elts : List Expr} {kk : Nat} {tpos : Pos} (a e it : Addr) :
    Turn P w K (.Tuple elts kk tpos) (Itu K a) [e, it] e (fun i h => (∃ old, IsEnum h e it ((i : Nat) : Int) old) ∧ h.IsTupleIter it a i ∧ e ≠ it) where
  mem := List.mem_cons_self
  obj := fun i h st b hb => by
    obtain ⟨⟨old, he⟩, ⟨o, ho, hc, hd⟩, _⟩ := st
    rcases List.mem_cons.mp hb with z | z
    · subst z; exact ⟨_, he, fun v q => nomatch q⟩
    · rcases List.mem_singleton.mp z with z
      subst z; exact ⟨o, ho, fun v q => by rw [hd] at q; cases q⟩
  keep := fun i h h' st k => by
    obtain ⟨⟨old, he⟩, hi, hne⟩ := st
    exact ⟨⟨old, k e List.mem_cons_self _ he⟩, hi.at fun o q => k it (List.mem_cons_of_mem _ List.mem_cons_self) o q, hne⟩
  item := by
    intro X hP hw hK hc i pins s σ H E I hf st hg
    subst hP hw hK
    obtain ⟨⟨old, he⟩, hit, hne⟩ := st
    obtain ⟨xs, x, hq, hx⟩ := hg
    obtain ⟨its, rv, p, hz⟩ := I.tuple hq
    have p' : s.heap.IsTuple a its.toArray := p
    obtain ⟨u, hu, ru⟩ := rv.get hx
    have hel : e < s.heap.objs.size := Heap.lt_size he
    have hil : it < s.heap.objs.size := by obtain ⟨_, q, _⟩ := hit; exact Heap.lt_size q
    have nai : a ≠ it := fun z => by
      obtain ⟨o1, q1, c1, _⟩ := hit
      obtain ⟨o2, q2, c2, _⟩ := p'
      rw [z, q1] at q2; cases q2; rw [c1] at c2; exact absurd c2 (by decide)
    have nea : e ≠ a := fun z => by
      obtain ⟨o2, q2, c2, _⟩ := p'
      rw [← z, show s.heap.get? e = _ from he] at q2; cases q2; exact absurd (show Value.type "enumerate" = Value.type "tuple" from c2) (by decide)
    have hlt : i < its.toArray.size := by
      rw [List.size_toArray]
      exact (List.getElem?_eq_some_iff.mp hu).1
    refine wpAny_pyNext_enum_itemD (Draws.tuple (A := X.A.in1) (by simpa using I.ok.hd hc) it a nai its.toArray) he ⟨hit, p'⟩ hlt hne (by simp [hne, nea]) fun y h' tk hy ho st' hT hsz hk => ?_
    have ey : y = u := by
      rw [List.getElem?_toArray, hu] at hy
      exact (Option.some.inj hy).symm
    subst ey
    refine ⟨_, rfl, wpAny_letOwnedTupleGo_enum (s := { s with heap := h', toks := tk + 1 }) ho fun h'' he' sb => ?_⟩
    have hT2 : h''.get? s.heap.objs.size = some { cls := .type "tuple", data := .seq #[.int i tk, y] } := (sb.2 _ (Nat.ne_of_gt hel)).trans hT
    have new : ObjOk X.prog X.w (upd H s.heap.objs.size (.tup [.int (i : Nat), x])) h'' s.heap.objs.size (.tup [.int (i : Nat), x]) :=
      ⟨(by show 2 ≤ sizeLine; decide), [.int i tk, y], .cons ⟨_, rfl⟩ (.cons ru .nil), ⟨_, hT2, rfl, _, rfl⟩⟩
    have I1 : Inv X pins σ (upd H s.heap.objs.size (.tup [.int (i : Nat), x])) { s with heap := h'', toks := tk + 1 } :=
      I.turnedNew (ch := [e, it]) (fun b ob hb q => (sb.2 b (fun z => hb (by simp [z]))).trans (hk b ob (fun z => hb (by simp [z])) (fun z => hb (by simp [z])) q)) hf (Nat.le_refl _) new
    refine ⟨.ref s.heap.objs.size, _, I1, rfl, ⟨_, x, rfl, I.hok.fresh (Nat.le_refl _), rfl, fun ys hy => ?_⟩, ⟨⟨y, ?_⟩, st'.1.at fun o q => (sb.2 it (Ne.symm hne)).trans q, hne⟩, fun b hb => ?_⟩
    · rw [I.tuple_inj hy hq]; exact hx
    · rw [show ((i + 1 : Nat) : Int) = (i : Int) + 1 by omega]; exact he'
    · have hb' : b < s.heap.objs.size := by
        rcases List.mem_cons.mp hb with z | z
        · rw [z]; exact hel
        · rw [List.mem_singleton.mp z]; exact hil
      rw [upd_ne (Nat.ne_of_lt hb')]
      exact (hf b hb).1
  done := by
    intro X hP hw hK hc i pins s σ H E I hf st hg
    subst hP hw hK
    obtain ⟨⟨old, he⟩, hit, hne⟩ := st
    obtain ⟨xs, hq, hx⟩ := hg
    obtain ⟨its, rv, p, hz⟩ := I.tuple hq
    have p' : s.heap.IsTuple a its.toArray := p
    have nai : a ≠ it := fun z => by
      obtain ⟨o1, q1, c1, _⟩ := hit
      obtain ⟨o2, q2, c2, _⟩ := p'
      rw [z, q1] at q2; cases q2; rw [c1] at c2; exact absurd c2 (by decide)
    obtain ⟨f0, f1, f2, f3, f4, f5⟩ := hf it (List.mem_cons_of_mem _ List.mem_cons_self)
    have hn : its.toArray[i]? = none := by
      have := rv.length
      rw [List.getElem?_toArray]
      exact List.getElem?_eq_none (by omega)
    have tyE : s.TypeIs (.ref e) "enumerate" := ⟨_, he, rfl⟩
    unfold pyNext
    refine wpAny_bind (wpAny_attempt (wpAny_callSpecial?_slot (name := Str.ofString "__next__") tyE F.slot_enumerate_next (wpAny_call_entry F.slot_enumerate_next tyE F.entry_enumerate_next ?_ (F.args_enumerate_next_1 _))))
    show wpAny _ _ (field (.ref e) 2 >>= _) _ _ _
    refine wpAny_bind (wpAny_field he rfl (x := .ref it) rfl (wpAny_bind (wpAny_nextOf_tuple_end (by simpa using I.ok.hd hc) hit p' hn fun h' y he' hy' => ?_)))
    obtain ⟨o, ho, hcl⟩ := hy'
    refine wpAny_bind (wpAny_isInstance (T := "StopIteration") (b := true) ⟨o, ho, hcl⟩ isSubtype_stop (wpAny_pure ?_))
    exact ⟨rfl, I.turned (t' := s.toks) (fun b o hb q => he' b o hb q) f0 f1 f3 f4 f5⟩
  self := fun A i s Q E st h => let ⟨⟨_, he⟩, _⟩ := st; wpAny_pyIter_enum he h
def iEnumT (K : PySem.W.Frag) (ta : TA) : TI := fun σ H R => ta σ H fun vs H1 => ∃ a xs, vs = [.ref a] ∧ SqT K H1 a xs ∧ R (Itu K a) H1
theorem pi_enumT {X : Cx} {e : Expr} {ta : TA} {p pos tpos : Pos} {elts : List Expr} {kk : Nat} (hg : Gl X "enumerate") (hm : X.mg "enumerate" = none) (ha : PA X [e] ta) (hs : starEach [e] X.env = [(false, eval e X.env)] := by rfl) :
    PI X (.Tuple elts kk tpos) (.Call (.Name "enumerate" p) [e] [] pos) (iEnumT X.K ta) := by
  refine ⟨fun pins s σ H R I h => Call_ (ld_blt I hg hm boot_enumerate (PyProof.Rows.callWith_type1 (thn (ha.run pos pins s σ H _ I h) fun us s1 ⟨vs, H1, I1, r1, a, xs, ex, hq, q⟩ => ?_) hs rfl))⟩
  subst ex
  rw [Vals.ref1 r1]
  obtain ⟨its, rv, p', hz⟩ := I1.tuple hq
  refine call_enumT (show s1.heap.IsTuple a its.toArray from p') fun h' he hit hk => wpAny_pyIter_enum he ?_
  refine ⟨s1.heap.objs.size + 1, [s1.heap.objs.size + 1, s1.heap.objs.size], _, _, H1, rfl, I1.kept (t' := s1.toks) hk, turn_enumT a (s1.heap.objs.size + 1) s1.heap.objs.size, ⟨⟨.none, he⟩, hit, Nat.succ_ne_self _⟩, fun b hb => ?_, q⟩
  have le : s1.heap.objs.size ≤ b := by
    rcases List.mem_cons.mp hb with z | z
    · rw [z]; exact Nat.le_succ _
    · rw [List.mem_singleton.mp z]; exact Nat.le_refl _
  exact I1.fpOk le (I1.hok.fresh le)
theorem walk_enumT {K : PySem.W.Frag} {a : Addr} {xs : List V} : Walk (Itu K a) xs.length (fun H => SqT K H a xs) (YPair (fun i => some (.int (i : Nat))) (fun i => xs[i]?)) := by
  refine ⟨fun i _ hi q => ⟨xs, xs[i], q, List.getElem?_eq_getElem hi⟩, fun _ q => ⟨xs, q, Nat.le_refl _⟩, fun i H v H' _ q y => ?_⟩
  obtain ⟨T, x, y1, y2, y3, y4⟩ := y
  exact ⟨T, .int (i : Nat), x, y1, y2, y3, rfl, y4 xs q⟩
section
variable {K : PySem.W.Frag} {g : TG} {tt : TT} {te : TE} {vs : List Nat} {σ : L2.St} {H : Hp} {Q : Addr → Hp → Prop}
/-- a pure comprehension over enumerate(t) -/
theorem lc_pureE {a : Addr} {xs : List V} (v : Nat → V) (hS : H a = some (.tup xs)) (hlen : xs.length ≤ 1000000) (hs : ∀ i x H' T, xs[i]? = some x → Same H H' → H' T = some (.tup [vN i, x]) → LcT g tt te vs σ (.ref T) H' true (v i))
    (hd : ∀ D H', H D = none → Same H H' → H' D = some (.lst ((List.range xs.length).map v)) → Q D H') : LcR g tt te vs σ Q (Itu K a) H := by
  intro D hD
  refine lc_it walk_enumT (fun i H' => Same H H' ∧ H' D = some (.lst ((((List.range xs.length).take i).filter fun _ => true).map v))) ⟨same_new0 hD, by simpa using upd_same⟩ (fun i H' _ hp => SqT.of (hp.1 _ _ hS)) (fun i x H' H2 hi hp y => ?_) (fun H' hp => ?_)
  · obtain ⟨T, x1, x2, rfl, nT, rfl, e1, e2⟩ := y
    cases e1
    have s2 : Same H (upd H' T (.tup [vN i, x2])) := same_new hp.1 nT
    exact lc_turn (l := List.range xs.length) (ι := fun _ => .ref T) (p := fun _ => true) (v := v) (by simpa using hlen) hD (range_get hi) s2 (upd_new nT hp.2) (hs i x2 _ T e2 s2 upd_same)
  · obtain ⟨h1, h2⟩ := hp
    rw [List.take_of_length_le (by simp), List.filter_eq_self.mpr fun _ _ => rfl] at h2
    exact hd D H' hD h1 h2
end
end LaneX
set_option Elab.async false
set_option linter.all false
set_option maxRecDepth 100000
set_option maxHeartbeats 4000000
namespace LaneX
open PySem PySem.Spec PyProof.Rows L2
/-! ### naturals in lists: in, index, max; further numbers -/
theorem inV_nat {n : Nat} {l : List Nat} : inV (vN n) (l.map vN) = decide (n ∈ l) := by
  unfold inV
  rw [List.any_map, Bool.eq_iff_iff, List.any_eq_true, decide_eq_true_iff]
  have e : ∀ x : Nat, ((fun y => eqV y (vN n)) ∘ vN) x = true ↔ x = n := fun x => by
    show (((x : Int) == (n : Int)) = true) ↔ _
    rw [beq_iff_eq]; omega
  constructor
  · rintro ⟨x, hx, h⟩
    rw [← (e x).mp h]; exact hx
  · exact fun h => ⟨n, h, (e n).mpr rfl⟩
theorem flat_nats (l : List Nat) : (l.map vN).all flatV = true := by
  rw [List.all_eq_true]
  intro v hv
  obtain ⟨x, _, rfl⟩ := List.mem_map.mp hv
  rfl
section
variable {X : Cx}
theorem on_in : OpR X (compareOp .In) (fun x y H Q => ∃ (n : Nat) (p : Addr) (ns : List Nat), x = vN n ∧ y = .ref p ∧ Tq H p (ns.map vN) ∧ Q (.bl (decide (n ∈ ns))) H) := by
  intro pins s σ H x y v u Q I rx ry h
  obtain ⟨n, p, ns, rfl, rfl, hS, q⟩ := h
  refine op_in_seq pins s σ H _ _ v u Q I rx ry ⟨p, _, rfl, hS.sqlt, rfl, flat_nats ns, ?_⟩
  simp only [Bool.false_eq_true, if_false, inV_nat]
  exact q
theorem on_notIn : OpR X (compareOp .NotIn) (fun x y H Q => ∃ (n : Nat) (p : Addr) (ns : List Nat), x = vN n ∧ y = .ref p ∧ Tq H p (ns.map vN) ∧ Q (.bl (!decide (n ∈ ns))) H) := by
  intro pins s σ H x y v u Q I rx ry h
  obtain ⟨n, p, ns, rfl, rfl, hS, q⟩ := h
  refine op_notIn_seq pins s σ H _ _ v u Q I rx ry ⟨p, _, rfl, hS.sqlt, rfl, flat_nats ns, ?_⟩
  simp only [if_true, inV_nat]
  exact q
/-- the right factor below 2 ^ 64 -/
theorem on_mulR : OpR X (binaryOp .Mult) (fun x y H Q => ∃ n m : Nat, x = .int (n : Int) ∧ y = .int (m : Int) ∧ (m < 2 ^ 64) ∧ Q (.int ((n * m : Nat) : Int)) H) := by
  intro pins s σ H x y v u Q I rx ry h
  obtain ⟨n, m, rfl, rfl, c, q⟩ := h
  rw [Int.natCast_mul] at q
  exact op_mul pins s σ H _ _ v u Q I rx ry ⟨_, _, rfl, rfl, show CMul (n : Int) (m : Int) from Or.inr ⟨by omega, by have : m < 18446744073709551616 := c; omega⟩, q⟩
/-- an int of any sign times a natural -/
theorem on_mulI : OpR X (binaryOp .Mult) (fun x y H Q => ∃ (i : Int) (m : Nat), x = .int i ∧ y = .int (m : Int) ∧ (m < 2 ^ 64) ∧ Q (.int (i * (m : Int))) H) := by
  intro pins s σ H x y v u Q I rx ry h
  obtain ⟨n, m, rfl, rfl, c, q⟩ := h
  exact op_mul pins s σ H _ _ v u Q I rx ry ⟨_, _, rfl, rfl, show CMul n (m : Int) from Or.inr ⟨by omega, by have : m < 18446744073709551616 := c; omega⟩, q⟩
theorem on_addI : OpR X (binaryOp .Add) (fun x y H Q => ∃ i j : Int, x = .int i ∧ y = .int j ∧ Q (.int (i + j)) H) := op_add
/-- a difference that is a natural -/
theorem on_subD : OpR X (binaryOp .Sub) (fun x y H Q => ∃ (i j : Int) (d : Nat), x = .int i ∧ y = .int j ∧ i - j = (d : Int) ∧ Q (vN d) H) := by
  intro pins s σ H x y v u Q I rx ry h
  obtain ⟨i, j, d, rfl, rfl, e, q⟩ := h
  refine op_sub pins s σ H _ _ v u Q I rx ry ⟨i, j, rfl, rfl, ?_⟩
  show Q (V.int (i - j)) H
  rw [e]
  exact q
/-- int(True), int(False) -/
theorem call_intB : CallR X (.type "int") (fun xs H Q => ∃ b : Bool, xs = [.bl b] ∧ Q (vN (if b = true then 1 else 0)) H) := by
  intro pins s σ H xs us Q I r h
  obtain ⟨b, rfl, q⟩ := h
  refine call_int1 pins s σ H _ us Q I r (.inr ⟨b, rfl, ?_⟩)
  cases b <;> exact q
/-- max(xs), naturals -/
theorem cr_maxN (hc : X.calm = true) : CallR X (.builtin "max") (fun xs H Q => ∃ (a : Addr) (ns : List Nat), xs = [.ref a] ∧ H a = some (.lst (ns.map vN)) ∧ 0 < ns.length ∧ ∀ m, m ∈ ns → (∀ x ∈ ns, x ≤ m) → Q (vN m) H) := by
  intro pins s σ H xs us Q I r h
  obtain ⟨a, ns, rfl, hS, h0, q⟩ := h
  rw [vN_ints] at hS
  refine cr_max hc pins s σ H _ us Q I r ⟨a, ns.map Int.ofNat, rfl, SqL.of hS, by simpa using h0, fun m hm hle => ?_⟩
  obtain ⟨k, hk, rfl⟩ := List.mem_map.mp hm
  refine q k hk fun x hx => ?_
  have := hle (x : Int) (List.mem_map.mpr ⟨x, hx, rfl⟩)
  have e : Int.ofNat k = (k : Int) := rfl
  omega
theorem call_maxN (hc : X.calm = true) : CallR X (.builtin "max") (fun xs H Q => ∃ n m : Nat, xs = [.int (n : Int), .int (m : Int)] ∧ Q (.int ((max n m : Nat) : Int)) H) := by
  intro pins s σ H xs us Q I r h
  obtain ⟨n, m, rfl, q⟩ := h
  refine call_max2 hc pins s σ H _ us Q I r ⟨_, _, rfl, ?_⟩
  have e : (if (m : Int) > (n : Int) then (m : Int) else (n : Int)) = ((max n m : Nat) : Int) := by split <;> omega
  rw [e]
  exact q
end
end LaneX
set_option Elab.async false
set_option linter.all false
set_option maxRecDepth 100000
set_option maxHeartbeats 4000000
namespace LaneX
open PySem PySem.Spec PyProof.Rows L2
/-! ### defs and methods that may raise -/
section
variable (P : Program) (w : World) (K : PySem.W.Frag) (mg : Str → Option Value) (base : Heap)
structure Dx (k : Nat) (x : Str) (ps : List Str) (sp : Sp) : Prop where
  ex : ∃ (f : Addr) (fd : FuncData), mg x = some (.ref f) ∧ PySem.W.keepIn K (.ref f) = true ∧ Binds K fd ps [] ∧ FnOk P w K mg base (L2.CX P w) k f fd ps sp
structure Mx (k : Nat) (C : Addr) (m : Str) (ps : List Str) (sp : Sp) : Prop where
  cl : Cls K C
  ex : ∃ (f : Addr) (fd : FuncData), Meth K C m f ∧ Binds K fd ps [] ∧ FnOk P w K mg base (L2.CX P w) k f fd ps sp
end
section
variable {X : Cx} {k j : Nat} {x m : Str} {ps : List Str} {sp : Sp} {C : Addr} {p pos apos : Pos} {e o : Expr} {es : List Expr} {t : TA} {to : TE} {W : WX}
/-- called where it raises nothing -/
theorem pe_dx (D : Dx X.prog X.w X.K X.mg X.base k x ps sp) (hr : Room j X.A) (ha : PA X (e :: es) t) (hk : k ≤ j := by decide) (hg : Gl X x := by rfl) (hdb : (x == ("__debug__" : Str)) = false := by decide)
    (he : starEach (e :: es) X.env = (false, eval e X.env) :: starEach es X.env := by rfl) (hpl : (backTo pos (starEach es X.env)).any (·.1) = false := by rfl) :
    PE X (.Call (.Name x p) (e :: es) [] pos) (tCall sp [] E0 t) := by
  obtain ⟨f, fd, h1, h2, h3, h4⟩ := D.ex
  exact pe_call h4 (hr.mono hk) hg h1 h2 h3 .nil passL ha hdb he hpl
/-- called where what it raises is taken by W -/
theorem pe_dxS (D : Dx X.prog X.w X.K X.mg X.base k x ps sp) (tk : Takes X W) (hr : Room j X.A) (ha : PA X (e :: es) t) (hk : k ≤ j := by decide) (hg : Gl X x := by rfl) (hdb : (x == ("__debug__" : Str)) = false := by decide)
    (he : starEach (e :: es) X.env = (false, eval e X.env) :: starEach es X.env := by rfl) (hpl : (backTo pos (starEach es X.env)).any (·.1) = false := by rfl) :
    PE X (.Call (.Name x p) (e :: es) [] pos) (tCallS sp (WE W) t) := by
  obtain ⟨f, fd, h1, h2, h3, h4⟩ := D.ex
  exact pe_callS h4 (hr.mono hk) hg h1 h2 h3 (fun σ => passAt tk σ) ha hdb he hpl
theorem pe_mx {pl : Sem Bool} (ho : PE X o to) (D : Mx X.prog X.w X.K X.mg X.base k C m ps sp) (hr : Room j X.A) (ha : PA X (e :: es) t) (hk : k ≤ j := by decide)
    (hst : starEach (e :: es) X.env = (false, eval e X.env) :: starEach es X.env := by rfl) (hpl : (backTo pos (starEach es X.env)).any (·.1) = false := by rfl)
    (ht : eval (.Call (.Attribute o m apos) (e :: es) [] pos) X.env = (do
      let ov ← eval o X.env
      standAt apos.atName
      let (f, first) ← holding [ov] (getMethod ov m pl)
      callWith pos f first (backTo pos (starEach (e :: es) X.env)) (backToKw pos (keywordEach [] X.env))) := by rfl) :
    PE X (.Call (.Attribute o m apos) (e :: es) [] pos) (tMeth C m sp [] E0 to t) := by
  obtain ⟨f, fd, h1, h3, h4⟩ := D.ex
  exact pe_meth ho D.cl h1 h4 (hr.mono hk) h3 .nil passL ha hst hpl ht
def tMethS (C : Addr) (m : Str) (sp : Sp) (W : WX) (ta : TE) (t : TA) : TE := fun σ H Q => ta σ H fun x H1 => ∃ a dx fs, x = .ref a ∧ H1 a = some (.ins C dx fs) ∧ fs.lookup m = none ∧ t σ H1 fun vs H2 => sp (x :: vs) H2 Q (WE W σ)
theorem pe_mxS {pl : Sem Bool} (ho : PE X o to) (D : Mx X.prog X.w X.K X.mg X.base k C m ps sp) (tk : Takes X W) (hr : Room j X.A) (ha : PA X (e :: es) t) (hk : k ≤ j := by decide)
    (hst : starEach (e :: es) X.env = (false, eval e X.env) :: starEach es X.env := by rfl) (hpl : (backTo pos (starEach es X.env)).any (·.1) = false := by rfl)
    (ht : eval (.Call (.Attribute o m apos) (e :: es) [] pos) X.env = (do
      let ov ← eval o X.env
      standAt apos.atName
      let (f, first) ← holding [ov] (getMethod ov m pl)
      callWith pos f first (backTo pos (starEach (e :: es) X.env)) (backToKw pos (keywordEach [] X.env))) := by rfl) :
    PE X (.Call (.Attribute o m apos) (e :: es) [] pos) (tMethS C m sp W to t) := by
  obtain ⟨f, fd, h1, h3, h4⟩ := D.ex
  refine ⟨fun pins s σ H Q I h => PySem.W.methodCall_KW (pl := pl) (thn (ho.run pins s σ H _ I h) fun u s1 ⟨x, H1, I1, rx, a, dx, fs, ex, ea, l, q⟩ => ?_) ht⟩
  subst ex
  cases (show u = Value.ref a from rx)
  refine getmeth_ok I1 ea D.cl h1 l (PySem.W.callWith_K (first := [.ref a]) (h₀ := X.base) I.ok.mod.kin h1.kp (thn (ha.run pos pins s1 σ H1 _ I1 q) fun us s2 ⟨vs, H2, I2, r, q2⟩ => ⟨I2.kIn, ?_⟩) hst hpl)
  exact run_fnS (us := .ref a :: us) (vs := .ref a :: vs) (E := WE W) h4 (hr.mono hk) h3 (passAt tk σ) I2 (.cons rfl r) q2
end
section
variable {P : Program} {w : World} {K : PySem.W.Frag} {mg : Str → Option Value} {base : Heap}
/-- a def that may raise -/
theorem fnokX {x qual : Str} {st : Stmt} {f : Addr} {fd : FuncData} {N ps : List Str} {k : Nat} {sp : Sp} (F : FnP K x qual st f fd) (S : FnScope N ps (defScope st)) (len : ∀ vs H Q E, sp vs H Q E → vs.length = ps.length)
    (hbody : ∀ (cdv : Value) (A : Around) (outer : List Env) (s : Shared) (H : Hp) (vs : List V) (Q : VK) (E : XK), Room k (A.deeper (envOfC qual (defScope st) s.heap.objs.size f cdv)) → sp vs H Q E →
      ∃ t, PSs (cxOf (L2.CX P w) P w K mg base N qual (defScope st) f cdv A outer s H E) (defBody st) t ∧ t { nx := fun _ H' => Q .non H', rt := Q } (start N vs) H) : FnOk P w K mg base (L2.CX P w) (k + 1) f fd ps sp :=
  F.ok S len hbody
end
/-! ### an own error without an __init__ -/
/-- what the written part says of it -/
structure Exn (K : PySem.W.Frag) (mg : Str → Option Value) (x : Str) (C : Addr) : Prop where
  gl : mg x = some (.ref C)
  ex : PySem.W.excIn K C [.type "ValueError", .type "Exception", .type "BaseException", .type "object"] "ValueError.__new__" = true
  kp : PySem.W.keepIn K (.ref C) = true
  be : PySem.W.subIn K (.ref C) (.type "BaseException") = some true
  ty : PySem.W.typeIn K (.ref C) = some (.type "type")
section
variable {X : Cx} {x : Str} {C : Addr} {p pos : Pos}
/-- x() -/
theorem pmk_0 (T : Exn X.K X.mg x C) (hg : Gl X x) (hdb : (x == ("__debug__" : Str)) = false := by decide) : PMk X (.Call (.Name x p) [] [] pos) (fun _ H Q => Q (.ref C) none H) := by
  intro pins s σ H Q I h
  refine wpAny_Call_Name_kw (ld_glob I hg T.gl (PySem.W.callWith_K0 I.kIn T.kp ?_) hdb)
  show wpAny _ _ (call (.ref C) []) _ _ _
  obtain ⟨bm, N, nm, qn, bs, hdct, sn, sub, ab, col, dd, k0, k1, k2, k3, k5, mN, hC, hN, hni, TT⟩ := exc_obj I.kIn T.ex
  exact wpAny_call_exc_subT F.excBase_ValueError TT hC hN hni (fun h' e hm => mk_of I hm (raises_own T.be T.ty) h (I.hok.gone hm.new)) (Nat.zero_le _)
/-- isinstance(e, c) in the suite that holds e, of a class without a dict -/
theorem call_isX {a D : Addr} {oe : Obj} {pn : List (Addr × Obj)} {cls : Value} {d : Option Addr} (T : ExcC X.K D) (hz : Zc cls d oe) (hf : ∃ vs, oe.data = .fields vs) :
    CallR (X.suite a ((a, oe) :: pn)) (.builtin "isinstance") (fun xs H Q => cls = .ref D ∧ d = none ∧ rIsE X.K D a xs H Q) := by
  intro pins s σ H xs us Q I r h
  obtain ⟨rfl, rfl, h⟩ := h
  exact call_isE T hz hf pins s σ H xs us Q I r h
end
end LaneX
set_option Elab.async false
set_option linter.all false
set_option maxRecDepth 100000
set_option maxHeartbeats 4000000
namespace LaneX
open PySem PySem.Spec PyProof.Rows L2
/-! ### ~x by an own __invert__; an instance called -/
def rOwn1 (C : Addr) (sp : Sp) : V → Hp → VK → Prop := fun x H Q => ∃ (a dx : Addr) (fs : List (Str × V)), x = .ref a ∧ H a = some (.ins C dx fs) ∧ sp [.ref a] H Q E0
/-- the class's __call__ is a def -/
def callFn (K : PySem.W.Frag) (C : Addr) : Bool := match PySem.W.findIn K (.ref C) "__call__" with
  | some (some (.ref f)) => PySem.W.fnIn K f
  | _ => false
theorem callFn_ok {K : PySem.W.Frag} {C f : Addr} (h : callFn K C = true) (e : PySem.W.findIn K (.ref C) "__call__" = some (some (.ref f))) : PySem.W.fnIn K f = true := by
  unfold callFn at h
  rw [e] at h
  exact h
section
variable {X : Cx}
theorem un_own {k j : Nat} {C : Addr} {ps : List Str} {sp : Sp} (D : Mn X.prog X.w X.K X.mg X.base k C "__invert__" ps sp) (hr : Room j X.A) (hk : k ≤ j := by decide) : UnR X (unaryOp .Invert) (rOwn1 C sp) := by
  intro pins s σ H x v Q I rx h
  obtain ⟨a, dx, fs, rfl, ha, hsp⟩ := h
  obtain ⟨f, fd, h1, h3, h4⟩ := D.ex
  cases (show v = Value.ref a from rx)
  obtain ⟨mA, O, _⟩ := ins_get I.hok ha
  obtain ⟨od, J, _⟩ := O.look
  obtain ⟨mm, F⟩ := I.fr
  refine PySem.W.ksp_inv F I.mod.kin J h1.at_ h1.fn ?_
  exact run_fn h4 (hr.mono hk) h3 .nil pass0 I (vs := [.ref a]) (.cons rfl .nil) hsp
/-- x(e), x a local name that stands for an instance of C -/
def tOc (C : Addr) (sp : Sp) (tf : TE) (t : TA) : TE := fun σ H Q => tf σ H fun y H1 => ∃ a, y = V.ref a ∧ t σ H1 fun vs H2 => (∃ dx fs, H2 a = some (.ins C dx fs)) ∧ sp (V.ref a :: vs) H2 Q E0
theorem pe_oc {k j : Nat} {C : Addr} {ps : List Str} {sp : Sp} {x : Str} {p pos : Pos} {e : Expr} {es : List Expr} {tf : TE} {t : TA} (hf : PE X (.Name x p) tf) (D : Mn X.prog X.w X.K X.mg X.base k C "__call__" ps sp) (hc : callFn X.K C = true) (hr : Room j X.A) (ha : PA X (e :: es) t) (hk : k ≤ j := by decide)
    (he : starEach (e :: es) X.env = (false, eval e X.env) :: starEach es X.env := by rfl) (hpl : (backTo pos (starEach es X.env)).any (·.1) = false := by rfl) : PE X (.Call (.Name x p) (e :: es) [] pos) (tOc C sp tf t) := by
  refine ⟨fun pins s σ H Q I h => ?_⟩
  obtain ⟨f, fd, h1, h3, h4⟩ := D.ex
  refine wpAny_Call_Name_kw (thn (hf.run pins s σ H _ I h) fun u s1 ⟨y, H1, I1, ry, a, ey, q⟩ => ?_)
  subst ey
  obtain rfl : u = Value.ref a := ry
  refine StX.callO_with (thn (ha.run pos pins s1 σ H1 _ I1 q) fun us s2 ⟨vs, H2, I2, r, ⟨dx, fs, hi⟩, q2⟩ => ?_) he hpl
  obtain ⟨mA, O, _⟩ := ins_get I2.hok hi
  obtain ⟨od, J, _⟩ := O.look
  refine ⟨⟨C, _, od, J, rfl⟩, wpAny_call (PySem.W.kco_code I2.kIn J rfl h1.at_ h1.fn (callFn_ok hc h1.at_) ?_)⟩
  have r2 : Vals (V.ref a :: vs) (Value.ref a :: us) := .cons rfl r
  have hl : (Value.ref a :: us).length = ps.length := by rw [← r2.length]; exact h4.len _ _ _ _ q2
  refine codeAny_mono (h4.run X.A X.stack s2 H2 ⟨Value.ref a :: us, []⟩ (Value.ref a :: us) (V.ref a :: vs) Q E0 (hr.mono hk) I2.env0 (by simpa using h3 s2 (Value.ref a :: us) I2.kIn (by simpa using hl)) r2 q2) fun r s' hq => ?_
  cases r with
  | error e => exact pass0 pins σ H2 s2 e s' I2 hq
  | ok fl =>
    cases fl with
    | ret u => exact I2.after hq
    | next => exact False.elim hq
    | brk => exact False.elim hq
    | cont => exact False.elim hq
/-! ### lists of whole numbers compared -/
theorem dec_ofNat (ns ms : List Nat) : decide (ns.map Int.ofNat = ms.map Int.ofNat) = decide (ns = ms) := by
  by_cases h : ns = ms
  · subst h; simp
  · have : ¬ ns.map Int.ofNat = ms.map Int.ofNat := fun z => h (List.map_inj_right (fun x y h => Int.ofNat.inj h) |>.mp z)
    rw [decide_eq_false h, decide_eq_false this]
theorem op_neN (hu : X.A.units + 64 < cLine) : OpR X (compareOp .NotEq) (fun x y H Q => ∃ (a b : Addr) (ns ms : List Nat), x = .ref a ∧ y = .ref b ∧ H a = some (.lst (ns.map vN)) ∧ H b = some (.lst (ms.map vN)) ∧ Q (.bl (!decide (ns = ms))) H) := by
  intro pins s σ H x y v u Q I rx ry h
  obtain ⟨a, b, ns, ms, rfl, rfl, ha, hb, q⟩ := h
  rw [vN_ints] at ha hb
  refine op_neL hu pins s σ H _ _ v u Q I rx ry ⟨a, b, _, _, rfl, rfl, ha, hb, ?_⟩
  rw [dec_ofNat]
  exact q
theorem op_eqN (hu : X.A.units + 64 < cLine) : OpR X (compareOp .Eq) (fun x y H Q => ∃ (a b : Addr) (ns ms : List Nat), x = .ref a ∧ y = .ref b ∧ H a = some (.lst (ns.map vN)) ∧ H b = some (.lst (ms.map vN)) ∧ Q (.bl (decide (ns = ms))) H) := by
  intro pins s σ H x y v u Q I rx ry h
  obtain ⟨a, b, ns, ms, rfl, rfl, ha, hb, q⟩ := h
  rw [vN_ints] at ha hb
  refine op_eqL hu pins s σ H _ _ v u Q I rx ry ⟨a, b, _, _, rfl, rfl, ha, hb, ?_⟩
  rw [dec_ofNat]
  exact q
end
end LaneX
set_option Elab.async false
set_option linter.all false
set_option maxRecDepth 100000
set_option maxHeartbeats 4000000
namespace LaneX
open PySem PySem.Spec PyProof.Rows L2
/-! ### o.f(e), f a field that stands for an instance of C -/
def tOf (m : Str) (Co C : Addr) (sp : Sp) (to : TE) (t : TA) : TE := fun σ H Q => to σ H fun x H1 => ∃ (a dx b : Addr) (fs : List (Str × V)), x = V.ref a ∧ H1 a = some (.ins Co dx fs) ∧ fs.lookup m = some (.ref b) ∧ t σ H1 fun vs H2 => (∃ dy gs, H2 b = some (.ins C dy gs)) ∧ sp (V.ref b :: vs) H2 Q E0
section
variable {X : Cx}
theorem pe_of {k j : Nat} {Co C : Addr} {ps : List Str} {sp : Sp} {m : Str} {apos pos : Pos} {o e : Expr} {es : List Expr} {to : TE} {t : TA} {pl : Sem Bool} (ho : PE X o to) (c : Cls X.K Co) (n : NoAttr X.K Co m) (D : Mn X.prog X.w X.K X.mg X.base k C "__call__" ps sp) (hc : callFn X.K C = true) (hr : Room j X.A) (ha : PA X (e :: es) t) (hk : k ≤ j := by decide)
    (hst : starEach (e :: es) X.env = (false, eval e X.env) :: starEach es X.env := by rfl) (hpl : (backTo pos (starEach es X.env)).any (·.1) = false := by rfl)
    (ht : eval (.Call (.Attribute o m apos) (e :: es) [] pos) X.env = (do
      let ov ← eval o X.env
      standAt apos.atName
      let (f, first) ← holding [ov] (getMethod ov m pl)
      callWith pos f first (backTo pos (starEach (e :: es) X.env)) (backToKw pos (keywordEach [] X.env))) := by rfl) :
    PE X (.Call (.Attribute o m apos) (e :: es) [] pos) (tOf m Co C sp to t) := by
  refine ⟨fun pins s σ H Q I h => ?_⟩
  obtain ⟨f, fd, h1, h3, h4⟩ := D.ex
  refine PySem.W.methodCall_KW (pl := pl) (thn (ho.run pins s σ H _ I h) fun u s1 ⟨x, H1, I1, rx, a, dx, b, fs, ex, ea, l, q⟩ => ?_) ht
  subst ex
  obtain rfl : u = Value.ref a := rx
  refine getmeth_fld I1 ea c n l fun u s1' I1' ru => ?_
  obtain rfl : u = Value.ref b := ru
  refine StX.callO_with (thn (ha.run pos pins s1' σ H1 _ I1' q) fun us s2 ⟨vs, H2, I2, r, ⟨dy, gs, hi⟩, q2⟩ => ?_) hst hpl
  obtain ⟨mA, O, _⟩ := ins_get I2.hok hi
  obtain ⟨od, J, _⟩ := O.look
  refine ⟨⟨C, _, od, J, rfl⟩, wpAny_call (PySem.W.kco_code I2.kIn J rfl h1.at_ h1.fn (callFn_ok hc h1.at_) ?_)⟩
  have r2 : Vals (V.ref b :: vs) (Value.ref b :: us) := .cons rfl r
  have hl : (Value.ref b :: us).length = ps.length := by rw [← r2.length]; exact h4.len _ _ _ _ q2
  refine codeAny_mono (h4.run X.A X.stack s2 H2 ⟨Value.ref b :: us, []⟩ (Value.ref b :: us) (V.ref b :: vs) Q E0 (hr.mono hk) I2.env0 (by simpa using h3 s2 (Value.ref b :: us) I2.kIn (by simpa using hl)) r2 q2) fun r s' hq => ?_
  cases r with
  | error e => exact pass0 pins σ H2 s2 e s' I2 hq
  | ok fl =>
    cases fl with
    | ret u => exact I2.after hq
    | next => exact False.elim hq
    | brk => exact False.elim hq
    | cont => exact False.elim hq
end
/-! ### a pure comprehension over enumerate(l), with a condition -/
section
variable {K : PySem.W.Frag} {g : TG} {tt : TT} {te : TE} {vs : List Nat} {σ : L2.St} {H : Hp} {Q : Addr → Hp → Prop}
theorem lc_pureLF {a : Addr} {xs : List V} (p : Nat → Bool) (v : Nat → V) (hS : H a = some (.lst xs)) (hlen : xs.length ≤ 1000000) (hs : ∀ i x H' T, xs[i]? = some x → Same H H' → H' T = some (.tup [vN i, x]) → LcT g tt te vs σ (.ref T) H' (p i) (v i))
    (hd : ∀ D H', H D = none → Same H H' → H' D = some (.lst (((List.range xs.length).filter p).map v)) → Q D H') : LcR g tt te vs σ Q (Ite K a) H := by
  intro D hD
  refine lc_it walk_enum (fun i H' => Same H H' ∧ H' D = some (.lst ((((List.range xs.length).take i).filter p).map v))) ⟨same_new0 hD, by simpa using upd_same⟩ (fun i H' _ hp => SqL.of (hp.1 _ _ hS)) (fun i x H' H2 hi hp y => ?_) (fun H' hp => ?_)
  · obtain ⟨T, x1, x2, rfl, nT, rfl, e1, e2⟩ := y
    cases e1
    have s2 : Same H (upd H' T (.tup [vN i, x2])) := same_new hp.1 nT
    exact lc_turn (l := List.range xs.length) (ι := fun _ => .ref T) (p := p) (v := v) (by simpa using hlen) hD (range_get hi) s2 (upd_new nT hp.2) (hs i x2 _ T e2 s2 upd_same)
  · obtain ⟨h1, h2⟩ := hp
    rw [List.take_of_length_le (by simp)] at h2
    exact hd D H' hD h1 h2
end
end LaneX
set_option Elab.async false
set_option linter.all false
set_option maxRecDepth 100000
set_option maxHeartbeats 4000000
namespace LaneX
open PySem PySem.Spec PyProof.Rows L2
/-! ### tuples of whole numbers compared -/
section
variable {X : Cx}
theorem op_neT (hu : X.A.units + 64 < cLine) : OpR X (compareOp .NotEq) (fun x y H Q => ∃ (a b : Addr) (ns ms : List Nat), x = .ref a ∧ y = .ref b ∧ H a = some (.tup (ns.map vN)) ∧ H b = some (.tup (ms.map vN)) ∧ Q (.bl (!decide (ns = ms))) H) := by
  intro pins s σ H x y v u Q I rx ry h
  obtain ⟨a, b, ns, ms, rfl, rfl, ha, hb, q⟩ := h
  rw [vN_ints] at ha hb
  refine op_neD hu pins s σ H _ _ v u Q I rx ry ⟨.tuple ((ns.map Int.ofNat).map .int), .tuple ((ms.map Int.ofNat).map .int), .tup (SqT.of ha) (dpAll_ints _), .tup (SqT.of hb) (dpAll_ints _), shaped_tints _, shaped_tints _, ?_⟩
  show Q (.bl (!PyData.eqvAll ((ns.map Int.ofNat).map .int) ((ms.map Int.ofNat).map .int))) H
  rw [eqvAll_ints, dec_ofNat]
  exact q
theorem op_eqT (hu : X.A.units + 64 < cLine) : OpR X (compareOp .Eq) (fun x y H Q => ∃ (a b : Addr) (ns ms : List Nat), x = .ref a ∧ y = .ref b ∧ H a = some (.tup (ns.map vN)) ∧ H b = some (.tup (ms.map vN)) ∧ Q (.bl (decide (ns = ms))) H) := by
  intro pins s σ H x y v u Q I rx ry h
  obtain ⟨a, b, ns, ms, rfl, rfl, ha, hb, q⟩ := h
  rw [vN_ints] at ha hb
  refine op_eqD hu pins s σ H _ _ v u Q I rx ry ⟨.tuple ((ns.map Int.ofNat).map .int), .tuple ((ms.map Int.ofNat).map .int), .tup (SqT.of ha) (dpAll_ints _), .tup (SqT.of hb) (dpAll_ints _), shaped_tints _, shaped_tints _, ?_⟩
  show Q (.bl (PyData.eqvAll ((ns.map Int.ofNat).map .int) ((ms.map Int.ofNat).map .int))) H
  rw [eqvAll_ints, dec_ofNat]
  exact q
end
end LaneX
set_option Elab.async false
set_option linter.all false
set_option maxRecDepth 100000
set_option maxHeartbeats 4000000
namespace LaneX
open PySem PySem.Spec PyProof.Rows L2
/-! ### lists and tuples, a written tuple too -/
def Wq (K : PySem.W.Frag) (H : Hp) (a : Addr) (xs : List V) : Prop := Tq H a xs ∨ ∃ (o : Obj) (its : Array Value) (n : Nat), K.lookup a = some o ∧ o.cls = .type "tuple" ∧ o.data = .seq its n ∧ its.size ≤ sizeLine ∧ Vals xs its.toList
section
variable {K : PySem.W.Frag} {H H' : Hp} {a p : Addr} {xs : List V}
theorem Wq.sqlt (h : Wq K H a xs) : SqL K H a xs ∨ SqT K H a xs := by
  rcases h with h | h
  · exact h.sqlt
  · exact .inr (.inr h)
theorem Wq.sq (h : Wq K H a xs) : Sq K H a xs := h.sqlt
theorem Wq.kp (h : Wq K H a xs) (s : Kp H H') : Wq K H' a xs := by
  rcases h with h | h
  · exact .inl (kp_tq s h)
  · exact .inr h
theorem Wq.same (h : Wq K H a xs) (s : Same H H') : Wq K H' a xs := h.kp (Kp.of s)
theorem Wq.ty (h : Wq K H a xs) : ∃ t, TyX K H (.ref a) t ∧ PySem.W.kitAny K t [.type "list", .type "tuple"] = some true := by
  rcases h with h | ⟨o, its, n, h1, h2, _⟩
  · exact h.ty
  · exact ⟨_, .kTuple h1 h2, kitAny_cons (b := false) (kit_ty (by decide +kernel)) (fun _ => kitAny_cons (b := true) (kit_ty (by decide +kernel)) (fun z => by cases z) (fun _ => rfl)) (fun z => by cases z)⟩
end
section
variable {X : Cx}
theorem call_lenW : CallR X (.builtin "len") (fun xs H Q => ∃ (p : Addr) (ys : List V), xs = [.ref p] ∧ Wq X.K H p ys ∧ Q (.int (ys.length : Nat)) H) := by
  intro pins s σ H xs us Q I r h
  obtain ⟨p, ys, rfl, hq, q⟩ := h
  exact call_len_seq pins s σ H _ us Q I r ⟨p, ys, rfl, hq.sqlt, q⟩
theorem call_listW : CallR X (.type "list") (fun xs H Q => ∃ (p : Addr) (ys : List V), xs = [.ref p] ∧ Wq X.K H p ys ∧ ∀ l, H l = none → Q (.ref l) (upd H l (.lst ys))) := by
  intro pins s σ H xs us Q I r h
  obtain ⟨p, ys, rfl, hq, q⟩ := h
  exact call_list_of pins s σ H _ us Q I r ⟨p, ys, rfl, hq.sqlt, q⟩
end
/-! ### enumerate of a list or a tuple -/
def iEnumQ (K : PySem.W.Frag) (ta : TA) : TI := fun σ H R => ta σ H fun vs H1 => ∃ (a : Addr) (xs : List V), vs = [.ref a] ∧ ((SqL K H1 a xs ∧ R (Ite K a) H1) ∨ (SqT K H1 a xs ∧ R (Itu K a) H1))
theorem pi_enumQ {X : Cx} {e : Expr} {ta : TA} {p pos tpos : Pos} {elts : List Expr} {kk : Nat} (hg : Gl X "enumerate") (hm : X.mg "enumerate" = none) (ha : PA X [e] ta) (hs : starEach [e] X.env = [(false, eval e X.env)] := by rfl) :
    PI X (.Tuple elts kk tpos) (.Call (.Name "enumerate" p) [e] [] pos) (iEnumQ X.K ta) := by
  refine ⟨fun pins s σ H R I h => Call_ (ld_blt I hg hm boot_enumerate (PyProof.Rows.callWith_type1 (thn (ha.run pos pins s σ H _ I h) fun us s1 ⟨vs, H1, I1, r1, a, xs, ex, q⟩ => ?_) hs rfl))⟩
  subst ex
  rw [Vals.ref1 r1]
  have fp : ∀ b ∈ [s1.heap.objs.size + 1, s1.heap.objs.size], FpOk X pins H1 b := fun b hb => by
    have le : s1.heap.objs.size ≤ b := by
      rcases List.mem_cons.mp hb with z | z
      · rw [z]; exact Nat.le_succ _
      · rw [List.mem_singleton.mp z]; exact Nat.le_refl _
    exact I1.fpOk le (I1.hok.fresh le)
  rcases q with ⟨hq, q⟩ | ⟨hq, q⟩
  · obtain ⟨its, rv, p', hz⟩ := I1.list hq
    refine call_enumerate_list p'.isList fun h' he hit hsz hk => wpAny_pyIter_enum he ?_
    exact ⟨s1.heap.objs.size + 1, [s1.heap.objs.size + 1, s1.heap.objs.size], _, _, H1, rfl, I1.kept (t' := s1.toks) hk, turn_enum a (s1.heap.objs.size + 1) s1.heap.objs.size, ⟨⟨.none, he⟩, hit, Nat.succ_ne_self _⟩, fp, q⟩
  · obtain ⟨its, rv, p', hz⟩ := I1.tuple hq
    refine call_enumT (show s1.heap.IsTuple a its.toArray from p') fun h' he hit hk => wpAny_pyIter_enum he ?_
    exact ⟨s1.heap.objs.size + 1, [s1.heap.objs.size + 1, s1.heap.objs.size], _, _, H1, rfl, I1.kept (t' := s1.toks) hk, turn_enumT a (s1.heap.objs.size + 1) s1.heap.objs.size, ⟨⟨.none, he⟩, hit, Nat.succ_ne_self _⟩, fp, q⟩
section
variable {K : PySem.W.Frag} {g : TG} {tt : TT} {te : TE} {vs : List Nat} {σ : L2.St} {H : Hp} {Q : Addr → Hp → Prop}
/-- a pure comprehension over enumerate(x) -/
theorem lc_enumQ {a : Addr} {xs : List V} (v : Nat → V) (hS : Sq K H a xs) (hlen : xs.length ≤ 1000000) (hs : ∀ i x H' T, xs[i]? = some x → Same H H' → H' T = some (.tup [vN i, x]) → LcT g tt te vs σ (.ref T) H' true (v i))
    (hd : ∀ D H', H D = none → Same H H' → H' D = some (.lst ((List.range xs.length).map v)) → Q D H') :
    ∃ (a' : Addr) (xs' : List V), [V.ref a] = [.ref a'] ∧ ((SqL K H a' xs' ∧ LcR g tt te vs σ Q (Ite K a') H) ∨ (SqT K H a' xs' ∧ LcR g tt te vs σ Q (Itu K a') H)) := by
  refine ⟨a, xs, rfl, ?_⟩
  have turn : ∀ {D : Addr} {i : Nat} {x : V} {H' H2 : Hp}, H D = none → i < xs.length → (Same H H' ∧ H' D = some (.lst ((((List.range xs.length).take i).filter fun _ => true).map v))) → YPair (fun i => some (.int (i : Nat))) (fun i => xs[i]?) i H' x H2 →
      g x (wipe σ vs) H2 fun σ2 H2' => wipe σ2 vs = wipe σ vs ∧ tt σ2 H2' fun b H3 => if b = true then te σ2 H3 fun y H4 => ∃ acc, H4 D = some (.lst acc) ∧ acc.length < sizeLine ∧ (Same H (upd H4 D (.lst (acc ++ [y]))) ∧ upd H4 D (.lst (acc ++ [y])) D = some (.lst ((((List.range xs.length).take (i + 1)).filter fun _ => true).map v))) else (Same H H3 ∧ H3 D = some (.lst ((((List.range xs.length).take (i + 1)).filter fun _ => true).map v))) := fun {D i x H' H2} hD hi hp y => by
    obtain ⟨T, x1, x2, rfl, nT, rfl, e1, e2⟩ := y
    cases e1
    have s2 : Same H (upd H' T (.tup [vN i, x2])) := same_new hp.1 nT
    exact lc_turn (l := List.range xs.length) (ι := fun _ => .ref T) (p := fun _ => true) (v := v) (by simpa using hlen) hD (range_get hi) s2 (upd_new nT hp.2) (hs i x2 _ T e2 s2 upd_same)
  have done : ∀ {D : Addr} {H' : Hp}, H D = none → (Same H H' ∧ H' D = some (.lst ((((List.range xs.length).take xs.length).filter fun _ => true).map v))) → Q D H' := fun {D H'} hD hp => by
    obtain ⟨h1, h2⟩ := hp
    rw [List.take_of_length_le (by simp), List.filter_eq_self.mpr fun _ _ => rfl] at h2
    exact hd D H' hD h1 h2
  rcases hS with hS | hS
  · exact .inl ⟨hS, fun D hD => lc_it walk_enum (fun i H' => Same H H' ∧ H' D = some (.lst ((((List.range xs.length).take i).filter fun _ => true).map v))) ⟨same_new0 hD, by simpa using upd_same⟩ (fun i H' _ hp => kp_sqL (Kp.of hp.1) hS) (fun i x H' H2 hi hp y => turn hD hi hp y) (fun H' hp => done hD hp)⟩
  · exact .inr ⟨hS, fun D hD => lc_it walk_enumT (fun i H' => Same H H' ∧ H' D = some (.lst ((((List.range xs.length).take i).filter fun _ => true).map v))) ⟨same_new0 hD, by simpa using upd_same⟩ (fun i H' _ hp => kp_sqT (Kp.of hp.1) hS) (fun i x H' H2 hi hp y => turn hD hi hp y) (fun H' hp => done hD hp)⟩
end
/-! ### a def with a default, called without it -/
section
variable (P : Program) (w : World) (K : PySem.W.Frag) (mg : Str → Option Value) (base : Heap)
structure Dd (k : Nat) (x : Str) (ps : List Str) (sp : Sp) (dvs : List V) : Prop where
  ex : ∃ (f : Addr) (fd : FuncData), mg x = some (.ref f) ∧ PySem.W.keepIn K (.ref f) = true ∧ (∃ ds, Vals dvs ds ∧ Binds K fd ps ds) ∧ FnOk P w K mg base CX0 k f fd ps sp
end
section
variable {X : Cx} {k j : Nat} {x : Str} {ps : List Str} {sp : Sp} {dvs : List V} {p pos : Pos} {e : Expr} {es : List Expr} {t : TA}
theorem pe_dd (D : Dd X.prog X.w X.K X.mg X.base k x ps sp dvs) (hr : Room j X.A) (ha : PA X (e :: es) t) (hk : k ≤ j := by decide) (hg : Gl X x := by rfl) (hdb : (x == ("__debug__" : Str)) = false := by decide)
    (he : starEach (e :: es) X.env = (false, eval e X.env) :: starEach es X.env := by rfl) (hpl : (backTo pos (starEach es X.env)).any (·.1) = false := by rfl) :
    PE X (.Call (.Name x p) (e :: es) [] pos) (tCall sp dvs E0 t) := by
  obtain ⟨f, fd, h1, h2, ⟨ds, h3, h3'⟩, h4⟩ := D.ex
  exact pe_call h4 (hr.mono hk) hg h1 h2 h3' h3 pass0 ha hdb he hpl
/-- a def of the text with defaults -/
abbrev FnPD (K : PySem.W.Frag) (x qual : Str) (st : Stmt) (dvs : List V) (f : Addr) (fd : FuncData) : Prop := FunD K x qual (defArgs st) (defBody st) (defScope st) dvs [] f fd
end
section
variable {P : Program} {w : World} {K : PySem.W.Frag} {mg : Str → Option Value} {base : Heap}
theorem fnokD {x qual : Str} {st : Stmt} {dvs : List V} {f : Addr} {fd : FuncData} {N ps : List Str} {k : Nat} {sp : Sp} (F : FnPD K x qual st dvs f fd) (S : FnScope N ps (defScope st)) (len : ∀ vs H Q E, sp vs H Q E → vs.length = ps.length)
    (hbody : ∀ (cdv : Value) (A : Around) (outer : List Env) (s : Shared) (H : Hp) (vs : List V) (Q : VK) (E : XK), Room k (A.deeper (envOfC qual (defScope st) s.heap.objs.size f cdv)) → sp vs H Q E →
      ∃ t, PSs (cxOf CX0 P w K mg base N qual (defScope st) f cdv A outer s H E).nox (defBody st) t ∧ t { nx := fun _ H' => Q .non H', rt := Q } (start N vs) H) : FnOk P w K mg base CX0 (k + 1) f fd ps sp := by
  refine F.ok S len (fun cdv A outer s H vs Q E hr h => ?_)
  obtain ⟨t, h1, h2⟩ := hbody cdv A outer s H vs Q E hr h
  exact ⟨t, PSs.nox h1, h2⟩
end
end LaneX
set_option Elab.async false
set_option linter.all false
set_option maxRecDepth 100000
set_option maxHeartbeats 4000000
namespace LaneX
open PySem PySem.Spec PyProof.Rows L2
/-! ### super().__init__(x) of an own exception over ValueError, called -/
section
open PySem.W PySem.Calls
variable {prog : Program} {w : World} {M : Model} {A : Around} {E : Value → Shared → Prop}
theorem callWith_mw {i : String} {x : Addr} {s : Shared} {pos : Pos} {u : Addr} {first : List Value} {env : Env} {e : Expr} {rest : List Expr} {Q : Value → Shared → Prop}
    (h : wpAny M A (spliced (backTo pos (starEach (e :: rest) env))) (fun vs s₁ => KxsAt i u x s₁.heap ∧ wpAny M A (call (.ref u) (first ++ vs)) Q E s₁) E s)
    (he : starEach (e :: rest) env = (false, eval e env) :: starEach rest env := by rfl) (hplain : (backTo pos (starEach rest env)).any (·.1) = false := by rfl) :
    wpAny M A (callWith pos (.ref u) first (backTo pos (starEach (e :: rest) env)) []) Q E s := by
  rw [he] at h ⊢
  refine kxs_callWith (i := i) (x := x) (by show (false || (backTo pos (starEach rest env)).any (·.1)) = false; rw [hplain]; rfl) ?_
  exact evalArgs_plain h
theorem call_mw {u e C t0 : Addr} {nm q : Str} {N : Addr} {bs bm : List Value} {hdct : Bool} {sn : List Str} {sub : List Value} {ab : Bool} {col : Option Bool} {dd : Option Addr} {k0 k1 k2 k3 k5 : Option Value} {h : Heap} {g : Array GenState} {d : Drawn} {t : Nat} {os : OsState} {rest : List Value} {Q : Value → Shared → Prop}
    (hC : h.get? C = some (excClassObj nm q C N bs bm hdct sn sub ab col dd k0 k1 k2 k3 k5 "ValueError.__new__")) (he : h.get? e = some (HandSPX.excO C t0)) (hu : h.get? u = some (kxs_mw "ValueError.__init__" e)) (hrest : rest.length ≤ sizeLine)
    (hq : ∀ h' t1, (∀ b o, b ≠ e → h.get? b = some o → h'.get? b = some o) → h'.get? e = some (HandSPX.excO C t1) → Q .none ⟨h', g, d, t, os⟩) :
    wpAny (model prog w) A (call (.ref u) rest) Q E ⟨h, g, d, t, os⟩ := by
  refine wpAny_call (codeAny_of_tree ?_)
  show wpAny _ A.in1 (callAny (.ref u) ⟨rest, []⟩) _ _ _
  simp only [callAny]
  refine wpAny_bind (wpAny_load hu ?_)
  simp only [kxs_mw, show (Value.type "method-wrapper" == Value.type "method" || Value.type "method-wrapper" == Value.type "builtin_function_or_method" || Value.type "method-wrapper" == Value.type "method-wrapper") = true by decide, if_true]
  refine KFB.if_so (by decide) ?_
  refine wpAny_bind (check_bound_init F.excBase_ValueError.toExcCallFacts hC he rfl ?_)
  refine wpAny_bind (wpAny_pure (wpAny_pure ?_))
  refine ⟨plainId_quiet F.excBase_ValueError.init.plain _, codeAny_builtin F.excBase_ValueError.initEntry ?_⟩
  rw [Around.under_plainId F.excBase_ValueError.init.plain _]
  wp_walk
  refine hq _ h.objs.size (fun b o hb ho => ?_) ?_
  · rw [Heap.get?_update_other _ _ (Ne.symm hb)]
    exact Heap.get?_push_of_some _ ho
  · rw [Heap.get?_update_self _ (Heap.get?_push_of_some _ he) rfl]
    rfl
end
/-- what such an __init__ does: the field fld holds its argument -/
def sp_xi (K : PySem.W.Frag) (C : Addr) (fld : Str) : Sp := fun vs H Q _ => ∃ (a : Addr) (y : V), vs = [.ref a, y] ∧ H a = some (exo a C none) ∧ ∀ dx, H dx = none → dx ≠ a → Q .non (upd (upd H dx (exd dx [(fld, y)])) a (exo a C (some dx)))
def scX (sc : Scope) (x : Str) : Scope := { sc with names := [("self", .local), (x, .local)] }
theorem scX_ok {sc : Scope} {x : Str} (hk : sc.kind = .function) (hco : sc.isCoroutine = false) (hg : sc.isGenerator = false) (nx : x ≠ "self") : FnScope ["self", x] ["self", x] (scX sc x) := by
  refine ⟨hk, hco, hg, ?_, rfl, fun y hy => ?_, fun y hy => ?_⟩
  · simpa using fun z : ("self" : Str) = x => nx z.symm
  · left
    rcases List.mem_cons.mp hy with rfl | hy
    · rfl
    · rw [List.mem_singleton.mp hy]
      show List.lookup x [("self", NameKind.local), (x, .local)] = _
      have e : (x == ("self" : Str)) = false := by simpa using nx
      simp [List.lookup, e]
  · have : y = ((("self" : Str), NameKind.local) : Str × NameKind) ∨ y = (x, .local) := by simpa [scX] using hy
    rcases this with rfl | rfl <;> (intro z; cases z)
section
open PySem.W PySem.Calls
variable {P : Program} {w : World} {K : PySem.W.Frag} {mg : Str → Option Value} {base : Heap} {CX : CXT} {k : Nat} {f C cc cda : Addr} {qual x fld : Str} {params : Arguments} {names : List (Str × NameKind)} {more : List (Str × Const)} {p0 p1 p2 p3 p4 p5 p6 p7 p8 p9 : Pos} {dV kV doc pm ct oc : Value} {an od : Option Addr} {osl : Array (Option Value)}
theorem he_super {env : Env} (hpos : (p2.endLine == p4.line) = true) : eval (.Call (.Attribute (.Call (.Name "super" p0) [] [] p1) "__init__" p2) [.Name x p3] [] p4) env = (do
      let ov ← attributeBase (.Call (.Name "super" p0) [] [] p1) "__init__" env (eval (.Call (.Name "super" p0) [] [] p1) env)
      standAt p2.atName
      let (f, first) ← holding [ov] (getMethod ov "__init__" (do return (← importBound (.Call (.Name "super" p0) [] [] p1) env).getD true))
      callWith p4 f first (backTo p4 (starEach [.Name x p3] env)) []) := by
  have e1 : methodCallForm ([Expr.Name x p3].length + ([] : List Keyword).length) (backTo p4 (starEach [.Name x p3] env)) (backToKw p4 (keywordEach [] env)) = true := rfl
  have e2 : methodCallPos true (.Call (.Name "super" p0) [] [] p1) env p2 p4 = pure p4 := by
    unfold methodCallPos
    rw [if_pos (show (!true || p2.endLine == p4.line) = true by rw [hpos]; rfl)]
  show (do
    let ov ← attributeBase (.Call (.Name "super" p0) [] [] p1) "__init__" env (eval (.Call (.Name "super" p0) [] [] p1) env)
    standAt p2.atName
    methodCall (.Call (.Name "super" p0) [] [] p1) "__init__" p2 p4 env ov ([Expr.Name x p3].length + ([] : List Keyword).length) (backTo p4 (starEach [.Name x p3] env)) (backToKw p4 (keywordEach [] env))) = _
  unfold methodCall
  rw [e1, e2]
  rfl
theorem xi_ok (lk : K.lookup f = some ⟨oc, od, .func (ksFn "__init__" qual params [.Expr (.Call (.Attribute (.Call (.Name "super" p0) [] [] p1) "__init__" p2) [.Name x p3] [] p4) p5, .Assign [.Attribute (.Name "self" p6) fld p7] (.Name x p8) p9] (⟨.function, names, false, false, more⟩ : Scope) dV kV doc pm an (.ref cda) ct cc), osl⟩)
    (hcd : codeIn K (.ref cda) qual = true) (T : OexC K C) (hno : findIn K (.ref C) fld = some none) (nx : x ≠ "self") (hdx : (x == ("__debug__" : Str)) = false) (hpos : (p2.endLine == p4.line) = true)
    (hcell : ∀ y ∈ names, y.2 ≠ .cell)
    (hs : names.lookup ("self" : Str) = some .local) (hx : names.lookup x = some .local) (hks : names.lookup ("super" : Str) = some .globalImplicit) (hkc : names.lookup ("__class__" : Str) = some .free)
    {ar : Arg} (hp : (params.posonlyargs ++ params.args).head? = some ar) (har : ar.arg = "self")
    {ccl cl : Value} {cdd cld : Option Addr} {ccs csl : Array (Option Value)} {vs : Array Value} {file : Str} {tf : Tok}
    (hcode : K.lookup cda = some ⟨ccl, cdd, .fields vs, ccs⟩) (hvs : vs[2]? = some (.str file tf)) (hfile : ((P.main.file : Str) == file) = true) (htop : (P.main.scope.names.lookup ("super" : Str)).isSome = false)
    (hcc : K.lookup cc = some ⟨cl, cld, .cell (some (.ref C)), csl⟩) (hmg : mg "super" = none) (hboot : bootBuiltins "super" = some (.type "super"))
    (hsub : mroIn K C (.ref C) = some true) (hal : ks_superIn K C C "__init__" = some (some (.builtin "ValueError.__init__"))) (hve : subIn K (.ref C) (.type "ValueError") = some true) (hop : nsIn K cStatics "thirdparty.any" = some none) :
    FnOk P w K mg base CX (k + 1) f (ksFn "__init__" qual params [.Expr (.Call (.Attribute (.Call (.Name "super" p0) [] [] p1) "__init__" p2) [.Name x p3] [] p4) p5, .Assign [.Attribute (.Name "self" p6) fld p7] (.Name x p8) p9] (⟨.function, names, false, false, more⟩ : Scope) dV kV doc pm an (.ref cda) ct cc) ["self", x] (sp_xi K C fld) := by
  refine ⟨fun vs H Q E h => by obtain ⟨a, y, rfl, _⟩ := h; rfl, fun A outer s H args us vs Q E hr e0 hb r hsp => ?_⟩
  obtain ⟨a, y, rfl, ea, q⟩ := hsp
  cases r with
  | @cons _ ua _ ur ra rw' =>
  cases rw' with
  | @cons _ u _ ur' ry rn =>
  cases rn
  obtain rfl : ua = Value.ref a := ra
  have KX : K.In s.heap := e0.mod.kin.keeps fun b o e => (e0.bs b o e).1
  have lim : s.heap.NoLimit := e0.mod.nolimit.keeps fun b o e => (e0.bs b o e).1
  have S := scX_ok (sc := (⟨.function, names, false, false, more⟩ : Scope)) (x := x) rfl rfl rfl nx
  have nxs : (x == ("self" : Str)) = false := by simpa using nx
  have nsx : (("self" : Str) == x) = false := by simpa using fun z : ("self" : Str) = x => nx z.symm
  have hl2 : (("self" : Str), Value.ref a) = (("self" : Str), Value.ref a) := rfl
  have bl : ∀ z, List.lookup z ([((("self" : Str), Value.ref a) : Str × Value), (x, u)].reverse) = if z = x then some u else if z = ("self" : Str) then some (.ref a) else none := fun z => by
    show List.lookup z [(x, u), ((("self" : Str), Value.ref a) : Str × Value)] = _
    by_cases h1 : z = x
    · rw [h1, if_pos rfl]
      simp [List.lookup]
    · have e1 : (z == x) = false := by simpa using h1
      rw [if_neg h1]
      by_cases h2 : z = ("self" : Str)
      · rw [if_pos h2, h2]
        have e1 : (("self" : Str) == x) = false := nsx
        simp [List.lookup, e1]
      · have e2 : (z == ("self" : Str)) = false := by simpa using h2
        rw [if_neg h2]
        simp [List.lookup, e1, e2]
  refine ks_codeAny_call_defAt (binds := [((("self" : Str), Value.ref a) : Str × Value), (x, u)]) hr.depth (KX _ _ lk) rfl lim (codeRec_of KX hcd) rfl hb hcell (fun z hz => ?_) (fun h1 hns hk1 => ?_) rfl rfl rfl
  · have : z = ((("self" : Str), Value.ref a) : Str × Value) ∨ z = (x, u) := by simpa using hz
    rcases this with rfl | rfl
    · exact hs
    · exact hx
  have hns1 := hns
  rw [show (fun z => List.lookup z ([((("self" : Str), Value.ref a) : Str × Value), (x, u)].reverse)) = fun z => if z = x then some u else if z = ("self" : Str) then some (.ref a) else none from funext bl] at hns1
  have kx : (scX (⟨.function, names, false, false, more⟩ : Scope) x).names.lookup x = some .local := by
    show List.lookup x [((("self" : Str), NameKind.local) : Str × NameKind), (x, .local)] = _
    simp [List.lookup, nxs]
  have J0 : Inv (cxOf CX P w K mg base ["self", x] qual (scX (⟨.function, names, false, false, more⟩ : Scope) x) f (.ref cda) A outer s H E) [] (start ["self", x] [.ref a, y]) H { s with heap := h1, toks := s.toks + 2 } := by
    refine inv_start (us := [.ref a, u]) S hr.hd e0 rfl (.cons rfl (.cons ry .nil)) ⟨⟨⟨h1, _, rfl⟩, ?_, hk1, Nat.le_refl _⟩, fun n c hh => ?_, .nil, fun n c hh => ?_⟩
    · have e : bindL (envOfC qual (scX (⟨.function, names, false, false, more⟩ : Scope) x) s.heap.objs.size f (.ref cda)).kindOf ((["self", x] : List Str).zip [.ref a, u]) (fun _ => none) = fun z => if z = x then some u else if z = ("self" : Str) then some (.ref a) else none := by
        show bindL _ [((("self" : Str), Value.ref a) : Str × Value), (x, u)] _ = _
        unfold bindL
        rw [if_pos (show (envOfC qual (scX (⟨.function, names, false, false, more⟩ : Scope) x) s.heap.objs.size f (.ref cda)).kindOf "self" = some .local from rfl)]
        unfold bindL
        rw [if_pos (show (envOfC qual (scX (⟨.function, names, false, false, more⟩ : Scope) x) s.heap.objs.size f (.ref cda)).kindOf x = some .local from kx)]
        rfl
      rw [e]
      exact hns1
    · cases hh
    · cases hh
  have KX1 : K.In h1 := J0.kIn
  obtain ⟨mb, hb1, hb2⟩ := J0.mod.blt
  obtain ⟨nm, qn, N, bs, bm, sn, sub, ab, col, dd, k0, k1, k2, k3, k5, hC, hbm⟩ := T.cls
  have hcl : clsIn K C = some { name := nm, bases := bs, mro := .ref C :: bm, ns := N, qualname := qn, hasDict := true, slotNames := sn, subclasses := sub, abstract := ab, collection := col, hasDel := false } := by unfold clsIn; rw [hC] <;> rfl
  obtain ⟨t1, ho⟩ := exo_at J0.hok ea
  have ho : h1.get? a = some ({ cls := .ref C, dict := none, data := .fields #[.ref t1, .none, .none, .none, .bool false, .none] } : Obj) := ho
  have vself : (fun z => if z = x then some u else if z = ("self" : Str) then some (Value.ref a) else none) ("self" : Str) = some (.ref a) := by
    show (if ("self" : Str) = x then some u else if ("self" : Str) = ("self" : Str) then some (Value.ref a) else none) = _
    rw [if_neg fun z => nx z.symm, if_pos rfl]
  have vx : (fun z => if z = x then some u else if z = ("self" : Str) then some (Value.ref a) else none) x = some u := if_pos rfl
  refine ks_wpAt_execs_cons (ks_wpAt_Expr_any (ks_wpAt_MethodCall ?_ (he_super hpos)))
  refine ks_wpAt_super_base hks hkc rfl rfl (KX1 _ _ lk) rfl hp rfl (KX1 _ _ hcode) rfl hvs hfile htop ?_
  refine ks_loadName_global rfl hks (loadGlobal_builtin (J0.mod.glob.keeps J0.bk) hmg (hb1.keeps J0.bk) ((hb2 "super" (by decide)).trans hboot) ⟨rfl, ?_⟩)
  refine wpAny_loadName_free rfl hkc rfl ⟨_, KX1 _ _ hcc, rfl⟩ ?_
  rw [har]
  refine wpAny_loadName_local rfl hs hns1 vself ?_
  refine ks_wpAny_isType_cls (KX1 _ _ hC) rfl ⟨rfl, ?_⟩
  refine ks_wpAny_call_super (KX1 _ _ hC) rfl ho rfl (fun c z => by cases z) (looks_mroIn KX1 hsub) (fun h2 hso k2 => ?_)
  have J2 := J0.kept (t' := s.toks + 2) k2
  have KX2 : K.In h2 := J2.kIn
  have I2 : W.InstAt h2 a _ C none := ⟨k2 _ _ ho, rfl, rfl, trivial⟩
  have hal2 : alongIn K "__init__" (((Value.ref C :: bm).dropWhile (· != .ref C)).drop 1) = some (some (.builtin "ValueError.__init__")) := by
    have z := hal
    unfold ks_superIn at z
    rw [hcl] at z
    exact z
  refine kxs_getMethod kxs_ValueError hso (looks_opaque KX2 hop) (l₀ := .ref C :: bm) (fun A Q E s k q => wpAny_bind ((looks_clsIn KX2 hcl) A _ E s k (wpAny_pure q))) rfl KX2 hal2 (I2.type.andThen (looks_subIn KX2 hve)) (ks_ne KX2 I2 hcl) rfl ?_
  have J3 := J2.kept (h' := h2.push (kxs_mw "ValueError.__init__" a)) (t' := s.toks + 2 + 1) fun b o e => Heap.get?_push_of_some _ e
  have hu3 : (h2.push (kxs_mw "ValueError.__init__" a)).get? h2.objs.size = some (kxs_mw "ValueError.__init__" a) := Heap.get?_push_at rfl rfl
  have k13 : ∀ b o, h1.get? b = some o → (h2.push (kxs_mw "ValueError.__init__" a)).get? b = some o := fun b o e => Heap.get?_push_of_some _ (k2 b o e)
  generalize h2.push (kxs_mw "ValueError.__init__" a) = h3 at *
  have hns3 := hns1.keeps k13
  refine callWith_mw (i := "ValueError.__init__") (x := a) ?_
  refine args_cons (wpAny_Name (wpAny_loadName_local rfl hx hns3 vx ?_) hdx)
  refine args_nil ⟨hu3, ?_⟩
  refine call_mw (J3.kIn _ _ hC) (k13 _ _ ho) hu3 (by show 1 ≤ sizeLine; decide) (fun h4 t4 k4 he4 => ?_)
  have J4 := J3.write (t' := s.toks + 2 + 1) (h' := h4) (x := a) (e := a) (o := exo a C none) (by rw [ea]; exact True.intro) (.inl rfl) k4 ⟨_, he4⟩ (exo_ok he4)
  have eu : upd H a (exo a C none) = H := by
    funext b
    by_cases hb : b = a
    · rw [hb, upd_same, ea]
    · rw [upd_ne hb]
  rw [eu] at J4
  have hns4 : h4.Ns s.heap.objs.size (fun z => if z = x then some u else if z = ("self" : Str) then some (Value.ref a) else none) := by
    obtain ⟨oL, es, ep, hL, rL⟩ := hns3
    refine ⟨oL, es, ep, k4 _ _ (fun z => ?_) hL, rL⟩
    have fr := e0.hok.fresh (Nat.le_refl s.heap.objs.size)
    rw [z, ea] at fr
    cases fr
  refine ks_wpAt_execs_cons (ks_wpAt_Assign_Attr ?_)
  refine wpAt_of_any (wpAny_Name (wpAny_loadName_local rfl hx hns4 vx ?_) hdx)
  refine wpAny_Name (wpAny_loadName_local rfl hs hns4 vself ?_) (by decide)
  refine ost_new T J4 ea hno ry (fun dx s' hdx' ne J5 => ?_)
  refine wpAt_of_any (wpAny_pure ?_)
  exact ⟨.non, _, J5.os, J5.bare, J5.base, J5.hok, rfl, q dx hdx' ne⟩
end
end LaneX
set_option Elab.async false
set_option linter.all false
set_option maxRecDepth 100000
set_option maxHeartbeats 4000000
namespace LaneX
open PySem PySem.Spec PyProof.Rows L2
/-! ### an own exception with super().__init__(x), self.f = x: looked at, made -/
def oexB (K : PySem.W.Frag) (C : Addr) : Bool := match K.lookup C with
  | some ⟨.type t, _, .cls cd, sl⟩ => decide (t = "type") && (match cd.mro, sl.toList with
    | .ref C' :: bm, [_, _, _, _, some (.builtin n), _] => C' == C && (n == "ValueError.__new__" && (!cd.hasDel && (cd.hasDict && PySem.HandSPX.refsVE bm)))
    | _, _ => false)
  | _ => false
theorem oexB_ok {K : PySem.W.Frag} {C : Addr} (h : oexB K C = true) : ∃ nm q N bs bm sn sub ab col dd k0 k1 k2 k3 k5, K.lookup C = some (excClassObj nm q C N bs bm true sn sub ab col dd k0 k1 k2 k3 k5 "ValueError.__new__") ∧ PySem.HandSPX.refsVE bm = true := by
  unfold oexB at h
  split at h
  · rename_i t od cd sl ho
    obtain ⟨h1, h⟩ := He.ba h
    split at h
    · rename_i C' bm k0 k1 k2 k3 n k5 hm hs
      obtain ⟨h2, h⟩ := He.ba h
      obtain ⟨h3, h⟩ := He.ba h
      obtain ⟨h4, h⟩ := He.ba h
      obtain ⟨h5, h6⟩ := He.ba h
      obtain rfl := beq_iff_eq.mp h2
      obtain rfl := beq_iff_eq.mp h3
      obtain rfl := of_decide_eq_true h1
      obtain ⟨nm, bs, mro, N, q, hd, sn, sub, ab, col, del⟩ := cd
      dsimp only at hm h4 h5
      subst hm
      subst h5
      have hdel : del = false := by cases del <;> first | rfl | cases h4
      subst hdel
      have hsl : sl = #[k0, k1, k2, k3, some (.builtin "ValueError.__new__"), k5] := by
        apply Array.ext'
        exact hs
      exact ⟨nm, q, N, bs, bm, sn, sub, ab, col, od, k0, k1, k2, k3, k5, by rw [ho, hsl], h6⟩
    · cases h
  · cases h
/-- the file of a code object -/
def fileB (p : Program) (K : PySem.W.Frag) (cda : Addr) : Bool := match K.lookup cda with
  | some ⟨_, _, .fields vs, _⟩ => (match (vs : Array Value)[2]? with
    | some (Value.str file _) => (p.main.file : Str) == file
    | _ => false)
  | _ => false
theorem fileB_ok {p : Program} {K : PySem.W.Frag} {cda : Addr} (h : fileB p K cda = true) : ∃ (ccl : Value) (cdd : Option Addr) (vs : Array Value) (ccs : Array (Option Value)) (file : Str) (tf : Tok), K.lookup cda = some ⟨ccl, cdd, .fields vs, ccs⟩ ∧ vs[2]? = some (.str file tf) ∧ ((p.main.file : Str) == file) = true := by
  unfold fileB at h
  split at h
  · rename_i ccl cdd vs ccs ho
    split at h
    · rename_i file tf hv
      exact ⟨_, _, _, _, _, _, ho, hv, h⟩
    · cases h
  · cases h
/-- a cell that holds C -/
def cellB (K : PySem.W.Frag) (cc C : Addr) : Bool := match K.lookup cc with
  | some ⟨_, _, .cell (some (.ref D)), _⟩ => D == C
  | _ => false
theorem cellB_ok {K : PySem.W.Frag} {cc C : Addr} (h : cellB K cc C = true) : ∃ (cl : Value) (cld : Option Addr) (csl : Array (Option Value)), K.lookup cc = some ⟨cl, cld, .cell (some (.ref C)), csl⟩ := by
  unfold cellB at h
  split at h
  · rename_i cl cld D csl ho
    obtain rfl := beq_iff_eq.mp h
    exact ⟨_, _, _, ho⟩
  · cases h
def xiA (x fld : Str) (nm a0 a1 s0 s1 x1 s2 f1 x2 cn : Str) (g b : Addr) : Bool := decide (nm = "__init__" ∧ a0 = "self" ∧ a1 = x ∧ s0 = "super" ∧ s1 = "__init__" ∧ x1 = x ∧ s2 = "self" ∧ f1 = fld ∧ x2 = x ∧ g = mainGlobals ∧ b = builtinsNs ∧ cn = "__class__")
def xiN (x : Str) (names : List (Str × NameKind)) : Bool := decide (∀ y ∈ names, y.2 ≠ .cell) && decide (names.lookup ("self" : Str) = some .local ∧ names.lookup x = some .local ∧ names.lookup ("super" : Str) = some .globalImplicit ∧ names.lookup ("__class__" : Str) = some .free)
def exiB (p : Program) (K : PySem.W.Frag) (C f : Addr) (x fld : Str) : Bool := match K.lookup f with
  | some ⟨_, _, .func ⟨nm, qual, ⟨[], [⟨a0, _, _⟩, ⟨a1, _, _⟩], none, [], [], none, []⟩, .stmts [.Expr (.Call (.Attribute (.Call (.Name s0 _) [] [] _) s1 p2) [.Name x1 _] [] p4) _, .Assign [.Attribute (.Name s2 _) f1 _] (.Name x2 _) _], ⟨.function, names, false, false, more⟩, g, [(cn, cc)], .none, kV, doc, pm, an, .ref cda, ct, b⟩, _⟩ =>
    xiA x fld nm a0 a1 s0 s1 x1 s2 f1 x2 cn g b && ((p2.endLine == p4.line) && (xiN x names && (PySem.W.codeIn K (.ref cda) qual && (fileB p K cda && cellB K cc C))))
  | _ => false
/-- all that is asked of such a class -/
def exkB (p : Program) (K : PySem.W.Frag) (C : Addr) (x fld : Str) : Bool :=
  oexB K C && (He.eqO (PySem.W.findIn K (.ref C) "__setattr__") (some (some (.builtin "object.__setattr__"))) && (decide (PySem.W.subIn K (.ref C) (.type "BaseException") = some true) && ((PySem.W.typeIn K (.ref C) == some (.type "type")) && (PySem.W.keepIn K (.ref C) &&
  (He.eqO (PySem.W.findIn K (.ref C) fld) (some none) && (decide (PySem.W.mroIn K C (.ref C) = some true) && (He.eqO (PySem.W.ks_superIn K C C "__init__") (some (some (.builtin "ValueError.__init__"))) && (decide (PySem.W.subIn K (.ref C) (.type "ValueError") = some true) &&
  (He.eqO (PySem.W.nsIn K cStatics "thirdparty.any") (some none) && (match PySem.W.findIn K (.ref C) "__init__" with
    | some (some (.ref f)) => (PySem.W.typeIn K (.ref f) == some (.type "function")) && exiB p K C f x fld
    | _ => false))))))))))
structure Xi (P : Program) (K : PySem.W.Frag) (mg : Str → Option Value) (C : Addr) (x fld : Str) : Prop where
  T : OexC K C
  ini : ∃ (f : Addr) (fd : FuncData), PySem.W.findIn K (.ref C) "__init__" = some (some (.ref f)) ∧ PySem.W.typeIn K (.ref f) = some (.type "function") ∧ Binds K fd ["self", x] [] ∧
    ∀ (w : World) (base : Heap) (CX : CXT) (k : Nat), FnOk P w K mg base CX (k + 1) f fd ["self", x] (sp_xi K C fld)
/-- the parameters bind by place (true of any written name: by rfl) -/
def BndX (x : Str) : Prop := ∀ (nm qual : Str) (a0 : Option Expr) (p0 : Pos) (a1 : Option Expr) (p1 : Pos) (body : List Stmt) (sc : Scope) (kV doc pm : Value) (an : Option Addr) (cdv ct : Value) (cc : Addr) (u1 u2 : Value),
  bindArgs (PySem.W.ksFn nm qual ⟨[], [⟨"self", a0, p0⟩, ⟨x, a1, p1⟩], none, [], [], none, []⟩ body sc .none kV doc pm an cdv ct cc) ⟨[u1, u2], []⟩ = pure [((("self" : Str), u1) : Str × Value), (x, u2)]
theorem bnd_test : BndX "index" := fun _ _ _ _ _ _ _ _ _ _ _ _ _ _ _ _ _ => rfl
theorem exiB_ok {P : Program} {K : PySem.W.Frag} {mg : Str → Option Value} {C f : Addr} {x fld : Str} (h : exiB P K C f x fld = true) (T : OexC K C) (hno : PySem.W.findIn K (.ref C) fld = some none) (bx : BndX x) (nx : x ≠ "self") (hdx : (x == ("__debug__" : Str)) = false)
    (htop : (P.main.scope.names.lookup ("super" : Str)).isSome = false) (hmg : mg "super" = none) (hboot : bootBuiltins "super" = some (.type "super")) (hsub : PySem.W.mroIn K C (.ref C) = some true) (hal : PySem.W.ks_superIn K C C "__init__" = some (some (.builtin "ValueError.__init__")))
    (hve : PySem.W.subIn K (.ref C) (.type "ValueError") = some true) (hop : PySem.W.nsIn K cStatics "thirdparty.any" = some none) :
    ∃ fd : FuncData, Binds K fd ["self", x] [] ∧ ∀ (w : World) (base : Heap) (CX : CXT) (k : Nat), FnOk P w K mg base CX (k + 1) f fd ["self", x] (sp_xi K C fld) := by
  unfold exiB at h
  split at h
  · rename_i oc od nm qual a0 an0 ap0 a1 an1 ap1 s0 p0 p1 s1 p2 x1 p3 p4 p5 s2 p6 f1 p7 x2 p8 p9 names more g cn cc kV doc pm an cda ct b osl ho
    obtain ⟨h1, h⟩ := He.ba h
    obtain ⟨h2, h⟩ := He.ba h
    obtain ⟨h3, h⟩ := He.ba h
    obtain ⟨h4, h⟩ := He.ba h
    obtain ⟨h5, h6⟩ := He.ba h
    obtain ⟨rfl, rfl, rfl, rfl, rfl, rfl, rfl, rfl, rfl, rfl, rfl, rfl⟩ := of_decide_eq_true h1
    obtain ⟨h7, h8⟩ := He.ba h3
    have h7 := of_decide_eq_true h7
    obtain ⟨n1, n2, n3, n4⟩ := of_decide_eq_true h8
    obtain ⟨ccl, cdd, vs, ccs, file, tf, e1, e2, e3⟩ := fileB_ok h5
    obtain ⟨cl, cld, csl, e4⟩ := cellB_ok h6
    refine ⟨_, .all fun us hl => ?_, fun w base CX k => xi_ok ho h4 T hno nx hdx h2 h7 n1 n2 n3 n4 rfl rfl e1 e2 e3 htop e4 hmg hboot hsub hal hve hop⟩
    match us, hl with
    | [_, _], _ => exact bx _ _ _ _ _ _ _ _ _ _ _ _ _ _ _ _ _
  · cases h
theorem exkB_ok {P : Program} {K : PySem.W.Frag} {mg : Str → Option Value} {C : Addr} {x fld : Str} (h : exkB P K C x fld = true) (bx : BndX x) (nx : x ≠ "self") (hdx : (x == ("__debug__" : Str)) = false) (htop : (P.main.scope.names.lookup ("super" : Str)).isSome = false) (hmg : mg "super" = none) (hboot : bootBuiltins "super" = some (.type "super")) : Xi P K mg C x fld := by
  unfold exkB at h
  obtain ⟨h1, h⟩ := He.ba h
  obtain ⟨h2, h⟩ := He.ba h
  obtain ⟨h3, h⟩ := He.ba h
  obtain ⟨h4, h⟩ := He.ba h
  obtain ⟨h5, h⟩ := He.ba h
  obtain ⟨h6, h⟩ := He.ba h
  obtain ⟨h7, h⟩ := He.ba h
  obtain ⟨h8, h⟩ := He.ba h
  obtain ⟨h9, h⟩ := He.ba h
  obtain ⟨h10, h⟩ := He.ba h
  have T : OexC K C := ⟨oexB_ok h1, He.eqO_ok h2, of_decide_eq_true h3, beq_iff_eq.mp h4, h5⟩
  split at h
  · rename_i f hf
    obtain ⟨h11, h12⟩ := He.ba h
    obtain ⟨fd, b, F⟩ := exiB_ok h12 T (He.eqO_ok h6) bx nx hdx htop hmg hboot (of_decide_eq_true h7) (He.eqO_ok h8) (of_decide_eq_true h9) (He.eqO_ok h10)
    exact ⟨T, f, fd, hf, beq_iff_eq.mp h11, b, F⟩
  · cases h
end LaneX
set_option Elab.async false
set_option linter.all false
set_option maxRecDepth 100000
set_option maxHeartbeats 4000000
namespace LaneX
open PySem PySem.Spec PyProof.Rows L2
/-! ### a hook whose part holds the statics too (super() asks them) -/
abbrev frY (n : Nat) (g : Addr → Option Obj) : PySem.W.Frag := He.frT g (cStatics :: He.asD g n)
def obsY (n : Nat) (fa : List He.Fa) (fn : List He.DefD) (tf : List He.Defn) (ex : PySem.W.Frag → Bool) (g : Addr → Option Obj) : He.AlX := (He.obsT fa fn [] (frY n g), ex (frY n g) && He.tabsB g tf (frY n g))
theorem tab_y {g : Addr → Option Obj} {tf : List He.Defn} {K : PySem.W.Frag} (h : He.tabsB g tf K = true) {p : He.Defn} (hp : p ∈ tf) : PySem.W.codeHdIn K (He.cT K p).1 (He.cT K p).2 = true ∧ ∃ o, g (He.cT K p).2 = some o ∧ He.emptyTab o = true := by
  have z := List.all_eq_true.mp h p hp
  cases e : g (He.cT K p).2 with
  | none =>
    have z := (Bool.and_eq_true_iff.mp z).2
    rw [e] at z
    cases z
  | some o =>
    obtain ⟨z1, z2⟩ := Bool.and_eq_true_iff.mp z
    rw [e] at z2
    exact ⟨z1, o, rfl, z2⟩
theorem says_y {n : Nat} {fa : List He.Fa} {fn : List He.DefD} {tf : List He.Defn} {ex : PySem.W.Frag → Bool} {w : World} {h : Heap} (e : obsY n fa fn tf ex h.get? = He.valX fn [] w) : He.SaysX fa fn [] tf ex w h (frY n h.get?) := by
  obtain ⟨e1, e2⟩ := Prod.mk.inj e
  obtain ⟨b1, b2⟩ := Bool.and_eq_true_iff.mp e2
  refine { t := e1, more := b1, hd := fun p hp => (tab_y b2 hp).1, out := fun p hp => ?_, empty := fun p hp => ?_ }
  · obtain ⟨_, o, q, z⟩ := tab_y b2 hp
    exact He.frT_none q z
  · obtain ⟨_, o, q, z⟩ := tab_y b2 hp
    exact q.trans (congrArg some (He.emptyTab_eq z))
def hookY (n : Nat) (fa : List He.Fa) (fn : List He.DefD) (tf : List He.Defn) (ex : PySem.W.Frag → Bool) : PySem.W.Hook :=
  ⟨He.AlX, fun s => obsY n fa fn tf ex s.heap.get?, fun w => He.valX fn [] w, fun w h => ∃ K : PySem.W.Frag, K.In h ∧ He.SaysX fa fn [] tf ex w h K, fun _ _ e => ⟨_, He.frT_in, says_y e⟩,
    fun _ _ _ a k => a.imp fun K z => ⟨z.1.keeps k, { z.2 with empty := fun p hp => k _ _ (z.2.empty p hp) }⟩⟩
theorem obsY_eq {n : Nat} {fa : List He.Fa} {fn : List He.DefD} {tf : List He.Defn} {ex : PySem.W.Frag → Bool} {g : Addr → Option Obj} {s : Shared} (h : ∀ a, g a = s.heap.get? a) : obsY n fa fn tf ex g = (hookY n fa fn tf ex).obs s := by
  obtain rfl : g = s.heap.get? := funext h
  rfl
/-- what is seen, in two looks -/
theorem two_y {σ β : Type} {O : Option σ} {l : σ → Bool} {q : σ → β} {g : σ → Addr → Option Obj} {n : Nat} {lv : Bool} {qv : β} {w : World} {fa : List He.Fa} {fn : List He.DefD} {ex : PySem.W.Frag → Bool} {tf : List He.Defn} (a : O.map (fun s => (l s, q s, obsY n fa [] tf ex (g s))) = some (lv, qv, He.valX [] [] w))
    (b : O.map (fun s => obsY n [] fn [] (fun _ => true) (g s)) = some (He.valX fn [] w)) : O.map (fun s => (l s, q s, obsY n fa fn tf ex (g s))) = some (lv, qv, He.valX fn [] w) := by
  cases O with
  | none => cases a
  | some s =>
    have a := Option.some.inj a
    have b := Option.some.inj b
    obtain ⟨a1, a⟩ := Prod.mk.inj a
    obtain ⟨a2, a⟩ := Prod.mk.inj a
    unfold obsY He.valX He.obsT He.valT He.obsD He.valD at a b
    obtain ⟨a3, a4⟩ := Prod.mk.inj a
    obtain ⟨b3, b4⟩ := Prod.mk.inj b
    have a5 := (Prod.mk.inj (Prod.mk.inj a3).1).1
    obtain ⟨b5, b6⟩ := Prod.mk.inj (Prod.mk.inj b3).1
    show some (l s, q s, obsY n fa fn tf ex (g s)) = _
    unfold obsY He.valX He.obsT He.valT He.obsD He.valD
    rw [a1, a2]
    rw [List.all_nil, Bool.and_true] at a5
    rw [List.all_nil, Bool.true_and] at b5
    rw [a4, a5, b5, b6]
    rfl
end LaneX
set_option Elab.async false
set_option linter.all false
set_option maxRecDepth 100000
set_option maxHeartbeats 4000000
namespace LaneX
open PySem PySem.Spec PyProof.Rows L2
def top (i : Nat) : Stmt := PySem.Challenge.pw_laneswap_k26_whole_free_for_three.main.body.getD i (.Pass ⟨0, 0, 0, 0⟩)
abbrev s__wall : Stmt := top 0
theorem sc__wall : FnScope ["k"] ["k"] (defScope s__wall) := ⟨rfl, rfl, rfl, by decide +kernel, rfl, by decide +kernel, by decide +kernel⟩
abbrev s_is_whole : Stmt := top 10
theorem sc_is_whole : FnScope ["value"] ["value"] (defScope s_is_whole) := ⟨rfl, rfl, rfl, by decide +kernel, rfl, by decide +kernel, by decide +kernel⟩
abbrev s_need_whole : Stmt := top 11
theorem sc_need_whole : FnScope ["value"] ["value"] (defScope s_need_whole) := ⟨rfl, rfl, rfl, by decide +kernel, rfl, by decide +kernel, by decide +kernel⟩
abbrev s_need_items : Stmt := top 12
theorem sc_need_items : FnScope ["value"] ["value"] (defScope s_need_items) := ⟨rfl, rfl, rfl, by decide +kernel, rfl, by decide +kernel, by decide +kernel⟩
abbrev s_need_word : Stmt := top 13
theorem sc_need_word : FnScope ["value", "bits"] ["value", "bits"] (defScope s_need_word) := ⟨rfl, rfl, rfl, by decide +kernel, rfl, by decide +kernel, by decide +kernel⟩
abbrev s_need_words : Stmt := top 14
theorem sc_need_words : FnScope ["values", "bits", "value"] ["values", "bits"] (defScope s_need_words) := ⟨rfl, rfl, rfl, by decide +kernel, rfl, by decide +kernel, by decide +kernel⟩
abbrev s_ones : Stmt := top 16
theorem sc_ones : FnScope ["word", "found", "left", "low"] ["word"] (defScope s_ones) := ⟨rfl, rfl, rfl, by decide +kernel, rfl, by decide +kernel, by decide +kernel⟩
abbrev s_cleared : Stmt := top 18
theorem sc_cleared : FnScope ["rows", "word", "left", "row"] ["rows", "word"] (defScope s_cleared) := ⟨rfl, rfl, rfl, by decide +kernel, rfl, by decide +kernel, by decide +kernel⟩
abbrev s_grown : Stmt := top 19
theorem sc_grown : FnScope ["rows", "word", "left", "top", "row"] ["rows", "word"] (defScope s_grown) := ⟨rfl, rfl, rfl, by decide +kernel, rfl, by decide +kernel, by decide +kernel⟩
abbrev s_spanned : Stmt := top 20
theorem sc_spanned : FnScope ["words", "rows", "word"] ["words"] (defScope s_spanned) := ⟨rfl, rfl, rfl, by decide +kernel, rfl, by decide +kernel, by decide +kernel⟩
abbrev s_tops_of : Stmt := top 21
theorem sc_tops_of : FnScope ["rows", "row"] ["rows"] (defScope s_tops_of) := ⟨rfl, rfl, rfl, by decide +kernel, rfl, by decide +kernel, by decide +kernel⟩
abbrev s_missing : Stmt := top 22
theorem sc_missing : FnScope ["rows", "tops", "bit"] ["rows"] (defScope s_missing) := ⟨rfl, rfl, rfl, by decide +kernel, rfl, by decide +kernel, by decide +kernel⟩
abbrev s_image_of : Stmt := top 23
theorem sc_image_of : FnScope ["columns", "word", "total", "bit"] ["columns", "word"] (defScope s_image_of) := ⟨rfl, rfl, rfl, by decide +kernel, rfl, by decide +kernel, by decide +kernel⟩
abbrev s_paired : Stmt := top 24
theorem sc_paired : FnScope ["columns", "source", "bit"] ["columns"] (defScope s_paired) := ⟨rfl, rfl, rfl, by decide +kernel, rfl, by decide +kernel, by decide +kernel⟩
abbrev s_kernel_rows : Stmt := top 25
theorem sc_kernel_rows : FnScope ["columns", "row"] ["columns"] (defScope s_kernel_rows) := ⟨rfl, rfl, rfl, by decide +kernel, rfl, by decide +kernel, by decide +kernel⟩
abbrev s_solved : Stmt := top 26
theorem sc_solved : FnScope ["pairs", "source", "word", "left"] ["pairs", "source", "word"] (defScope s_solved) := ⟨rfl, rfl, rfl, by decide +kernel, rfl, by decide +kernel, by decide +kernel⟩
abbrev s_met : Stmt := top 27
theorem sc_met : FnScope ["bits", "rows", "others", "both", "row"] ["bits", "rows", "others"] (defScope s_met) := ⟨rfl, rfl, rfl, by decide +kernel, rfl, by decide +kernel, by decide +kernel⟩
abbrev s_Space_init : Stmt := inClass (top 29) 0
theorem sc_Space_init : FnScope ["self", "bits", "words"] ["self", "bits", "words"] (defScope s_Space_init) := ⟨rfl, rfl, rfl, by decide +kernel, rfl, by decide +kernel, by decide +kernel⟩
abbrev s_Space_eq : Stmt := inClass (top 29) 1
theorem sc_Space_eq : FnScope ["self", "other"] ["self", "other"] (defScope s_Space_eq) := ⟨rfl, rfl, rfl, by decide +kernel, rfl, by decide +kernel, by decide +kernel⟩
abbrev s_Space_contains : Stmt := inClass (top 29) 2
theorem sc_Space_contains : FnScope ["self", "word"] ["self", "word"] (defScope s_Space_contains) := ⟨rfl, rfl, rfl, by decide +kernel, rfl, by decide +kernel, by decide +kernel⟩
abbrev s_Space_and : Stmt := inClass (top 29) 3
theorem sc_Space_and : FnScope ["self", "other"] ["self", "other"] (defScope s_Space_and) := ⟨rfl, rfl, rfl, by decide +kernel, rfl, by decide +kernel, by decide +kernel⟩
abbrev s_Space_add : Stmt := inClass (top 29) 4
theorem sc_Space_add : FnScope ["self", "other"] ["self", "other"] (defScope s_Space_add) := ⟨rfl, rfl, rfl, by decide +kernel, rfl, by decide +kernel, by decide +kernel⟩
abbrev s_Space_inside : Stmt := inClass (top 29) 5
theorem sc_Space_inside : FnScope ["self", "other"] ["self", "other"] (defScope s_Space_inside) := ⟨rfl, rfl, rfl, by decide +kernel, rfl, by decide +kernel, by decide +kernel⟩
abbrev s_Space_least : Stmt := inClass (top 29) 6
theorem sc_Space_least : FnScope ["self", "word"] ["self", "word"] (defScope s_Space_least) := ⟨rfl, rfl, rfl, by decide +kernel, rfl, by decide +kernel, by decide +kernel⟩
abbrev s_Space_listed : Stmt := inClass (top 29) 7
theorem sc_Space_listed : FnScope ["self", "word"] ["self", "word"] (defScope s_Space_listed) := ⟨rfl, rfl, rfl, by decide +kernel, rfl, by decide +kernel, by decide +kernel⟩
abbrev s_Space_completing : Stmt := inClass (top 29) 8
theorem sc_Space_completing : FnScope ["self", "other", "rows", "found", "row"] ["self", "other"] (defScope s_Space_completing) := ⟨rfl, rfl, rfl, by decide +kernel, rfl, by decide +kernel, by decide +kernel⟩
abbrev s_Space_complement : Stmt := inClass (top 29) 9
theorem sc_Space_complement : FnScope ["self"] ["self"] (defScope s_Space_complement) := ⟨rfl, rfl, rfl, by decide +kernel, rfl, by decide +kernel, by decide +kernel⟩
abbrev s_need_space : Stmt := top 30
theorem sc_need_space : FnScope ["value", "bits"] ["value", "bits"] (defScope s_need_space) := ⟨rfl, rfl, rfl, by decide +kernel, rfl, by decide +kernel, by decide +kernel⟩
abbrev s_any_space : Stmt := top 31
theorem sc_any_space : FnScope ["value"] ["value"] (defScope s_any_space) := ⟨rfl, rfl, rfl, by decide +kernel, rfl, by decide +kernel, by decide +kernel⟩
abbrev s_every : Stmt := top 32
theorem sc_every : FnScope ["bits", "bit"] ["bits"] (defScope s_every) := ⟨rfl, rfl, rfl, by decide +kernel, rfl, by decide +kernel, by decide +kernel⟩
abbrev s_outside : Stmt := top 33
theorem sc_outside : FnScope ["rows", "others", "one", "other"] ["rows", "others"] (defScope s_outside) := ⟨rfl, rfl, rfl, by decide +kernel, rfl, by decide +kernel, by decide +kernel⟩
abbrev s_Map_init : Stmt := inClass (top 35) 0
theorem sc_Map_init : FnScope ["self", "goal", "columns"] ["self", "goal", "columns"] (defScope s_Map_init) := ⟨rfl, rfl, rfl, by decide +kernel, rfl, by decide +kernel, by decide +kernel⟩
abbrev s_Map_eq : Stmt := inClass (top 35) 1
theorem sc_Map_eq : FnScope ["self", "other"] ["self", "other"] (defScope s_Map_eq) := ⟨rfl, rfl, rfl, by decide +kernel, rfl, by decide +kernel, by decide +kernel⟩
abbrev s_Map_call : Stmt := inClass (top 35) 2
theorem sc_Map_call : FnScope ["self", "word"] ["self", "word"] (defScope s_Map_call) := ⟨rfl, rfl, rfl, by decide +kernel, rfl, by decide +kernel, by decide +kernel⟩
abbrev s_Map_getitem : Stmt := inClass (top 35) 3
theorem sc_Map_getitem : FnScope ["self", "bit"] ["self", "bit"] (defScope s_Map_getitem) := ⟨rfl, rfl, rfl, by decide +kernel, rfl, by decide +kernel, by decide +kernel⟩
abbrev s_Map_iter : Stmt := inClass (top 35) 4
theorem sc_Map_iter : FnScope ["self"] ["self"] (defScope s_Map_iter) := ⟨rfl, rfl, rfl, by decide +kernel, rfl, by decide +kernel, by decide +kernel⟩
abbrev s_Map_mul : Stmt := inClass (top 35) 5
theorem sc_Map_mul : FnScope ["self", "other", "column"] ["self", "other"] (defScope s_Map_mul) := ⟨rfl, rfl, rfl, by decide +kernel, rfl, by decide +kernel, by decide +kernel⟩
abbrev s_Map_add : Stmt := inClass (top 35) 6
theorem sc_Map_add : FnScope ["self", "other", "one", "two"] ["self", "other"] (defScope s_Map_add) := ⟨rfl, rfl, rfl, by decide +kernel, rfl, by decide +kernel, by decide +kernel⟩
abbrev s_Map_invert : Stmt := inClass (top 35) 7
theorem sc_Map_invert : FnScope ["self", "pairs", "bit"] ["self"] (defScope s_Map_invert) := ⟨rfl, rfl, rfl, by decide +kernel, rfl, by decide +kernel, by decide +kernel⟩
abbrev s_Map_floordiv : Stmt := inClass (top 35) 8
theorem sc_Map_floordiv : FnScope ["self", "other", "row", "pairs", "words", "bit", "word"] ["self", "other"] (defScope s_Map_floordiv) := ⟨rfl, rfl, rfl, by decide +kernel, rfl, by decide +kernel, by decide +kernel⟩
abbrev s_Map_rank : Stmt := inClass (top 35) 9
theorem sc_Map_rank : FnScope ["self"] ["self"] (defScope s_Map_rank) := ⟨rfl, rfl, rfl, by decide +kernel, rfl, by decide +kernel, by decide +kernel⟩
abbrev s_Map_kernel : Stmt := inClass (top 35) 10
theorem sc_Map_kernel : FnScope ["self"] ["self"] (defScope s_Map_kernel) := ⟨rfl, rfl, rfl, by decide +kernel, rfl, by decide +kernel, by decide +kernel⟩
abbrev s_Map_image : Stmt := inClass (top 35) 11
theorem sc_Map_image : FnScope ["self"] ["self"] (defScope s_Map_image) := ⟨rfl, rfl, rfl, by decide +kernel, rfl, by decide +kernel, by decide +kernel⟩
abbrev s_Map_solve : Stmt := inClass (top 35) 12
theorem sc_Map_solve : FnScope ["self", "word"] ["self", "word"] (defScope s_Map_solve) := ⟨rfl, rfl, rfl, by decide +kernel, rfl, by decide +kernel, by decide +kernel⟩
abbrev s_Map_turned : Stmt := inClass (top 35) 13
theorem sc_Map_turned : FnScope ["self"] ["self"] (defScope s_Map_turned) := ⟨rfl, rfl, rfl, by decide +kernel, rfl, by decide +kernel, by decide +kernel⟩
abbrev s_Map_moved : Stmt := inClass (top 35) 14
theorem sc_Map_moved : FnScope ["self", "space"] ["self", "space"] (defScope s_Map_moved) := ⟨rfl, rfl, rfl, by decide +kernel, rfl, by decide +kernel, by decide +kernel⟩
abbrev s_Map_origin : Stmt := inClass (top 35) 15
theorem sc_Map_origin : FnScope ["self", "space"] ["self", "space"] (defScope s_Map_origin) := ⟨rfl, rfl, rfl, by decide +kernel, rfl, by decide +kernel, by decide +kernel⟩
abbrev s_Map_beside : Stmt := inClass (top 35) 16
theorem sc_Map_beside : FnScope ["self", "other"] ["self", "other"] (defScope s_Map_beside) := ⟨rfl, rfl, rfl, by decide +kernel, rfl, by decide +kernel, by decide +kernel⟩
abbrev s_Map_stacked : Stmt := inClass (top 35) 17
theorem sc_Map_stacked : FnScope ["self", "other"] ["self", "other"] (defScope s_Map_stacked) := ⟨rfl, rfl, rfl, by decide +kernel, rfl, by decide +kernel, by decide +kernel⟩
abbrev s_need_map : Stmt := top 36
theorem sc_need_map : FnScope ["value", "source", "goal"] ["value", "source", "goal"] (defScope s_need_map) := ⟨rfl, rfl, rfl, by decide +kernel, rfl, by decide +kernel, by decide +kernel⟩
abbrev s_need_one_to_one : Stmt := top 37
theorem sc_need_one_to_one : FnScope ["change", "rows"] ["change"] (defScope s_need_one_to_one) := ⟨rfl, rfl, rfl, by decide +kernel, rfl, by decide +kernel, by decide +kernel⟩
abbrev s_need_onto : Stmt := top 38
theorem sc_need_onto : FnScope ["change", "rows"] ["change"] (defScope s_need_onto) := ⟨rfl, rfl, rfl, by decide +kernel, rfl, by decide +kernel, by decide +kernel⟩
abbrev s_own_words : Stmt := top 40
theorem sc_own_words : FnScope ["spaces", "chosen", "shared", "others", "at", "space"] ["spaces", "chosen"] (defScope s_own_words) := ⟨rfl, rfl, rfl, by decide +kernel, rfl, by decide +kernel, by decide +kernel⟩
abbrev s_found_planes : Stmt := top 41
theorem sc_found_planes : FnScope ["spaces", "first", "second", "third", "near", "seen", "columns", "pairs", "low", "words", "word"] ["spaces"] (defScope s_found_planes) := ⟨rfl, rfl, rfl, by decide +kernel, rfl, by decide +kernel, by decide +kernel⟩
abbrev s_Three_init : Stmt := inClass (top 42) 0
theorem sc_Three_init : FnScope ["self", "one", "two", "three", "spaces", "pair", "at"] ["self", "one", "two", "three"] (defScope s_Three_init) := ⟨rfl, rfl, rfl, by decide +kernel, rfl, by decide +kernel, by decide +kernel⟩
abbrev s_Three_numbers : Stmt := inClass (top 42) 1
theorem sc_Three_numbers : FnScope ["self", "pairs", "alone", "words"] ["self"] (defScope s_Three_numbers) := ⟨rfl, rfl, rfl, by decide +kernel, rfl, by decide +kernel, by decide +kernel⟩
abbrev s_Three_leading : Stmt := inClass (top 42) 2
theorem sc_Three_leading : FnScope ["self", "other"] ["self", "other"] (defScope s_Three_leading) := ⟨rfl, rfl, rfl, by decide +kernel, rfl, by decide +kernel, by decide +kernel⟩
abbrev s_all_words : Stmt := top 43
theorem sc_all_words : FnScope ["three", "words", "some", "one", "other"] ["three"] (defScope s_all_words) := ⟨rfl, rfl, rfl, by decide +kernel, rfl, by decide +kernel, by decide +kernel⟩
abbrev s_need_three : Stmt := top 44
theorem sc_need_three : FnScope ["value"] ["value"] (defScope s_need_three) := ⟨rfl, rfl, rfl, by decide +kernel, rfl, by decide +kernel, by decide +kernel⟩
abbrev s_filled : Stmt := top 45
theorem sc_filled : FnScope ["three", "first", "second", "third"] ["three"] (defScope s_filled) := ⟨rfl, rfl, rfl, by decide +kernel, rfl, by decide +kernel, by decide +kernel⟩
abbrev s_least_banks : Stmt := top 46
theorem sc_least_banks : FnScope ["three", "whole", "space"] ["three"] (defScope s_least_banks) := ⟨rfl, rfl, rfl, by decide +kernel, rfl, by decide +kernel, by decide +kernel⟩
abbrev s_plane_images : Stmt := top 47
theorem sc_plane_images : FnScope ["many", "first", "units", "found", "start", "at"] ["many", "first"] (defScope s_plane_images) := ⟨rfl, rfl, rfl, by decide +kernel, rfl, by decide +kernel, by decide +kernel⟩
abbrev s_laid_images : Stmt := top 48
theorem sc_laid_images : FnScope ["three", "images", "spans", "planes", "one", "other", "at", "word", "image"] ["three"] (defScope s_laid_images) := ⟨rfl, rfl, rfl, by decide +kernel, rfl, by decide +kernel, by decide +kernel⟩
abbrev s_free_banks : Stmt := top 49
theorem sc_free_banks : FnScope ["three", "banks", "at", "space", "whole"] ["three", "banks"] (defScope s_free_banks) := ⟨rfl, rfl, rfl, by decide +kernel, rfl, by decide +kernel, by decide +kernel⟩
abbrev s_beginL : Stmt := top 51
theorem sc_beginL : FnScope ["_law_script"] ["_law_script"] (defScope s_beginL) := ⟨rfl, rfl, rfl, by decide +kernel, rfl, by decide +kernel, by decide +kernel⟩
abbrev s_drawL : Stmt := top 52
theorem sc_drawL : FnScope ["_law_tape", "_law_limit", "_law_at", "_law_span", "_law_cell", "_law_mixed", "_law_found"] ["_law_tape", "_law_limit"] (defScope s_drawL) := ⟨rfl, rfl, rfl, by decide +kernel, rfl, by decide +kernel, by decide +kernel⟩
abbrev s_pickL : Stmt := top 53
theorem sc_pickL : FnScope ["_law_tape", "_law_some"] ["_law_tape", "_law_some"] (defScope s_pickL) := ⟨rfl, rfl, rfl, by decide +kernel, rfl, by decide +kernel, by decide +kernel⟩
abbrev s_whole_isL : Stmt := top 54
theorem sc_whole_isL : FnScope ["_law_value", "_law_due"] ["_law_value", "_law_due"] (defScope s_whole_isL) := ⟨rfl, rfl, rfl, by decide +kernel, rfl, by decide +kernel, by decide +kernel⟩
abbrev s_numberL : Stmt := top 55
theorem sc_numberL : FnScope ["_law_value", "_law_limit"] ["_law_value", "_law_limit"] (defScope s_numberL) := ⟨rfl, rfl, rfl, by decide +kernel, rfl, by decide +kernel, by decide +kernel⟩
abbrev s_lessL : Stmt := top 56
theorem sc_lessL : FnScope ["_law_rows_here", "_law_word_here", "_law_left", "_law_row"] ["_law_rows_here", "_law_word_here"] (defScope s_lessL) := ⟨rfl, rfl, rfl, by decide +kernel, rfl, by decide +kernel, by decide +kernel⟩
abbrev s_rowsL : Stmt := top 57
theorem sc_rowsL : FnScope ["_law_words", "_law_found", "_law_word_here", "_law_left"] ["_law_words"] (defScope s_rowsL) := ⟨rfl, rfl, rfl, by decide +kernel, rfl, by decide +kernel, by decide +kernel⟩
abbrev s_rankL : Stmt := top 58
theorem sc_rankL : FnScope ["_law_words"] ["_law_words"] (defScope s_rankL) := ⟨rfl, rfl, rfl, by decide +kernel, rfl, by decide +kernel, by decide +kernel⟩
abbrev s_sumL : Stmt := top 59
theorem sc_sumL : FnScope ["_law_words", "_law_number_here", "_law_found", "_law_at"] ["_law_words", "_law_number_here"] (defScope s_sumL) := ⟨rfl, rfl, rfl, by decide +kernel, rfl, by decide +kernel, by decide +kernel⟩
abbrev s_wordL : Stmt := top 60
theorem sc_wordL : FnScope ["_law_tape", "_law_bits", "_law_sort"] ["_law_tape", "_law_bits"] (defScope s_wordL) := ⟨rfl, rfl, rfl, by decide +kernel, rfl, by decide +kernel, by decide +kernel⟩
abbrev s_orderL : Stmt := top 61
theorem sc_orderL : FnScope ["_law_tape", "_law_many", "_law_found", "_law_k"] ["_law_tape", "_law_many"] (defScope s_orderL) := ⟨rfl, rfl, rfl, by decide +kernel, rfl, by decide +kernel, by decide +kernel⟩
abbrev s_mixtureL : Stmt := top 62
theorem sc_mixtureL : FnScope ["_law_tape", "_law_bits", "_law_sort", "_law_order_here", "_law_high", "_law_low", "_law_at", "_law_word_here", "_law_mixed"] ["_law_tape", "_law_bits"] (defScope s_mixtureL) := ⟨rfl, rfl, rfl, by decide +kernel, rfl, by decide +kernel, by decide +kernel⟩
abbrev s_blendL : Stmt := top 63
theorem sc_blendL : FnScope ["_law_tape", "_law_words", "_law_extra", "_law_mixture_here", "_law_found", "_law_k", "_law_number_here"] ["_law_tape", "_law_words", "_law_extra"] (defScope s_blendL) := ⟨rfl, rfl, rfl, by decide +kernel, rfl, by decide +kernel, by decide +kernel⟩
abbrev s_is_mapL : Stmt := top 64
theorem sc_is_mapL : FnScope ["_law_value", "_law_goal", "_law_source"] ["_law_value", "_law_goal", "_law_source"] (defScope s_is_mapL) := ⟨rfl, rfl, rfl, by decide +kernel, rfl, by decide +kernel, by decide +kernel⟩
abbrev s_tripleL : Stmt := top 65
theorem sc_tripleL : FnScope ["_law_tape", "_law_numbers_here", "_law_outside", "_law_planes", "_law_sorts", "_law_at", "_law_units", "_law_many", "_law_thirds", "_law_lists", "_law_k", "_law_words"] ["_law_tape", "_law_numbers_here", "_law_outside"] (defScope s_tripleL) := ⟨rfl, rfl, rfl, by decide +kernel, rfl, by decide +kernel, by decide +kernel⟩
abbrev s_numbersL : Stmt := top 66
theorem sc_numbersL : FnScope ["_law_tape", "_law_most", "_law_sort", "_law_found", "_law_k"] ["_law_tape", "_law_most"] (defScope s_numbersL) := ⟨rfl, rfl, rfl, by decide +kernel, rfl, by decide +kernel, by decide +kernel⟩
abbrev s_three_ofL : Stmt := top 67
theorem sc_three_ofL : FnScope ["_law_bits", "_law_lists"] ["_law_bits", "_law_lists"] (defScope s_three_ofL) := ⟨rfl, rfl, rfl, by decide +kernel, rfl, by decide +kernel, by decide +kernel⟩
abbrev s_images_rankL : Stmt := top 68
theorem sc_images_rankL : FnScope ["_law_found", "_law_words", "_law_word_here"] ["_law_found", "_law_words"] (defScope s_images_rankL) := ⟨rfl, rfl, rfl, by decide +kernel, rfl, by decide +kernel, by decide +kernel⟩
abbrev s_refusalL : Stmt := top 69
theorem sc_refusalL : FnScope ["_law_call", "_law_found"] ["_law_call"] (defScope s_refusalL) := ⟨rfl, rfl, rfl, by decide +kernel, rfl, by decide +kernel, by decide +kernel⟩
abbrev s_filled_rightL : Stmt := top 70
theorem sc_filled_rightL : FnScope ["_law_three", "_law_lists", "_law_bits", "_law_bars", "_law_found", "_law_words", "_law_due"] ["_law_three", "_law_lists", "_law_bits", "_law_bars"] (defScope s_filled_rightL) := ⟨rfl, rfl, rfl, by decide +kernel, rfl, by decide +kernel, by decide +kernel⟩
abbrev s_free_rightL : Stmt := top 71
theorem sc_free_rightL : FnScope ["_law_three", "_law_lists", "_law_bits", "_law_banks", "_law_found", "_law_word_here", "_law_words"] ["_law_three", "_law_lists", "_law_bits", "_law_banks"] (defScope s_free_rightL) := ⟨rfl, rfl, rfl, by decide +kernel, rfl, by decide +kernel, by decide +kernel⟩
abbrev s_law : Stmt := top 72
theorem sc_law : FnScope ["_law_script", "_law_tape", "_law_numbers_here", "_law_bits", "_law_lists", "_law_three", "_law_dues", "_law_bars", "_law_least", "_law_banks", "_law_wide", "_law_words", "_law_k"] ["_law_script"] (defScope s_law) := ⟨rfl, rfl, rfl, by decide +kernel, rfl, by decide +kernel, by decide +kernel⟩
structure Bt (mg : Str → Option Value) : Prop where
  all : mg "all" = none
  bool : mg "bool" = none
  enumerate : mg "enumerate" = none
  int : mg "int" = none
  isinstance : mg "isinstance" = none
  len : mg "len" = none
  list : mg "list" = none
  max : mg "max" = none
  min : mg "min" = none
  range : mg "range" = none
  sorted : mg "sorted" = none
  sum : mg "sum" = none
  tuple : mg "tuple" = none
  zip : mg "zip" = none
end LaneX
set_option Elab.async false
set_option linter.all false
set_option maxRecDepth 100000
set_option maxHeartbeats 0
namespace LaneX
open PySem PySem.Spec PyProof.Rows L2
def fa : List He.Fa := ([.free "all", .free "bool", .free "enumerate", .free "int", .free "isinstance", .free "len", .free "list", .free "max", .free "min", .free "range", .free "sorted", .free "sum", .free "tuple", .free "zip", .glo "Space", .cls "Space", .mkr "Space", .noat "Space" "bits", .noat "Space" "rows", .noat "Space" "dimension"] : List He.Fa) ++ ([.glo "Map", .cls "Map", .mkr "Map", .noat "Map" "goal", .noat "Map" "columns", .noat "Map" "source", .glo "Three", .cls "Three", .mkr "Three", .noat "Three" "bits", .noat "Three" "spaces", .noat "Three" "shared", .noat "Three" "pairs", .noat "Three" "planes", .noat "Three" "alone", .noat "Three" "outside", .glo "is_whole", .glo "need_whole", .glo "need_items", .glo "need_word"] : List He.Fa) ++ ([.glo "need_words", .glo "cleared", .glo "grown", .glo "spanned", .glo "paired", .glo "kernel_rows", .glo "met", .glo "need_space", .glo "every", .meth "Space" "__and__", .meth "Space" "completing", .glo "ones", .glo "image_of", .glo "solved", .glo "_law_draw", .glo "_law_begin", .glo "_law_pick", .glo "_law_whole_is", .glo "_law_less", .glo "_law_rows"] : List He.Fa) ++ ([.glo "_law_sum", .glo "_law_word", .glo "_law_order", .glo "_law_mixture", .glo "_law_blend", .meth "Map" "__mul__", .glo "need_one_to_one", .glo "need_onto", .meth "Map" "__invert__", .glo "_law_rank", .glo "_law_number", .glo "_law_is_map", .glo "any_space", .meth "Space" "__add__", .glo "own_words", .glo "found_planes", .meth "Three" "numbers", .glo "all_words", .glo "_law_numbers", .glo "_law_triple"] : List He.Fa) ++ ([.glo "_law_three_of", .glo "tops_of", .glo "missing", .glo "outside", .glo "need_three", .glo "filled", .glo "plane_images", .glo "laid_images", .glo "free_banks", .glo "least_banks", .glo "_law_images_rank", .glo "_law_filled_right", .glo "_law_free_right", .glo "law", .glo "TooWide", .glo "Filled", .free "super", .glo "LaneError", .exm "TooWide" "TooWide" true, .exm "Filled" "Filled" true] : List He.Fa) ++ ([.exm "Filled" "TooWide" false, .glo "_law_refusal"] : List He.Fa)
def d_is_whole : He.DefD := ⟨("is_whole", none), "is_whole", "is_whole", defArgs s_is_whole, defBody s_is_whole, defScope s_is_whole, [], []⟩
def d_need_whole : He.DefD := ⟨("need_whole", none), "need_whole", "need_whole", defArgs s_need_whole, defBody s_need_whole, defScope s_need_whole, [], []⟩
def d_need_items : He.DefD := ⟨("need_items", none), "need_items", "need_items", defArgs s_need_items, defBody s_need_items, defScope s_need_items, [], []⟩
def d_need_word : He.DefD := ⟨("need_word", none), "need_word", "need_word", defArgs s_need_word, defBody s_need_word, defScope s_need_word, [], []⟩
def d_need_words : He.DefD := ⟨("need_words", none), "need_words", "need_words", defArgs s_need_words, defBody s_need_words, defScope s_need_words, [], []⟩
def d_cleared : He.DefD := ⟨("cleared", none), "cleared", "cleared", defArgs s_cleared, defBody s_cleared, defScope s_cleared, [], []⟩
def d_grown : He.DefD := ⟨("grown", none), "grown", "grown", defArgs s_grown, defBody s_grown, defScope s_grown, [], []⟩
def d_spanned : He.DefD := ⟨("spanned", none), "spanned", "spanned", defArgs s_spanned, defBody s_spanned, defScope s_spanned, [], []⟩
def d_paired : He.DefD := ⟨("paired", none), "paired", "paired", defArgs s_paired, defBody s_paired, defScope s_paired, [], []⟩
def d_kernel_rows : He.DefD := ⟨("kernel_rows", none), "kernel_rows", "kernel_rows", defArgs s_kernel_rows, defBody s_kernel_rows, defScope s_kernel_rows, [], []⟩
def d_met : He.DefD := ⟨("met", none), "met", "met", defArgs s_met, defBody s_met, defScope s_met, [], []⟩
def d_Space_init : He.DefD := ⟨("Space", some "__init__"), "__init__", "Space.__init__", defArgs s_Space_init, defBody s_Space_init, defScope s_Space_init, [], []⟩
def d_need_space : He.DefD := ⟨("need_space", none), "need_space", "need_space", defArgs s_need_space, defBody s_need_space, defScope s_need_space, [], []⟩
def d_every : He.DefD := ⟨("every", none), "every", "every", defArgs s_every, defBody s_every, defScope s_every, [], []⟩
def d_Space_and : He.DefD := ⟨("Space", some "__and__"), "__and__", "Space.__and__", defArgs s_Space_and, defBody s_Space_and, defScope s_Space_and, [], []⟩
def d_Space_completing : He.DefD := ⟨("Space", some "completing"), "completing", "Space.completing", defArgs s_Space_completing, defBody s_Space_completing, defScope s_Space_completing, [], []⟩
def d_ones : He.DefD := ⟨("ones", none), "ones", "ones", defArgs s_ones, defBody s_ones, defScope s_ones, [], []⟩
def d_image_of : He.DefD := ⟨("image_of", none), "image_of", "image_of", defArgs s_image_of, defBody s_image_of, defScope s_image_of, [], []⟩
def d_solved : He.DefD := ⟨("solved", none), "solved", "solved", defArgs s_solved, defBody s_solved, defScope s_solved, [], []⟩
def d_Map_init : He.DefD := ⟨("Map", some "__init__"), "__init__", "Map.__init__", defArgs s_Map_init, defBody s_Map_init, defScope s_Map_init, [], []⟩
def d_drawL : He.DefD := ⟨("_law_draw", none), "_law_draw", "_law_draw", defArgs s_drawL, defBody s_drawL, defScope s_drawL, [], []⟩
def d_beginL : He.DefD := ⟨("_law_begin", none), "_law_begin", "_law_begin", defArgs s_beginL, defBody s_beginL, defScope s_beginL, [], []⟩
def d_pickL : He.DefD := ⟨("_law_pick", none), "_law_pick", "_law_pick", defArgs s_pickL, defBody s_pickL, defScope s_pickL, [], []⟩
def d_whole_isL : He.DefD := ⟨("_law_whole_is", none), "_law_whole_is", "_law_whole_is", defArgs s_whole_isL, defBody s_whole_isL, defScope s_whole_isL, [], []⟩
def d_lessL : He.DefD := ⟨("_law_less", none), "_law_less", "_law_less", defArgs s_lessL, defBody s_lessL, defScope s_lessL, [], []⟩
def d_rowsL : He.DefD := ⟨("_law_rows", none), "_law_rows", "_law_rows", defArgs s_rowsL, defBody s_rowsL, defScope s_rowsL, [], []⟩
def d_sumL : He.DefD := ⟨("_law_sum", none), "_law_sum", "_law_sum", defArgs s_sumL, defBody s_sumL, defScope s_sumL, [], []⟩
def d_wordL : He.DefD := ⟨("_law_word", none), "_law_word", "_law_word", defArgs s_wordL, defBody s_wordL, defScope s_wordL, [], []⟩
def d_orderL : He.DefD := ⟨("_law_order", none), "_law_order", "_law_order", defArgs s_orderL, defBody s_orderL, defScope s_orderL, [], []⟩
def d_mixtureL : He.DefD := ⟨("_law_mixture", none), "_law_mixture", "_law_mixture", defArgs s_mixtureL, defBody s_mixtureL, defScope s_mixtureL, [], []⟩
def d_blendL : He.DefD := ⟨("_law_blend", none), "_law_blend", "_law_blend", defArgs s_blendL, defBody s_blendL, defScope s_blendL, [], []⟩
def d_Map_mul : He.DefD := ⟨("Map", some "__mul__"), "__mul__", "Map.__mul__", defArgs s_Map_mul, defBody s_Map_mul, defScope s_Map_mul, [], []⟩
def d_need_one_to_one : He.DefD := ⟨("need_one_to_one", none), "need_one_to_one", "need_one_to_one", defArgs s_need_one_to_one, defBody s_need_one_to_one, defScope s_need_one_to_one, [], []⟩
def d_need_onto : He.DefD := ⟨("need_onto", none), "need_onto", "need_onto", defArgs s_need_onto, defBody s_need_onto, defScope s_need_onto, [], []⟩
def d_Map_invert : He.DefD := ⟨("Map", some "__invert__"), "__invert__", "Map.__invert__", defArgs s_Map_invert, defBody s_Map_invert, defScope s_Map_invert, [], []⟩
def d_rankL : He.DefD := ⟨("_law_rank", none), "_law_rank", "_law_rank", defArgs s_rankL, defBody s_rankL, defScope s_rankL, [], []⟩
def d_numberL : He.DefD := ⟨("_law_number", none), "_law_number", "_law_number", defArgs s_numberL, defBody s_numberL, defScope s_numberL, [], []⟩
def d_is_mapL : He.DefD := ⟨("_law_is_map", none), "_law_is_map", "_law_is_map", defArgs s_is_mapL, defBody s_is_mapL, defScope s_is_mapL, [], []⟩
def d_any_space : He.DefD := ⟨("any_space", none), "any_space", "any_space", defArgs s_any_space, defBody s_any_space, defScope s_any_space, [], []⟩
def d_Space_add : He.DefD := ⟨("Space", some "__add__"), "__add__", "Space.__add__", defArgs s_Space_add, defBody s_Space_add, defScope s_Space_add, [], []⟩
def d_own_words : He.DefD := ⟨("own_words", none), "own_words", "own_words", defArgs s_own_words, defBody s_own_words, defScope s_own_words, [], []⟩
def d_found_planes : He.DefD := ⟨("found_planes", none), "found_planes", "found_planes", defArgs s_found_planes, defBody s_found_planes, defScope s_found_planes, [], []⟩
def d_Three_init : He.DefD := ⟨("Three", some "__init__"), "__init__", "Three.__init__", defArgs s_Three_init, defBody s_Three_init, defScope s_Three_init, [], []⟩
def d_Three_numbers : He.DefD := ⟨("Three", some "numbers"), "numbers", "Three.numbers", defArgs s_Three_numbers, defBody s_Three_numbers, defScope s_Three_numbers, [], []⟩
def d_all_words : He.DefD := ⟨("all_words", none), "all_words", "all_words", defArgs s_all_words, defBody s_all_words, defScope s_all_words, [], []⟩
def d_numbersL : He.DefD := ⟨("_law_numbers", none), "_law_numbers", "_law_numbers", defArgs s_numbersL, defBody s_numbersL, defScope s_numbersL, [], []⟩
def d_tripleL : He.DefD := ⟨("_law_triple", none), "_law_triple", "_law_triple", defArgs s_tripleL, defBody s_tripleL, defScope s_tripleL, [], []⟩
def d_three_ofL : He.DefD := ⟨("_law_three_of", none), "_law_three_of", "_law_three_of", defArgs s_three_ofL, defBody s_three_ofL, defScope s_three_ofL, [], []⟩
def d_tops_of : He.DefD := ⟨("tops_of", none), "tops_of", "tops_of", defArgs s_tops_of, defBody s_tops_of, defScope s_tops_of, [], []⟩
def d_missing : He.DefD := ⟨("missing", none), "missing", "missing", defArgs s_missing, defBody s_missing, defScope s_missing, [], []⟩
def d_outside : He.DefD := ⟨("outside", none), "outside", "outside", defArgs s_outside, defBody s_outside, defScope s_outside, [], []⟩
def d_need_three : He.DefD := ⟨("need_three", none), "need_three", "need_three", defArgs s_need_three, defBody s_need_three, defScope s_need_three, [], []⟩
def d_filled : He.DefD := ⟨("filled", none), "filled", "filled", defArgs s_filled, defBody s_filled, defScope s_filled, [], []⟩
def d_plane_images : He.DefD := ⟨("plane_images", none), "plane_images", "plane_images", defArgs s_plane_images, defBody s_plane_images, defScope s_plane_images, [], []⟩
def d_laid_images : He.DefD := ⟨("laid_images", none), "laid_images", "laid_images", defArgs s_laid_images, defBody s_laid_images, defScope s_laid_images, [], []⟩
def d_free_banks : He.DefD := ⟨("free_banks", none), "free_banks", "free_banks", defArgs s_free_banks, defBody s_free_banks, defScope s_free_banks, [], []⟩
def d_least_banks : He.DefD := ⟨("least_banks", none), "least_banks", "least_banks", defArgs s_least_banks, defBody s_least_banks, defScope s_least_banks, [], []⟩
def d_images_rankL : He.DefD := ⟨("_law_images_rank", none), "_law_images_rank", "_law_images_rank", defArgs s_images_rankL, defBody s_images_rankL, defScope s_images_rankL, [], []⟩
def d_filled_rightL : He.DefD := ⟨("_law_filled_right", none), "_law_filled_right", "_law_filled_right", defArgs s_filled_rightL, defBody s_filled_rightL, defScope s_filled_rightL, [], []⟩
def d_free_rightL : He.DefD := ⟨("_law_free_right", none), "_law_free_right", "_law_free_right", defArgs s_free_rightL, defBody s_free_rightL, defScope s_free_rightL, [], []⟩
def d_law : He.DefD := ⟨("law", none), "law", "law", defArgs s_law, defBody s_law, defScope s_law, [], []⟩
def d_refusalL : He.DefD := ⟨("_law_refusal", none), "_law_refusal", "_law_refusal", defArgs s_refusalL, defBody s_refusalL, defScope s_refusalL, [], []⟩
def fn : List He.DefD := ([d_is_whole, d_need_whole, d_need_items, d_need_word, d_need_words, d_cleared, d_grown, d_spanned, d_paired, d_kernel_rows, d_met, d_Space_init, d_need_space, d_every, d_Space_and, d_Space_completing, d_ones, d_image_of, d_solved, d_Map_init] : List He.DefD) ++ ([d_drawL, d_beginL, d_pickL, d_whole_isL, d_lessL, d_rowsL, d_sumL, d_wordL, d_orderL, d_mixtureL, d_blendL, d_Map_mul, d_need_one_to_one, d_need_onto, d_Map_invert, d_rankL, d_numberL, d_is_mapL, d_any_space, d_Space_add] : List He.DefD) ++ ([d_own_words, d_found_planes, d_Three_init, d_Three_numbers, d_all_words, d_numbersL, d_tripleL, d_three_ofL, d_tops_of, d_missing, d_outside, d_need_three, d_filled, d_plane_images, d_laid_images, d_free_banks, d_least_banks, d_images_rankL, d_filled_rightL, d_free_rightL] : List He.DefD) ++ ([d_law, d_refusalL] : List He.DefD)
def exC (K : PySem.W.Frag) (C : Addr) : Bool := He.eqO (PySem.W.findIn K (.ref C) "__class__") (some (some (.builtin "object.__class__"))) && (decide (PySem.W.takesIn K (.builtin "object.__class__") = some true) && (decide (PySem.W.mroIn K C (.type "object") = some true) && (decide (PySem.W.kitOne K (.ref C) (.ref C) = some true) && (He.eqO (PySem.W.specialIn K (.builtin "object.__class__") "__get__") (some (some (.builtin "getset_descriptor.__get__"))) && PySem.W.selfFirst K C))))
def exE (K : PySem.W.Frag) (C D : Addr) : Bool := He.eqO (PySem.W.findIn K (.ref C) "__getattribute__") (some (some (.builtin "BaseException.__getattribute__"))) && (He.eqO (PySem.W.findIn K (.ref C) "__getattr__") (some none) && (decide (PySem.W.subIn K (.ref C) (.type "BaseException") = some true) && (PySem.W.hasDictIn K C && (He.eqO (PySem.W.findIn K (.ref C) "__class__") (some (some (.builtin "object.__class__"))) && (He.eqO (PySem.W.specialIn K (.builtin "object.__class__") "__get__") (some (some (.builtin "getset_descriptor.__get__"))) && (decide (PySem.W.takesIn K (.builtin "object.__class__") = some true) && (decide (PySem.W.mroIn K C (.type "object") = some true) && decide (PySem.W.kitOne K (.ref C) (.ref D) = some true))))))))
def exB (K : PySem.W.Frag) : Bool := exC K (He.ga K "Space") && exC K (He.ga K "Map") && exC K (He.ga K "Three") && exkB PySem.Challenge.rw_laneswap_k26_whole_free_for_three.prog K (He.ga K "TooWide") "index" "index" && exkB PySem.Challenge.rw_laneswap_k26_whole_free_for_three.prog K (He.ga K "Filled") "rows" "rows" && (exE K (He.ga K "TooWide") (He.ga K "LaneError") && He.eqO (PySem.W.findIn K (.ref (He.ga K "TooWide")) "index") (some none)) && (exE K (He.ga K "Filled") (He.ga K "LaneError") && He.eqO (PySem.W.findIn K (.ref (He.ga K "Filled")) "rows") (some none))
abbrev R : PySem.W.OpenRow := PySem.W.OpenLaw.row PySem.Challenge.rw_laneswap_k26_whole_free_for_three
abbrev hk : PySem.W.Hook := hookY 4 fa fn [("law", none)] exB
def ob (s : PySem.W.SharedT) : He.AlX := obsY 4 fa fn [("law", none)] exB (HandSHeadRun.getT s)
theorem ob_eq (s : PySem.W.SharedT) : ob s = hk.obs s.abs := obsY_eq (HandSHeadRun.getT_eq s)
def names : List Str := (["_wall", "__name__", "LaneError", "BadValue", "NotOneToOne", "NotOnto", "NotDivisible", "Filled", "TooWide", "is_whole", "need_whole", "need_items", "need_word", "need_words", "ones", "cleared", "grown", "spanned", "tops_of", "missing"] : List Str) ++ (["image_of", "paired", "kernel_rows", "solved", "met", "Space", "need_space", "any_space", "every", "outside", "Map", "need_map", "need_one_to_one", "need_onto", "own_words", "found_planes", "Three", "all_words", "need_three", "filled"] : List Str) ++ (["least_banks", "plane_images", "laid_images", "free_banks", "_law_begin", "_law_draw", "_law_pick", "_law_whole_is", "_law_number", "_law_less", "_law_rows", "_law_rank", "_law_sum", "_law_word", "_law_order", "_law_mixture", "_law_blend", "_law_is_map", "_law_triple", "_law_numbers"] : List Str) ++ (["_law_three_of", "_law_images_rank", "_law_refusal", "_law_filled_right", "_law_free_right"] : List Str)
theorem runA (w : World) : HandSHeadRun.RunEq R (PySem.W.view R.prog [72]) (hookY 4 fa [] [("law", none)] exB) (fun s => obsY 4 fa [] [("law", none)] exB (HandSHeadRun.getT s)) 6000 names w := by
  intro os
  kernel_rfl
theorem runB (w : World) : ∀ os : OsState, (HandSHeadRun.endF (HandSHeadRun.stepQ (HandSHeadRun.denQ HandSHeadRun.tabQ) R.prog w) 6000 R.prog w os).map (fun s => obsY 4 [] fn [] (fun _ => true) (HandSHeadRun.getT s)) = some (He.valX fn [] w) := by
  intro os
  kernel_rfl
theorem run (w : World) : HandSHeadRun.RunEq R (PySem.W.view R.prog [72]) hk ob 6000 names w := fun os => two_y (runA w os) (runB w os)
/-- the head, but for the walk -/
theorem hd (hc : PySem.W.WalkO (PySem.W.view (PySem.W.OpenLaw.row PySem.Challenge.rw_laneswap_k26_whole_free_for_three).prog [72]) names (PySem.W.XL (PySem.W.view (PySem.W.OpenLaw.row PySem.Challenge.rw_laneswap_k26_whole_free_for_three).prog [72]) []) hk.says (PySem.W.OpenLaw.row PySem.Challenge.rw_laneswap_k26_whole_free_for_three).toRowW (HandSHeadRun.topDef (PySem.W.OpenLaw.row PySem.Challenge.rw_laneswap_k26_whole_free_for_three).prog 72) [] fun f vs => PySem.call f vs) : PySem.Challenge.rw_laneswap_k26_whole_free_for_three.Holds := by
  w_on; o_law
  refine HandSHeadRun.head_any (r := PySem.W.OpenLaw.row PySem.Challenge.rw_laneswap_k26_whole_free_for_three) (q := PySem.W.view (PySem.W.OpenLaw.row PySem.Challenge.rw_laneswap_k26_whole_free_for_three).prog [72]) (H := LaneX.hk) (ob := LaneX.ob) (M := 6000) (loose := LaneX.names) (d := HandSHeadRun.topDef (PySem.W.OpenLaw.row PySem.Challenge.rw_laneswap_k26_whole_free_for_three).prog 72) (kwd := []) LaneX.ob_eq
    (by kernel_rfl) (fun s => by kernel_rfl) LaneX.run (by kernel_rfl) (by kernel_rfl) (by kernel_rfl) (by rfl) (by first | assumption | decide +kernel) (by decide +kernel) ⟨rfl, rfl, rfl, rfl, rfl, by decide +kernel⟩ ?hw hc
  case hw => w_witness2
theorem sup_free : (PySem.Challenge.rw_laneswap_k26_whole_free_for_three.prog.main.scope.names.lookup ("super" : Str)).isSome = false := by kernel_rfl
theorem dp_law : (HandSHeadRun.topDef (PySem.W.OpenLaw.row PySem.Challenge.rw_laneswap_k26_whole_free_for_three).prog 72).params.defaults = [] := by kernel_rfl
theorem nm_law : (HandSHeadRun.topDef (PySem.W.OpenLaw.row PySem.Challenge.rw_laneswap_k26_whole_free_for_three).prog 72).name = ("law" : PySem.Str) := by kernel_rfl
end LaneX
set_option linter.all false
namespace LaneX
/-! ### kernels, tags, meets: their sizes -/
theorem xor_cancel (a b : Nat) : a ^^^ (a ^^^ b) = b := by rw [← Nat.xor_assoc, Nat.xor_self, Nat.zero_xor]
theorem xor_cancel_right (a b : Nat) : a ^^^ b ^^^ b = a := by rw [Nat.xor_assoc, Nat.xor_self, Nat.xor_zero]
/-- a linear map of spans -/
structure Lin (φ : Nat → Nat) : Prop where
  z : φ 0 = 0
  x : ∀ a b, φ (a ^^^ b) = φ a ^^^ φ b
theorem Lin.spn {φ : Nat → Nat} (L : Lin φ) {l : List Nat} {y : Nat} (h : Spn l y) : Spn (l.map φ) (φ y) := by
  induction h with
  | zero => rw [L.z]; exact .zero
  | add hw _ ih => rw [L.x]; exact .add (List.mem_map.mpr ⟨_, hw, rfl⟩) ih
theorem Lin.back {φ : Nat → Nat} (L : Lin φ) {l : List Nat} {z : Nat} (h : Spn (l.map φ) z) : ∃ y, Spn l y ∧ φ y = z := by
  induction h with
  | zero => exact ⟨0, .zero, L.z⟩
  | add hw _ ih =>
    obtain ⟨y, hy, rfl⟩ := ih
    obtain ⟨u, hu, rfl⟩ := List.mem_map.mp hw
    exact ⟨y ^^^ u, .add hu hy, L.x _ _⟩
theorem Lin.comp {φ ψ : Nat → Nat} (L : Lin φ) (M : Lin ψ) : Lin (fun x => φ (ψ x)) := ⟨by rw [M.z, L.z], fun a b => by rw [M.x, L.x]⟩
theorem lin_clr (rows : List Nat) : Lin (clr rows) := ⟨clr_zero rows, clr_xor rows⟩
theorem lin_lft (rows : List Nat) : Lin (lft rows) := ⟨lft_zero rows, lft_xor rows⟩
theorem lin_shr (b : Nat) : Lin (fun x => x >>> b) := ⟨Nat.zero_shiftRight b, fun a c => Nat.shiftRight_xor_distrib⟩
theorem lin_mod (b : Nat) : Lin (fun x => x % 2 ^ b) := ⟨Nat.zero_mod _, fun a c => Nat.xor_mod_two_pow⟩
/-- taking away what S spans -/
structure Red (S : List Nat) (φ : Nat → Nat) : Prop where
  l : Lin φ
  s : ∀ x, Spn S (x ^^^ φ x)
  k : ∀ x, φ x = 0 ↔ Spn S x
theorem red_clr (S : List Nat) : Red S (clr (spn S)) := ⟨lin_clr _, fun x => (spn_span S _).mp (spn_clr _ x), fun x => clr_spn_zero⟩
theorem red_lft (S : List Nat) : Red S (lft (bas S)) := ⟨lin_lft _, fun x => (bas_span S _).mp (spn_lft _ x), fun x => lft_bas⟩
theorem Red.mem {S ls : List Nat} {φ : Nat → Nat} (R : Red S φ) (x : Nat) : Spn (ls.map φ) (φ x) ↔ Spn (S ++ ls) x := by
  constructor
  · intro h
    have h1 : Spn (S ++ ls) (φ x) := h.mono fun y hy => by
      obtain ⟨u, hu, rfl⟩ := List.mem_map.mp hy
      have a := ((R.s u).sub (vs := S ++ ls) fun z hz => List.mem_append_left _ hz).xor (Spn.of (List.mem_append_right S hu))
      rwa [Nat.xor_comm u, xor_cancel_right] at a
    have a := ((R.s x).sub (vs := S ++ ls) fun z hz => List.mem_append_left _ hz).xor h1
    rwa [xor_cancel_right] at a
  · intro h
    induction h with
    | zero => rw [R.l.z]; exact .zero
    | @add y u hu _ ih =>
      rw [R.l.x]
      refine ih.xor ?_
      rcases List.mem_append.mp hu with hu | hu
      · rw [(R.k u).mpr (.of hu)]; exact .zero
      · exact .of (List.mem_map.mpr ⟨u, hu, rfl⟩)
theorem rk_snoc' (a : List Nat) (w : Nat) [Decidable (Spn a w)] : rk (a ++ [w]) = if Spn a w then rk a else rk a + 1 := by
  split
  · rename_i h; exact rk_snoc_in h
  · rename_i h; exact rk_snoc_out h
theorem Red.rk {S : List Nat} {φ : Nat → Nat} (R : Red S φ) : ∀ ls, rk (ls.map φ) + rk S = rk (S ++ ls) :=
  snoc_rec (p := fun ls => LaneX.rk (ls.map φ) + LaneX.rk S = LaneX.rk (S ++ ls)) (by simp [LaneX.rk, spn]) (fun a x ih => by
    rw [List.map_append, ← List.append_assoc]
    show LaneX.rk (a.map φ ++ [φ x]) + _ = _
    by_cases h : Spn (S ++ a) x
    · rw [rk_snoc_in h, rk_snoc_in ((R.mem x).mpr h)]; exact ih
    · rw [rk_snoc_out h, rk_snoc_out (fun z => h ((R.mem x).mp z))]; omega)
/-! ### images -/
theorem imf_lin (cols : List Nat) : ∀ n, Lin (fun x => imf cols x n)
  | 0 => ⟨rfl, fun _ _ => (Nat.xor_self 0).symm⟩
  | n + 1 => by
    have ih := imf_lin cols n
    refine ⟨by show imf cols 0 (n + 1) = 0; rw [imf_succ, Nat.zero_testBit]; exact ih.z, fun a b => ?_⟩
    have e := ih.x a b
    show imf cols (a ^^^ b) (n + 1) = imf cols a (n + 1) ^^^ imf cols b (n + 1)
    simp only [imf_succ, Nat.testBit_xor] at e ⊢
    rw [e]
    generalize imf cols a n = A
    generalize imf cols b n = B
    generalize cols.getD n 0 = c
    cases a.testBit n <;> cases b.testBit n <;> simp
    · rw [Nat.xor_assoc]
    · rw [Nat.xor_assoc, Nat.xor_comm B c, ← Nat.xor_assoc]
    · rw [Nat.xor_comm A c, Nat.xor_assoc c A, ← Nat.xor_assoc A, Nat.xor_comm c, Nat.xor_assoc, Nat.xor_self, Nat.xor_zero]
theorem lin_img (cols : List Nat) : Lin (img cols) := imf_lin cols _
theorem imf_unit (cols : List Nat) (i : Nat) : ∀ n, imf cols (2 ^ i) n = if i < n then cols.getD i 0 else 0
  | 0 => by simp [imf]
  | n + 1 => by
    rw [imf_succ, imf_unit cols i n, Nat.testBit_two_pow]
    by_cases h : i = n
    · subst h; simp
    · have : (i < n + 1) ↔ i < n := by omega
      simp [h, this]
theorem img_unit (cols : List Nat) {i : Nat} (h : i < cols.length) : img cols (2 ^ i) = cols.getD i 0 := by
  unfold img
  rw [imf_unit, if_pos h]
theorem imf_map {φ : Nat → Nat} (L : Lin φ) (cols : List Nat) (x : Nat) : ∀ n, imf (cols.map φ) x n = φ (imf cols x n)
  | 0 => L.z.symm
  | n + 1 => by
    rw [imf_succ, imf_succ, imf_map L cols x n]
    have e : (cols.map φ).getD n 0 = φ (cols.getD n 0) := by
      simp only [List.getD_eq_getElem?_getD, List.getElem?_map]
      cases cols[n]? with
      | none => exact L.z.symm
      | some c => rfl
    rw [e]
    split
    · rw [L.x]
    · rfl
theorem img_map {φ : Nat → Nat} (L : Lin φ) (cols : List Nat) (x : Nat) : img (cols.map φ) x = φ (img cols x) := by
  unfold img
  rw [List.length_map, imf_map L]
/-- one bit more -/
theorem bit_split {x n : Nat} (h : x < 2 ^ (n + 1)) : x < 2 ^ n ∨ (x ^^^ 2 ^ n < 2 ^ n ∧ x.testBit n = true) := by
  by_cases q : x.testBit n = true
  · refine .inr ⟨?_, q⟩
    have h1 : x ^^^ 2 ^ n < 2 ^ (n + 1) := Nat.xor_lt_two_pow h (Nat.pow_lt_pow_right (by decide) (Nat.lt_succ_self n))
    refine Classical.byContradiction fun z => ?_
    have h3 : blen (x ^^^ 2 ^ n) ≤ n + 1 := blen_le.mpr h1
    have h4 : ¬ blen (x ^^^ 2 ^ n) ≤ n := fun y => z (blen_le.mp y)
    have h5 : blen (x ^^^ 2 ^ n) = n + 1 := by omega
    have h6 : x ^^^ 2 ^ n ≠ 0 := fun e => by rw [e] at h5; simp [blen] at h5
    have h7 := testBit_top h6
    rw [h5, Nat.add_sub_cancel, Nat.testBit_xor, q, Nat.testBit_two_pow] at h7
    simp at h7
  · refine .inl (Classical.byContradiction fun z => q ?_)
    have h3 : blen x ≤ n + 1 := blen_le.mpr h
    have h4 : ¬ blen x ≤ n := fun y => z (blen_le.mp y)
    have h5 : blen x = n + 1 := by omega
    have h6 : x ≠ 0 := fun e => by rw [e] at h5; simp [blen] at h5
    have h7 := testBit_top h6
    rwa [h5, Nat.add_sub_cancel] at h7
theorem not_bit_of_lt {x n : Nat} (h : x < 2 ^ n) : x.testBit n = false := Nat.testBit_lt_two_pow h
theorem getD_mem {cols : List Nat} {i : Nat} (h : i < cols.length) : cols.getD i 0 ∈ cols := by
  rw [List.getD_eq_getElem?_getD, List.getElem?_eq_getElem h]
  exact List.getElem_mem h
theorem getD_take {cols : List Nat} {i n : Nat} (h : i < n) (hn : n ≤ cols.length) : cols.getD i 0 ∈ cols.take n := by
  have e : (cols.take n).getD i 0 = cols.getD i 0 := by
    simp only [List.getD_eq_getElem?_getD, List.getElem?_take, h, if_true]
  rw [← e]
  exact getD_mem (by rw [List.length_take]; omega)
theorem img_span {cols : List Nat} : ∀ {n x : Nat}, n ≤ cols.length → x < 2 ^ n → Spn (cols.take n) (img cols x)
  | 0, x, hn, h => by
    have : x = 0 := by simpa using h
    rw [this, (lin_img cols).z]; exact .zero
  | n + 1, x, hn, h => by
    rcases bit_split h with h | ⟨h, _⟩
    · exact (img_span (by omega) h).sub fun w hw => List.take_subset_take_left _ (Nat.le_succ n) hw
    · have a := (img_span (n := n) (by omega) h).sub (vs := cols.take (n + 1)) fun w hw => List.take_subset_take_left _ (Nat.le_succ n) hw
      rw [(lin_img cols).x, img_unit cols hn] at a
      have b := a.xor (.of (getD_take (Nat.lt_succ_self n) hn))
      rwa [xor_cancel_right] at b
theorem span_img {cols : List Nat} {n : Nat} (hn : n ≤ cols.length) {c : Nat} (h : Spn (cols.take n) c) : ∃ x, x < 2 ^ n ∧ img cols x = c := by
  induction h with
  | zero => exact ⟨0, Nat.two_pow_pos n, (lin_img cols).z⟩
  | @add y w hw _ ih =>
    obtain ⟨x, hx, rfl⟩ := ih
    obtain ⟨i, hi, rfl⟩ := List.getElem_of_mem hw
    rw [List.length_take] at hi
    refine ⟨x ^^^ 2 ^ i, Nat.xor_lt_two_pow hx (Nat.pow_lt_pow_right (by decide) (by omega)), ?_⟩
    rw [(lin_img cols).x, img_unit cols (by omega)]
    congr 1
    rw [List.getElem_take, List.getD_eq_getElem?_getD, List.getElem?_eq_getElem (by omega)]
    rfl
/-! ### the kernel's rows -/
theorem Rws.low {R : List Nat} (A : Rws R) (b : Nat) : Rws (R.filter fun r => decide (blen r ≤ b)) := ⟨fun r hr => A.nz r (List.mem_filter.mp hr).1, A.red.sublist List.filter_sublist⟩
theorem Rws.low_span {R : List Nat} (A : Rws R) (b x : Nat) : Spn (R.filter fun r => decide (blen r ≤ b)) x ↔ Spn R x ∧ x < 2 ^ b := by
  constructor
  · intro h
    exact ⟨h.sub fun w hw => (List.mem_filter.mp hw).1, h.lt fun w hw => blen_le.mp (by simpa using (List.mem_filter.mp hw).2)⟩
  · rintro ⟨h, hx⟩
    have L := A.low b
    rw [L.span]
    generalize hl : (R.filter fun r => decide (blen r ≤ b)) = low at *
    have lt : ∀ r ∈ low, r < 2 ^ b := fun w hw => blen_le.mp (by rw [← hl] at hw; simpa using (List.mem_filter.mp hw).2)
    have h1 : Spn R (clr low x) := by
      have a := h.xor ((spn_clr low x).sub (vs := R) fun w hw => by rw [← hl] at hw; exact (List.mem_filter.mp hw).1)
      rwa [xor_cancel] at a
    have h2 : clr low x < 2 ^ b := clr_lt lt hx
    refine Classical.byContradiction fun hn => ?_
    obtain ⟨r, hr, e⟩ := A.top_mem h1 hn
    have hm : r ∈ low := by
      rw [← hl]
      exact List.mem_filter.mpr ⟨hr, decide_eq_true (by rw [e]; exact blen_le.mpr h2)⟩
    have a := clr_tops (x := x) L r hm
    rw [e, testBit_top hn] at a
    cases a
theorem add_eq_xor {n a b : Nat} (h : b < 2 ^ n) : (a <<< n) + b = (a <<< n) ^^^ b := by
  have e : a <<< n + b = a <<< n ||| b := Nat.shiftLeft_add_eq_or_of_lt h a
  rw [e]
  apply Nat.eq_of_testBit_eq
  intro i
  rw [Nat.testBit_or, Nat.testBit_xor, Nat.testBit_shiftLeft]
  by_cases q : n ≤ i
  · have : b.testBit i = false := Nat.testBit_lt_two_pow (Nat.lt_of_lt_of_le h (Nat.pow_le_pow_right (by decide) q))
    simp [this]
  · simp [q]
theorem prs_fwd (cols : List Nat) {y : Nat} (h : Spn (prs cols) y) : ∃ x, x < 2 ^ cols.length ∧ y = (img cols x <<< cols.length) ^^^ x := by
  induction h with
  | zero => exact ⟨0, Nat.two_pow_pos _, by rw [(lin_img cols).z]; simp⟩
  | @add y w hw _ ih =>
    obtain ⟨x, hx, rfl⟩ := ih
    obtain ⟨i, hi, rfl⟩ := List.mem_map.mp hw
    have hi := List.mem_range.mp hi
    have hu : 2 ^ i < 2 ^ cols.length := Nat.pow_lt_pow_right (by decide) hi
    refine ⟨x ^^^ 2 ^ i, Nat.xor_lt_two_pow hx hu, ?_⟩
    rw [(lin_img cols).x, img_unit cols hi, Nat.one_shiftLeft, add_eq_xor hu, Nat.shiftLeft_xor_distrib, xor4]
theorem prs_bwd (cols : List Nat) : ∀ {n x : Nat}, n ≤ cols.length → x < 2 ^ n → Spn (prs cols) ((img cols x <<< cols.length) ^^^ x)
  | 0, x, hn, h => by
    have : x = 0 := by simpa using h
    rw [this, (lin_img cols).z]
    simp only [Nat.zero_shiftLeft, Nat.xor_self]
    exact .zero
  | n + 1, x, hn, h => by
    rcases bit_split h with h | ⟨h, _⟩
    · exact prs_bwd cols (by omega) h
    · have a := prs_bwd cols (n := n) (by omega) h
      have hu : 2 ^ n < 2 ^ cols.length := Nat.pow_lt_pow_right (by decide) hn
      have b : Spn (prs cols) ((cols.getD n 0 <<< cols.length) ^^^ 2 ^ n) := by
        rw [← add_eq_xor hu]
        refine .of (List.mem_map.mpr ⟨n, List.mem_range.mpr hn, ?_⟩)
        rw [Nat.one_shiftLeft]
      have c := a.xor b
      rw [(lin_img cols).x, img_unit cols hn, Nat.shiftLeft_xor_distrib, xor4, xor_cancel_right, xor_cancel_right] at c
      exact c
theorem ker_span (cols : List Nat) (x : Nat) : Spn (ker cols) x ↔ x < 2 ^ cols.length ∧ img cols x = 0 := by
  unfold ker prd
  rw [(spn_rws (prs cols)).low_span, spn_span]
  constructor
  · rintro ⟨h, hx⟩
    obtain ⟨y, hy, e⟩ := prs_fwd cols h
    have e2 : x >>> cols.length = img cols y := by
      rw [e, Nat.shiftRight_xor_distrib, Nat.shiftLeft_shiftRight, Nat.shiftRight_eq_div_pow, Nat.div_eq_of_lt hy, Nat.xor_zero]
    rw [Nat.shiftRight_eq_div_pow, Nat.div_eq_of_lt hx] at e2
    rw [← e2] at e
    simp only [Nat.zero_shiftLeft, Nat.zero_xor] at e
    rw [e]
    exact ⟨hy, e2.symm⟩
  · rintro ⟨hx, e⟩
    have a := prs_bwd cols (Nat.le_refl _) hx
    rw [e] at a
    simp only [Nat.zero_shiftLeft, Nat.zero_xor] at a
    exact ⟨a, hx⟩
/-! ### the tags -/
theorem tgl_fst : ∀ (rows : List (Nat × Nat)) (st : Nat × Nat), (tgl rows st).1 = lft (rows.map Prod.fst) st.1
  | [], _ => rfl
  | r :: rs, st => by
    show (tgl rs _).1 = lft _ _
    rw [tgl_fst rs]
    show _ = lft (rs.map Prod.fst) (if st.1.testBit (low r.1) = true then st.1 ^^^ r.1 else st.1)
    dsimp only
    split <;> rfl
theorem tgl_keep {p : Nat × Nat → Prop} (hx : ∀ a b, p a → p b → p (a.1 ^^^ b.1, a.2 ^^^ b.2)) : ∀ {rows : List (Nat × Nat)} {st : Nat × Nat}, (∀ r ∈ rows, p r) → p st → p (tgl rows st)
  | [], _, _, h => h
  | r :: rs, st, hr, h => by
    show p (tgl rs _)
    refine tgl_keep hx (fun s hs => hr s (.tail _ hs)) ?_
    dsimp only
    split
    · exact hx _ _ h (hr r (.head _))
    · exact h
theorem tgl_snd {n : Nat} : ∀ {rows : List (Nat × Nat)} {st : Nat × Nat}, (∀ r ∈ rows, r.2 < 2 ^ n) → (tgl rows st).2 ^^^ st.2 < 2 ^ n
  | [], st, _ => by show st.2 ^^^ st.2 < 2 ^ n; rw [Nat.xor_self]; exact Nat.two_pow_pos n
  | r :: rs, st, hr => by
    show (tgl rs _).2 ^^^ st.2 < 2 ^ n
    dsimp only
    split
    · have ih := tgl_snd (rows := rs) (st := (st.1 ^^^ r.1, st.2 ^^^ r.2)) fun s hs => hr s (.tail _ hs)
      have a := Nat.xor_lt_two_pow ih (hr r (.head _))
      dsimp only at a
      rwa [← Nat.xor_assoc, xor_cancel_right] at a
    · exact tgl_snd fun s hs => hr s (.tail _ hs)
/-- what holds of the tags of n columns -/
structure Tgi (cols : List Nat) (n : Nat) : Prop where
  im : ∀ r ∈ (tgs cols n).1, img cols r.2 = r.1 ∧ r.2 < 2 ^ n
  lw : Lws ((tgs cols n).1.map Prod.fst)
  sp : ∀ x, Spn ((tgs cols n).1.map Prod.fst) x ↔ Spn (cols.take n) x
  im0 : ∀ t ∈ (tgs cols n).2, img cols t = 0 ∧ t < 2 ^ n
  ind : Ind (tgs cols n).2
  all : ∀ x, x < 2 ^ n → img cols x = 0 → Spn (tgs cols n).2 x
theorem tgi (cols : List Nat) : ∀ n, n ≤ cols.length → Tgi cols n
  | 0, _ => ⟨fun r h => (by cases h), Lws.nil, fun x => Iff.rfl, fun t h => (by cases h), .nil, fun x h _ => (by
      have : x = 0 := by simpa using h
      rw [this]; exact .zero)⟩
  | n + 1, hn => by
    have I := tgi cols n (by omega)
    have hc := getD_take (Nat.lt_succ_self n) hn
    have ic : img cols (1 <<< n) = cols.getD n 0 := by rw [Nat.one_shiftLeft, img_unit cols hn]
    have mono : 2 ^ n ≤ 2 ^ (n + 1) := Nat.pow_le_pow_right (by decide) (Nat.le_succ n)
    have hu : 1 <<< n < 2 ^ (n + 1) := by rw [Nat.one_shiftLeft]; exact Nat.pow_lt_pow_right (by decide) (Nat.lt_succ_self n)
    have tk : cols.take (n + 1) = cols.take n ++ [cols.getD n 0] := by
      rw [List.take_succ, List.getD_eq_getElem?_getD, List.getElem?_eq_getElem (by omega)]; rfl
    have e1 := tgl_fst (tgs cols n).1 (cols.getD n 0, 1 <<< n)
    have e2 : img cols (tgl (tgs cols n).1 (cols.getD n 0, 1 <<< n)).2 = (tgl (tgs cols n).1 (cols.getD n 0, 1 <<< n)).1 ∧ (tgl (tgs cols n).1 (cols.getD n 0, 1 <<< n)).2 < 2 ^ (n + 1) :=
      tgl_keep (p := fun q => img cols q.2 = q.1 ∧ q.2 < 2 ^ (n + 1)) (fun a b ha hb => ⟨by show img cols (a.2 ^^^ b.2) = a.1 ^^^ b.1; rw [(lin_img cols).x, ha.1, hb.1], Nat.xor_lt_two_pow ha.2 hb.2⟩) (fun r hr => ⟨(I.im r hr).1, Nat.lt_of_lt_of_le (I.im r hr).2 mono⟩) ⟨ic, hu⟩
    have e3 : (tgl (tgs cols n).1 (cols.getD n 0, 1 <<< n)).2 ^^^ (1 <<< n) < 2 ^ n := tgl_snd (st := (cols.getD n 0, 1 <<< n)) fun r hr => (I.im r hr).2
    have bs := bstep_span ((tgs cols n).1.map Prod.fst) (cols.getD n 0)
    have bw := I.lw.step (cols.getD n 0)
    have sp' : ∀ x, Spn (bstep ((tgs cols n).1.map Prod.fst) (cols.getD n 0)) x ↔ Spn (cols.take (n + 1)) x := fun x => by rw [bs, tk, span_app I.sp]
    have stp := tgs_succ cols n
    generalize htl : tgl (tgs cols n).1 (cols.getD n 0, 1 <<< n) = tl at *
    have e1' : tl.1 = lft ((tgs cols n).1.map Prod.fst) (cols.getD n 0) := e1
    by_cases z : tl.1 = 0
    · rw [if_pos z] at stp
      have ez : bstep ((tgs cols n).1.map Prod.fst) (cols.getD n 0) = (tgs cols n).1.map Prod.fst := by unfold bstep; rw [if_pos (by rw [← e1']; exact z)]
      rw [ez] at sp'
      refine ⟨?_, ?_, ?_, ?_, ?_, ?_⟩ <;> rw [stp]
      · exact fun r hr => ⟨(I.im r hr).1, Nat.lt_of_lt_of_le (I.im r hr).2 mono⟩
      · exact I.lw
      · exact sp'
      · intro t ht
        rcases List.mem_append.mp ht with ht | ht
        · exact ⟨(I.im0 t ht).1, Nat.lt_of_lt_of_le (I.im0 t ht).2 mono⟩
        · rcases List.mem_singleton.mp ht with rfl
          exact ⟨e2.1.trans z, e2.2⟩
      · refine .snoc I.ind fun hs => ?_
        have lt := hs.lt fun w hw => (I.im0 w hw).2
        have a := Nat.xor_lt_two_pow lt e3
        rw [xor_cancel, Nat.one_shiftLeft] at a
        exact Nat.lt_irrefl _ a
      · intro x hx h0
        have sub : ∀ w ∈ (tgs cols n).2, w ∈ (tgs cols n).2 ++ [tl.2] := fun w hw => List.mem_append_left _ hw
        rcases bit_split hx with h | ⟨h, _⟩
        · exact (I.all x h h0).sub sub
        · have a : x ^^^ tl.2 < 2 ^ n := by
            have := Nat.xor_lt_two_pow h e3
            rwa [Nat.one_shiftLeft, Nat.xor_comm tl.2, Nat.xor_assoc, xor_cancel] at this
          have b := (I.all _ a (by rw [(lin_img cols).x, h0, e2.1, z]; rfl)).sub sub
          have c := b.xor (.of (List.mem_append_right _ (List.mem_singleton_self tl.2)))
          rwa [xor_cancel_right] at c
    · rw [if_neg z] at stp
      have ez : bstep ((tgs cols n).1.map Prod.fst) (cols.getD n 0) = (tgs cols n).1.map Prod.fst ++ [tl.1] := by unfold bstep; rw [if_neg (by rw [← e1']; exact z), ← e1']
      rw [ez] at sp' bw
      refine ⟨?_, ?_, ?_, ?_, ?_, ?_⟩ <;> rw [stp]
      · intro r hr
        rcases List.mem_append.mp hr with hr | hr
        · exact ⟨(I.im r hr).1, Nat.lt_of_lt_of_le (I.im r hr).2 mono⟩
        · rcases List.mem_singleton.mp hr with rfl
          exact e2
      · rw [List.map_append]; exact bw
      · rw [List.map_append]; exact sp'
      · exact fun t ht => ⟨(I.im0 t ht).1, Nat.lt_of_lt_of_le (I.im0 t ht).2 mono⟩
      · exact I.ind
      · intro x hx h0
        rcases bit_split hx with h | ⟨h, _⟩
        · exact I.all x h h0
        · exfalso
          have a := img_span (cols := cols) (n := n) (by omega) h
          rw [(lin_img cols).x, h0, Nat.zero_xor, img_unit cols hn, ← I.sp, I.lw.span] at a
          exact z (e1'.trans a)
theorem tgd_span (cols : List Nat) (x : Nat) : Spn (tgd cols).2 x ↔ x < 2 ^ cols.length ∧ img cols x = 0 := by
  have I := tgi cols cols.length (Nat.le_refl _)
  constructor
  · intro h
    refine ⟨h.lt fun w hw => (I.im0 w hw).2, ?_⟩
    induction h with
    | zero => exact (lin_img cols).z
    | add hw _ ih => rw [(lin_img cols).x, ih, (I.im0 _ hw).1]; rfl
  · exact fun h => I.all x h.1 h.2
theorem tgd_len (cols : List Nat) : (tgd cols).2.length + rk cols = cols.length := by
  have I := tgi cols cols.length (Nat.le_refl _)
  have a := I.lw.rk
  have b : rk ((tgs cols cols.length).1.map Prod.fst) = rk cols := rk_eq fun x => by rw [I.sp, List.take_length]
  rw [List.length_map] at a
  have c := tgs_len cols cols.length
  unfold tgd
  omega
theorem tgd_rk (cols : List Nat) : rk (tgd cols).2 = (tgd cols).2.length := (tgi cols cols.length (Nat.le_refl _)).ind.rk
theorem ker_len_eq (cols : List Nat) : (ker cols).length + rk cols = cols.length := by
  have a : rk (ker cols) = rk (tgd cols).2 := rk_eq fun x => by rw [ker_span, tgd_span]
  rw [spn_id (ker_rws cols), tgd_rk] at a
  have := tgd_len cols
  omega
end LaneX
set_option linter.all false
namespace LaneX
/-! ### twins, partners -/
theorem span_clr_img (S ls : List Nat) (x : Nat) : Spn (ker (ls.map (clr (spn S)))) x ↔ x < 2 ^ ls.length ∧ Spn S (img ls x) := by
  rw [ker_span, List.length_map, img_map (lin_clr _), clr_spn_zero]
theorem span_tag (S ls : List Nat) (x : Nat) : Spn (tgd (ls.map (lft (bas S)))).2 x ↔ x < 2 ^ ls.length ∧ Spn S (img ls x) := by
  rw [tgd_span, List.length_map, img_map (lin_lft _), lft_bas]
theorem ksz (S ls : List Nat) : (spn (ker (ls.map (clr (spn S))))).length + rk (S ++ ls) = ls.length + rk S := by
  have a := ker_len_eq (ls.map (clr (spn S)))
  have b := (red_clr S).rk ls
  have c := spn_id (ker_rws (ls.map (clr (spn S))))
  unfold rk at c
  rw [List.length_map] at a
  omega
theorem tsz (S ls : List Nat) : (tgd (ls.map (lft (bas S)))).2.length + rk (S ++ ls) = ls.length + rk S := by
  have a := tgd_len (ls.map (lft (bas S)))
  have b := (red_lft S).rk ls
  rw [List.length_map] at a
  omega
theorem app_spn (A ws : List Nat) (x : Nat) : Spn (A ++ spn ws) x ↔ Spn (A ++ ws) x := span_app2 (fun _ => Iff.rfl) (fun z => spn_span ws z)
theorem rk_app_spn (A ws : List Nat) : rk (A ++ spn ws) = rk (A ++ ws) := rk_eq (app_spn A ws)
theorem twn_span (ss ls : List Nat) (x : Nat) : Spn (twn ss ls) x ↔ x < 2 ^ ls.length ∧ Spn ss (img ls x) := by
  unfold twn
  rw [spn_span, span_clr_img]
theorem prt_span (ss ls ws : List Nat) (x : Nat) : Spn (prt ss ls (spn ws)) x ↔ x < 2 ^ ls.length ∧ Spn (ss ++ ws) (img ls x) := by
  unfold prt prw
  rw [spn_span, span_clr_img, app_spn]
theorem twn_size (ss ls : List Nat) : (twn ss ls).length + rk (ss ++ ls) = ls.length + rk ss := ksz ss ls
theorem prt_size (ss ls ws : List Nat) : (prt ss ls (spn ws)).length + rk (ss ++ ws ++ ls) = ls.length + rk (ss ++ ws) := by
  have a := ksz (ss ++ spn ws) ls
  rw [rk_app_spn] at a
  have b : rk (ss ++ spn ws ++ ls) = rk (ss ++ ws ++ ls) := rk_eq fun x => span_app fun z => app_spn ss ws z
  rw [b] at a
  exact a
theorem twn_tag (ss ls : List Nat) : (twn ss ls).length = (tgd (ls.map (lft (bas ss)))).2.length := by
  have a := twn_size ss ls
  have b := tsz ss ls
  omega
theorem prt_rk (ss ls ws : List Nat) : rk (prt ss ls (spn ws)) = (prt ss ls (spn ws)).length := spn_id (spn_rws _)
theorem prt_tag (ss ls ws : List Nat) : (prt ss ls (spn ws)).length = rk (tgd (ls.map (lft (bas (ss ++ ws))))).2 := by
  rw [← prt_rk]
  exact rk_eq fun x => by rw [prt_span, span_tag]
theorem prt_tag2 (ss ls ws : List Nat) : rk ((tgd (ls.map (lft (bas (ss ++ ws))))).2 ++ prt ss ls (spn ws)) = (prt ss ls (spn ws)).length := by
  rw [← prt_rk]
  refine Nat.le_antisymm (rk_le fun x hx => ?_) (rk_right _ _)
  rcases List.mem_append.mp hx with hx | hx
  · rw [prt_span, ← span_tag]; exact .of hx
  · exact .of hx
/-! ### completing -/
theorem cms_span {A : List Nat} (R : Rws A) (B : List Nat) : (∀ x, Spn (cms A B).1 x ↔ Spn (A ++ B) x) ∧ (∀ x, Spn (cms A B).1 x ↔ Spn (A ++ (cms A B).2) x) := by
  refine snoc_rec (p := fun B => (∀ x, Spn (cms A B).1 x ↔ Spn (A ++ B) x) ∧ (∀ x, Spn (cms A B).1 x ↔ Spn (A ++ (cms A B).2) x)) ⟨fun x => by simp [cms], fun x => by simp [cms]⟩ (fun a r ih => ?_) B
  have R' := cms_rws R a
  rw [cms_snoc, ← List.append_assoc]
  split
  · rename_i h
    have hr := (ih.1 r).mp (R'.span.mpr h)
    refine ⟨fun x => ?_, ih.2⟩
    rw [ih.1 x]
    constructor
    · exact fun hx => hx.sub fun w hw => List.mem_append_left _ hw
    · refine fun hx => hx.mono fun y hy => ?_
      rcases List.mem_append.mp hy with hy | hy
      · exact .of hy
      · rcases List.mem_singleton.mp hy with rfl; exact hr
  · refine ⟨fun x => ?_, fun x => ?_⟩
    · rw [grw_span, span_app ih.1]
    · show Spn (grw _ _) x ↔ Spn (A ++ ((cms A a).2 ++ [r])) x
      rw [grw_span, span_app ih.2, List.append_assoc]
theorem cmpl_len {A : List Nat} (R : Rws A) (B : List Nat) : (cmpl A B).length + rk A = rk (A ++ B) := by
  unfold cmpl
  refine snoc_rec (p := fun B => (cms A B).2.length + rk A = rk (A ++ B)) (by simp [cms]) (fun a r ih => ?_) B
  have R' := cms_rws R a
  have S := (cms_span R a).1
  rw [cms_snoc, ← List.append_assoc]
  split
  · rename_i h
    rw [rk_snoc_in ((S r).mp (R'.span.mpr h))]; exact ih
  · rename_i h
    rw [rk_snoc_out fun z => h (R'.span.mp ((S r).mpr z)), List.length_append]
    simp only [List.length_cons, List.length_nil]
    omega
theorem cmpl_mem {A : List Nat} (B : List Nat) : ∀ x ∈ cmpl A B, x ∈ B := by
  unfold cmpl
  refine snoc_rec (p := fun B => ∀ x ∈ (cms A B).2, x ∈ B) (fun x hx => by cases hx) (fun a r ih x hx => ?_) B
  rw [cms_snoc] at hx
  split at hx
  · exact List.mem_append_left _ (ih x hx)
  · rcases List.mem_append.mp hx with hx | hx
    · exact List.mem_append_left _ (ih x hx)
    · exact List.mem_append_right _ hx
theorem cmpl_ind {A : List Nat} (R : Rws A) (B : List Nat) {φ : Nat → Nat} (L : Lin φ) : (∀ y, Spn B y → φ y = 0 → Spn A y) → Ind ((cmpl A B).map φ) := by
  unfold cmpl
  refine snoc_rec (p := fun B => (∀ y, Spn B y → φ y = 0 → Spn A y) → Ind ((cms A B).2.map φ)) (fun _ => .nil) (fun a r ih k => ?_) B
  have R' := cms_rws R a
  have S := (cms_span R a).2
  have ih := ih fun y hy => k y (hy.sub fun w hw => List.mem_append_left _ hw)
  have mem := cmpl_mem (A := A) a
  unfold cmpl at mem
  rw [cms_snoc]
  split
  · exact ih
  · rename_i h
    show Ind (((cms A a).2 ++ [r]).map φ)
    rw [List.map_append]
    refine .snoc ih fun hs => h (R'.span.mp ((S r).mpr ?_))
    obtain ⟨y, hy, e⟩ := L.back hs
    have hyr : Spn A (y ^^^ r) := by
      refine k _ ?_ (by rw [L.x, e, Nat.xor_self])
      exact (hy.sub fun w hw => List.mem_append_left _ (mem w hw)).xor (.of (List.mem_append_right _ (List.mem_singleton_self r)))
    have c := (hyr.sub (vs := A ++ (cms A a).2) fun w hw => List.mem_append_left _ hw).xor (hy.sub (vs := A ++ (cms A a).2) fun w hw => List.mem_append_right _ hw)
    rwa [Nat.xor_comm y r, xor_cancel_right] at c
/-! ### meets -/
theorem Rws.ind {rows : List Nat} (R : Rws rows) : Ind rows := by
  have : ∀ n (l : List Nat), l.length = n → Rws l → Ind l := by
    intro n
    induction n with
    | zero => intro l hl _; rw [List.length_eq_zero_iff.mp hl]; exact .nil
    | succ n ih =>
      intro l hl L
      have hne : l ≠ [] := fun e => by rw [e] at hl; cases hl
      have e := List.dropLast_concat_getLast hne
      rw [← e] at L ⊢
      have hp := List.pairwise_append.mp L.red
      have L' : Rws l.dropLast := ⟨fun r hr => L.nz r (List.mem_append_left _ hr), hp.1⟩
      refine .snoc (ih _ (by rw [List.length_dropLast, hl]; rfl) L') fun hs => ?_
      have z := L'.span.mp hs
      rw [clr_of_none fun r hr => (hp.2.2 r hr _ (List.mem_singleton_self _)).2] at z
      exact L.nz _ (List.mem_append_right _ (List.mem_singleton_self _)) z
  exact this _ rows rfl R
theorem shl_shr (b x : Nat) : (x <<< b) >>> b = x := Nat.shiftLeft_shiftRight x b
theorem shl_mod (b x : Nat) : (x <<< b) % 2 ^ b = 0 := by rw [Nat.shiftLeft_eq]; exact Nat.mul_mod_left _ _
theorem map_shl_shr (b : Nat) (B : List Nat) : (B.map fun r => r <<< b).map (fun x => x >>> b) = B := by
  rw [List.map_map]
  conv => rhs; rw [← List.map_id B]
  exact List.map_congr_left fun x _ => shl_shr b x
theorem ind_shl (b : Nat) {B : List Nat} (h : Ind B) : Ind (B.map fun r => r <<< b) := by
  induction h with
  | nil => exact .nil
  | @snoc a w _ hw ih =>
    rw [List.map_append]
    refine .snoc ih fun hs => hw ?_
    have a := (lin_shr b).spn hs
    rw [map_shl_shr] at a
    dsimp only at a
    rwa [shl_shr] at a
theorem ind_pairs (b : Nat) {A B : List Nat} (hB : Ind B) (hA : Ind A) (lt : ∀ x ∈ A, x < 2 ^ b) : Ind ((B.map fun r => r <<< b) ++ A.map fun r => (r <<< b) + r) := by
  induction hA with
  | nil => simpa using ind_shl b hB
  | @snoc a w _ hw ih =>
    have ih := ih fun x hx => lt x (List.mem_append_left _ hx)
    have hwl := lt w (List.mem_append_right _ (List.mem_singleton_self w))
    rw [List.map_append, ← List.append_assoc]
    refine .snoc ih fun hs => hw ?_
    have q := (lin_mod b).spn hs
    have pm : ∀ r, r < 2 ^ b → (r <<< b + r) % 2 ^ b = r := fun r hr => by
      rw [Nat.add_mod, shl_mod, Nat.zero_add, Nat.mod_mod, Nat.mod_eq_of_lt hr]
    dsimp only at q
    rw [pm w hwl] at q
    refine q.mono fun y hy => ?_
    obtain ⟨z, hz, rfl⟩ := List.mem_map.mp hy
    rcases List.mem_append.mp hz with hz | hz
    · obtain ⟨r, hr, rfl⟩ := List.mem_map.mp hz
      rw [shl_mod]; exact .zero
    · obtain ⟨r, hr, rfl⟩ := List.mem_map.mp hz
      rw [pm r (lt r (List.mem_append_left _ hr))]; exact .of hr
theorem blen_shr (b r : Nat) : blen (r >>> b) = blen r - b := by
  by_cases h : blen r ≤ b
  · have : r >>> b = 0 := by rw [Nat.shiftRight_eq_div_pow, Nat.div_eq_of_lt (blen_le.mp h)]
    rw [this, show blen r - b = 0 by omega]; rfl
  · have hr : r ≠ 0 := fun e => by rw [e] at h; simp [blen] at h
    have t : (r >>> b).testBit (blen r - b - 1) = true := by
      rw [Nat.testBit_shiftRight, show b + (blen r - b - 1) = blen r - 1 by omega]; exact testBit_top hr
    have h1 : ¬ blen (r >>> b) ≤ blen r - b - 1 := fun z => by rw [testBit_ge z] at t; cases t
    have h2 : blen (r >>> b) ≤ blen r - b := by
      rw [blen_le, Nat.shiftRight_eq_div_pow, Nat.div_lt_iff_lt_mul (Nat.two_pow_pos b), ← Nat.pow_add, show blen r - b + b = blen r by omega]
      exact lt_blen r
    omega
theorem Rws.high {R : List Nat} (A : Rws R) (b : Nat) : Rws ((R.filter fun r => !decide (blen r ≤ b)).map fun x => x >>> b) := by
  have hb : ∀ r ∈ R.filter fun r => !decide (blen r ≤ b), b < blen r := fun r hr => by
    have := (List.mem_filter.mp hr).2
    simp at this
    omega
  refine ⟨fun r hr => ?_, ?_⟩
  · obtain ⟨x, hx, rfl⟩ := List.mem_map.mp hr
    intro e
    have a := blen_shr b x
    rw [e] at a
    have := hb x hx
    have : blen 0 = 0 := rfl
    omega
  · rw [List.pairwise_map]
    refine (A.red.sublist List.filter_sublist).imp_of_mem fun {x y} hx hy h => ?_
    have a := hb x hx
    have c := hb y hy
    rw [blen_shr, blen_shr, Nat.testBit_shiftRight, Nat.testBit_shiftRight, show b + (blen y - b - 1) = blen y - 1 by omega, show b + (blen x - b - 1) = blen x - 1 by omega]
    exact h
theorem filter_two (p : Nat → Bool) : ∀ R : List Nat, (R.filter p).length + (R.filter fun r => !p r).length = R.length
  | [] => rfl
  | r :: rs => by
    have := filter_two p rs
    cases h : p r <;> simp [List.filter_cons, h] <;> omega
theorem Rws.split {R : List Nat} (A : Rws R) (b : Nat) : (R.filter fun r => decide (blen r ≤ b)).length + rk (R.map fun x => x >>> b) = R.length := by
  have a := spn_id (A.high b)
  rw [List.length_map] at a
  have e : rk (R.map fun x => x >>> b) = rk ((R.filter fun r => !decide (blen r ≤ b)).map fun x => x >>> b) := by
    refine Nat.le_antisymm (rk_le fun x hx => ?_) (rk_le fun x hx => ?_)
    · obtain ⟨r, hr, rfl⟩ := List.mem_map.mp hx
      by_cases h : blen r ≤ b
      · rw [Nat.shiftRight_eq_div_pow, Nat.div_eq_of_lt (blen_le.mp h)]; exact .zero
      · exact .of (List.mem_map.mpr ⟨r, List.mem_filter.mpr ⟨hr, by simpa using h⟩, rfl⟩)
    · obtain ⟨r, hr, rfl⟩ := List.mem_map.mp hx
      exact .of (List.mem_map.mpr ⟨r, (List.mem_filter.mp hr).1, rfl⟩)
  have := filter_two (fun r => decide (blen r ≤ b)) R
  omega
theorem mtd_len {b : Nat} {A B : List Nat} (RA : Rws A) (RB : Rws B) (lt : ∀ x ∈ A, x < 2 ^ b) : (mtd b A B).length + rk (A ++ B) = A.length + B.length := by
  have a := (spn_rws (mts b A B)).split b
  have r1 : (spn (mts b A B)).length = A.length + B.length := by
    have e : rk (mts b A B) = rk ((B.map fun r => r <<< b) ++ A.map fun r => (r <<< b) + r) := rk_perm List.perm_append_comm
    have i := (ind_pairs b RB.ind RA.ind lt).rk
    rw [← e] at i
    show rk (mts b A B) = _
    rw [i]
    simp
    omega
  have r2 : rk ((spn (mts b A B)).map fun x => x >>> b) = rk (A ++ B) := by
    have e1 : ∀ x, Spn ((spn (mts b A B)).map fun x => x >>> b) x ↔ Spn ((mts b A B).map fun x => x >>> b) x := fun x => by
      constructor
      · intro h
        obtain ⟨y, hy, rfl⟩ := (lin_shr b).back h
        exact (lin_shr b).spn ((spn_span _ y).mp hy)
      · intro h
        obtain ⟨y, hy, rfl⟩ := (lin_shr b).back h
        exact (lin_shr b).spn ((spn_span _ y).mpr hy)
    rw [rk_eq e1]
    unfold mts
    rw [List.map_append, map_shl_shr, List.map_map]
    have e2 : A.map ((fun x => x >>> b) ∘ fun r => (r <<< b) + r) = A := by
      conv => rhs; rw [← List.map_id A]
      refine List.map_congr_left fun x hx => ?_
      show (x <<< b + x) >>> b = x
      rw [add_eq_xor (lt x hx), Nat.shiftRight_xor_distrib, shl_shr, Nat.shiftRight_eq_div_pow, Nat.div_eq_of_lt (lt x hx), Nat.xor_zero]
    rw [e2]
  rw [r1, r2] at a
  exact a
/-! ### what the law asks -/
theorem kpt_eq {b : Nat} {ss ws : List Nat} (hs : ∀ x ∈ ss, x < 2 ^ b) : kpt b ss (spn ws) = ((rk (ss ++ ws) - rk ws : Nat) : Int) := by
  have a := mtd_len (b := b) (spn_rws ss) (spn_rws ws) (spn_lt hs)
  have c : rk (spn ss ++ spn ws) = rk (ss ++ ws) := rk_eq fun x => span_app2 (fun z => spn_span ss z) (fun z => spn_span ws z)
  have d := spn_id (mtd_rws b (spn ss) (spn ws))
  have e1 : (spn (mtd b (spn ss) (spn ws))).length = (mtd b (spn ss) (spn ws)).length := d
  have e2 : (spn ss).length = rk ss := rfl
  have e3 : (spn ws).length = rk ws := rfl
  have r := rk_right ss ws
  unfold kpt
  rw [e1, e2]
  rw [c, e2, e3] at a
  omega
theorem twn_sub_prt (ss ls ws : List Nat) : rk (twn ss ls ++ prt ss ls (spn ws)) = rk (prt ss ls (spn ws)) := by
  refine Nat.le_antisymm (rk_le fun x hx => ?_) (rk_right _ _)
  rcases List.mem_append.mp hx with hx | hx
  · have := (twn_span ss ls x).mp (.of hx)
    exact (prt_span ss ls ws x).mpr ⟨this.1, this.2.sub fun w hw => List.mem_append_left _ hw⟩
  · exact .of hx
theorem ldr_size {b : Nat} {ss ls ws : List Nat} (hs : ∀ x ∈ ss, x < 2 ^ b) (hl : ∀ x ∈ ls, x < 2 ^ b) (hw : ∀ x ∈ ws, x < 2 ^ b) (hb : b ≤ rk (ss ++ ls)) : (ldr ss ls (spn ws)).length = rk (ss ++ ws) - rk ss := by
  have a := cmpl_len (spn_rws (ker (ls.map (clr (spn ss))))) (prt ss ls (spn ws))
  have a' : (ldr ss ls (spn ws)).length + rk (twn ss ls) = rk (twn ss ls ++ prt ss ls (spn ws)) := a
  rw [twn_sub_prt, prt_rk] at a'
  have c : rk (twn ss ls) = (twn ss ls).length := spn_id (spn_rws _)
  have d := twn_size ss ls
  have e := prt_size ss ls ws
  have f : rk (ss ++ ls) = b := Nat.le_antisymm (rk_le_bits fun x hx => (List.mem_append.mp hx).elim (hs x) (hl x)) hb
  have g : rk (ss ++ ws ++ ls) = b := by
    refine Nat.le_antisymm (rk_le_bits fun x hx => ?_) (Nat.le_trans hb (rk_le fun x hx => ?_))
    · rcases List.mem_append.mp hx with hx | hx
      · exact (List.mem_append.mp hx).elim (hs x) (hw x)
      · exact hl x hx
    · rcases List.mem_append.mp hx with hx | hx
      · exact .of (List.mem_append_left _ (List.mem_append_left _ hx))
      · exact .of (List.mem_append_right _ hx)
  have h := rk_left ss ws
  omega
theorem ldr_mem {ss ls ws : List Nat} {x : Nat} (h : x ∈ ldr ss ls (spn ws)) : x < 2 ^ ls.length ∧ lft (bas (ss ++ ws)) (img ls x) = 0 := by
  have := (prt_span ss ls ws x).mp (.of (cmpl_mem _ x h))
  exact ⟨this.1, lft_bas.mpr this.2⟩
theorem ldr_rk (ss ls ws : List Nat) : rk ((ldr ss ls (spn ws)).map fun x => lft (bas ss) (img ls x)) = (ldr ss ls (spn ws)).length := by
  have L : Lin (fun x => lft (bas ss) (img ls x)) := (lin_lft _).comp (lin_img ls)
  have := (cmpl_ind (A := twn ss ls) (spn_rws _) (prt ss ls (spn ws)) L fun y hy e => (twn_span ss ls y).mpr ⟨((prt_span ss ls ws y).mp hy).1, lft_bas.mp e⟩).rk
  rw [List.length_map] at this
  exact this
theorem smr_eq {b : Nat} {ss ls ws : List Nat} (hs : ∀ x ∈ ss, x < 2 ^ b) (hl : ∀ x ∈ ls, x < 2 ^ b) (hw : ∀ x ∈ ws, x < 2 ^ b) (hb : b ≤ rk (ss ++ ls)) :
    smr b ss ls (spn ws) = rdf ((rk (ss ++ ws) - rk ws) - (tgd (ls.map (lft (bas ss)))).2.length) (rk (ss ++ ws) - rk ss) := by
  unfold smr
  rw [kpt_eq hs, ldr_size hs hl hw hb, ← twn_tag]
  congr 1
  omega
/-! ### the fewest rounds -/
/-- what is reached -/
def rch (b l t : Nat) : Nat → Nat
  | 0 => 1 <<< b
  | i + 1 => rch b l t i + min (rch b l t i) (1 <<< (l + t))
theorem rch_dbl {b l t : Nat} : ∀ i, i ≤ l + t + 1 - b → b ≤ l + t ∨ i = 0 → rch b l t i = 2 ^ (b + i)
  | 0, _, _ => Nat.one_shiftLeft b
  | i + 1, h, hb => by
    have hb' : b ≤ l + t := by omega
    have ih := rch_dbl (b := b) (l := l) (t := t) i (by omega) (.inl hb')
    show rch b l t i + min (rch b l t i) (1 <<< (l + t)) = _
    rw [ih, Nat.one_shiftLeft, Nat.min_eq_left (Nat.pow_le_pow_right (by decide) (by omega)), ← Nat.add_assoc, Nat.pow_succ]
    omega
theorem rch_ge {b l t d : Nat} (h : 2 ^ (l + t) ≤ rch b l t d) : ∀ j, rch b l t (d + j) = rch b l t d + j * 2 ^ (l + t)
  | 0 => by simp
  | j + 1 => by
    have ih := rch_ge h j
    show rch b l t (d + j) + min (rch b l t (d + j)) (1 <<< (l + t)) = _
    rw [Nat.one_shiftLeft, Nat.min_eq_right (by rw [ih]; exact Nat.le_trans h (Nat.le_add_right _ _)), ih, Nat.succ_mul]
    omega
theorem rch_lt {b l t r : Nat} (h : rch b l t r = 2 ^ (b + l)) : ∀ i, i < r → rch b l t i < 2 ^ (b + l) := by
  have up : ∀ i j, i ≤ j → rch b l t i ≤ rch b l t j := by
    intro i j hij
    induction hij with
    | refl => exact Nat.le_refl _
    | step _ ih => exact Nat.le_trans ih (Nat.le_add_right _ _)
  have pos : ∀ i, 0 < rch b l t i := fun i => Nat.lt_of_lt_of_le (by show 0 < 1 <<< b; rw [Nat.one_shiftLeft]; exact Nat.two_pow_pos b) (up 0 i (Nat.zero_le _))
  intro i hi
  have a := up (i + 1) r hi
  have c : rch b l t (i + 1) = rch b l t i + min (rch b l t i) (1 <<< (l + t)) := rfl
  have d : 0 < min (rch b l t i) (1 <<< (l + t)) := by
    rw [Nat.one_shiftLeft]
    have := pos i
    have := Nat.two_pow_pos (l + t)
    omega
  omega
theorem rch_rdf (b l t : Nat) : rch b l t (rdf (b - t) l) = 2 ^ (b + l) := by
  by_cases h : b ≤ t
  · have e : rdf (b - t) l = l := by
      rw [show b - t = 0 by omega]
      unfold rdf
      split
      · have : l = 0 := by omega
        subst this; rfl
      · simp
    rw [e, rch_dbl l (by omega) (.inl (by omega))]
  · obtain ⟨a, rfl⟩ : ∃ a, b = t + a := ⟨b - t, by omega⟩
    rw [show t + a - t = a by omega]
    unfold rdf
    split
    · rename_i hl
      obtain ⟨c, rfl⟩ : ∃ c, a = l + c := ⟨a - l, by omega⟩
      have q := rch_ge (b := t + (l + c)) (l := l) (t := t) (d := 0) (by show _ ≤ 1 <<< _; rw [Nat.one_shiftLeft]; exact Nat.pow_le_pow_right (by decide) (by omega)) (1 <<< (l + c) - 1 <<< (l + c - l))
      rw [Nat.zero_add] at q
      rw [q, show l + c - l = c by omega]
      show 1 <<< _ + _ = _
      rw [Nat.one_shiftLeft, Nat.one_shiftLeft, Nat.one_shiftLeft, Nat.sub_mul, ← Nat.pow_add, ← Nat.pow_add]
      have m : 2 ^ (c + (l + t)) ≤ 2 ^ (l + c + (l + t)) := Nat.pow_le_pow_right (by decide) (by omega)
      have e1 : t + (l + c) = c + (l + t) := by omega
      have e2 : c + (l + t) + l = l + c + (l + t) := by omega
      rw [e1, e2]
      omega
    · rename_i hl
      obtain ⟨c, rfl⟩ : ∃ c, l = a + c := ⟨l - a, by omega⟩
      have q0 : rch (t + a) (a + c) t c = 2 ^ (t + a + c) := rch_dbl c (by omega) (.inl (by omega))
      have q := rch_ge (b := t + a) (l := a + c) (t := t) (d := c) (by rw [q0]; exact Nat.pow_le_pow_right (by decide) (by omega)) (2 ^ a - 1)
      have p := Nat.two_pow_pos a
      rw [Nat.one_shiftLeft, show 2 ^ a - 1 + (a + c) - a = c + (2 ^ a - 1) by omega, q, q0, Nat.sub_mul, Nat.one_mul, ← Nat.pow_add]
      have e1 : t + a + c = a + c + t := by omega
      have e2 : t + a + (a + c) = a + (a + c + t) := by omega
      have m : 2 ^ (a + c + t) ≤ 2 ^ (a + (a + c + t)) := Nat.pow_le_pow_right (by decide) (by omega)
      rw [e1, e2]
      omega
theorem rdf_small {n l : Nat} (h : n ≤ 5) (hl : l ≤ 300) : rdf n l < 400 := by
  unfold rdf
  have : 2 ^ n ≤ 2 ^ 5 := Nat.pow_le_pow_right (by decide) h
  rw [Nat.one_shiftLeft]
  split
  · exact Nat.lt_of_le_of_lt (Nat.sub_le _ _) (by omega)
  · omega
theorem fewest_ok {b l t : Nat} (hl : l ≤ 300) : b ≤ 5 → rdf (b - t) l < 400 ∧ 1 <<< (b + l) ≤ rch b l t (rdf (b - t) l) ∧ ∀ i, i < rdf (b - t) l → rch b l t i < 1 <<< (b + l) := fun hb => by
  have h := rch_rdf b l t
  refine ⟨rdf_small (by omega) hl, ?_, ?_⟩
  · rw [h, Nat.one_shiftLeft]; exact Nat.le_refl _
  · rw [Nat.one_shiftLeft]; exact rch_lt h
end LaneX
set_option linter.all false
namespace LaneX
/-! ### numbers by their bits -/
def bitsOf (f : Nat → Bool) : Nat → Nat
  | 0 => 0
  | n + 1 => bitsOf f n ^^^ (if f n = true then 2 ^ n else 0)
theorem bitsOf_lt (f : Nat → Bool) : ∀ n, bitsOf f n < 2 ^ n
  | 0 => Nat.zero_lt_one
  | n + 1 => by
    have h := bitsOf_lt f n
    have m : 2 ^ n ≤ 2 ^ (n + 1) := Nat.pow_le_pow_right (by decide) (Nat.le_succ n)
    unfold bitsOf
    refine Nat.xor_lt_two_pow (Nat.lt_of_lt_of_le h m) ?_
    split
    · exact Nat.pow_lt_pow_right (by decide) (Nat.lt_succ_self n)
    · exact Nat.two_pow_pos _
theorem bitsOf_bit (f : Nat → Bool) : ∀ n i, (bitsOf f n).testBit i = (decide (i < n) && f i)
  | 0, i => by simp [bitsOf]
  | n + 1, i => by
    unfold bitsOf
    rw [Nat.testBit_xor, bitsOf_bit f n i]
    by_cases e : i = n
    · subst e
      cases h : f i
      · simp
      · simp [Nat.testBit_two_pow]
    · have : (i < n + 1) ↔ i < n := by omega
      cases h : f n
      · simp [this]
      · simp [this, Nat.testBit_two_pow, show ¬ n = i from fun z => e z.symm]
theorem bitsOf_xor (f g : Nat → Bool) (n : Nat) : bitsOf (fun i => f i ^^ g i) n = bitsOf f n ^^^ bitsOf g n := by
  apply Nat.eq_of_testBit_eq
  intro i
  rw [Nat.testBit_xor, bitsOf_bit, bitsOf_bit, bitsOf_bit]
  cases decide (i < n) <;> simp
theorem imf_congr {cols : List Nat} {x y : Nat} : ∀ {n}, (∀ i, i < n → x.testBit i = y.testBit i) → imf cols x n = imf cols y n
  | 0, _ => rfl
  | n + 1, h => by rw [imf_succ, imf_succ, imf_congr fun i hi => h i (by omega), h n (by omega)]
theorem img_congr {cols : List Nat} {x y : Nat} (h : ∀ i, i < cols.length → x.testBit i = y.testBit i) : img cols x = img cols y := imf_congr h
theorem imf_cols {P Q : List Nat} {x : Nat} : ∀ {n}, (∀ i, i < n → P.getD i 0 = Q.getD i 0) → imf P x n = imf Q x n
  | 0, _ => rfl
  | n + 1, h => by rw [imf_succ, imf_succ, imf_cols fun i hi => h i (by omega), h n (by omega)]
/-- columns one by one added -/
theorem imf_add {P Q R : List Nat} {x : Nat} : ∀ {n}, (∀ i, i < n → R.getD i 0 = P.getD i 0 ^^^ Q.getD i 0) → imf R x n = imf P x n ^^^ imf Q x n
  | 0, _ => (Nat.xor_self 0).symm
  | n + 1, h => by
    rw [imf_succ, imf_succ, imf_succ, imf_add fun i hi => h i (by omega), h n (by omega)]
    split
    · rw [xor4]
    · rfl
/-! ### the coefficients of rows in a word -/
def cof (R : List Nat) (l : Nat) : Nat := bitsOf (fun i => l.testBit (blen (R.getD i 0) - 1)) R.length
theorem cof_lt (R : List Nat) (l : Nat) : cof R l < 2 ^ R.length := bitsOf_lt _ _
theorem cof_bit {R : List Nat} {l i : Nat} (h : i < R.length) : (cof R l).testBit i = l.testBit (blen (R.getD i 0) - 1) := by
  unfold cof
  rw [bitsOf_bit, decide_eq_true h]; rfl
theorem cof_xor (R : List Nat) (x y : Nat) : cof R (x ^^^ y) = cof R x ^^^ cof R y := by
  unfold cof
  rw [← bitsOf_xor]
  congr 1
  funext i
  rw [Nat.testBit_xor]
theorem clr_take {R : List Nat} (A : Rws R) (l : Nat) : ∀ k, k ≤ R.length → clr (R.take k) l = l ^^^ imf R (cof R l) k
  | 0, _ => by show l = l ^^^ 0; rw [Nat.xor_zero]
  | k + 1, h => by
    have tk : R.take (k + 1) = R.take k ++ [R.getD k 0] := by
      rw [List.take_succ, List.getD_eq_getElem?_getD, List.getElem?_eq_getElem (by omega)]; rfl
    have ih := clr_take A l k (by omega)
    rw [tk, clr_append, imf_succ]
    show clr [R.getD k 0] _ = _
    rw [clr_cons]
    show _ ^^^ bx _ _ = _
    have red := A.red
    have hb : (clr (R.take k) l).testBit (blen (R.getD k 0) - 1) = l.testBit (blen (R.getD k 0) - 1) := by
      refine clr_bit fun r hr => ?_
      have e : R = R.take k ++ R.drop k := (List.take_append_drop k R).symm
      rw [e] at red
      have := (List.pairwise_append.mp red).2.2 r hr (R.getD k 0) (by
        rw [List.getD_eq_getElem?_getD, List.getElem?_eq_getElem (by omega), List.drop_eq_getElem_cons (by omega)]
        exact .head _)
      exact this.1
    rw [hb, ← cof_bit (by omega), ih]
    cases (cof R l).testBit k
    · simp [bx]
    · simp only [bx, if_true]
      rw [Nat.xor_assoc]
theorem img_cof {R : List Nat} (A : Rws R) (l : Nat) : img R (cof R l) = l ^^^ clr R l := by
  have := clr_take A l R.length (Nat.le_refl _)
  rw [List.take_length] at this
  rw [this, xor_cancel]
  rfl
theorem clr_idem {R : List Nat} (A : Rws R) (l : Nat) : clr R (clr R l) = clr R l := clr_of_none fun r hr => clr_tops A r hr
theorem getD_mem' {R : List Nat} {i : Nat} (h : i < R.length) : R.getD i 0 ∈ R := getD_mem h
theorem cof_clr {R : List Nat} (A : Rws R) (l : Nat) : cof R (clr R l) = 0 := by
  apply Nat.eq_of_testBit_eq
  intro i
  rw [Nat.zero_testBit]
  by_cases h : i < R.length
  · rw [cof_bit h]; exact clr_tops A _ (getD_mem h)
  · exact Nat.testBit_lt_two_pow (Nat.lt_of_lt_of_le (cof_lt R _) (Nat.pow_le_pow_right (by decide) (by omega)))
theorem imf_bit {R : List Nat} {t c : Nat} : ∀ {n}, (∀ i, i < n → (R.getD i 0).testBit t = false) → (imf R c n).testBit t = false
  | 0, _ => Nat.zero_testBit _
  | n + 1, h => by
    have ih := imf_bit (c := c) fun i hi => h i (Nat.lt_succ_of_lt hi)
    rw [imf_succ]
    split
    · rw [Nat.testBit_xor, ih, h n (Nat.lt_succ_self n)]; rfl
    · exact ih
theorem Rws.getD_bit {R : List Nat} (A : Rws R) {i j : Nat} (hi : i < R.length) (hj : j < R.length) (h : i ≠ j) : (R.getD i 0).testBit (blen (R.getD j 0) - 1) = false := by
  have e : ∀ k, k < R.length → R.getD k 0 = R[k]?.getD 0 := fun k _ => List.getD_eq_getElem?_getD
  have p := List.pairwise_iff_getElem.mp A.red
  rw [List.getD_eq_getElem?_getD, List.getD_eq_getElem?_getD, List.getElem?_eq_getElem hi, List.getElem?_eq_getElem hj]
  show R[i].testBit (blen R[j] - 1) = false
  rcases Nat.lt_or_ge i j with q | q
  · exact (p i j hi hj q).1
  · exact (p j i hj hi (by omega)).2
theorem imf_top {R : List Nat} (A : Rws R) {j c : Nat} (hj : j < R.length) : ∀ n, n ≤ R.length → (imf R c n).testBit (blen (R.getD j 0) - 1) = (decide (j < n) && c.testBit j)
  | 0, _ => by show (0 : Nat).testBit _ = _; simp
  | n + 1, hn => by
    have ih := imf_top A (c := c) hj n (by omega)
    rw [imf_succ]
    by_cases e : j = n
    · subst e
      have z : decide (j < j) = false := by simp
      rw [z, Bool.false_and] at ih
      have t := testBit_top (A.nz _ (getD_mem hj))
      cases q : c.testBit j
      · rw [if_neg (by simp), ih]; simp
      · rw [if_pos rfl, Nat.testBit_xor, ih, t]; simp
    · have b := A.getD_bit (i := n) (j := j) (by omega) hj (fun z => e z.symm)
      have d : (j < n + 1) ↔ j < n := by omega
      cases q : c.testBit n
      · rw [if_neg (by simp), ih]; simp [d]
      · rw [if_pos rfl, Nat.testBit_xor, ih, b]; simp [d]
theorem cof_img {R : List Nat} (A : Rws R) {c : Nat} (h : c < 2 ^ R.length) : cof R (img R c) = c := by
  apply Nat.eq_of_testBit_eq
  intro i
  by_cases hi : i < R.length
  · rw [cof_bit hi]
    unfold img
    rw [imf_top A hi _ (Nat.le_refl _), decide_eq_true hi]; rfl
  · have m : 2 ^ R.length ≤ 2 ^ i := Nat.pow_le_pow_right (by decide) (by omega)
    rw [Nat.testBit_lt_two_pow (Nat.lt_of_lt_of_le (cof_lt R _) m), Nat.testBit_lt_two_pow (Nat.lt_of_lt_of_le h m)]
theorem clr_img {R : List Nat} (A : Rws R) (c : Nat) : clr R (img R c) = 0 := by
  rw [← A.span]
  have : ∀ n, n ≤ R.length → Spn R (imf R c n) := by
    intro n
    induction n with
    | zero => intro _; exact .zero
    | succ n ih =>
      intro h
      rw [imf_succ]
      split
      · exact (ih (by omega)).xor (.of (getD_mem h))
      · exact ih (by omega)
  exact this _ (Nat.le_refl _)
/-! ### a word cleared stays as short -/
theorem clr_lt' {k : Nat} : ∀ {rows : List Nat} {w : Nat}, w < 2 ^ k → clr rows w < 2 ^ k
  | [], w, h => h
  | r :: rs, w, h => by
    rw [clr_cons]
    refine clr_lt' ?_
    cases q : w.testBit (blen r - 1) with
    | false => simpa [bx] using h
    | true =>
      simp only [bx, if_true]
      refine Nat.xor_lt_two_pow h ?_
      by_cases z : r = 0
      · rw [z]; exact Nat.two_pow_pos k
      · rw [← blen_le]
        have b := blen_pos z
        refine Classical.byContradiction fun n => ?_
        rw [testBit_ge (n := w) (i := blen r - 1) (Nat.le_trans (blen_le.mpr h) (by omega))] at q
        cases q
/-! ### solving -/
def slv (ss : List Nat) (g : Nat) : Nat := clr (prd ss) (g <<< ss.length)
theorem slv_ok {ss : List Nat} {g : Nat} (h : Spn ss g) : slv ss g < 2 ^ ss.length ∧ img ss (slv ss g) = g := by
  have h' : Spn (ss.take ss.length) g := by rw [List.take_length]; exact h
  obtain ⟨x, hx, rfl⟩ := span_img (Nat.le_refl _) h'
  have R := spn_rws (prs ss)
  have e1 : img ss x <<< ss.length = ((img ss x <<< ss.length) ^^^ x) ^^^ x := (xor_cancel_right _ _).symm
  have e2 : slv ss (img ss x) = clr (prd ss) x := by
    have z : clr (prd ss) ((img ss x <<< ss.length) ^^^ x) = 0 := R.span.mp ((spn_span _ _).mpr (prs_bwd ss (Nat.le_refl _) hx))
    unfold slv
    rw [e1, clr_xor, z, Nat.zero_xor]
  have h2 : clr (prd ss) x < 2 ^ ss.length := clr_lt' hx
  rw [e2]
  refine ⟨h2, ?_⟩
  have h3 := (spn_span (prs ss) _).mp (spn_clr (prd ss) x)
  have h4 : Spn (ker ss) (x ^^^ clr (prd ss) x) := by
    unfold ker prd
    rw [R.low_span, spn_span]
    exact ⟨h3, Nat.xor_lt_two_pow hx h2⟩
  have h5 := ((ker_span ss _).mp h4).2
  rw [(lin_img ss).x] at h5
  exact (xor_eq_zero h5).symm
/-! ### writes -/
section
variable (ss ls : List Nat)
def wmn : Nat := min (spn ss).length (twn ss ls).length
def wgoal (i : Nat) (tw : Nat) : Nat := img ls tw ^^^ (if i < wmn ss ls then (spn ss).getD i 0 else 0)
def wtn (i : Nat) (tw : Nat) : Nat × Nat := (blen tw - 1, slv ss (wgoal ss ls i tw))
def wts : List (Nat × Nat) := (List.range (twn ss ls).length).map fun i => wtn ss ls i ((twn ss ls).getD i 0)
def wst : List Nat := ((spn ss).drop (wmn ss ls)).map (slv ss)
def wslot (n l : Nat) : Nat := (wts ss ls).foldl (fun s p => if l.testBit p.1 = true then s ^^^ p.2 else s) (img (wst ss ls) n)
def went (n l : Nat) : Nat := img ss (wslot ss ls n l) ^^^ img ls l
end
section
variable {ss ls : List Nat}
theorem wfold {ps : List (Nat × Nat)} {l s : Nat} : ps.foldl (fun s p => if l.testBit p.1 = true then s ^^^ p.2 else s) s = s ^^^ img (ps.map Prod.snd) (bitsOf (fun i => l.testBit (ps.getD i (0, 0)).1) ps.length) := by
  have : ∀ k, k ≤ ps.length → (ps.take k).foldl (fun s p => if l.testBit p.1 = true then s ^^^ p.2 else s) s = s ^^^ imf (ps.map Prod.snd) (bitsOf (fun i => l.testBit (ps.getD i (0, 0)).1) ps.length) k := by
    intro k
    induction k with
    | zero => intro _; show s = s ^^^ 0; rw [Nat.xor_zero]
    | succ k ih =>
      intro h
      have tk : ps.take (k + 1) = ps.take k ++ [ps.getD k (0, 0)] := by
        rw [List.take_succ, List.getD_eq_getElem?_getD, List.getElem?_eq_getElem (by omega)]; rfl
      have e : (ps.map Prod.snd).getD k 0 = (ps.getD k (0, 0)).2 := by
        simp only [List.getD_eq_getElem?_getD, List.getElem?_map, List.getElem?_eq_getElem (show k < ps.length by omega)]
        rfl
      rw [tk, List.foldl_append, ih (by omega), imf_succ, bitsOf_bit, decide_eq_true (show k < ps.length by omega), e]
      show (if _ then _ else _) = _
      simp only [Bool.true_and]
      split
      · rw [Nat.xor_assoc]
      · rfl
  have q := this ps.length (Nat.le_refl _)
  rw [List.take_length] at q
  rw [q]
  unfold img
  rw [List.length_map]
theorem twn_rws (ss ls : List Nat) : Rws (twn ss ls) := spn_rws _
theorem wgoal_in (i : Nat) {tw : Nat} (h : tw ∈ twn ss ls) : Spn ss (wgoal ss ls i tw) := by
  refine ((twn_span ss ls tw).mp (.of h)).2.xor ?_
  split
  · rename_i hi
    rw [← spn_span]
    exact .of (getD_mem (by unfold wmn at hi; omega))
  · exact .zero
theorem wts_len : (wts ss ls).length = (twn ss ls).length := by simp [wts]
theorem wts_get {i : Nat} (h : i < (twn ss ls).length) : (wts ss ls).getD i (0, 0) = wtn ss ls i ((twn ss ls).getD i 0) := by
  unfold wts
  rw [List.getD_eq_getElem?_getD, List.getElem?_map, List.getElem?_range h]
  rfl
theorem wslot_eq (n l : Nat) : wslot ss ls n l = img (wst ss ls) n ^^^ img ((wts ss ls).map Prod.snd) (cof (twn ss ls) l) := by
  unfold wslot
  rw [wfold]
  congr 1
  refine img_congr fun i hi => ?_
  rw [List.length_map, wts_len] at hi
  rw [bitsOf_bit, wts_len, decide_eq_true hi, wts_get hi, cof_bit hi]
  rfl
theorem wst_lt : ∀ x ∈ wst ss ls, x < 2 ^ ss.length := fun x hx => by
  obtain ⟨r, hr, rfl⟩ := List.mem_map.mp hx
  exact (slv_ok ((spn_span ss r).mp (.of (List.mem_of_mem_drop hr)))).1
theorem wts_lt : ∀ p ∈ wts ss ls, p.2 < 2 ^ ss.length := fun p hp => by
  obtain ⟨i, hi, rfl⟩ := List.mem_map.mp hp
  exact (slv_ok (wgoal_in i (getD_mem (List.mem_range.mp hi)))).1
theorem imf_lt {b : Nat} {cs : List Nat} (h : ∀ c ∈ cs, c < 2 ^ b) (x : Nat) : ∀ n, imf cs x n < 2 ^ b
  | 0 => Nat.two_pow_pos b
  | n + 1 => by
    rw [imf_succ]
    split
    · refine Nat.xor_lt_two_pow (imf_lt h x n) ?_
      rw [List.getD_eq_getElem?_getD]
      cases q : cs[n]? with
      | none => exact Nat.two_pow_pos b
      | some c => exact h c (List.mem_of_getElem? q)
    · exact imf_lt h x n
theorem wslot_lt (n l : Nat) : wslot ss ls n l < 2 ^ ss.length := by
  rw [wslot_eq]
  refine Nat.xor_lt_two_pow (imf_lt wst_lt _ _) (imf_lt (fun c hc => ?_) _ _)
  obtain ⟨p, hp, rfl⟩ := List.mem_map.mp hc
  exact wts_lt p hp
theorem img_self_map {ss cols : List Nat} (h : ∀ r ∈ cols, Spn ss r) (x : Nat) : img ss (img (cols.map (slv ss)) x) = img cols x := by
  rw [← img_map (lin_img ss), List.map_map]
  unfold img
  rw [List.length_map]
  refine imf_cols fun i hi => ?_
  simp only [List.getD_eq_getElem?_getD, List.getElem?_map, List.getElem?_eq_getElem hi]
  exact (slv_ok (h _ (List.getElem_mem hi))).2
theorem went_eq (n l : Nat) : went ss ls n l = img ((spn ss).drop (wmn ss ls)) n ^^^ img ((spn ss).take (wmn ss ls)) (cof (twn ss ls) l) ^^^ img ls (clr (twn ss ls) l) := by
  unfold went
  rw [wslot_eq, (lin_img ss).x]
  have e1 : img ss (img (wst ss ls) n) = img ((spn ss).drop (wmn ss ls)) n := img_self_map (fun r hr => (spn_span ss r).mp (.of (List.mem_of_mem_drop hr))) n
  have e2 : img ss (img ((wts ss ls).map Prod.snd) (cof (twn ss ls) l)) = img ls (img (twn ss ls) (cof (twn ss ls) l)) ^^^ img ((spn ss).take (wmn ss ls)) (cof (twn ss ls) l) := by
    have a : (wts ss ls).map Prod.snd = ((List.range (twn ss ls).length).map fun i => wgoal ss ls i ((twn ss ls).getD i 0)).map (slv ss) := by
      unfold wts
      rw [List.map_map, List.map_map]
      rfl
    rw [a, img_self_map (fun r hr => by
      obtain ⟨i, hi, rfl⟩ := List.mem_map.mp hr
      exact wgoal_in i (getD_mem (List.mem_range.mp hi))), ← img_map (lin_img ls)]
    unfold img
    rw [List.length_map, List.length_map, List.length_range, List.length_take]
    have pad : ∀ k c, wmn ss ls ≤ k → imf ((spn ss).take (wmn ss ls)) c (min (wmn ss ls) (spn ss).length) = imf ((spn ss).take (wmn ss ls)) c k := by
      intro k c hk
      have m : min (wmn ss ls) (spn ss).length = wmn ss ls := by unfold wmn; omega
      rw [m]
      induction k with
      | zero => rw [show wmn ss ls = 0 by omega]
      | succ k ih =>
        by_cases q : wmn ss ls = k + 1
        · rw [q]
        · rw [imf_succ, ← ih (by omega)]
          have z : ((spn ss).take (wmn ss ls)).getD k 0 = 0 := by
            rw [List.getD_eq_getElem?_getD, List.getElem?_eq_none (by rw [List.length_take]; omega)]; rfl
          rw [z, Nat.xor_zero, ite_self]
    rw [pad (twn ss ls).length _ (by unfold wmn; omega)]
    refine imf_add fun i hi => ?_
    have g1 : ((List.range (twn ss ls).length).map fun i => wgoal ss ls i ((twn ss ls).getD i 0)).getD i 0 = wgoal ss ls i ((twn ss ls).getD i 0) := by
      rw [List.getD_eq_getElem?_getD, List.getElem?_map, List.getElem?_range hi]; rfl
    have g2 : ((twn ss ls).map (img ls)).getD i 0 = img ls ((twn ss ls).getD i 0) := by
      simp only [List.getD_eq_getElem?_getD, List.getElem?_map, List.getElem?_eq_getElem hi]
      rfl
    have g3 : ((spn ss).take (wmn ss ls)).getD i 0 = if i < wmn ss ls then (spn ss).getD i 0 else 0 := by
      simp only [List.getD_eq_getElem?_getD, List.getElem?_take]
      split <;> rfl
    rw [g1]
    show _ = ((twn ss ls).map (img ls)).getD i 0 ^^^ _
    rw [g2, g3]
    rfl
  rw [e1, e2, img_cof (twn_rws ss ls), (lin_img ls).x]
  generalize img ((spn ss).drop (wmn ss ls)) n = A
  generalize img ((spn ss).take (wmn ss ls)) (cof (twn ss ls) l) = B
  generalize img ls (clr (twn ss ls) l) = C
  generalize img ls l = D
  have q : D ^^^ C ^^^ B ^^^ D = B ^^^ C := by
    rw [Nat.xor_comm (D ^^^ C ^^^ B) D, Nat.xor_assoc D C B, xor_cancel, Nat.xor_comm]
  rw [Nat.xor_assoc A, q, Nat.xor_assoc A]
theorem img_app {P Q : List Nat} {x y : Nat} (h : x < 2 ^ P.length) : img (P ++ Q) (x ^^^ (y <<< P.length)) = img P x ^^^ img Q y := by
  have h1 : ∀ k, k ≤ P.length → imf (P ++ Q) (x ^^^ (y <<< P.length)) k = imf P x k := by
    intro k hk
    rw [imf_cols (P := P ++ Q) (Q := P) (fun i hi => by simp only [List.getD_eq_getElem?_getD, List.getElem?_append_left (show i < P.length by omega)])]
    refine imf_congr fun i hi => ?_
    rw [Nat.testBit_xor, Nat.testBit_shiftLeft]
    have : ¬ (P.length ≤ i) := by omega
    simp [this]
  have h2 : ∀ k, imf (P ++ Q) (x ^^^ (y <<< P.length)) (P.length + k) = imf P x P.length ^^^ imf Q y k := by
    intro k
    induction k with
    | zero => rw [Nat.add_zero, h1 _ (Nat.le_refl _)]; show _ = _ ^^^ 0; rw [Nat.xor_zero]
    | succ k ih =>
      rw [← Nat.add_assoc, imf_succ, imf_succ, ih]
      have g : (P ++ Q).getD (P.length + k) 0 = Q.getD k 0 := by
        simp only [List.getD_eq_getElem?_getD, List.getElem?_append_right (Nat.le_add_right P.length k), Nat.add_sub_cancel_left]
      have t : (x ^^^ (y <<< P.length)).testBit (P.length + k) = y.testBit k := by
        rw [Nat.testBit_xor, Nat.testBit_shiftLeft, Nat.testBit_lt_two_pow (Nat.lt_of_lt_of_le h (Nat.pow_le_pow_right (by decide) (Nat.le_add_right _ _)))]
        simp
      rw [g, t]
      split
      · rw [Nat.xor_assoc]
      · rfl
  unfold img
  rw [List.length_append, h2]
theorem ind_inj {A : List Nat} (h : rk A = A.length) {x : Nat} (hx : x < 2 ^ A.length) (e : img A x = 0) : x = 0 := by
  have k := ker_len_eq A
  have z : ker A = [] := List.length_eq_zero_iff.mp (by omega)
  have s := (ker_span A x).mpr ⟨hx, e⟩
  rw [z] at s
  exact s.nil
theorem in_full {ws : List Nat} {b e : Nat} (h : ∀ w ∈ ws, w < 2 ^ b) (hb : b ≤ rk ws) (he : e < 2 ^ b) : Spn ws e := by
  refine Classical.byContradiction fun n => ?_
  have a := rk_snoc_out n
  have c := rk_le_bits (ws := ws ++ [e]) (b := b) fun w hw => by
    rcases List.mem_append.mp hw with hw | hw
    · exact h w hw
    · rcases List.mem_singleton.mp hw with rfl; exact he
  omega
theorem span_split {a b : List Nat} {e : Nat} (h : Spn (a ++ b) e) : ∃ s q, Spn a s ∧ Spn b q ∧ e = s ^^^ q := by
  induction h with
  | zero => exact ⟨0, 0, .zero, .zero, rfl⟩
  | @add y w hw _ ih =>
    obtain ⟨s, q, hs, hq, rfl⟩ := ih
    rcases List.mem_append.mp hw with hw | hw
    · exact ⟨s ^^^ w, q, .add hw hs, hq, by rw [Nat.xor_assoc, Nat.xor_assoc, Nat.xor_comm q w]⟩
    · exact ⟨s, q ^^^ w, hs, .add hw hq, by rw [Nat.xor_assoc]⟩
section
variable {b : Nat} (hs : ∀ x ∈ ss, x < 2 ^ b) (hl : ∀ x ∈ ls, x < 2 ^ b) (hb : b ≤ rk (ss ++ ls))
include hs hl hb
theorem wcount : (spn ss).length - wmn ss ls = b - ls.length := by
  have a := twn_size ss ls
  have f : rk (ss ++ ls) = b := Nat.le_antisymm (rk_le_bits fun x hx => (List.mem_append.mp hx).elim (hs x) (hl x)) hb
  have e2 : (spn ss).length = rk ss := rfl
  unfold wmn
  omega
theorem went_surj {e : Nat} (he : e < 2 ^ b) : ∃ n l, n < 2 ^ (b - ls.length) ∧ l < 2 ^ ls.length ∧ went ss ls n l = e := by
  have wc := wcount hs hl hb
  have R := twn_rws ss ls
  have A := spn_rws ss
  obtain ⟨s, q, h1, h2, rfl⟩ := span_split (in_full (fun w hw => (List.mem_append.mp hw).elim (hs w) (hl w)) hb he)
  have h2' : Spn (ls.take ls.length) q := by rw [List.take_length]; exact h2
  obtain ⟨l0, hl0, rfl⟩ := span_img (Nat.le_refl _) h2'
  have tb : ∀ r ∈ twn ss ls, r < 2 ^ ls.length := fun r hr => ((twn_span ss ls r).mp (.of hr)).1
  have hc : clr (twn ss ls) l0 < 2 ^ ls.length := clr_lt tb hl0
  -- what is left lies in the slot space
  have h3 : Spn ss (s ^^^ img ls l0 ^^^ img ls (clr (twn ss ls) l0)) := by
    rw [Nat.xor_assoc, ← (lin_img ls).x]
    exact h1.xor ((twn_span ss ls _).mp (spn_clr _ l0)).2
  have h4 : Spn ((spn ss).take (spn ss).length) (s ^^^ img ls l0 ^^^ img ls (clr (twn ss ls) l0)) := by rw [List.take_length, spn_span]; exact h3
  obtain ⟨x, hx, ex⟩ := span_img (Nat.le_refl _) h4
  have m1 : wmn ss ls ≤ (spn ss).length := by unfold wmn; omega
  have m2 : wmn ss ls ≤ (twn ss ls).length := by unfold wmn; omega
  have tl : ((spn ss).take (wmn ss ls)).length = wmn ss ls := by rw [List.length_take]; omega
  have cl : x % 2 ^ wmn ss ls < 2 ^ wmn ss ls := Nat.mod_lt _ (Nat.two_pow_pos _)
  have cl2 : x % 2 ^ wmn ss ls < 2 ^ (twn ss ls).length := Nat.lt_of_lt_of_le cl (Nat.pow_le_pow_right (by decide) m2)
  refine ⟨x >>> wmn ss ls, clr (twn ss ls) l0 ^^^ img (twn ss ls) (x % 2 ^ wmn ss ls), ?_, Nat.xor_lt_two_pow hc (imf_lt tb _ _), ?_⟩
  · rw [Nat.shiftRight_eq_div_pow, ← wc]
    rw [Nat.div_lt_iff_lt_mul (Nat.two_pow_pos _), ← Nat.pow_add, show (spn ss).length - wmn ss ls + wmn ss ls = (spn ss).length by omega]
    exact hx
  · rw [went_eq, cof_xor, cof_clr R, Nat.zero_xor, cof_img R cl2, clr_xor, clr_idem R, clr_img R, Nat.xor_zero]
    have q := img_app (P := (spn ss).take (wmn ss ls)) (Q := (spn ss).drop (wmn ss ls)) (x := x % 2 ^ wmn ss ls) (y := x >>> wmn ss ls) (by rw [tl]; exact cl)
    rw [List.take_append_drop, tl, Nat.xor_comm (x % _), ← add_eq_xor cl, Nat.shiftRight_eq_div_pow, Nat.shiftLeft_eq, Nat.mul_comm, Nat.div_add_mod, ex] at q
    rw [Nat.shiftRight_eq_div_pow, Nat.xor_comm (img _ _) (img _ _), ← q, xor_cancel_right]
theorem went_zero (ht : ls.length ≤ b) {n l : Nat} (hn : n < 2 ^ (b - ls.length)) (hl2 : l < 2 ^ ls.length) (h : went ss ls n l = 0) : n = 0 ∧ l = 0 := by
  have wc := wcount hs hl hb
  have R := twn_rws ss ls
  have A := spn_rws ss
  have a := twn_size ss ls
  have f : rk (ss ++ ls) = b := Nat.le_antisymm (rk_le_bits fun x hx => (List.mem_append.mp hx).elim (hs x) (hl x)) hb
  have e2 : (spn ss).length = rk ss := rfl
  have m : wmn ss ls = (twn ss ls).length := by unfold wmn; omega
  have m1 : wmn ss ls ≤ (spn ss).length := by unfold wmn; omega
  have tl : ((spn ss).take (wmn ss ls)).length = wmn ss ls := by rw [List.length_take]; omega
  have tb : ∀ r ∈ twn ss ls, r < 2 ^ ls.length := fun r hr => ((twn_span ss ls r).mp (.of hr)).1
  have cl : cof (twn ss ls) l < 2 ^ ((spn ss).take (wmn ss ls)).length := by rw [tl, m]; exact cof_lt _ _
  rw [went_eq] at h
  have q := img_app (Q := (spn ss).drop (wmn ss ls)) (y := n) cl
  rw [List.take_append_drop, tl] at q
  rw [Nat.xor_comm (img ((spn ss).drop _) _), ← q] at h
  have h' := xor_eq_zero h
  have sA : ∀ x k, k ≤ (spn ss).length → Spn ss (imf (spn ss) x k) := by
    intro x k
    induction k with
    | zero => intro _; exact .zero
    | succ k ih =>
      intro hk
      rw [imf_succ]
      split
      · exact (ih (by omega)).xor ((spn_span ss _).mp (.of (getD_mem hk)))
      · exact ih (by omega)
  have hz : clr (twn ss ls) l = 0 := by
    have s1 : Spn (twn ss ls) (clr (twn ss ls) l) := (twn_span ss ls _).mpr ⟨clr_lt tb hl2, by rw [← h']; exact sA _ _ (Nat.le_refl _)⟩
    have s2 := R.span.mp s1
    rwa [clr_idem R] at s2
  rw [hz, (lin_img ls).z] at h'
  have big : cof (twn ss ls) l ^^^ (n <<< wmn ss ls) < 2 ^ (spn ss).length := by
    refine Nat.xor_lt_two_pow (Nat.lt_of_lt_of_le cl (Nat.pow_le_pow_right (by decide) (by rw [tl]; exact m1))) ?_
    rw [Nat.shiftLeft_eq, show (spn ss).length = (b - ls.length) + wmn ss ls by omega, Nat.pow_add]
    exact Nat.mul_lt_mul_of_pos_right hn (Nat.two_pow_pos _)
  have z := ind_inj (spn_id A) big h'
  have n0 : n = 0 := by
    have := congrArg (fun x => x >>> wmn ss ls) z
    simp only [Nat.shiftRight_xor_distrib, Nat.shiftLeft_shiftRight, Nat.zero_shiftRight] at this
    rw [Nat.shiftRight_eq_div_pow, Nat.div_eq_of_lt (by rw [tl] at cl; exact cl), Nat.zero_xor] at this
    exact this
  rw [n0, Nat.zero_shiftLeft, Nat.xor_zero] at z
  have il := img_cof R l
  rw [z, (lin_img _).z, hz, Nat.xor_zero] at il
  exact ⟨n0, il.symm⟩
theorem went_inj (ht : ls.length ≤ b) {n l n' l' : Nat} (hn : n < 2 ^ (b - ls.length)) (hl2 : l < 2 ^ ls.length) (hn' : n' < 2 ^ (b - ls.length)) (hl2' : l' < 2 ^ ls.length) (h : went ss ls n l = went ss ls n' l') : n = n' ∧ l = l' := by
  have e : went ss ls (n ^^^ n') (l ^^^ l') = 0 := by
    have : went ss ls (n ^^^ n') (l ^^^ l') = went ss ls n l ^^^ went ss ls n' l' := by
      rw [went_eq, went_eq, went_eq, cof_xor, clr_xor, (lin_img _).x, (lin_img _).x, (lin_img _).x]
      rw [xor4 (img _ n), xor4 (_ ^^^ _) (_ ^^^ _)]
    rw [this, h, Nat.xor_self]
  obtain ⟨a, c⟩ := went_zero hs hl hb ht (Nat.xor_lt_two_pow hn hn') (Nat.xor_lt_two_pow hl2 hl2') e
  exact ⟨xor_eq_zero a, xor_eq_zero c⟩
end
end
end LaneX
set_option linter.all false
namespace LaneX
/-! ### the sums that lanes hold, step by step (k36) -/
theorem span_snoc {A : List Nat} {w x : Nat} : Spn (A ++ [w]) x ↔ Spn A x ∨ Spn A (x ^^^ w) := by
  constructor
  · intro h
    obtain ⟨s, q, h1, h2, rfl⟩ := span_split h
    have : q = 0 ∨ q = w := by
      clear h
      induction h2 with
      | zero => exact .inl rfl
      | add hw _ ih =>
        rcases List.mem_singleton.mp hw with rfl
        rcases ih with rfl | rfl
        · rw [Nat.zero_xor]; exact .inr rfl
        · rw [Nat.xor_self]; exact .inl rfl
    rcases this with rfl | rfl
    · rw [Nat.xor_zero]; exact .inl h1
    · rw [xor_cancel_right]; exact .inr h1
  · rintro (h | h)
    · exact h.sub fun z hz => List.mem_append_left _ hz
    · have a : Spn (A ++ [w]) (x ^^^ w) := h.sub fun z hz => List.mem_append_left _ hz
      have b : Spn (A ++ [w]) w := .of (List.mem_append_right _ (List.mem_singleton_self _))
      have := a.xor b
      rwa [xor_cancel_right] at this
/-- an entry that a lane knows of behind the steps P -/
def Ent (ss ls P : List Nat) (L e : Nat) : Prop := Spn (ss ++ P.map (img ls)) (e ^^^ img ls L)
theorem ent_nil {ss ls : List Nat} {L e : Nat} : Ent ss ls [] L e ↔ ∃ s, s < 2 ^ ss.length ∧ img ls L ^^^ img ss s = e := by
  unfold Ent
  rw [List.map_nil, List.append_nil]
  constructor
  · intro h
    obtain ⟨x, hx, e1⟩ := span_img (cols := ss) (Nat.le_refl _) (by rwa [List.take_length])
    refine ⟨x, hx, ?_⟩
    rw [e1, Nat.xor_comm e, xor_cancel]
  · rintro ⟨s, hs, rfl⟩
    rw [Nat.xor_comm, xor_cancel]
    have := img_span (cols := ss) (Nat.le_refl _) hs
    rwa [List.take_length] at this
theorem ent_snoc {ss ls P : List Nat} {p L e : Nat} : Ent ss ls (P ++ [p]) L e ↔ Ent ss ls P L e ∨ Ent ss ls P (L ^^^ p) e := by
  unfold Ent
  rw [List.map_append, List.map_singleton, ← List.append_assoc, span_snoc, (lin_img ls).x, Nat.xor_assoc]
theorem ent_apart {ss ls P : List Nat} {p L e : Nat} (hp : ¬ Spn (ss ++ P.map (img ls)) (img ls p)) (h1 : Ent ss ls P L e) (h2 : Ent ss ls P (L ^^^ p) e) : False := by
  refine hp ?_
  have := Spn.xor h1 h2
  rw [(lin_img ls).x] at this
  have e1 : e ^^^ img ls L ^^^ (e ^^^ (img ls L ^^^ img ls p)) = img ls p := by
    rw [← Nat.xor_assoc e, xor_cancel]
  rwa [e1] at this
theorem ent_lt {b : Nat} {ss ls P : List Nat} (hs : ∀ x ∈ ss, x < 2 ^ b) (hl : ∀ x ∈ ls, x < 2 ^ b) {L e : Nat} (h : Ent ss ls P L e) : e < 2 ^ b := by
  have a : e ^^^ img ls L < 2 ^ b := Spn.lt h fun w hw => by
    rcases List.mem_append.mp hw with hw | hw
    · exact hs w hw
    · obtain ⟨p, _, rfl⟩ := List.mem_map.mp hw
      exact imf_lt hl _ _
  have b1 : img ls L < 2 ^ b := imf_lt hl _ _
  have := Nat.xor_lt_two_pow a b1
  rwa [xor_cancel_right] at this
/-- steps that are independent beside the slots -/
def Fre (ss ls P : List Nat) : Prop := rk (ss ++ P.map (img ls)) = rk ss + P.length
theorem Fre.perm {ss ls P Q : List Nat} (h : Fre ss ls P) (p : Q.Perm P) : Fre ss ls Q := by
  unfold Fre at *
  rw [p.length_eq, ← h]
  exact rk_perm ((p.map _).append_left ss)
theorem Fre.head {ss ls P Q : List Nat} (h : Fre ss ls (P ++ Q)) : Fre ss ls P := by
  unfold Fre at *
  rw [List.map_append, ← List.append_assoc, List.length_append] at h
  have a := rk_app_len (ss ++ P.map (img ls)) (Q.map (img ls))
  have b := rk_app_len ss (P.map (img ls))
  rw [List.length_map] at a b
  omega
theorem Fre.out {ss ls P : List Nat} {p : Nat} (h : Fre ss ls (P ++ [p])) : ¬ Spn (ss ++ P.map (img ls)) (img ls p) := by
  intro z
  have a := h.head
  unfold Fre at *
  rw [List.map_append, List.map_singleton, ← List.append_assoc, rk_snoc_in z, List.length_append] at h
  simp only [List.length_singleton] at h
  omega
theorem ldr_free (ss ls ws : List Nat) : Fre ss ls (ldr ss ls (spn ws)) := by
  have a := (red_lft ss).rk ((ldr ss ls (spn ws)).map (img ls))
  rw [List.map_map] at a
  have b := ldr_rk ss ls ws
  unfold Fre
  have e : (fun x => lft (bas ss) (img ls x)) = lft (bas ss) ∘ img ls := rfl
  rw [e] at b
  omega
theorem ldr_spans {b : Nat} {ss ls ws : List Nat} (hs : ∀ x ∈ ss, x < 2 ^ b) (hl : ∀ x ∈ ls, x < 2 ^ b) (hw : ∀ x ∈ ws, x < 2 ^ b) (hb : b ≤ rk (ss ++ ls)) {w : Nat} (h : Spn ws w) : Spn (ss ++ (ldr ss ls (spn ws)).map (img ls)) w := by
  have wl : w < 2 ^ b := h.lt hw
  obtain ⟨s, q, h1, h2, rfl⟩ := span_split (in_full (ws := ss ++ ls) (fun w hw => (List.mem_append.mp hw).elim (hs w) (hl w)) hb wl)
  obtain ⟨x, hx, rfl⟩ := span_img (cols := ls) (Nat.le_refl _) (by rwa [List.take_length])
  have px : Spn (ss ++ ws) (img ls x) := by
    have a : Spn (ss ++ ws) (s ^^^ img ls x) := h.sub fun z hz => List.mem_append_right _ hz
    have c : Spn (ss ++ ws) s := h1.sub fun z hz => List.mem_append_left _ hz
    have := c.xor a
    rwa [xor_cancel] at this
  have pp : Spn (prt ss ls (spn ws)) x := (prt_span ss ls ws x).mpr ⟨hx, px⟩
  have R : Rws (twn ss ls) := spn_rws _
  have cs := cms_span R (prt ss ls (spn ws))
  have q2 : Spn (twn ss ls ++ ldr ss ls (spn ws)) x := (cs.2 x).mp ((cs.1 x).mpr (pp.sub fun z hz => List.mem_append_right _ hz))
  obtain ⟨t, y, ht, hy, rfl⟩ := span_split q2
  have i1 : Spn ss (img ls t) := ((twn_span ss ls t).mp ht).2
  have i2 : Spn ((ldr ss ls (spn ws)).map (img ls)) (img ls y) := (lin_img ls).spn hy
  rw [(lin_img ls).x, ← Nat.xor_assoc]
  exact ((h1.xor i1).sub fun z hz => List.mem_append_left _ hz).xor (i2.sub fun z hz => List.mem_append_right _ hz)
theorem coset_span {ws : List Nat} {x y : Nat} : lft (bas ws) x = lft (bas ws) y ↔ Spn ws (x ^^^ y) := by
  rw [← lft_bas, lft_xor]
  exact ⟨fun h => by rw [h, Nat.xor_self], fun h => xor_eq_zero h⟩
/-- behind all steps a lane knows of all entries of the cosets of which it holds one -/
theorem ent_all {b : Nat} {ss ls ws P : List Nat} (hs : ∀ x ∈ ss, x < 2 ^ b) (hl : ∀ x ∈ ls, x < 2 ^ b) (hw : ∀ x ∈ ws, x < 2 ^ b) (hb : b ≤ rk (ss ++ ls)) (hP : P.Perm (ldr ss ls (spn ws))) {L e0 e : Nat} (h0 : Ent ss ls [] L e0)
    (he : lft (bas ws) e = lft (bas ws) e0) : Ent ss ls P L e := by
  have a := ldr_spans hs hl hw hb (coset_span.mp he)
  have c : Spn (ss ++ P.map (img ls)) (e ^^^ e0) := a.sub fun z hz => by
    rcases List.mem_append.mp hz with hz | hz
    · exact List.mem_append_left _ hz
    · exact List.mem_append_right _ ((hP.map (img ls)).mem_iff.mpr hz)
  unfold Ent at *
  rw [List.map_nil, List.append_nil] at h0
  have d := c.xor (h0.sub (vs := ss ++ P.map (img ls)) fun z hz => List.mem_append_left _ hz)
  have e1 : e ^^^ e0 ^^^ (e0 ^^^ img ls L) = e ^^^ img ls L := by rw [Nat.xor_assoc, xor_cancel]
  rwa [e1] at d
/-- with one of the steps left out it lacks one of them -/
theorem ent_less {b : Nat} {ss ls ws P : List Nat} {p : Nat} (hs : ∀ x ∈ ss, x < 2 ^ b) (hl : ∀ x ∈ ls, x < 2 ^ b) (hw : ∀ x ∈ ws, x < 2 ^ b) (hP : ldr ss ls (spn ws) = p :: P) {L e0 : Nat} (h0 : Ent ss ls [] L e0) :
    ∃ e, e < 2 ^ b ∧ lft (bas ws) e = lft (bas ws) e0 ∧ ¬ Ent ss ls P L e := by
  have F : Fre ss ls (P ++ [p]) := (ldr_free ss ls ws).perm (by rw [hP]; exact List.perm_append_comm)
  have hp : p ∈ ldr ss ls (spn ws) := by rw [hP]; exact List.mem_cons_self
  have m := lft_bas.mp (ldr_mem hp).2
  obtain ⟨s, w, h1, h2, e1⟩ := span_split m
  refine ⟨e0 ^^^ w, Nat.xor_lt_two_pow (ent_lt hs hl h0) (h2.lt hw), coset_span.mpr ?_, fun z => F.out ?_⟩
  · rw [Nat.xor_comm e0, xor_cancel_right]; exact h2
  · unfold Ent at *
    rw [List.map_nil, List.append_nil] at h0
    have d := (z.xor (h0.sub (vs := ss ++ P.map (img ls)) fun z hz => List.mem_append_left _ hz)).xor (h1.sub (vs := ss ++ P.map (img ls)) fun z hz => List.mem_append_left _ hz)
    have e2 : e0 ^^^ w ^^^ img ls L ^^^ (e0 ^^^ img ls L) ^^^ s = img ls p := by
      rw [e1, Nat.xor_assoc e0 w, xor4, Nat.xor_self, Nat.zero_xor, xor_cancel_right, Nat.xor_comm]
    rwa [e2] at d
/-! ### masks -/
/-- the word with ones where p, below n -/
def mask (p : Nat → Bool) (n : Nat) : Nat := (((List.range n).filter p).map fun i => 1 <<< i).sum
theorem mask_bits (p : Nat → Bool) : ∀ n, mask p n = bitsOf p n
  | 0 => rfl
  | n + 1 => by
    have ih := mask_bits p n
    unfold mask at *
    rw [List.range_succ, List.filter_append, List.map_append, List.sum_append, ih]
    apply Nat.eq_of_testBit_eq
    intro i
    rw [bitsOf_bit]
    have lt := bitsOf_lt p n
    by_cases h : p n = true
    · have e : ((List.filter p [n]).map fun i => 1 <<< i).sum = 2 ^ n := by simp [h, Nat.one_shiftLeft]
      rw [e, Nat.add_comm]
      by_cases hi : i = n
      · subst hi
        rw [Nat.testBit_two_pow_add_eq, bitsOf_bit]
        simp [h]
      · rcases Nat.lt_or_gt_of_ne hi with hi | hi
        · rw [Nat.testBit_two_pow_add_gt hi, bitsOf_bit]
          have : i < n + 1 := by omega
          simp [hi, this]
        · rw [Nat.testBit_lt_two_pow]
          · simp; omega
          · have : 2 ^ (n + 1) ≤ 2 ^ i := Nat.pow_le_pow_right (by decide) hi
            rw [Nat.pow_succ] at this
            omega
    · have e : ((List.filter p [n]).map fun i => 1 <<< i).sum = 0 := by simp [h]
      rw [e, Nat.add_zero, bitsOf_bit]
      by_cases hi : i = n
      · subst hi; simp [h]
      · have : (i < n) ↔ (i < n + 1) := by omega
        simp [this]
theorem mask_bit (p : Nat → Bool) (n i : Nat) : (mask p n).testBit i = (decide (i < n) && p i) := by rw [mask_bits, bitsOf_bit]
theorem mask_lt (p : Nat → Bool) (n : Nat) : mask p n < 2 ^ n := by rw [mask_bits]; exact bitsOf_lt _ _
/-- m is the word of the entries of E whose coset is c -/
def Msk (rows : List Nat) (E : Nat → Prop) (c m : Nat) : Prop := ∀ e, m.testBit e = true ↔ E e ∧ lft rows e = c
theorem Msk.or {rows : List Nat} {E F : Nat → Prop} {c m n : Nat} (h : Msk rows E c m) (g : Msk rows F c n) : Msk rows (fun e => E e ∨ F e) c (m ||| n) := fun e => by
  rw [Nat.testBit_or, Bool.or_eq_true, h e, g e]
  constructor
  · rintro (⟨a, b⟩ | ⟨a, b⟩)
    · exact ⟨.inl a, b⟩
    · exact ⟨.inr a, b⟩
  · rintro ⟨a | a, b⟩
    · exact .inl ⟨a, b⟩
    · exact .inr ⟨a, b⟩
theorem Msk.and {rows : List Nat} {E F : Nat → Prop} {c m n : Nat} (h : Msk rows E c m) (g : Msk rows F c n) (d : ∀ e, E e → F e → False) : m &&& n = 0 := by
  apply Nat.eq_of_testBit_eq
  intro e
  rw [Nat.zero_testBit, Nat.testBit_and]
  cases h1 : m.testBit e with
  | false => rfl
  | true =>
    cases h2 : n.testBit e with
    | false => rfl
    | true => exact (d e ((h e).mp h1).1 ((g e).mp h2).1).elim
theorem Msk.zero {rows : List Nat} {E : Nat → Prop} {c : Nat} (h : ∀ e, E e → lft rows e ≠ c) : Msk rows E c 0 := fun e => by
  rw [Nat.zero_testBit]
  exact ⟨fun z => (by cases z), fun z => (h e z.1 z.2).elim⟩
theorem Msk.congr {rows : List Nat} {E F : Nat → Prop} {c m : Nat} (h : Msk rows E c m) (g : ∀ e, E e ↔ F e) : Msk rows F c m := fun e => by rw [h e, g e]
theorem Msk.unit {rows : List Nat} (e : Nat) : Msk rows (fun x => x = e) (lft rows e) (1 <<< e) := fun x => by
  rw [unit_bit, decide_eq_true_iff]
  exact ⟨fun h => by subst h; exact ⟨rfl, rfl⟩, fun h => h.1.symm⟩
theorem Msk.whole {rows : List Nat} {E : Nat → Prop} {c m n : Nat} (h : Msk rows E c m) (lt : ∀ e, E e → e < n) (all : ∀ e, e < n → lft rows e = c → E e) : m = mask (fun e => decide (lft rows e = c)) n := by
  apply Nat.eq_of_testBit_eq
  intro e
  rw [mask_bit, Bool.eq_iff_iff, h e, Bool.and_eq_true, decide_eq_true_iff, decide_eq_true_iff]
  exact ⟨fun z => ⟨lt e z.1, z.2⟩, fun z => ⟨all e z.1 z.2, z.2⟩⟩
theorem Msk.less {rows : List Nat} {E : Nat → Prop} {c m n : Nat} (h : Msk rows E c m) (ex : ∃ e, e < n ∧ lft rows e = c ∧ ¬ E e) : m ≠ mask (fun e => decide (lft rows e = c)) n := by
  obtain ⟨e, h1, h2, h3⟩ := ex
  rintro rfl
  have := (h e).mp (by rw [mask_bit]; simp [h1, h2])
  exact h3 this.1
end LaneX
set_option linter.all false
namespace LaneX
/-! ### drawn words that can be undone (k17 and the laws behind it) -/
theorem rk_of_inj {A : List Nat} (h : ∀ x, x < 2 ^ A.length → img A x = 0 → x = 0) : rk A = A.length := by
  have k := ker_len_eq A
  have z : ker A = [] := by
    cases e : ker A with
    | nil => rfl
    | cons r l =>
      have m : r ∈ ker A := by rw [e]; exact List.mem_cons_self
      have s := (ker_span A r).mp (.of m)
      exact absurd (h r s.1 s.2) ((ker_rws A).nz r m)
  rw [z] at k
  simpa using k
theorem imf_none {A : List Nat} {x : Nat} : ∀ n, (∀ i, i < n → x.testBit i = false) → imf A x n = 0
  | 0, _ => rfl
  | n + 1, h => by
    rw [imf_succ, h n (Nat.lt_succ_self n), if_neg (by decide)]
    exact imf_none n fun i hi => h i (Nat.lt_succ_of_lt hi)
/-- bit t stays where the columns behind n are 0 at it, or are not taken -/
theorem imf_stay {A : List Nat} {x t m : Nat} : ∀ k, (∀ i, m ≤ i → i < m + k → x.testBit i = true → (A.getD i 0).testBit t = false) → (imf A x (m + k)).testBit t = (imf A x m).testBit t
  | 0, _ => rfl
  | k + 1, h => by
    have ih := imf_stay k fun i h1 h2 h3 => h i h1 (by omega) h3
    show (imf A x (m + k + 1)).testBit t = _
    rw [imf_succ]
    by_cases e : x.testBit (m + k) = true
    · rw [if_pos e, Nat.testBit_xor, h (m + k) (by omega) (by omega) e, ih]; simp
    · rw [if_neg e, ih]
theorem low_below {n i : Nat} (h : n ≠ 0) (hi : i < low n) : n.testBit i = false := by
  induction n using Nat.strongRecOn generalizing i with
  | ind n ih =>
    unfold low at hi
    rw [dif_neg h] at hi
    split at hi
    · omega
    · rename_i h2
      cases i with
      | zero => rw [Nat.testBit_zero]; simp; omega
      | succ i =>
        rw [Nat.testBit_succ]
        exact ih (n / 2) (by omega) (by omega) (by omega)
/-- the columns' lowest bits are 0, 1, 2 .. -/
theorem rk_highs {A : List Nat} (h1 : ∀ i, i < A.length → (A.getD i 0).testBit i = true) (h2 : ∀ i j, i < A.length → j < i → (A.getD i 0).testBit j = false) : rk A = A.length := by
  refine rk_of_inj fun x hx e => Classical.byContradiction fun nz => ?_
  have lb := low_bit nz
  have ll : low x < A.length := by
    refine Nat.lt_of_not_le fun q => ?_
    have := Nat.testBit_lt_two_pow (Nat.lt_of_lt_of_le hx (Nat.pow_le_pow_right (by decide) q))
    rw [this] at lb; cases lb
  have a : imf A x (low x + 1) = A.getD (low x) 0 := by
    rw [imf_succ, if_pos lb, imf_none _ fun i hi => low_below nz hi, Nat.zero_xor]
  have c := imf_stay (A := A) (x := x) (t := low x) (m := low x + 1) (A.length - (low x + 1)) fun i h3 h4 _ => h2 i _ (by omega) (by omega)
  rw [show low x + 1 + (A.length - (low x + 1)) = A.length by omega, a, h1 _ ll] at c
  have d : (img A x).testBit (low x) = true := c
  rw [e] at d
  simp at d
/-- the columns' highest bits are 0, 1, 2 .. -/
theorem rk_lows {A : List Nat} (h1 : ∀ i, i < A.length → (A.getD i 0).testBit i = true) (h2 : ∀ i j, i < A.length → i < j → (A.getD i 0).testBit j = false) : rk A = A.length := by
  refine rk_of_inj fun x hx e => Classical.byContradiction fun nz => ?_
  have tb := testBit_top nz
  have tl : blen x - 1 < A.length := by
    have := blen_le.mpr hx
    have := blen_pos nz
    omega
  have a : (imf A x (blen x - 1)).testBit (blen x - 1) = false := by
    have c := imf_stay (A := A) (x := x) (t := blen x - 1) (m := 0) (blen x - 1) fun i _ h4 _ => h2 i _ (by omega) (by omega)
    rw [Nat.zero_add] at c
    rw [c]; exact Nat.zero_testBit _
  have a2 : (imf A x (blen x - 1 + 1)).testBit (blen x - 1) = true := by
    rw [imf_succ, if_pos tb, Nat.testBit_xor, a, h1 _ tl]; rfl
  have c := imf_stay (A := A) (x := x) (t := blen x - 1) (m := blen x - 1 + 1) (A.length - (blen x - 1 + 1)) fun i h3 h4 h5 => by
    rw [testBit_ge (by omega)] at h5; cases h5
  rw [show blen x - 1 + 1 + (A.length - (blen x - 1 + 1)) = A.length by omega, a2] at c
  have d : (img A x).testBit (blen x - 1) = true := c
  rw [e] at d
  simp at d
/-- M: as many words as bits, that can be undone -/
structure Mix (b : Nat) (M : List Nat) : Prop where
  len : M.length = b
  lt : ∀ x ∈ M, x < 2 ^ b
  rk : rk M = b
theorem Mix.perm {b : Nat} {M N : List Nat} (h : Mix b M) (p : N.Perm M) : Mix b N := ⟨p.length_eq.trans h.len, fun x hx => h.lt x (p.mem_iff.mp hx), (rk_perm p).trans h.rk⟩
theorem mix_units (b : Nat) : Mix b (units b) := ⟨by simp [units], fun x hx => by
  obtain ⟨i, hi, rfl⟩ := List.mem_map.mp hx
  rw [Nat.one_shiftLeft]
  exact Nat.pow_lt_pow_right (by decide) (List.mem_range.mp hi), units_rk b⟩
theorem mix_comp {b : Nat} {A B : List Nat} (hA : Mix b A) (hB : Mix b B) : Mix b (B.map (img A)) := by
  have l : (B.map (img A)).length = b := by rw [List.length_map, hB.len]
  refine ⟨l, fun x hx => ?_, ?_⟩
  · obtain ⟨y, _, rfl⟩ := List.mem_map.mp hx
    exact imf_lt hA.lt _ _
  · rw [rk_of_inj fun x hx e => ?_, l]
    rw [img_map (lin_img A)] at e
    rw [l] at hx
    have lt : img B x < 2 ^ A.length := by rw [hA.len]; exact imf_lt hB.lt _ _
    have z := ind_inj (by rw [hA.rk, hA.len]) lt e
    exact ind_inj (by rw [hB.rk, hB.len]) (by rw [hB.len]; exact hx) z
def hiw (w i : Nat) : Nat := 1 <<< i ||| (w >>> (i + 1)) <<< (i + 1)
def low' (w i : Nat) : Nat := 1 <<< i ||| (w &&& (1 <<< i - 1))
theorem hiw_bit (w i j : Nat) : (hiw w i).testBit j = (decide (i = j) || (decide (i + 1 ≤ j) && w.testBit j)) := by
  unfold hiw
  rw [Nat.testBit_or, unit_bit, Nat.testBit_shiftLeft]
  by_cases h : i + 1 ≤ j
  · rw [Nat.testBit_shiftRight, show i + 1 + (j - (i + 1)) = j by omega]
  · have : decide (j ≥ i + 1) = false := by simp; omega
    rw [this]; simp
theorem low'_bit (w i j : Nat) : (low' w i).testBit j = (decide (i = j) || (decide (j < i) && w.testBit j)) := by
  unfold low'
  rw [Nat.testBit_or, unit_bit, Nat.testBit_and, Nat.one_shiftLeft, Nat.testBit_two_pow_sub_one, Bool.and_comm (w.testBit j)]
theorem lt_of_bits {x b : Nat} (h : ∀ j, b ≤ j → x.testBit j = false) : x < 2 ^ b := Nat.lt_of_not_le fun q => by
  have nz : x ≠ 0 := fun z => by rw [z] at q; have := Nat.two_pow_pos b; omega
  have : b < blen x := Nat.lt_of_not_le fun z => by have := blen_le.mp z; omega
  have t := testBit_top nz
  rw [h _ (by omega)] at t; cases t
theorem hiw_lt {w i b : Nat} (hw : w < 2 ^ b) (hi : i < b) : hiw w i < 2 ^ b := lt_of_bits fun j hj => by
  rw [hiw_bit, Nat.testBit_lt_two_pow (Nat.lt_of_lt_of_le hw (Nat.pow_le_pow_right (by decide) hj))]
  have : decide (i = j) = false := by simp; omega
  rw [this]; simp
theorem low'_lt {w i b : Nat} (hi : i < b) : low' w i < 2 ^ b := lt_of_bits fun j hj => by
  rw [low'_bit]
  have : decide (i = j) = false := by simp; omega
  have : decide (j < i) = false := by simp; omega
  simp [*]
theorem map_range_getD (f : Nat → Nat) {b i : Nat} (h : i < b) : ((List.range b).map f).getD i 0 = f i := by
  rw [List.getD_eq_getElem?_getD, List.getElem?_map, List.getElem?_range h]; rfl
theorem mix_highs {b : Nat} {w : Nat → Nat} (hw : ∀ i, i < b → w i < 2 ^ b) : Mix b ((List.range b).map fun i => hiw (w i) i) := by
  have l : ((List.range b).map fun i => hiw (w i) i).length = b := by simp
  refine ⟨l, fun x hx => ?_, ?_⟩
  · obtain ⟨i, hi, rfl⟩ := List.mem_map.mp hx
    exact hiw_lt (hw i (List.mem_range.mp hi)) (List.mem_range.mp hi)
  · rw [rk_highs (fun i hi => ?_) (fun i j hi hj => ?_), l]
    · rw [l] at hi
      rw [map_range_getD _ hi, hiw_bit]; simp
    · rw [l] at hi
      rw [map_range_getD _ hi, hiw_bit]
      have : decide (i = j) = false := by simp; omega
      have : decide (i + 1 ≤ j) = false := by simp; omega
      simp [*]
theorem mix_lows {b : Nat} (w : Nat → Nat) : Mix b ((List.range b).map fun i => low' (w i) i) := by
  have l : ((List.range b).map fun i => low' (w i) i).length = b := by simp
  refine ⟨l, fun x hx => ?_, ?_⟩
  · obtain ⟨i, hi, rfl⟩ := List.mem_map.mp hx
    exact low'_lt (List.mem_range.mp hi)
  · rw [rk_lows (fun i hi => ?_) (fun i j hi hj => ?_), l]
    · rw [l] at hi
      rw [map_range_getD _ hi, low'_bit]; simp
    · rw [l] at hi
      rw [map_range_getD _ hi, low'_bit]
      have : decide (i = j) = false := by simp; omega
      have : decide (j < i) = false := by simp; omega
      simp [*]
/-- a list taken in another order -/
theorem perm_order {b : Nat} {o M : List Nat} (p : o.Perm (List.range b)) (l : M.length = b) : (o.map fun i => M.getD i 0).Perm M := by
  have a := p.map fun i => M.getD i 0
  have e : (List.range b).map (fun i => M.getD i 0) = M := by
    refine List.ext_getElem (by simp [l]) fun i h1 h2 => ?_
    rw [List.getElem_map, List.getElem_range, List.getD_eq_getElem?_getD, List.getElem?_eq_getElem h2]; rfl
  rwa [e] at a
/-- sums by words that can be undone span the same -/
theorem Mix.span {b : Nat} {M W : List Nat} (h : Mix b M) (l : W.length = b) (x : Nat) : Spn (M.map (img W)) x ↔ Spn W x := by
  constructor
  · intro hx
    refine hx.mono fun y hy => ?_
    obtain ⟨z, hz, rfl⟩ := List.mem_map.mp hy
    have := img_span (cols := W) (Nat.le_refl _) (by rw [l]; exact h.lt z hz)
    rwa [List.take_length] at this
  · intro hx
    obtain ⟨y, hy, rfl⟩ := span_img (cols := W) (Nat.le_refl _) (by rwa [List.take_length])
    exact (lin_img W).spn (in_full h.lt (Nat.le_of_eq h.rk.symm) (by rw [← l]; exact hy))
theorem img_in (W : List Nat) {z : Nat} (h : z < 2 ^ W.length) : Spn W (img W z) := by
  have := img_span (cols := W) (Nat.le_refl _) h
  rwa [List.take_length] at this
/-- one more word of the span, anywhere -/
theorem span_more {A B : List Nat} {w : Nat} (p : B.Perm (w :: A)) (h : Spn A w) (x : Nat) : Spn B x ↔ Spn A x := by
  constructor
  · intro hx
    refine hx.mono fun y hy => ?_
    rcases List.mem_cons.mp (p.mem_iff.mp hy) with rfl | hy
    · exact h
    · exact .of hy
  · exact fun hx => hx.sub fun y hy => p.mem_iff.mpr (List.mem_cons_of_mem _ hy)
/-- each word with a sum of others: beside these the same span -/
theorem span_shift {S A : List Nat} {n : Nat} {f g : Nat → Nat} (h : ∀ i, i < n → Spn S (f i ^^^ g i)) (x : Nat) : Spn (S ++ (List.range n).map f) x ↔ Spn (S ++ (List.range n).map g) x := by
  have one : ∀ {f g : Nat → Nat}, (∀ i, i < n → Spn S (f i ^^^ g i)) → ∀ x, Spn (S ++ (List.range n).map f) x → Spn (S ++ (List.range n).map g) x := by
    intro f g h x hx
    refine hx.mono fun y hy => ?_
    rcases List.mem_append.mp hy with hy | hy
    · exact .of (List.mem_append_left _ hy)
    · obtain ⟨i, hi, rfl⟩ := List.mem_map.mp hy
      have a : Spn (S ++ (List.range n).map g) (f i ^^^ g i) := (h i (List.mem_range.mp hi)).sub fun z hz => List.mem_append_left _ hz
      have c : Spn (S ++ (List.range n).map g) (g i) := .of (List.mem_append_right _ (List.mem_map.mpr ⟨i, hi, rfl⟩))
      have := a.xor c
      rwa [xor_cancel_right] at this
  exact ⟨one h x, one (fun i hi => by rw [Nat.xor_comm]; exact h i hi) x⟩
end LaneX
set_option linter.all false
namespace LaneX
/-! ### the law's own rows by min (k17 and others) -/
def les (rows : List Nat) (w : Nat) : Nat := rows.foldl (fun l r => min l (l ^^^ r)) w
theorem lt_bit {x y i : Nat} (hx : x.testBit i = false) (hy : y.testBit i = true) (h : ∀ j, i < j → x.testBit j = y.testBit j) : x < y := by
  have e1 : x >>> (i + 1) = y >>> (i + 1) := by
    apply Nat.eq_of_testBit_eq
    intro j
    rw [Nat.testBit_shiftRight, Nat.testBit_shiftRight]
    exact h _ (by omega)
  rw [Nat.shiftRight_eq_div_pow, Nat.shiftRight_eq_div_pow] at e1
  have p := Nat.two_pow_pos i
  have q : (2 : Nat) ^ (i + 1) = 2 * 2 ^ i := by rw [Nat.pow_succ]; omega
  have a : x % 2 ^ (i + 1) < 2 ^ i := by
    refine lt_of_bits fun j hj => ?_
    rw [Nat.testBit_mod_two_pow]
    by_cases z : j < i + 1
    · have : j = i := by omega
      subst this; simp [hx]
    · simp [z]
  have c : 2 ^ i ≤ y % 2 ^ (i + 1) := by
    refine Nat.ge_two_pow_of_testBit ?_
    rw [Nat.testBit_mod_two_pow, hy]; simp
  have d1 := Nat.div_add_mod x (2 ^ (i + 1))
  have d2 := Nat.div_add_mod y (2 ^ (i + 1))
  rw [e1] at d1
  omega
theorem min_xor {l r : Nat} (h : r ≠ 0) : min l (l ^^^ r) = if l.testBit (blen r - 1) = true then l ^^^ r else l := by
  have t := testBit_top h
  have above : ∀ j, blen r - 1 < j → (l ^^^ r).testBit j = l.testBit j := fun j hj => by
    rw [Nat.testBit_xor, testBit_ge (n := r) (by omega)]; simp
  by_cases e : l.testBit (blen r - 1) = true
  · rw [if_pos e]
    have : l ^^^ r < l := lt_bit (i := blen r - 1) (by rw [Nat.testBit_xor, e, t]; rfl) e fun j hj => above j hj
    omega
  · rw [if_neg e]
    have e' : l.testBit (blen r - 1) = false := by simpa using e
    have : l < l ^^^ r := lt_bit (i := blen r - 1) e' (by rw [Nat.testBit_xor, e', t]; rfl) fun j hj => (above j hj).symm
    omega
theorem les_clr : ∀ {rows : List Nat} (w : Nat), (∀ r ∈ rows, r ≠ 0) → les rows w = clr rows w
  | [], w, _ => rfl
  | r :: rs, w, h => by
    have ih := les_clr (rows := rs) (min w (w ^^^ r)) fun s hs => h s (List.mem_cons_of_mem _ hs)
    show les rs (min w (w ^^^ r)) = clr rs (if w.testBit (blen r - 1) = true then w ^^^ r else w)
    rw [ih, min_xor (h r List.mem_cons_self)]
def rwstep (rows : List Nat) (w : Nat) : List Nat := if clr rows w = 0 then rows else rows ++ [clr rows w]
def rws (ws : List Nat) : List Nat := ws.foldl rwstep []
theorem rws_snoc (a : List Nat) (w : Nat) : rws (a ++ [w]) = rwstep (rws a) w := List.foldl_append ..
/-- none is 0, later ones are 0 at the highest bits of earlier ones -/
structure Hws (rows : List Nat) : Prop where
  nz : ∀ r ∈ rows, r ≠ 0
  red : rows.Pairwise fun r s => s.testBit (blen r - 1) = false
theorem Hws.nil : Hws [] := ⟨fun _ h => (by cases h), .nil⟩
theorem Hws.tops : ∀ {rows : List Nat} {x : Nat}, Hws rows → ∀ r ∈ rows, (clr rows x).testBit (blen r - 1) = false
  | [], x, _, r, h => by cases h
  | s :: rs, x, R, r, h => by
    have hp := List.pairwise_cons.mp R.red
    have R' : Hws rs := ⟨fun t ht => R.nz t (.tail _ ht), hp.2⟩
    rw [clr_cons]
    rcases List.mem_cons.mp h with rfl | h
    · rw [clr_bit fun t ht => hp.1 t ht, Nat.testBit_xor]
      have := testBit_top (R.nz r (.head _))
      cases q : x.testBit (blen r - 1) <;> simp [bx, this]
    · exact R'.tops r h
theorem Hws.self : ∀ {rows : List Nat}, Hws rows → ∀ r ∈ rows, clr rows r = 0
  | [], _, r, h => by cases h
  | s :: rs, R, r, h => by
    have hp := List.pairwise_cons.mp R.red
    have R' : Hws rs := ⟨fun t ht => R.nz t (.tail _ ht), hp.2⟩
    rw [clr_cons]
    rcases List.mem_cons.mp h with rfl | h
    · rw [testBit_top (R.nz r (.head _))]
      simp [bx, clr_zero]
    · rw [hp.1 r h]
      simp only [bx, Bool.false_eq_true, if_false, Nat.xor_zero]
      exact R'.self r h
theorem Hws.span {rows : List Nat} (R : Hws rows) {x : Nat} : Spn rows x ↔ clr rows x = 0 := by
  constructor
  · intro h
    induction h with
    | zero => exact clr_zero rows
    | add hw _ ih => rw [clr_xor, ih, R.self _ hw]; rfl
  · intro h
    have := spn_clr rows x
    rwa [h, Nat.xor_zero] at this
theorem Hws.step {rows : List Nat} (R : Hws rows) (w : Nat) : Hws (rwstep rows w) := by
  unfold rwstep
  split
  · exact R
  · rename_i h
    refine ⟨fun r hr => ?_, List.pairwise_append.mpr ⟨R.red, by simp, fun r hr s hs => ?_⟩⟩
    · rcases List.mem_append.mp hr with hr | hr
      · exact R.nz r hr
      · rcases List.mem_singleton.mp hr with rfl; exact h
    · rcases List.mem_singleton.mp hs with rfl
      exact R.tops r hr
theorem Hws.ind {rows : List Nat} (R : Hws rows) : Ind rows := by
  have : ∀ n (l : List Nat), l.length = n → Hws l → Ind l := by
    intro n
    induction n with
    | zero => intro l hl _; rw [List.length_eq_zero_iff.mp hl]; exact .nil
    | succ n ih =>
      intro l hl L
      have hne : l ≠ [] := fun e => by rw [e] at hl; cases hl
      have e := List.dropLast_concat_getLast hne
      rw [← e] at L ⊢
      have hp := List.pairwise_append.mp L.red
      have L' : Hws l.dropLast := ⟨fun r hr => L.nz r (List.mem_append_left _ hr), hp.1⟩
      refine .snoc (ih _ (by rw [List.length_dropLast, hl]; rfl) L') fun hs => ?_
      have z := L'.span.mp hs
      rw [clr_of_none fun r hr => hp.2.2 r hr _ (List.mem_singleton_self _)] at z
      exact L.nz _ (List.mem_append_right _ (List.mem_singleton_self _)) z
  exact this _ rows rfl R
theorem rws_hws (ws : List Nat) : Hws (rws ws) := snoc_rec (p := fun l => Hws (rws l)) Hws.nil (fun a x ih => by rw [rws_snoc]; exact ih.step x) ws
/-- a word against what is left of it -/
theorem span_trade {rows : List Nat} {w l : Nat} (h : Spn rows (w ^^^ l)) (x : Nat) : Spn (rows ++ [l]) x ↔ Spn (rows ++ [w]) x := by
  rw [span_snoc, span_snoc]
  have e : ∀ a c : Nat, Spn rows (a ^^^ c) → Spn rows (x ^^^ a) → Spn rows (x ^^^ c) := fun a c h1 h2 => by
    have := h2.xor h1
    rwa [Nat.xor_assoc, xor_cancel] at this
  constructor
  · rintro (z | z)
    · exact .inl z
    · exact .inr (e l w (by rw [Nat.xor_comm]; exact h) z)
  · rintro (z | z)
    · exact .inl z
    · exact .inr (e w l h z)
theorem rwstep_span (rows : List Nat) (w x : Nat) : Spn (rwstep rows w) x ↔ Spn (rows ++ [w]) x := by
  have hw := spn_clr rows w
  unfold rwstep
  split
  · rename_i h
    rw [h, Nat.xor_zero] at hw
    rw [span_snoc]
    constructor
    · exact .inl
    · rintro (z | z)
      · exact z
      · have := z.xor hw
        rwa [xor_cancel_right] at this
  · exact span_trade hw x
theorem rws_span (ws : List Nat) : ∀ x, Spn (rws ws) x ↔ Spn ws x := snoc_rec (p := fun l => ∀ x, Spn (rws l) x ↔ Spn l x) (fun x => Iff.rfl) (fun a w ih x => by rw [rws_snoc, rwstep_span, span_app ih]) ws
theorem rws_len (ws : List Nat) : (rws ws).length = rk ws := by rw [← (rws_hws ws).ind.rk]; exact rk_eq (rws_span ws)
theorem rws_len_le (ws : List Nat) : (rws ws).length ≤ ws.length := by rw [rws_len]; exact rk_len ws
/-! ### all sums of some words -/
def sev (rows : List Nat) : List Nat := rows.foldl (fun f w => f ++ f.map fun x => x ^^^ w) [0]
theorem sev_snoc (a : List Nat) (w : Nat) : sev (a ++ [w]) = sev a ++ (sev a).map fun x => x ^^^ w := List.foldl_append ..
theorem sev_len (rows : List Nat) : (sev rows).length = 2 ^ rows.length := snoc_rec (p := fun l => (sev l).length = 2 ^ l.length) rfl (fun a w ih => by
  rw [sev_snoc, List.length_append, List.length_map, ih, List.length_append, List.length_singleton, Nat.pow_succ]; omega) rows
theorem sev_mem (rows : List Nat) : ∀ x, x ∈ sev rows ↔ Spn rows x := snoc_rec (p := fun l => ∀ x, x ∈ sev l ↔ Spn l x) (fun x => by
    show x ∈ [0] ↔ _
    rw [List.mem_singleton]
    exact ⟨fun h => by rw [h]; exact .zero, fun h => h.nil⟩) (fun a w ih x => by
  rw [sev_snoc, List.mem_append, ih, span_snoc]
  constructor
  · rintro (h | h)
    · exact .inl h
    · obtain ⟨y, hy, rfl⟩ := List.mem_map.mp h
      rw [xor_cancel_right]
      exact .inr ((ih y).mp hy)
  · rintro (h | h)
    · exact .inl h
    · exact .inr (List.mem_map.mpr ⟨_, (ih _).mpr h, xor_cancel_right x w⟩)) rows
theorem nodup_xor {l : List Nat} (h : l.Nodup) (w : Nat) : (l.map fun x => x ^^^ w).Nodup := by
  unfold List.Nodup
  rw [List.pairwise_map]
  exact h.imp fun n e => n (by have := congrArg (· ^^^ w) e; simpa [xor_cancel_right] using this)
theorem nodup_xorL {l : List Nat} (h : l.Nodup) (w : Nat) : (l.map fun x => w ^^^ x).Nodup := by
  have : (l.map fun x => w ^^^ x) = l.map fun x => x ^^^ w := List.map_congr_left fun x _ => Nat.xor_comm w x
  rw [this]; exact nodup_xor h w
theorem sev_nodup {rows : List Nat} (h : Ind rows) : (sev rows).Nodup := by
  induction h with
  | nil => show [0].Nodup; simp
  | @snoc a w _ hw ih =>
    rw [sev_snoc]
    refine List.nodup_append.mpr ⟨ih, nodup_xor ih w, fun x hx y hy e => hw ?_⟩
    subst e
    obtain ⟨z, hz, e⟩ := List.mem_map.mp hy
    have c := ((sev_mem a _).mp hx).xor ((sev_mem a _).mp hz)
    rw [← e] at c
    have e2 : z ^^^ w ^^^ z = w := by rw [Nat.xor_comm z w, xor_cancel_right]
    rwa [e2] at c
/-! ### the meet, as a span -/
theorem mtd_span {b : Nat} {A B : List Nat} (lt : ∀ x ∈ A, x < 2 ^ b) (x : Nat) : Spn (mtd b A B) x ↔ Spn A x ∧ Spn B x := by
  have L1 : Lin (fun r => (r <<< b) ^^^ r) := ⟨by simp, fun a c => by rw [Nat.shiftLeft_xor_distrib, xor4]⟩
  have L2 : Lin (fun r => r <<< b) := ⟨by simp, fun a c => Nat.shiftLeft_xor_distrib⟩
  have e1 : (A.map fun r => (r <<< b) + r) = A.map fun r => (r <<< b) ^^^ r := List.map_congr_left fun r hr => add_eq_xor (lt r hr)
  unfold mtd
  rw [(spn_rws _).low_span, spn_span]
  unfold mts
  rw [e1]
  constructor
  · rintro ⟨h, hx⟩
    obtain ⟨p, q, h1, h2, rfl⟩ := span_split h
    obtain ⟨y, hy, rfl⟩ := L1.back h1
    obtain ⟨z, hz, rfl⟩ := L2.back h2
    have hyb := hy.lt lt
    have e2 : (y <<< b ^^^ y) ^^^ z <<< b = ((y ^^^ z) <<< b) ^^^ y := by
      rw [Nat.shiftLeft_xor_distrib, Nat.xor_assoc, Nat.xor_comm y, ← Nat.xor_assoc]
    have hx' : ((y ^^^ z) <<< b) ^^^ y < 2 ^ b := by rw [← e2]; exact hx
    have hs : (y ^^^ z) <<< b < 2 ^ b := by
      have := Nat.xor_lt_two_pow hx' hyb
      rwa [xor_cancel_right] at this
    have z0 : y ^^^ z = 0 := by
      rw [Nat.shiftLeft_eq] at hs
      have pb := Nat.two_pow_pos b
      rcases Nat.eq_zero_or_pos (y ^^^ z) with h0 | h0
      · exact h0
      · have : 1 * 2 ^ b ≤ (y ^^^ z) * 2 ^ b := Nat.mul_le_mul_right _ h0
        omega
    show Spn A ((y <<< b ^^^ y) ^^^ z <<< b) ∧ Spn B ((y <<< b ^^^ y) ^^^ z <<< b)
    rw [e2, z0, Nat.zero_shiftLeft, Nat.zero_xor]
    exact ⟨hy, by rw [xor_eq_zero z0]; exact hz⟩
  · rintro ⟨h1, h2⟩
    refine ⟨?_, h1.lt lt⟩
    have a := (L1.spn h1).sub (vs := A.map (fun r => (r <<< b) ^^^ r) ++ B.map fun r => r <<< b) fun z hz => List.mem_append_left _ hz
    have c := (L2.spn h2).sub (vs := A.map (fun r => (r <<< b) ^^^ r) ++ B.map fun r => r <<< b) fun z hz => List.mem_append_right _ hz
    have d := a.xor c
    have e3 : (x <<< b ^^^ x) ^^^ x <<< b = x := by rw [Nat.xor_comm (x <<< b) x, xor_cancel_right]
    have d' : Spn (A.map (fun r => (r <<< b) ^^^ r) ++ B.map fun r => r <<< b) ((x <<< b ^^^ x) ^^^ x <<< b) := d
    rwa [e3] at d'
/-! ### what a lane lacks, by counting -/
theorem len_of_mem {l m : List Nat} (h1 : l.Nodup) (h2 : m.Nodup) (h : ∀ x, x ∈ l ↔ x ∈ m) : l.length = m.length :=
  Nat.le_antisymm (nodup_sub_len h1 fun x hx => (h x).mp hx) (nodup_sub_len h2 fun x hx => (h x).mpr hx)
theorem filter_not_len (l : List Nat) (p : Nat → Bool) : (l.filter fun x => !p x).length = l.length - (l.filter p).length := by
  have := filter_two p l
  omega
section
variable {b : Nat} {ss os : List Nat}
def shr (ss os : List Nat) : Nat := rk ss + rk os - rk (ss ++ os)
theorem mtd_shr (hs : ∀ x ∈ ss, x < 2 ^ b) : (mtd b (spn ss) (spn os)).length = shr ss os := by
  have a := mtd_len (b := b) (spn_rws ss) (spn_rws os) (spn_lt hs)
  have e : rk (spn ss ++ spn os) = rk (ss ++ os) := rk_eq fun x => span_app2 (spn_span ss) (spn_span os)
  rw [e] at a
  unfold shr
  have h1 : (spn ss).length = rk ss := rfl
  have h2 : (spn os).length = rk os := rfl
  omega
/-- of the sums of os those that lie in a coset of ss -/
theorem count_in (hs : ∀ x ∈ ss, x < 2 ^ b) {T : List Nat} (nd : T.Nodup) (mem : ∀ x, x ∈ T ↔ Spn os x) {d : Nat} (hd : Spn (ss ++ os) d) {q : Nat → Bool} (hq : ∀ w, q w = true ↔ Spn ss (d ^^^ w)) : (T.filter q).length = 2 ^ shr ss os := by
  obtain ⟨s, o, h1, h2, rfl⟩ := span_split hd
  rw [← mtd_shr hs, ← sev_len]
  have e : (sev (mtd b (spn ss) (spn os))).length = ((sev (mtd b (spn ss) (spn os))).map fun x => x ^^^ o).length := by simp
  rw [e]
  refine len_of_mem (nd.filter _) (nodup_xor (sev_nodup (mtd_rws _ _ _).ind) o) fun x => ?_
  rw [List.mem_filter, mem, hq, List.mem_map]
  have key : ∀ y, Spn (mtd b (spn ss) (spn os)) y ↔ Spn ss y ∧ Spn os y := fun y => by rw [mtd_span (spn_lt hs), spn_span, spn_span]
  constructor
  · rintro ⟨h3, h4⟩
    refine ⟨x ^^^ o, (sev_mem _ _).mpr ((key _).mpr ⟨?_, h3.xor h2⟩), xor_cancel_right _ _⟩
    have := h1.xor h4
    rw [Nat.xor_assoc, xor_cancel, Nat.xor_comm] at this
    exact this
  · rintro ⟨y, hy, rfl⟩
    have := (key y).mp ((sev_mem _ _).mp hy)
    refine ⟨this.2.xor h2, ?_⟩
    have e : s ^^^ o ^^^ (y ^^^ o) = s ^^^ y := by rw [xor4, Nat.xor_self, Nat.xor_zero]
    rw [e]
    exact h1.xor this.1
theorem count_out {T : List Nat} (mem : ∀ x, x ∈ T ↔ Spn os x) {d : Nat} (hd : ¬ Spn (ss ++ os) d) {q : Nat → Bool} (hq : ∀ w, q w = true ↔ Spn ss (d ^^^ w)) : (T.filter q).length = 0 := by
  rw [List.length_eq_zero_iff, List.filter_eq_nil_iff]
  intro w hw z
  refine hd ?_
  have a := ((hq w).mp z).sub (vs := ss ++ os) fun y hy => List.mem_append_left _ hy
  have c := ((mem w).mp hw).sub (vs := ss ++ os) fun y hy => List.mem_append_right _ hy
  have := a.xor c
  rwa [xor_cancel_right] at this
end
/-- the entries of a lane, by listing -/
def lot (ss ls : List Nat) (L : Nat) : List Nat := (sev (rws ss)).map fun w => img ls L ^^^ w
theorem sevr_mem (ss : List Nat) (x : Nat) : x ∈ sev (rws ss) ↔ Spn ss x := by rw [sev_mem, rws_span]
theorem lot_mem (ss ls : List Nat) (L e : Nat) : e ∈ lot ss ls L ↔ Spn ss (img ls L ^^^ e) := by
  unfold lot
  rw [List.mem_map]
  constructor
  · rintro ⟨w, hw, rfl⟩
    rw [xor_cancel]; exact (sevr_mem ss w).mp hw
  · intro h
    exact ⟨_, (sevr_mem ss _).mpr h, xor_cancel _ _⟩
def lsm (ls ps : List Nat) : List Nat := (List.range ls.length).map fun i => ls.getD i 0 ^^^ ps.getD i 0
theorem lsm_len (ls ps : List Nat) : (lsm ls ps).length = ls.length := by simp [lsm]
theorem img_lsm {ls ps : List Nat} (h : ls.length = ps.length) (L : Nat) : img (lsm ls ps) L = img ls L ^^^ img ps L := by
  unfold img
  rw [lsm_len, ← h]
  exact imf_add fun i hi => map_range_getD _ hi
def due (ss ls os ps : List Nat) (L : Nat) : Nat := ((lot os ps L).filter fun e => !decide (e ∈ lot ss ls L)).length
open Classical in
theorem due_eq {b : Nat} {ss ls os ps : List Nat} (hs : ∀ x ∈ ss, x < 2 ^ b) (h : ls.length = ps.length) (L : Nat) : due ss ls os ps L = if Spn (ss ++ os) (img (lsm ls ps) L) then 2 ^ rk os - 2 ^ shr ss os else 2 ^ rk os := by
  unfold due
  rw [filter_not_len]
  have nd := sev_nodup (rws_hws os).ind
  have hq : ∀ w, (fun w => decide (img ps L ^^^ w ∈ lot ss ls L)) w = true ↔ Spn ss (img (lsm ls ps) L ^^^ w) := fun w => by
    rw [decide_eq_true_iff, lot_mem, img_lsm h, Nat.xor_assoc]
  have e : ((lot os ps L).filter fun e => decide (e ∈ lot ss ls L)).length = ((sev (rws os)).filter fun w => decide (img ps L ^^^ w ∈ lot ss ls L)).length := by
    unfold lot
    rw [List.filter_map, List.length_map]
    rfl
  have l : (lot os ps L).length = 2 ^ rk os := by
    unfold lot
    rw [List.length_map, sev_len, rws_len]
  rw [e, l]
  split
  · rename_i hd
    rw [count_in hs nd (sevr_mem os) hd hq]
  · rename_i hd
    rw [count_out (sevr_mem os) hd hq, Nat.sub_zero]
/-! ### the least lane that keeps nothing -/
/-- j is the least bit that is no row's highest -/
def Mis (rows : List Nat) (j : Nat) : Prop := (∀ i, i < j → ∃ r ∈ rows, blen r - 1 = i) ∧ ∀ r ∈ rows, blen r - 1 ≠ j
theorem mis_le {rows : List Nat} {j : Nat} (h : ∀ i, i < j → ∃ r ∈ rows, blen r - 1 = i) : j ≤ rows.length := by
  have := nodup_sub_len (l := List.range j) (m := rows.map fun r => blen r - 1) List.nodup_range fun i hi => by
    obtain ⟨r, hr, e⟩ := h i (List.mem_range.mp hi)
    exact List.mem_map.mpr ⟨r, hr, e⟩
  simpa using this
theorem Mis.below {rows : List Nat} (R : Rws rows) {j : Nat} (h : Mis rows j) {x : Nat} (hx : x < 2 ^ j) : Spn rows x := by
  have F := R.low j
  have l : j ≤ (rows.filter fun r => decide (blen r ≤ j)).length := mis_le fun i hi => by
    obtain ⟨r, hr, e⟩ := h.1 i hi
    have := blen_pos (R.nz r hr)
    exact ⟨r, List.mem_filter.mpr ⟨hr, decide_eq_true (by omega)⟩, e⟩
  have := in_full (ws := rows.filter fun r => decide (blen r ≤ j)) (b := j) (fun w hw => blen_le.mp (of_decide_eq_true (List.mem_filter.mp hw).2)) (by rw [spn_id F]; exact l) hx
  exact this.sub fun z hz => (List.mem_filter.mp hz).1
theorem Mis.at_ {rows : List Nat} (R : Rws rows) {j : Nat} (h : Mis rows j) : ¬ Spn rows (2 ^ j) := fun z => by
  obtain ⟨r, hr, e⟩ := R.top_mem z (Nat.ne_of_gt (Nat.two_pow_pos j))
  have e2 : blen (2 ^ j) = j + 1 := by rw [← Nat.one_shiftLeft]; exact blen_unit j
  exact h.2 r hr (by omega)
theorem allin_img {S W : List Nat} (h : ∀ w ∈ W, Spn S w) (L : Nat) : Spn S (img W L) := by
  unfold img
  generalize W.length = n
  induction n with
  | zero => exact .zero
  | succ n ih =>
    rw [imf_succ]
    split
    · refine ih.xor ?_
      by_cases hn : n < W.length
      · exact h _ (getD_mem hn)
      · rw [List.getD_eq_getElem?_getD, List.getElem?_eq_none (by omega)]; exact .zero
    · exact ih
open Classical in
/-- fewest rounds -/
noncomputable def fwr (ss ls os ps : List Nat) : Nat := if ∀ w ∈ lsm ls ps, Spn (ss ++ os) w then 2 ^ rk os - 2 ^ shr ss os else 2 ^ rk os
section
variable {b : Nat} {ss ls os ps : List Nat} (hs : ∀ x ∈ ss, x < 2 ^ b) (hl : ls.length = ps.length)
include hs hl
open Classical in
theorem due_le (L : Nat) : due ss ls os ps L ≤ fwr ss ls os ps := by
  rw [due_eq hs hl]
  unfold fwr
  by_cases h : ∀ w ∈ lsm ls ps, Spn (ss ++ os) w
  · rw [if_pos h, if_pos (allin_img h L)]; exact Nat.le_refl _
  · rw [if_neg h]
    split
    · exact Nat.sub_le _ _
    · exact Nat.le_refl _
theorem due_all (h : ∀ w ∈ lsm ls ps, Spn (ss ++ os) w) (L : Nat) : due ss ls os ps L = fwr ss ls os ps := by
  rw [due_eq hs hl]
  unfold fwr
  rw [if_pos h, if_pos (allin_img h L)]
theorem due_short {j : Nat} (h : ¬ ∀ w ∈ lsm ls ps, Spn (ss ++ os) w) (hj : Mis (ker ((lsm ls ps).map (clr (spn (ss ++ os))))) j) :
    j < ls.length ∧ due ss ls os ps (2 ^ j) = fwr ss ls os ps ∧ ∀ L, L < 2 ^ j → due ss ls os ps L ≠ fwr ss ls os ps := by
  have R := ker_rws ((lsm ls ps).map (clr (spn (ss ++ os))))
  have sp := span_clr_img (ss ++ os) (lsm ls ps)
  rw [lsm_len] at sp
  have jl : j < ls.length := by
    refine Nat.lt_of_not_le fun q => h fun w hw => ?_
    obtain ⟨i, hi, rfl⟩ := List.mem_map.mp hw
    have hi := List.mem_range.mp hi
    have u := (sp (2 ^ i)).mp (hj.below R (Nat.pow_lt_pow_right (by decide) (by omega)))
    have e := img_unit (lsm ls ps) (i := i) (by rw [lsm_len]; exact hi)
    have u2 := u.2
    rw [e] at u2
    have e2 : (lsm ls ps).getD i 0 = ls.getD i 0 ^^^ ps.getD i 0 := map_range_getD _ hi
    rwa [e2] at u2
  refine ⟨jl, ?_, fun L hL => ?_⟩
  · rw [due_eq hs hl]
    unfold fwr
    rw [if_neg h, if_neg fun z => hj.at_ R ((sp _).mpr ⟨Nat.pow_lt_pow_right (by decide) jl, z⟩)]
  · rw [due_eq hs hl]
    unfold fwr
    rw [if_neg h, if_pos ((sp _).mp (hj.below R hL)).2]
    have := Nat.two_pow_pos (rk os)
    have := Nat.two_pow_pos (shr ss os)
    omega
end
end LaneX
set_option linter.all false
namespace LaneX
/-! ### the lane of a word; steps of hops (k24) -/
theorem slv_xor (cs : List Nat) (g h : Nat) : slv cs (g ^^^ h) = slv cs g ^^^ slv cs h := by
  unfold slv
  rw [Nat.shiftLeft_xor_distrib, clr_xor]
theorem slv_zero (cs : List Nat) : slv cs 0 = 0 := by unfold slv; rw [Nat.zero_shiftLeft, clr_zero]
theorem lin_slv (cs : List Nat) : Lin (slv cs) := ⟨slv_zero cs, slv_xor cs⟩
/-- the columns of the lanes, beside the slots -/
def lcs (ss ls : List Nat) : List Nat := ls.map (clr (spn ss))
theorem lcs_len (ss ls : List Nat) : (lcs ss ls).length = ls.length := by simp [lcs]
/-- the least lane that holds a word -/
def lno (ss ls : List Nat) (w : Nat) : Nat := slv (lcs ss ls) (clr (spn ss) w)
theorem lin_lno (ss ls : List Nat) : Lin (lno ss ls) := (lin_slv _).comp (lin_clr _)
/-- a lane's word beside the slots -/
def lph (ss ls : List Nat) (x : Nat) : Nat := clr (spn ss) (img ls x)
theorem lin_lph (ss ls : List Nat) : Lin (lph ss ls) := (lin_clr _).comp (lin_img ls)
theorem lph_zero {ss ls : List Nat} {x : Nat} : lph ss ls x = 0 ↔ Spn ss (img ls x) := clr_spn_zero
theorem img_lcs (ss ls : List Nat) (x : Nat) : img (lcs ss ls) x = lph ss ls x := img_map (lin_clr _) ls x
section
variable {b : Nat} {ss ls : List Nat} (hs : ∀ x ∈ ss, x < 2 ^ b) (hl : ∀ x ∈ ls, x < 2 ^ b) (hb : b ≤ rk (ss ++ ls))
include hs hl hb
theorem lcs_span {w : Nat} (hw : w < 2 ^ b) : Spn (lcs ss ls) (clr (spn ss) w) := by
  refine ((red_clr ss).mem w).mpr (in_full (fun z hz => ?_) hb hw)
  rcases List.mem_append.mp hz with hz | hz
  · exact hs z hz
  · exact hl z hz
theorem lno_ok {w : Nat} (hw : w < 2 ^ b) : lno ss ls w < 2 ^ ls.length ∧ lph ss ls (lno ss ls w) = clr (spn ss) w := by
  have a := slv_ok (lcs_span hs hl hb hw)
  rw [lcs_len, img_lcs] at a
  exact a
theorem lno_span {w : Nat} (hw : w < 2 ^ b) : Spn ss (img ls (lno ss ls w) ^^^ w) := by
  have a := (lno_ok hs hl hb hw).2
  unfold lph at a
  rw [← clr_spn_zero, clr_xor, a, Nat.xor_self]
end
/-- the distances that hops must go -/
def dst (ss ls os ps : List Nat) : List Nat := os.map (lno ss ls) ++ (List.range ps.length).map fun i => lno ss ls (ps.getD i 0) ^^^ 2 ^ i
def nst (ss ls os ps : List Nat) : List Nat := cmpl (twn ss ls) (spn (twn ss ls ++ dst ss ls os ps))
theorem map_span {φ : Nat → Nat} (L : Lin φ) {A B : List Nat} (h : ∀ x, Spn A x ↔ Spn B x) (z : Nat) : Spn (A.map φ) z ↔ Spn (B.map φ) z := by
  constructor
  · intro hz
    obtain ⟨y, hy, rfl⟩ := L.back hz
    exact L.spn ((h y).mp hy)
  · intro hz
    obtain ⟨y, hy, rfl⟩ := L.back hz
    exact L.spn ((h y).mpr hy)
theorem twn_lt {ss ls : List Nat} {x : Nat} (h : Spn (twn ss ls) x) : x < 2 ^ ls.length := ((twn_span ss ls x).mp h).1
theorem twn_ker {ss ls : List Nat} {x : Nat} (h : Spn (twn ss ls) x) : lph ss ls x = 0 := lph_zero.mpr ((twn_span ss ls x).mp h).2
section
variable {b : Nat} {ss ls os ps : List Nat} (hs : ∀ x ∈ ss, x < 2 ^ b) (hl : ∀ x ∈ ls, x < 2 ^ b) (hb : b ≤ rk (ss ++ ls)) (ho : ∀ x ∈ os, x < 2 ^ b) (hp : ∀ x ∈ ps, x < 2 ^ b) (hn : ls.length = ps.length)
include hs hl hb ho hp hn
theorem dst_lt : ∀ x ∈ dst ss ls os ps, x < 2 ^ ls.length := fun x hx => by
  rcases List.mem_append.mp hx with hx | hx
  · obtain ⟨w, hw, rfl⟩ := List.mem_map.mp hx
    exact (lno_ok hs hl hb (ho w hw)).1
  · obtain ⟨i, hi, rfl⟩ := List.mem_map.mp hx
    have hi := List.mem_range.mp hi
    exact Nat.xor_lt_two_pow (lno_ok hs hl hb (hp _ (getD_mem hi))).1 (Nat.pow_lt_pow_right (by decide) (by omega))
theorem dst_lph : (dst ss ls os ps).map (lph ss ls) = (os ++ lsm ls ps).map (clr (spn ss)) := by
  unfold dst
  rw [List.map_append, List.map_map, List.map_append]
  congr 1
  · exact List.map_congr_left fun w hw => (lno_ok hs hl hb (ho w hw)).2
  · unfold lsm
    rw [List.map_map, List.map_map, hn]
    refine List.map_congr_left fun i hi => ?_
    have hi := List.mem_range.mp hi
    show lph ss ls (lno ss ls (ps.getD i 0) ^^^ 2 ^ i) = clr (spn ss) (ls.getD i 0 ^^^ ps.getD i 0)
    rw [(lin_lph ss ls).x, (lno_ok hs hl hb (hp _ (getD_mem hi))).2, clr_xor, Nat.xor_comm]
    congr 1
    unfold lph
    rw [img_unit ls (by omega)]
theorem all_lt {x : Nat} (h : Spn (twn ss ls ++ dst ss ls os ps) x) : x < 2 ^ ls.length := h.lt fun w hw => by
  rcases List.mem_append.mp hw with hw | hw
  · exact twn_lt (.of hw)
  · exact dst_lt hs hl hb ho hp hn w hw
/-- as many steps as the words that slots do not lead to -/
theorem nst_len : (nst ss ls os ps).length = rk (ss ++ (os ++ lsm ls ps)) - rk ss := by
  have R : Rws (twn ss ls) := spn_rws _
  have i := cmpl_ind R (spn (twn ss ls ++ dst ss ls os ps)) (lin_lph ss ls) fun y hy z => by
    have hy := (spn_span _ y).mp hy
    exact (twn_span ss ls y).mpr ⟨all_lt hs hl hb ho hp hn hy, lph_zero.mp z⟩
  have a : rk ((nst ss ls os ps).map (lph ss ls)) = (nst ss ls os ps).length := by
    have := i.rk
    rw [List.length_map] at this
    exact this
  have e : ∀ z, Spn ((nst ss ls os ps).map (lph ss ls)) z ↔ Spn ((dst ss ls os ps).map (lph ss ls)) z := fun z => by
    have cs := cms_span R (spn (twn ss ls ++ dst ss ls os ps))
    have key : ∀ x, Spn (twn ss ls ++ nst ss ls os ps) x ↔ Spn (twn ss ls ++ dst ss ls os ps) x := fun x => by
      have c1 := cs.1 x
      have c2 := cs.2 x
      have c3 : Spn (twn ss ls ++ spn (twn ss ls ++ dst ss ls os ps)) x ↔ Spn (twn ss ls ++ dst ss ls os ps) x := by
        constructor
        · refine fun h => h.mono fun y hy => ?_
          rcases List.mem_append.mp hy with hy | hy
          · exact .of (List.mem_append_left _ hy)
          · exact (spn_span _ y).mp (.of hy)
        · exact fun h => ((spn_span _ x).mpr h).sub fun y hy => List.mem_append_right _ hy
      exact c2.symm.trans (c1.trans c3)
    have dropT : ∀ (D : List Nat), Spn ((twn ss ls ++ D).map (lph ss ls)) z ↔ Spn (D.map (lph ss ls)) z := fun D => by
      rw [List.map_append]
      constructor
      · refine fun h => h.mono fun y hy => ?_
        rcases List.mem_append.mp hy with hy | hy
        · obtain ⟨t, ht, rfl⟩ := List.mem_map.mp hy
          rw [twn_ker (.of ht)]; exact .zero
        · exact .of hy
      · exact fun h => h.sub fun y hy => List.mem_append_right _ hy
    rw [← dropT, map_span (lin_lph ss ls) key, dropT]
  have r := rk_eq e
  rw [dst_lph hs hl hb ho hp hn] at r
  have q := (red_clr ss).rk (os ++ lsm ls ps)
  omega
theorem nst_mem : ∀ x ∈ nst ss ls os ps, x < 2 ^ ls.length := fun x hx => all_lt hs hl hb ho hp hn ((spn_span _ x).mp (.of (cmpl_mem _ x hx)))
theorem nst_span (x : Nat) : Spn (nst ss ls os ps ++ twn ss ls) x ↔ Spn (twn ss ls ++ dst ss ls os ps) x := by
  have R : Rws (twn ss ls) := spn_rws _
  have cs := cms_span R (spn (twn ss ls ++ dst ss ls os ps))
  rw [span_swap]
  refine (cs.2 x).symm.trans ((cs.1 x).trans ?_)
  constructor
  · refine fun h => h.mono fun y hy => ?_
    rcases List.mem_append.mp hy with hy | hy
    · exact .of (List.mem_append_left _ hy)
    · exact (spn_span _ y).mp (.of hy)
  · exact fun h => ((spn_span _ x).mpr h).sub fun y hy => List.mem_append_right _ hy
/-- a wanted entry's lane is reached by the steps -/
theorem reach {lane e : Nat} (h : lane < 2 ^ ls.length) (he : Spn os (e ^^^ img ps lane)) : Spn (nst ss ls os ps ++ twn ss ls) (lane ^^^ lno ss ls e) := by
  rw [nst_span hs hl hb ho hp hn]
  -- lane ^ lno (img ps lane) by the distances of the lanes
  have a : ∀ n, n ≤ ps.length → ∀ x, x < 2 ^ n → Spn (dst ss ls os ps) (x ^^^ lno ss ls (img ps x)) := by
    intro n
    induction n with
    | zero =>
      intro _ x hx
      have : x = 0 := by simpa using hx
      subst this
      rw [(lin_img ps).z, (lin_lno ss ls).z, Nat.xor_zero]; exact .zero
    | succ n ih =>
      intro hn' x hx
      rcases bit_split hx with q | ⟨q, hb'⟩
      · exact ih (by omega) x q
      · have i1 := ih (by omega) _ q
        have i2 : Spn (dst ss ls os ps) (lno ss ls (ps.getD n 0) ^^^ 2 ^ n) := .of (List.mem_append_right _ (List.mem_map.mpr ⟨n, List.mem_range.mpr (by omega), rfl⟩))
        have i3 := i1.xor i2
        rw [(lin_img ps).x, img_unit ps (by omega), (lin_lno ss ls).x] at i3
        have e1 : x ^^^ 2 ^ n ^^^ (lno ss ls (img ps x) ^^^ lno ss ls (ps.getD n 0)) ^^^ (lno ss ls (ps.getD n 0) ^^^ 2 ^ n) = x ^^^ lno ss ls (img ps x) := by
          rw [Nat.xor_comm (lno ss ls (ps.getD n 0)) (2 ^ n), xor4, xor_cancel_right, xor_cancel_right]
        rwa [e1] at i3
  have b1 := a ps.length (Nat.le_refl _) lane (by rw [← hn]; exact h)
  have b2 : Spn (dst ss ls os ps) (lno ss ls (e ^^^ img ps lane)) := ((lin_lno ss ls).spn he).sub fun z hz => List.mem_append_left _ hz
  have c := b1.xor b2
  rw [(lin_lno ss ls).x] at c
  have e2 : lane ^^^ lno ss ls (img ps lane) ^^^ (lno ss ls e ^^^ lno ss ls (img ps lane)) = lane ^^^ lno ss ls e := by rw [xor4, Nat.xor_self, Nat.xor_zero]
  rw [e2] at c
  exact c.sub fun z hz => List.mem_append_right _ hz
end
/-! ### a route -/
/-- the lanes of a route -/
def rte (st : List Nat) (lane c : Nat) (k : Nat) : Nat := (lane ^^^ img st c) ^^^ imf st c k
theorem rte_zero (st : List Nat) (lane c : Nat) : rte st lane c 0 = lane ^^^ img st c := by
  unfold rte
  have : imf st c 0 = 0 := rfl
  rw [this, Nat.xor_zero]
theorem rte_last (st : List Nat) (lane c : Nat) : rte st lane c st.length = lane := by
  unfold rte
  have : imf st c st.length = img st c := rfl
  rw [this, xor_cancel_right]
theorem rte_step (st : List Nat) (lane c k : Nat) : rte st lane c (k + 1) = if c.testBit k = true then rte st lane c k ^^^ st.getD k 0 else rte st lane c k := by
  unfold rte
  rw [imf_succ]
  split
  · rw [Nat.xor_assoc (lane ^^^ img st c)]
  · rfl
theorem rte_lt {st : List Nat} {n lane c : Nat} (h : ∀ x ∈ st, x < 2 ^ n) (hl : lane < 2 ^ n) (k : Nat) : rte st lane c k < 2 ^ n :=
  Nat.xor_lt_two_pow (Nat.xor_lt_two_pow hl (imf_lt h _ _)) (imf_lt h _ _)
/-- the first part of a sum -/
theorem img_mask {P Q : List Nat} {x : Nat} (h : x < 2 ^ (P ++ Q).length) : ∃ y, y < 2 ^ Q.length ∧ img (P ++ Q) x = img P (x &&& (2 ^ P.length - 1)) ^^^ img Q y := by
  have e1 : x &&& (2 ^ P.length - 1) = x % 2 ^ P.length := Nat.and_two_pow_sub_one_eq_mod x P.length
  have lt : x % 2 ^ P.length < 2 ^ P.length := Nat.mod_lt _ (Nat.two_pow_pos _)
  refine ⟨x >>> P.length, ?_, ?_⟩
  · rw [Nat.shiftRight_eq_div_pow, Nat.div_lt_iff_lt_mul (Nat.two_pow_pos _), ← Nat.pow_add, Nat.add_comm, ← List.length_append]
    exact h
  · rw [e1, ← img_app lt]
    congr 1
    apply Nat.eq_of_testBit_eq
    intro i
    rw [Nat.testBit_xor, Nat.testBit_mod_two_pow, Nat.testBit_shiftLeft, Nat.testBit_shiftRight]
    by_cases hi : i < P.length
    · have : decide (i ≥ P.length) = false := by simp; omega
      rw [this]; simp [hi]
    · have : decide (i ≥ P.length) = true := by simp; omega
      rw [this, show P.length + (i - P.length) = i by omega]; simp [hi]
end LaneX
set_option linter.all false
namespace LaneX
/-! ### plans of rounds (k18, k19) -/
theorem img_inj {A : List Nat} (h : rk A = A.length) {x : Nat} (hx : x < 2 ^ A.length) (z : img A x = 0) : x = 0 := by
  have k := ker_len_eq A
  have e : ker A = [] := List.length_eq_zero_iff.mp (by omega)
  have := (ker_span A x).mpr ⟨hx, z⟩
  rw [e] at this
  exact this.nil
theorem img_inj2 {A : List Nat} (h : rk A = A.length) {x y : Nat} (hx : x < 2 ^ A.length) (hy : y < 2 ^ A.length) (z : img A x = img A y) : x = y :=
  xor_eq_zero (img_inj h (Nat.xor_lt_two_pow hx hy) (by rw [(lin_img A).x, z, Nat.xor_self]))
/-- what solved tells of a word that is no sum -/
theorem slv_none {cs : List Nat} {g : Nat} (h : ¬ Spn cs g) : 2 ^ cs.length ≤ slv cs g := by
  refine Nat.le_of_not_lt fun z => h ?_
  have a := spn_clr (prd cs) (g <<< cs.length)
  have a : Spn (prs cs) (g <<< cs.length ^^^ slv cs g) := (spn_span _ _).mp a
  obtain ⟨x, hx, e⟩ := prs_fwd cs a
  have e2 := congrArg (fun y => y >>> cs.length) e
  simp only [Nat.shiftRight_xor_distrib, shl_shr] at e2
  rw [Nat.shiftRight_eq_zero _ _ z, Nat.shiftRight_eq_zero _ _ hx, Nat.xor_zero, Nat.xor_zero] at e2
  rw [e2]
  exact img_in cs hx
/-- the part of a word in the first rows -/
def pin (R O : List Nat) (w : Nat) : Nat := img R (slv (R ++ O) w &&& (2 ^ R.length - 1))
theorem pin_ok {R O : List Nat} {w : Nat} (h : Spn (R ++ O) w) : Spn R (pin R O w) ∧ Spn O (w ^^^ pin R O w) := by
  obtain ⟨a, e⟩ := slv_ok h
  obtain ⟨y, hy, e2⟩ := img_mask a
  rw [e] at e2
  have lt : slv (R ++ O) w &&& (2 ^ R.length - 1) < 2 ^ R.length := by
    rw [Nat.and_two_pow_sub_one_eq_mod]; exact Nat.mod_lt _ (Nat.two_pow_pos _)
  refine ⟨img_in R lt, ?_⟩
  have e3 : w ^^^ pin R O w = img O y := by
    unfold pin
    conv => lhs; lhs; rw [e2]
    rw [Nat.xor_comm, xor_cancel]
  rw [e3]
  exact img_in O hy
theorem img_diff {A B S : List Nat} (hl : A.length = B.length) (h : ∀ i, i < A.length → Spn S (A.getD i 0 ^^^ B.getD i 0)) (x : Nat) : Spn S (img A x ^^^ img B x) := by
  rw [← img_lsm hl]
  refine allin_img (fun w hw => ?_) x
  obtain ⟨i, hi, rfl⟩ := List.mem_map.mp hw
  exact h i (List.mem_range.mp hi)
theorem imf_at {A B : List Nat} {x : Nat} : ∀ {n}, (∀ i, i < n → x.testBit i = true → A.getD i 0 = B.getD i 0) → imf A x n = imf B x n
  | 0, _ => rfl
  | n + 1, h => by
    rw [imf_succ, imf_succ, imf_at fun i hi => h i (by omega)]
    split
    · rename_i z
      rw [h n (by omega) z]
    · rfl
theorem img_at {A B : List Nat} {x : Nat} (hl : A.length = B.length) (h : ∀ i, i < A.length → x.testBit i = true → A.getD i 0 = B.getD i 0) : img A x = img B x := by
  unfold img
  rw [← hl]
  exact imf_at h
theorem Rws.rk {R : List Nat} (h : Rws R) : rk R = R.length := spn_id h
/-- A with what completes it to B -/
theorem base_of {A B : List Nat} (R : Rws A) (h : ∀ x ∈ A, Spn B x) : (∀ x, Spn (A ++ cmpl A B) x ↔ Spn B x) ∧ LaneX.rk (A ++ cmpl A B) = (A ++ cmpl A B).length ∧ (A ++ cmpl A B).length = LaneX.rk B := by
  have cs := cms_span R B
  have e : ∀ x, Spn (A ++ B) x ↔ Spn B x := fun x => ⟨fun z => z.mono fun y hy => by
    rcases List.mem_append.mp hy with hy | hy
    · exact h y hy
    · exact .of hy, fun z => z.sub fun y hy => List.mem_append_right _ hy⟩
  have e2 : ∀ x, Spn (A ++ cmpl A B) x ↔ Spn B x := fun x => ((cs.2 x).symm.trans (cs.1 x)).trans (e x)
  have l := cmpl_len R B
  rw [rk_eq e, R.rk] at l
  have l2 : (A ++ cmpl A B).length = LaneX.rk B := by rw [List.length_append]; omega
  exact ⟨e2, (rk_eq e2).trans l2.symm, l2⟩
/-! ### starts that lanes keep -/
def kst (R O ls ps : List Nat) : List Nat := (List.range ls.length).map fun i => ls.getD i 0 ^^^ pin R O ((lsm ls ps).getD i 0)
theorem kst_len (R O ls ps : List Nat) : (kst R O ls ps).length = ls.length := by simp [kst]
theorem kst_at (R O ls ps : List Nat) {i : Nat} (h : i < ls.length) : (kst R O ls ps).getD i 0 = ls.getD i 0 ^^^ pin R O ((lsm ls ps).getD i 0) := map_range_getD _ h
theorem lsm_at {ls ps : List Nat} {i : Nat} (h : i < ls.length) : (lsm ls ps).getD i 0 = ls.getD i 0 ^^^ ps.getD i 0 := map_range_getD _ h
theorem kst_ok {ss ls os ps : List Nat} (hl : ls.length = ps.length) (h : ∀ w ∈ lsm ls ps, Spn (ss ++ os) w) (x : Nat) :
    Spn ss (img (kst (spn ss) (spn os) ls ps) x ^^^ img ls x) ∧ Spn os (img (kst (spn ss) (spn os) ls ps) x ^^^ img ps x) := by
  have key : ∀ i, i < ls.length → Spn ss (pin (spn ss) (spn os) ((lsm ls ps).getD i 0)) ∧ Spn os ((lsm ls ps).getD i 0 ^^^ pin (spn ss) (spn os) ((lsm ls ps).getD i 0)) := fun i hi => by
    have m : (lsm ls ps).getD i 0 ∈ lsm ls ps := getD_mem (by rw [lsm_len]; exact hi)
    have p := pin_ok (R := spn ss) (O := spn os) ((span_app2 (spn_span ss) (spn_span os)).mpr (h _ m))
    exact ⟨(spn_span ss _).mp p.1, (spn_span os _).mp p.2⟩
  constructor
  · refine img_diff (kst_len _ _ _ _) (fun i hi => ?_) x
    rw [kst_len] at hi
    rw [kst_at _ _ _ _ hi, Nat.xor_comm (ls.getD i 0), xor_cancel_right]
    exact (key i hi).1
  · refine img_diff (by rw [kst_len, hl]) (fun i hi => ?_) x
    rw [kst_len] at hi
    have k2 := (key i hi).2
    rw [lsm_at hi] at k2
    rw [kst_at _ _ _ _ hi, lsm_at hi, Nat.xor_assoc, Nat.xor_comm (pin _ _ _), ← Nat.xor_assoc]
    exact k2
theorem kst_lt {b : Nat} {ss ls os ps : List Nat} (hs : ∀ x ∈ ss, x < 2 ^ b) (hL : ∀ x ∈ ls, x < 2 ^ b) (h : ∀ w ∈ lsm ls ps, Spn (ss ++ os) w) : ∀ x ∈ kst (spn ss) (spn os) ls ps, x < 2 ^ b := fun x hx => by
  obtain ⟨i, hi, rfl⟩ := List.mem_map.mp hx
  have hi := List.mem_range.mp hi
  have m : (lsm ls ps).getD i 0 ∈ lsm ls ps := getD_mem (by rw [lsm_len]; exact hi)
  have p := pin_ok (R := spn ss) (O := spn os) ((span_app2 (spn_span ss) (spn_span os)).mpr (h _ m))
  exact Nat.xor_lt_two_pow (hL _ (getD_mem hi)) (((spn_span ss _).mp p.1).lt hs)
/-! ### starts that span, with the slots, all -/
def wvl (ps I G W : List Nat) (i : Nat) : Nat := G.getD i 0 ^^^ W.getD i 0 ^^^ img ps (I.getD i 0 ^^^ 1 <<< (blen (I.getD i 0) - 1))
def wsf (ps I G W : List Nat) (k : Nat) : List Nat := (List.range k).foldl (fun st i => st.set (blen (I.getD i 0) - 1) (wvl ps I G W i)) ps
theorem wsf_succ (ps I G W : List Nat) (k : Nat) : wsf ps I G W (k + 1) = (wsf ps I G W k).set (blen (I.getD k 0) - 1) (wvl ps I G W k) := by
  unfold wsf
  rw [List.range_succ, List.foldl_append]
  rfl
theorem wsf_len (ps I G W : List Nat) : ∀ k, (wsf ps I G W k).length = ps.length
  | 0 => rfl
  | k + 1 => by rw [wsf_succ, List.length_set, wsf_len ps I G W k]
theorem getD_set' (F : List Nat) (i j v : Nat) (hi : i < F.length) : (F.set i v).getD j 0 = if j = i then v else F.getD j 0 := by
  simp only [List.getD_eq_getElem?_getD, List.getElem?_set]
  by_cases h : i = j
  · subst h; simp [hi]
  · rw [if_neg h, if_neg (fun z => h z.symm)]
theorem tops_ne {I : List Nat} (R : Rws I) {i j : Nat} (hi : i < I.length) (hj : j < I.length) (h : i ≠ j) : blen (I.getD i 0) - 1 ≠ blen (I.getD j 0) - 1 := fun z => by
  have n1 := blen_pos (R.nz _ (getD_mem hi))
  have n2 := blen_pos (R.nz _ (getD_mem hj))
  have e : blen (I.getD i 0) = blen (I.getD j 0) := by omega
  have nd := R.tops_nodup
  have e1 : (I.map blen)[i]? = some (blen (I.getD i 0)) := by
    rw [List.getElem?_map, List.getElem?_eq_getElem hi, List.getD_eq_getElem?_getD, List.getElem?_eq_getElem hi]; rfl
  have e2 : (I.map blen)[j]? = some (blen (I.getD j 0)) := by
    rw [List.getElem?_map, List.getElem?_eq_getElem hj, List.getD_eq_getElem?_getD, List.getElem?_eq_getElem hj]; rfl
  exact h ((List.getElem?_inj (by rw [List.length_map]; exact hi) nd).mp (by rw [e1, e2, e]))
theorem tops_bit {I : List Nat} (R : Rws I) {i j : Nat} (hi : i < I.length) (hj : j < I.length) (h : i ≠ j) : (I.getD i 0).testBit (blen (I.getD j 0) - 1) = false := by
  have p := R.red
  rw [List.pairwise_iff_getElem] at p
  have e1 : I.getD i 0 = I[i] := by rw [List.getD_eq_getElem?_getD, List.getElem?_eq_getElem hi]; rfl
  have e2 : I.getD j 0 = I[j] := by rw [List.getD_eq_getElem?_getD, List.getElem?_eq_getElem hj]; rfl
  rw [e1, e2]
  rcases Nat.lt_or_gt_of_ne h with z | z
  · exact (p i j hi hj z).1
  · exact (p j i hj hi z).2
section
variable {ps I G W : List Nat} (R : Rws I) (hI : ∀ x ∈ I, x < 2 ^ ps.length)
include R hI
theorem wsf_at : ∀ k, k ≤ I.length → (∀ i, i < k → (wsf ps I G W k).getD (blen (I.getD i 0) - 1) 0 = wvl ps I G W i) ∧ ∀ j, (∀ i, i < k → j ≠ blen (I.getD i 0) - 1) → (wsf ps I G W k).getD j 0 = ps.getD j 0
  | 0, _ => ⟨fun i hi => absurd hi (Nat.not_lt_zero _), fun j _ => rfl⟩
  | k + 1, hk => by
    obtain ⟨h1, h2⟩ := wsf_at k (by omega)
    have tl : blen (I.getD k 0) - 1 < (wsf ps I G W k).length := by
      rw [wsf_len]
      have a := blen_le.mpr (hI _ (getD_mem (show k < I.length by omega)))
      have b := blen_pos (R.nz _ (getD_mem (show k < I.length by omega)))
      omega
    rw [wsf_succ]
    refine ⟨fun i hi => ?_, fun j hj => ?_⟩
    · rw [getD_set' _ _ _ _ tl]
      by_cases e : i = k
      · subst e; rw [if_pos rfl]
      · rw [if_neg (tops_ne R (by omega) (by omega) e)]
        exact h1 i (by omega)
    · rw [getD_set' _ _ _ _ tl, if_neg (hj k (by omega))]
      exact h2 j fun i hi => hj i (by omega)
theorem wsf_row {k i : Nat} (hk : k ≤ I.length) (hi : i < k) : img (wsf ps I G W k) (I.getD i 0) = G.getD i 0 ^^^ W.getD i 0 := by
  obtain ⟨h1, h2⟩ := wsf_at R hI k hk
  have nz := R.nz _ (getD_mem (show i < I.length by omega))
  have lt := hI _ (getD_mem (show i < I.length by omega))
  have a := blen_le.mpr lt
  have b := blen_pos nz
  have tb := testBit_top nz
  generalize hx : I.getD i 0 = x at *
  generalize ht : blen x - 1 = t at *
  have e1 : x = 2 ^ t ^^^ (x ^^^ 2 ^ t) := by rw [Nat.xor_comm x, xor_cancel]
  have e2 : img (wsf ps I G W k) (2 ^ t) = wvl ps I G W i := by
    rw [img_unit _ (by rw [wsf_len]; omega)]
    have := h1 i hi
    rwa [hx, ht] at this
  have e3 : img (wsf ps I G W k) (x ^^^ 2 ^ t) = img ps (x ^^^ 2 ^ t) := by
    refine img_at (wsf_len _ _ _ _ _) fun j _ hb => h2 j fun m hm z => ?_
    rw [Nat.testBit_xor, Nat.testBit_two_pow] at hb
    by_cases e : m = i
    · subst e
      rw [hx, ht] at z
      subst z
      rw [tb] at hb
      simp at hb
    · have q := tops_bit R (show i < I.length by omega) (show m < I.length by omega) (Ne.symm e)
      have q2 := tops_ne R (show i < I.length by omega) (show m < I.length by omega) (Ne.symm e)
      rw [hx, ← z] at q
      rw [hx, ht, ← z] at q2
      rw [q] at hb
      simp [q2] at hb
  conv => lhs; rw [e1]
  rw [(lin_img _).x, e2, e3]
  unfold wvl
  rw [hx, ht, Nat.one_shiftLeft, xor_cancel_right]
theorem wsf_to {O : List Nat} {k : Nat} (hk : k ≤ I.length) (h : ∀ i, i < k → Spn O (img ps (I.getD i 0) ^^^ G.getD i 0) ∧ Spn O (W.getD i 0)) : ∀ j, j < ps.length → Spn O ((wsf ps I G W k).getD j 0 ^^^ ps.getD j 0) := fun j hj => by
  obtain ⟨h1, h2⟩ := wsf_at (G := G) (W := W) R hI k hk
  by_cases e : ∃ i, i < k ∧ j = blen (I.getD i 0) - 1
  · obtain ⟨i, hi, rfl⟩ := e
    rw [h1 i hi]
    unfold wvl
    have a := h i hi
    rw [← img_unit ps hj, Nat.xor_assoc, ← (lin_img ps).x, Nat.one_shiftLeft, Nat.xor_assoc (I.getD i 0), Nat.xor_self, Nat.xor_zero]
    have := a.1.xor a.2
    have e : G.getD i 0 ^^^ W.getD i 0 ^^^ img ps (I.getD i 0) = img ps (I.getD i 0) ^^^ G.getD i 0 ^^^ W.getD i 0 := by
      rw [Nat.xor_comm, ← Nat.xor_assoc]
    rw [e]
    exact this
  · rw [h2 j fun i hi z => e ⟨i, hi, z⟩, Nat.xor_self]
    exact .zero
end
/-- the lanes that want what slots of both lead to -/
def wdi (ss os ps : List Nat) : List Nat := ker (ps.map (clr (spn (spn ss ++ spn os))))
def wdg (ss os ps : List Nat) : List Nat := (wdi ss os ps).map fun x => pin (spn ss) (spn os) (img ps x)
def wdw (ss os : List Nat) : List Nat := cmpl (spn ss) (spn os)
def wds (ss os ps : List Nat) : List Nat := wsf ps (wdi ss os ps) (wdg ss os ps) (wdw ss os) (wdw ss os).length
theorem both_sp (ss os : List Nat) (x : Nat) : Spn (spn ss ++ spn os) x ↔ Spn (ss ++ os) x := span_app2 (spn_span ss) (spn_span os)
theorem wdi_span (ss os ps : List Nat) (x : Nat) : Spn (wdi ss os ps) x ↔ x < 2 ^ ps.length ∧ Spn (ss ++ os) (img ps x) := by
  unfold wdi
  rw [span_clr_img, both_sp]
theorem wdi_rws (ss os ps : List Nat) : Rws (wdi ss os ps) := ker_rws _
theorem wds_len (ss os ps : List Nat) : (wds ss os ps).length = ps.length := wsf_len _ _ _ _ _
theorem wdg_at {ss os ps : List Nat} {i : Nat} (h : i < (wdi ss os ps).length) : (wdg ss os ps).getD i 0 = pin (spn ss) (spn os) (img ps ((wdi ss os ps).getD i 0)) := by
  unfold wdg
  simp only [List.getD_eq_getElem?_getD, List.getElem?_map, List.getElem?_eq_getElem h]
  rfl
section
variable {b : Nat} {ss ls os ps : List Nat} (hs : ∀ x ∈ ss, x < 2 ^ b) (hL : ∀ x ∈ ls, x < 2 ^ b) (ho : ∀ x ∈ os, x < 2 ^ b) (hp : ∀ x ∈ ps, x < 2 ^ b) (hl : ls.length = ps.length) (hb : b ≤ rk (ss ++ ls)) (hb2 : b ≤ rk (os ++ ps))
include hs ho hp hl hb in
theorem wdw_le : (wdw ss os).length ≤ (wdi ss os ps).length := by
  have a := ksz (spn ss ++ spn os) ps
  have e1 : (spn (ker (ps.map (clr (spn (spn ss ++ spn os)))))).length = (wdi ss os ps).length := (wdi_rws ss os ps).rk
  have c := cmpl_len (spn_rws ss) (spn os)
  have e2 : rk (spn ss ++ spn os ++ ps) ≤ b := rk_le_bits fun x hx => by
    rcases List.mem_append.mp hx with hx | hx
    · rcases List.mem_append.mp hx with hx | hx
      · exact spn_lt hs x hx
      · exact spn_lt ho x hx
    · exact hp x hx
  have e3 := rk_app_len ss ls
  rw [rk_spn] at c
  have e4 : (wdw ss os).length = (cmpl (spn ss) (spn os)).length := rfl
  omega
theorem wdi_in {i : Nat} (h : i < (wdi ss os ps).length) : Spn ss ((wdg ss os ps).getD i 0) ∧ Spn os (img ps ((wdi ss os ps).getD i 0) ^^^ (wdg ss os ps).getD i 0) := by
  have a := ((wdi_span ss os ps _).mp (.of (getD_mem h))).2
  have p := pin_ok (R := spn ss) (O := spn os) ((both_sp ss os _).mpr a)
  rw [wdg_at h]
  exact ⟨(spn_span ss _).mp p.1, (spn_span os _).mp p.2⟩
theorem wdw_in {i : Nat} (h : i < (wdw ss os).length) : Spn os ((wdw ss os).getD i 0) := (spn_span os _).mp (.of (cmpl_mem _ _ (getD_mem h)))
theorem wdi_lt : ∀ x ∈ wdi ss os ps, x < 2 ^ ps.length := fun x hx => ((wdi_span ss os ps x).mp (.of hx)).1
include hs ho hp hl hb
theorem wds_to (x : Nat) : Spn os (img (wds ss os ps) x ^^^ img ps x) := by
  have le := wdw_le hs ho hp hl hb
  refine img_diff (wds_len ss os ps) (fun i hi => ?_) x
  rw [wds_len] at hi
  exact wsf_to (wdi_rws ss os ps) wdi_lt le (fun m hm => ⟨(wdi_in (by omega)).2, wdw_in hm⟩) i hi
theorem wds_at {i : Nat} (hi : i < ps.length) : Spn os ((wds ss os ps).getD i 0 ^^^ ps.getD i 0) :=
  wsf_to (wdi_rws ss os ps) wdi_lt (wdw_le hs ho hp hl hb) (fun m hm => ⟨(wdi_in (by have := wdw_le hs ho hp hl hb; omega)).2, wdw_in hm⟩) i hi
theorem wds_lt : ∀ x ∈ wds ss os ps, x < 2 ^ b := fun x hx => by
  obtain ⟨i, hi, rfl⟩ := List.mem_iff_getElem.mp hx
  have hi' : i < ps.length := by rwa [wds_len] at hi
  have a := wds_at hs ho hp hl hb hi'
  have e : (wds ss os ps).getD i 0 = (wds ss os ps)[i] := by rw [List.getD_eq_getElem?_getD, List.getElem?_eq_getElem hi]; rfl
  rw [e] at a
  have q := Nat.xor_lt_two_pow (a.lt ho) (hp _ (getD_mem hi'))
  rwa [xor_cancel_right] at q
include hb2
/-- with the slots they span all -/
theorem wds_all : b ≤ rk (ss ++ wds ss os ps) := by
  have le := wdw_le hs ho hp hl hb
  have key : ∀ i, i < (wdw ss os).length → Spn (ss ++ wds ss os ps) ((wdw ss os).getD i 0) := fun i hi => by
    have r := wsf_row (G := wdg ss os ps) (W := wdw ss os) (wdi_rws ss os ps) wdi_lt le hi
    have a : Spn (ss ++ wds ss os ps) (img (wds ss os ps) ((wdi ss os ps).getD i 0)) := by
      refine (img_in _ ?_).sub fun y hy => List.mem_append_right _ hy
      rw [wds_len]
      exact wdi_lt _ (getD_mem (by omega))
    have r' : img (wds ss os ps) ((wdi ss os ps).getD i 0) = (wdg ss os ps).getD i 0 ^^^ (wdw ss os).getD i 0 := r
    rw [r'] at a
    have g : Spn (ss ++ wds ss os ps) ((wdg ss os ps).getD i 0) := (wdi_in (ss := ss) (os := os) (ps := ps) (i := i) (by omega)).1.sub fun y hy => List.mem_append_left _ hy
    have := g.xor a
    rwa [xor_cancel] at this
  have cs := cms_span (spn_rws ss) (spn os)
  have os_in : ∀ x, Spn os x → Spn (ss ++ wds ss os ps) x := fun x hx => by
    have h1 : Spn (spn ss ++ spn os) x := ((spn_span os x).mpr hx).sub fun y hy => List.mem_append_right _ hy
    have h2 := (cs.2 x).mp ((cs.1 x).mpr h1)
    refine h2.mono fun y hy => ?_
    rcases List.mem_append.mp hy with hy | hy
    · exact ((spn_span ss y).mp (.of hy)).sub fun z hz => List.mem_append_left _ hz
    · obtain ⟨i, hi, rfl⟩ := List.mem_iff_getElem.mp hy
      have e : (wdw ss os).getD i 0 = (cms (spn ss) (spn os)).2[i] := by
        have hi' : i < (wdw ss os).length := hi
        rw [List.getD_eq_getElem?_getD, List.getElem?_eq_getElem hi']; rfl
      rw [← e]
      exact key i hi
  refine Nat.le_trans hb2 (rk_le fun x hx => ?_)
  rcases List.mem_append.mp hx with hx | hx
  · exact os_in x (.of hx)
  · obtain ⟨i, hi, rfl⟩ := List.mem_iff_getElem.mp hx
    have a := os_in _ (wds_at hs ho hp hl hb hi)
    have c : Spn (ss ++ wds ss os ps) ((wds ss os ps).getD i 0) := (Spn.of (getD_mem (by rw [wds_len]; exact hi))).sub fun z hz => List.mem_append_right _ hz
    have d := c.xor a
    rw [xor_cancel] at d
    have e : ps.getD i 0 = ps[i] := by rw [List.getD_eq_getElem?_getD, List.getElem?_eq_getElem hi]; rfl
    rwa [e] at d
end
/-! ### lanes that show -/
def shi (b : Nat) (ss st : List Nat) : List Nat := mtd b (spn st) (spn ss)
def sho (b : Nat) (ss st : List Nat) : List Nat := cmpl (shi b ss st) (spn st)
def shL (b : Nat) (ss ls st : List Nat) : List Nat := (twn ss ls).take (shi b ss st).length ++ (sho b ss st).map (lno ss ls)
def shn (b : Nat) (ss ls st : List Nat) : List Nat := st.map fun w => img (shL b ss ls st) (slv (shi b ss st ++ sho b ss st) w)
section
variable {b : Nat} {ss ls st : List Nat} (hs : ∀ x ∈ ss, x < 2 ^ b) (hL : ∀ x ∈ ls, x < 2 ^ b) (hS : ∀ x ∈ st, x < 2 ^ b) (hl : st.length = ls.length) (hb : b ≤ rk (ss ++ ls)) (hst : b ≤ rk (ss ++ st))
include hS in
theorem shi_span (x : Nat) : Spn (shi b ss st) x ↔ Spn st x ∧ Spn ss x := by
  unfold shi
  rw [mtd_span (spn_lt hS), spn_span, spn_span]
include hS in
theorem sh_base : (∀ x, Spn (shi b ss st ++ sho b ss st) x ↔ Spn st x) ∧ rk (shi b ss st ++ sho b ss st) = (shi b ss st ++ sho b ss st).length := by
  have a := base_of (A := shi b ss st) (B := spn st) (mtd_rws _ _ _) fun x hx => (spn_span st x).mpr ((shi_span hS x).mp (.of hx)).1
  exact ⟨fun x => (a.1 x).trans (spn_span st x), a.2.1⟩
include hs hL hS hl hb hst
theorem shi_le : (shi b ss st).length ≤ (twn ss ls).length := by
  have a := mtd_len (b := b) (spn_rws st) (spn_rws ss) (spn_lt hS)
  have t := twn_size ss ls
  have e : rk (spn st ++ spn ss) = rk (ss ++ st) := rk_eq fun x => (both_sp st ss x).trans (span_swap st ss x)
  have e1 : (spn st).length = rk st := rfl
  have e2 : (spn ss).length = rk ss := rfl
  have e3 := rk_len st
  have e4 : (shi b ss st).length = (mtd b (spn st) (spn ss)).length := rfl
  have e5 : rk (ss ++ ls) ≤ b := rk_le_bits fun x hx => by
    rcases List.mem_append.mp hx with hx | hx
    · exact hs x hx
    · exact hL x hx
  omega
theorem shL_len : (shL b ss ls st).length = (shi b ss st ++ sho b ss st).length := by
  have := shi_le hs hL hS hl hb hst
  unfold shL
  rw [List.length_append, List.length_append, List.length_take, List.length_map]
  omega
theorem sho_lt : ∀ x ∈ sho b ss st, x < 2 ^ b := fun x hx => ((spn_span st x).mp (.of (cmpl_mem _ x hx))).lt hS
theorem shL_lt : ∀ x ∈ shL b ss ls st, x < 2 ^ ls.length := fun x hx => by
  rcases List.mem_append.mp hx with hx | hx
  · exact twn_lt (.of (List.mem_of_mem_take hx))
  · obtain ⟨w, hw, rfl⟩ := List.mem_map.mp hx
    exact (lno_ok hs hL hb (sho_lt hs hL hS hl hb hst w hw)).1
theorem sh_from (c : Nat) : Spn ss (img ls (img (shL b ss ls st) c) ^^^ img (shi b ss st ++ sho b ss st) c) := by
  have le := shi_le hs hL hS hl hb hst
  rw [← img_map (lin_img ls)]
  refine img_diff (by rw [List.length_map, shL_len hs hL hS hl hb hst]) (fun i hi => ?_) c
  rw [List.length_map, shL_len hs hL hS hl hb hst, List.length_append] at hi
  have tl : ((twn ss ls).take (shi b ss st).length).length = (shi b ss st).length := by rw [List.length_take]; omega
  by_cases z : i < (shi b ss st).length
  · have e1 : (shL b ss ls st).getD i 0 = (twn ss ls).getD i 0 := by
      unfold shL
      simp only [List.getD_eq_getElem?_getD, List.getElem?_append_left (show i < ((twn ss ls).take (shi b ss st).length).length by omega), List.getElem?_take, if_pos z]
    have e2 : (shi b ss st ++ sho b ss st).getD i 0 = (shi b ss st).getD i 0 := by
      simp only [List.getD_eq_getElem?_getD, List.getElem?_append_left z]
    have e3 : ((shL b ss ls st).map (img ls)).getD i 0 = img ls ((shL b ss ls st).getD i 0) := by
      have : i < (shL b ss ls st).length := by rw [shL_len hs hL hS hl hb hst, List.length_append]; omega
      simp only [List.getD_eq_getElem?_getD, List.getElem?_map, List.getElem?_eq_getElem this]; rfl
    rw [e3, e1, e2]
    exact ((twn_span ss ls _).mp (.of (getD_mem (by omega)))).2.xor ((shi_span hS _).mp (.of (getD_mem z))).2
  · have e1 : (shL b ss ls st).getD i 0 = lno ss ls ((sho b ss st).getD (i - (shi b ss st).length) 0) := by
      unfold shL
      have : i - (shi b ss st).length < (sho b ss st).length := by omega
      simp only [List.getD_eq_getElem?_getD, List.getElem?_append_right (show ((twn ss ls).take (shi b ss st).length).length ≤ i by omega), tl, List.getElem?_map, List.getElem?_eq_getElem this]
      rfl
    have e2 : (shi b ss st ++ sho b ss st).getD i 0 = (sho b ss st).getD (i - (shi b ss st).length) 0 := by
      simp only [List.getD_eq_getElem?_getD, List.getElem?_append_right (show (shi b ss st).length ≤ i by omega)]
    have e3 : ((shL b ss ls st).map (img ls)).getD i 0 = img ls ((shL b ss ls st).getD i 0) := by
      have : i < (shL b ss ls st).length := by rw [shL_len hs hL hS hl hb hst, List.length_append]; omega
      simp only [List.getD_eq_getElem?_getD, List.getElem?_map, List.getElem?_eq_getElem this]; rfl
    rw [e3, e1, e2]
    exact lno_span hs hL hb (sho_lt hs hL hS hl hb hst _ (getD_mem (by omega)))
theorem lin_sh : Lin fun w => img (shL b ss ls st) (slv (shi b ss st ++ sho b ss st) w) := (lin_img _).comp (lin_slv _)
theorem shn_img (x : Nat) : img (shn b ss ls st) x = img (shL b ss ls st) (slv (shi b ss st ++ sho b ss st) (img st x)) := img_map (lin_sh hs hL hS hl hb hst) st x
theorem shn_from {x : Nat} (hx : x < 2 ^ st.length) : Spn ss (img ls (img (shn b ss ls st) x) ^^^ img st x) := by
  rw [shn_img hs hL hS hl hb hst]
  have a := slv_ok (((sh_base (b := b) (ss := ss) hS).1 _).mpr (img_in st hx))
  have c := sh_from hs hL hS hl hb hst (slv (shi b ss st ++ sho b ss st) (img st x))
  rwa [a.2] at c
theorem shn_lt : ∀ x ∈ shn b ss ls st, x < 2 ^ ls.length := fun x hx => by
  obtain ⟨w, _, rfl⟩ := List.mem_map.mp hx
  exact imf_lt (shL_lt hs hL hS hl hb hst) _ _
theorem shn_inj {x y : Nat} (hx : x < 2 ^ st.length) (hy : y < 2 ^ st.length) (h : img (shn b ss ls st) x = img (shn b ss ls st) y) : img st x = img st y := by
  have z : x ^^^ y < 2 ^ st.length := Nat.xor_lt_two_pow hx hy
  have e : img (shn b ss ls st) (x ^^^ y) = 0 := by rw [(lin_img _).x, h, Nat.xor_self]
  have fr := shn_from hs hL hS hl hb hst z
  rw [e, (lin_img ls).z, Nat.zero_xor] at fr
  rw [shn_img hs hL hS hl hb hst] at e
  have inst := img_in st z
  obtain ⟨c1, c2⟩ := slv_ok (((sh_base (b := b) (ss := ss) hS).1 _).mpr inst)
  have inner : Spn (shi b ss st) (img st (x ^^^ y)) := (shi_span hS _).mpr ⟨inst, fr⟩
  obtain ⟨w, hw, e2⟩ := span_img (cols := shi b ss st) (Nat.le_refl _) (by rw [List.take_length]; exact inner)
  have e3 : img (shi b ss st ++ sho b ss st) w = img (shi b ss st) w := by
    have := img_app (P := shi b ss st) (Q := sho b ss st) (y := 0) hw
    rwa [Nat.zero_shiftLeft, Nat.xor_zero, (lin_img _).z, Nat.xor_zero] at this
  have hw2 : w < 2 ^ (shi b ss st ++ sho b ss st).length := Nat.lt_of_lt_of_le hw (Nat.pow_le_pow_right (by decide) (by rw [List.length_append]; omega))
  have e4 : slv (shi b ss st ++ sho b ss st) (img st (x ^^^ y)) = w := img_inj2 (sh_base hS).2 c1 hw2 (by rw [c2, e3, e2])
  rw [e4] at e
  have le := shi_le hs hL hS hl hb hst
  have tl : ((twn ss ls).take (shi b ss st).length).length = (shi b ss st).length := by rw [List.length_take]; omega
  have e5 : img (shL b ss ls st) w = img ((twn ss ls).take (shi b ss st).length) w := by
    have := img_app (P := (twn ss ls).take (shi b ss st).length) (Q := (sho b ss st).map (lno ss ls)) (x := w) (y := 0) (by rw [tl]; exact hw)
    rwa [Nat.zero_shiftLeft, Nat.xor_zero, (lin_img _).z, Nat.xor_zero] at this
  rw [e5] at e
  have R : Rws ((twn ss ls).take (shi b ss st).length) := by
    have A : Rws (twn ss ls) := spn_rws _
    exact ⟨fun r hr => A.nz r (List.mem_of_mem_take hr), A.red.sublist (List.take_sublist _ _)⟩
  have w0 := img_inj R.rk (by rw [tl]; exact hw) e
  rw [w0, (lin_img _).z] at e2
  have := e2.symm
  rw [(lin_img st).x] at this
  exact xor_eq_zero this
end
/-! ### a plan -/
structure Pln (b : Nat) (ss ls os ps st sh wd : List Nat) (sk : Nat) : Prop where
  sl : st.length = ls.length
  hl : sh.length = ls.length
  wl : wd.length = rk os
  sm : ∀ x ∈ st, x < 2 ^ b
  hm : ∀ x ∈ sh, x < 2 ^ ls.length
  wm : ∀ x ∈ wd, x < 2 ^ b
  wi : rk wd = wd.length
  ws : ∀ x, Spn wd x ↔ Spn os x
  to : ∀ x, Spn os (img st x ^^^ img ps x)
  fr : ∀ x, x < 2 ^ ls.length → Spn ss (img ls (img sh x) ^^^ img st x)
  inj : ∀ x y, x < 2 ^ ls.length → y < 2 ^ ls.length → img sh x = img sh y → img st x = img st y
  sk1 : 2 ^ wd.length - sk = fwr ss ls os ps
  sk2 : sk ≤ 2 ^ wd.length
  low : ∀ f x, f < sk → Spn ss (img wd f ^^^ (img st x ^^^ img ls x))
  high : ∀ f x, sk ≤ f → f < 2 ^ wd.length → x < 2 ^ ls.length → sk ≠ 0 → ¬ Spn ss (img wd f ^^^ (img st x ^^^ img ls x))
theorem img_units {n x : Nat} (h : x < 2 ^ n) : img ((List.range n).map fun i => 1 <<< i) x = x := by
  have key : ∀ m, m ≤ n → imf ((List.range n).map fun i => 1 <<< i) x m = x % 2 ^ m := by
    intro m
    induction m with
    | zero => intro _; simp [imf, Nat.mod_one]
    | succ m ih =>
      intro hm
      rw [imf_succ, ih (by omega), map_range_getD _ (by omega), Nat.one_shiftLeft]
      apply Nat.eq_of_testBit_eq
      intro j
      rw [Nat.testBit_mod_two_pow]
      split
      · rename_i z
        rw [Nat.testBit_xor, Nat.testBit_mod_two_pow, Nat.testBit_two_pow]
        by_cases e : m = j
        · subst e; simp [z]
        · by_cases e2 : j < m
          · simp [e, e2, show j < m + 1 by omega]
          · simp [e, e2, show ¬ j < m + 1 by omega]
      · rename_i z
        rw [Nat.testBit_mod_two_pow]
        by_cases e : j = m
        · subst e; simp [z]
        · by_cases e2 : j < m
          · simp [e2, show j < m + 1 by omega]
          · simp [e2, show ¬ j < m + 1 by omega]
  unfold img
  rw [List.length_map, List.length_range, key n (Nat.le_refl _), Nat.mod_eq_of_lt h]
section
variable {b : Nat} {ss ls os ps : List Nat} (hs : ∀ x ∈ ss, x < 2 ^ b) (hL : ∀ x ∈ ls, x < 2 ^ b) (ho : ∀ x ∈ os, x < 2 ^ b) (hp : ∀ x ∈ ps, x < 2 ^ b) (hl : ls.length = ps.length) (hb : b ≤ rk (ss ++ ls)) (hb2 : b ≤ rk (os ++ ps))
def kwd (b : Nat) (ss os : List Nat) : List Nat := mtd b (spn ss) (spn os) ++ cmpl (mtd b (spn ss) (spn os)) (spn os)
include hs hL ho hl
theorem pln_keep (h : ∀ w ∈ lsm ls ps, Spn (ss ++ os) w) : Pln b ss ls os ps (kst (spn ss) (spn os) ls ps) ((List.range ls.length).map fun i => 1 <<< i) (kwd b ss os) (2 ^ (mtd b (spn ss) (spn os)).length) := by
  have key : ∀ y, Spn (mtd b (spn ss) (spn os)) y ↔ Spn ss y ∧ Spn os y := fun y => by rw [mtd_span (spn_lt hs), spn_span, spn_span]
  have B := base_of (A := mtd b (spn ss) (spn os)) (B := spn os) (mtd_rws _ _ _) fun x hx => (spn_span os x).mpr ((key x).mp (.of hx)).2
  have wl : (kwd b ss os).length = rk os := B.2.2.trans (rk_spn os)
  have ws : ∀ x, Spn (kwd b ss os) x ↔ Spn os x := fun x => (B.1 x).trans (spn_span os x)
  have ml := mtd_shr (os := os) hs
  have mle : (mtd b (spn ss) (spn os)).length ≤ (kwd b ss os).length := by unfold kwd; rw [List.length_append]; omega
  have ap : ∀ f, f < 2 ^ (mtd b (spn ss) (spn os)).length → img (kwd b ss os) f = img (mtd b (spn ss) (spn os)) f := fun f hf => by
    have := img_app (P := mtd b (spn ss) (spn os)) (Q := cmpl (mtd b (spn ss) (spn os)) (spn os)) (y := 0) hf
    rwa [Nat.zero_shiftLeft, Nat.xor_zero, (lin_img _).z, Nat.xor_zero] at this
  have ks := fun x => kst_ok hl h x
  refine ⟨kst_len _ _ _ _, by simp, wl, kst_lt hs hL h, fun x hx => ?_, fun x hx => ((ws x).mp (.of hx)).lt ho, B.2.1, ws, fun x => (ks x).2, fun x hx => ?_, fun x y hx hy z => ?_, ?_, Nat.pow_le_pow_right (by decide) mle, fun f x hf => ?_, fun f x h1 h2 hx _ z => ?_⟩
  · obtain ⟨i, hi, rfl⟩ := List.mem_map.mp hx
    rw [Nat.one_shiftLeft]
    exact Nat.pow_lt_pow_right (by decide) (List.mem_range.mp hi)
  · rw [img_units hx, Nat.xor_comm]
    exact (ks x).1
  · rw [img_units hx, img_units hy] at z
    rw [z]
  · rw [wl, ml]
    unfold fwr
    rw [if_pos h]
  · rw [ap f hf]
    exact ((key _).mp (img_in _ hf)).1.xor (ks x).1
  · have z1 := z.xor (ks x).1
    rw [xor_cancel_right] at z1
    have z2 : Spn (mtd b (spn ss) (spn os)) (img (kwd b ss os) f) := (key _).mpr ⟨z1, (ws _).mp (img_in _ h2)⟩
    obtain ⟨w, hw, e⟩ := span_img (cols := mtd b (spn ss) (spn os)) (Nat.le_refl _) (by rw [List.take_length]; exact z2)
    have hw2 : w < 2 ^ (kwd b ss os).length := Nat.lt_of_lt_of_le hw (Nat.pow_le_pow_right (by decide) mle)
    have := img_inj2 B.2.1 h2 hw2 (e.symm.trans (ap w hw).symm)
    omega
include hp hb hb2
theorem pln_wide (h : ¬ ∀ w ∈ lsm ls ps, Spn (ss ++ os) w) : Pln b ss ls os ps (wds ss os ps) (shn b ss ls (wds ss os ps)) (spn os) 0 := by
  have hS := wds_lt hs ho hp hl hb
  have hl2 : (wds ss os ps).length = ls.length := (wds_len ss os ps).trans hl.symm
  have al := wds_all hs ho hp hl hb hb2
  refine ⟨hl2, by unfold shn; rw [List.length_map, hl2], rfl, hS, shn_lt hs hL hS hl2 hb al, spn_lt ho, (spn_rws os).rk, spn_span os, wds_to hs ho hp hl hb, fun x hx => shn_from hs hL hS hl2 hb al (by rw [hl2]; exact hx), fun x y hx hy z => shn_inj hs hL hS hl2 hb al (by rw [hl2]; exact hx) (by rw [hl2]; exact hy) z, ?_, Nat.zero_le _, fun f x hf => absurd hf (Nat.not_lt_zero _), fun f x _ _ _ z => absurd rfl z⟩
  unfold fwr
  rw [if_neg h, Nat.sub_zero]
  rfl
end
end LaneX
set_option linter.all false
namespace LaneX
/-! ### what a plan of rounds tells -/
section
variable {b : Nat} {ss ls os ps st sh wd : List Nat} {sk : Nat} (pn : Pln b ss ls os ps st sh wd sk) (hs : ∀ x ∈ ss, x < 2 ^ b) (hL : ∀ x ∈ ls, x < 2 ^ b) (hb : b ≤ rk (ss ++ ls))
include pn
theorem Pln.wlt (n : Nat) : img wd n < 2 ^ b := imf_lt pn.wm _ _
theorem Pln.win {n : Nat} (h : n < 2 ^ wd.length) : Spn os (img wd n) := (pn.ws _).mp (img_in _ h)
theorem Pln.want {L n : Nat} (h : n < 2 ^ wd.length) : Spn os ((img st L ^^^ img wd n) ^^^ img ps L) := by
  have a := (pn.to L).xor (pn.win h)
  have e : img st L ^^^ img ps L ^^^ img wd n = (img st L ^^^ img wd n) ^^^ img ps L := by
    rw [Nat.xor_assoc, Nat.xor_comm (img ps L), ← Nat.xor_assoc]
  rwa [e] at a
theorem Pln.one {f g : Nat} (hf : f < 2 ^ wd.length) (hg : g < 2 ^ wd.length) (h : img wd f = img wd g) : f = g := img_inj2 pn.wi hf hg h
theorem Pln.in_wanted {L e : Nat} : Spn os (e ^^^ img st L) ↔ Spn os (e ^^^ img ps L) := by
  constructor
  · intro h
    have := h.xor (pn.to L)
    have e2 : e ^^^ img st L ^^^ (img st L ^^^ img ps L) = e ^^^ img ps L := by rw [Nat.xor_assoc, xor_cancel]
    rwa [e2] at this
  · intro h
    have := h.xor (pn.to L)
    have e2 : e ^^^ img ps L ^^^ (img st L ^^^ img ps L) = e ^^^ img st L := by rw [xor4, Nat.xor_self, Nat.xor_zero]
    rwa [e2] at this
include hs hL hb
theorem Pln.src {L : Nat} (n : Nat) : img sh L ^^^ lno ss ls (img wd n) < 2 ^ ls.length :=
  Nat.xor_lt_two_pow (imf_lt pn.hm _ _) (lno_ok hs hL hb (pn.wlt n)).1
theorem Pln.hold {L : Nat} (n : Nat) (h : L < 2 ^ ls.length) : Spn ss ((img st L ^^^ img wd n) ^^^ img ls (img sh L ^^^ lno ss ls (img wd n))) := by
  rw [(lin_img ls).x]
  have a := (pn.fr L h).xor (lno_span hs hL hb (pn.wlt n))
  have e : img ls (img sh L) ^^^ img st L ^^^ (img ls (lno ss ls (img wd n)) ^^^ img wd n) = (img st L ^^^ img wd n) ^^^ (img ls (img sh L) ^^^ img ls (lno ss ls (img wd n))) := by
    rw [xor4, Nat.xor_comm]
  rwa [e] at a
end
/-! ### the least lane that keeps nothing -/
/-- the lanes of one bit that keep nothing -/
def sty (ss ls os ps : List Nat) : List Nat := (List.range ls.length).filter fun i => !decide (clr (rws (ss ++ os)) (ls.getD i 0 ^^^ ps.getD i 0) = 0)
theorem clr_rws' {ws : List Nat} {x : Nat} : clr (rws ws) x = 0 ↔ Spn ws x := by rw [← (rws_hws ws).span, rws_span]
section
variable {b : Nat} {ss ls os ps : List Nat} (hs : ∀ x ∈ ss, x < 2 ^ b) (hl : ls.length = ps.length)
theorem sty_nil : sty ss ls os ps = [] ↔ ∀ w ∈ lsm ls ps, Spn (ss ++ os) w := by
  unfold sty
  rw [List.filter_eq_nil_iff]
  constructor
  · intro h w hw
    obtain ⟨i, hi, rfl⟩ := List.mem_map.mp hw
    have := h i hi
    simp only [Bool.not_eq_true', Bool.not_eq_true, decide_eq_false_iff_not, Decidable.not_not] at this
    exact clr_rws'.mp (by simpa using this)
  · intro h i hi
    have := clr_rws'.mpr (h _ (List.mem_map.mpr ⟨i, hi, rfl⟩))
    rw [decide_eq_true this]; decide
theorem head_least : ∀ {l : List Nat} {n : Nat} {p : Nat → Bool} {j : Nat} {r : List Nat}, (List.range n).filter p = j :: r → j < n ∧ p j = true ∧ ∀ i, i < j → p i = false := by
  intro l n p j r h
  have m : j ∈ (List.range n).filter p := by rw [h]; exact .head _
  have m' := List.mem_filter.mp m
  refine ⟨List.mem_range.mp m'.1, m'.2, fun i hi => ?_⟩
  cases q : p i with
  | false => rfl
  | true =>
    have mi : i ∈ (List.range n).filter p := List.mem_filter.mpr ⟨List.mem_range.mpr (by have := List.mem_range.mp m'.1; omega), q⟩
    rw [h] at mi
    have sorted : ((List.range n).filter p).Pairwise (· < ·) := List.Pairwise.filter _ List.pairwise_lt_range
    rw [h] at sorted
    rcases List.mem_cons.mp mi with e | e
    · omega
    · have := (List.pairwise_cons.mp sorted).1 i e
      omega
include hs hl
theorem sty_due {j : Nat} {r : List Nat} (h : sty ss ls os ps = j :: r) : j < ls.length ∧ due ss ls os ps (2 ^ j) = fwr ss ls os ps ∧ ∀ L, L < 2 ^ j → due ss ls os ps L ≠ fwr ss ls os ps := by
  obtain ⟨h1, h2, h3⟩ := head_least (l := []) h
  have at_ : ∀ i, i < ls.length → img (lsm ls ps) (2 ^ i) = ls.getD i 0 ^^^ ps.getD i 0 := fun i hi => by rw [img_unit _ (by rw [lsm_len]; exact hi), lsm_at hi]
  have out : ¬ Spn (ss ++ os) (img (lsm ls ps) (2 ^ j)) := by
    rw [at_ j h1, ← clr_rws']
    simpa using h2
  have nall : ¬ ∀ w ∈ lsm ls ps, Spn (ss ++ os) w := fun z => by
    rw [← sty_nil, h] at z
    cases z
  have e1 : fwr ss ls os ps = 2 ^ rk os := by unfold fwr; rw [if_neg nall]
  refine ⟨h1, ?_, fun L hL => ?_⟩
  · rw [due_eq hs hl, if_neg out, e1]
  · have inn : Spn (ss ++ os) (img (lsm ls ps) L) := by
      have key : ∀ n, n ≤ j → ∀ x, x < 2 ^ n → Spn (ss ++ os) (img (lsm ls ps) x) := by
        intro n
        induction n with
        | zero =>
          intro _ x hx
          have : x = 0 := by simpa using hx
          subst this
          rw [(lin_img _).z]; exact .zero
        | succ n ih =>
          intro hn x hx
          rcases bit_split hx with q | ⟨q, _⟩
          · exact ih (by omega) x q
          · have a := ih (by omega) _ q
            have c : Spn (ss ++ os) (img (lsm ls ps) (2 ^ n)) := by
              rw [at_ n (by omega), ← clr_rws']
              simpa using h3 n (by omega)
            have d := a.xor c
            rwa [← (lin_img _).x, xor_cancel_right] at d
      exact key j (Nat.le_refl _) L hL
    rw [due_eq hs hl, if_pos inn, e1]
    have := Nat.two_pow_pos (shr ss os)
    have := Nat.two_pow_pos (rk os)
    omega
/-- the short lane is told -/
theorem short_is {L : Nat} (h1 : due ss ls os ps L = fwr ss ls os ps) (h2 : ∀ i, i < L → due ss ls os ps i ≠ fwr ss ls os ps) : L = match sty ss ls os ps with | [] => 0 | j :: _ => 2 ^ j := by
  cases q : sty ss ls os ps with
  | nil =>
    have a := sty_nil.mp q
    refine Classical.byContradiction fun z => ?_
    exact h2 0 (by simp at z; omega) (due_all hs hl a 0)
  | cons j r =>
    obtain ⟨_, d1, d2⟩ := sty_due hs hl q
    show L = 2 ^ j
    rcases Nat.lt_trichotomy L (2 ^ j) with z | z | z
    · exact absurd h1 (d2 L z)
    · exact z
    · exact absurd d1 (h2 _ z)
end
end LaneX
set_option linter.all false
namespace LaneX
/-! ### side by side (k62) -/
def jn (n : Nat) (A B : List Nat) : List Nat := A ++ B.map fun x => x <<< n
theorem jn_len (n : Nat) (A B : List Nat) : (jn n A B).length = A.length + B.length := by simp [jn]
theorem lin_shl (n : Nat) : Lin fun x => x <<< n := ⟨Nat.zero_shiftLeft n, fun a b => Nat.shiftLeft_xor_distrib⟩
theorem low_split {n a b c d : Nat} (ha : a < 2 ^ n) (hc : c < 2 ^ n) (h : a ^^^ b <<< n = c ^^^ d <<< n) : a = c ∧ b = d := by
  have e1 := congrArg (fun x => x >>> n) h
  simp only [Nat.shiftRight_xor_distrib, shl_shr] at e1
  rw [Nat.shiftRight_eq_zero _ _ ha, Nat.shiftRight_eq_zero _ _ hc, Nat.zero_xor, Nat.zero_xor] at e1
  subst e1
  have e2 := congrArg (fun x => x ^^^ b <<< n) h
  simp only [xor_cancel_right] at e2
  exact ⟨e2, rfl⟩
theorem jn_span {n : Nat} {A B : List Nat} (x : Nat) : Spn (jn n A B) x ↔ ∃ a b, Spn A a ∧ Spn B b ∧ x = a ^^^ b <<< n := by
  constructor
  · intro h
    obtain ⟨a, c, h1, h2, rfl⟩ := span_split h
    obtain ⟨b, h3, rfl⟩ := (lin_shl n).back h2
    exact ⟨a, b, h1, h3, rfl⟩
  · rintro ⟨a, b, h1, h2, rfl⟩
    exact (h1.sub fun y hy => List.mem_append_left _ hy).xor (((lin_shl n).spn h2).sub fun y hy => List.mem_append_right _ hy)
theorem jn_in {n : Nat} {A B : List Nat} (hA : ∀ x ∈ A, x < 2 ^ n) {a b : Nat} (ha : a < 2 ^ n) : Spn (jn n A B) (a ^^^ b <<< n) ↔ Spn A a ∧ Spn B b := by
  rw [jn_span]
  constructor
  · rintro ⟨c, d, h1, h2, e⟩
    obtain ⟨rfl, rfl⟩ := low_split ha (h1.lt hA) e
    exact ⟨h1, h2⟩
  · rintro ⟨h1, h2⟩
    exact ⟨a, b, h1, h2, rfl⟩
theorem jn_ind {n : Nat} {A B : List Nat} (hA : ∀ x ∈ A, x < 2 ^ n) (iA : Ind A) (iB : Ind B) : Ind (jn n A B) := by
  induction iB with
  | nil => simpa [jn] using iA
  | snoc h1 h2 ih =>
    rename_i a w
    have e : jn n A (a ++ [w]) = jn n A a ++ [w <<< n] := by simp [jn]
    rw [e]
    refine .snoc ih fun z => h2 ?_
    have z' : Spn (jn n A a) (0 ^^^ w <<< n) := by rw [Nat.zero_xor]; exact z
    exact ((jn_in hA (Nat.two_pow_pos n)).mp z').2
theorem jn_rk {n : Nat} {A B : List Nat} (hA : ∀ x ∈ A, x < 2 ^ n) : rk (jn n A B) = rk A + rk B := by
  have e : rk (jn n A B) = rk (jn n (spn A) (spn B)) := rk_eq fun x => by
    rw [jn_span, jn_span]
    constructor
    · rintro ⟨a, b, h1, h2, rfl⟩
      exact ⟨a, b, (spn_span A a).mpr h1, (spn_span B b).mpr h2, rfl⟩
    · rintro ⟨a, b, h1, h2, rfl⟩
      exact ⟨a, b, (spn_span A a).mp h1, (spn_span B b).mp h2, rfl⟩
  rw [e, (jn_ind (spn_lt hA) (spn_rws A).ind (spn_rws B).ind).rk, jn_len]
  rfl
/-- two and two, side by side -/
theorem jn_app {n : Nat} {A B C D : List Nat} (x : Nat) : Spn (jn n A B ++ jn n C D) x ↔ Spn (jn n (A ++ C) (B ++ D)) x := by
  have p : (jn n A B ++ jn n C D).Perm (jn n (A ++ C) (B ++ D)) := by
    unfold jn
    rw [List.map_append, List.append_assoc, List.append_assoc]
    refine List.Perm.append_left A ?_
    rw [← List.append_assoc, ← List.append_assoc]
    exact List.Perm.append_right _ List.perm_append_comm
  exact ⟨fun h => h.sub fun w hw => p.mem_iff.mp hw, fun h => h.sub fun w hw => p.mem_iff.mpr hw⟩
theorem jn_lt {n m : Nat} {A B : List Nat} (hA : ∀ x ∈ A, x < 2 ^ n) (hB : ∀ x ∈ B, x < 2 ^ m) : ∀ x ∈ jn n A B, x < 2 ^ (n + m) := fun x hx => by
  rcases List.mem_append.mp hx with hx | hx
  · exact Nat.lt_of_lt_of_le (hA x hx) (Nat.pow_le_pow_right (by decide) (by omega))
  · obtain ⟨y, hy, rfl⟩ := List.mem_map.mp hx
    rw [Nat.shiftLeft_eq, Nat.pow_add, Nat.mul_comm (2 ^ n)]
    exact Nat.mul_lt_mul_of_pos_right (hB y hy) (Nat.two_pow_pos n)
theorem jn_img {n : Nat} {A B : List Nat} {x y : Nat} (h : x < 2 ^ A.length) : img (jn n A B) (x ^^^ y <<< A.length) = img A x ^^^ img B y <<< n := by
  unfold jn
  rw [img_app h, img_map (lin_shl n)]
theorem shr_le' (ss os : List Nat) : shr ss os ≤ rk os ∧ shr ss os ≤ rk ss ∧ rk (ss ++ os) + shr ss os = rk ss + rk os := by
  have a := rk_app ss os
  have b := rk_left ss os
  have c := rk_right ss os
  unfold shr
  omega
theorem jn_shr {n : Nat} {A B C D : List Nat} (hA : ∀ x ∈ A, x < 2 ^ n) (hC : ∀ x ∈ C, x < 2 ^ n) : shr (jn n A B) (jn n C D) = shr A C + shr B D := by
  have a := shr_le' A C
  have b := shr_le' B D
  have c := shr_le' (jn n A B) (jn n C D)
  have e : rk (jn n A B ++ jn n C D) = rk (A ++ C) + rk (B ++ D) := by
    rw [rk_eq jn_app, jn_rk fun x hx => by
      rcases List.mem_append.mp hx with hx | hx
      · exact hA x hx
      · exact hC x hx]
  have r1 := jn_rk (B := B) hA
  have r2 := jn_rk (B := D) hC
  omega
section
variable {n m : Nat} {s1 l1 o1 p1 s2 l2 o2 p2 : List Nat} (hs1 : ∀ x ∈ s1, x < 2 ^ n) (hl1 : ∀ x ∈ l1, x < 2 ^ n) (ho1 : ∀ x ∈ o1, x < 2 ^ n) (hp1 : ∀ x ∈ p1, x < 2 ^ n) (hs2 : ∀ x ∈ s2, x < 2 ^ m) (e1 : l1.length = p1.length) (e2 : l2.length = p2.length)
/-- what a lane holds of what it wants -/
noncomputable def hld (ss ls os ps : List Nat) (L : Nat) : Nat := 2 ^ rk os - due ss ls os ps L
open Classical in
theorem hld_eq {b : Nat} {ss ls os ps : List Nat} (hs : ∀ x ∈ ss, x < 2 ^ b) (h : ls.length = ps.length) (L : Nat) : hld ss ls os ps L = if Spn (ss ++ os) (img ls L ^^^ img ps L) then 2 ^ shr ss os else 0 := by
  have a := Nat.pow_le_pow_right (n := 2) (by decide) (shr_le' ss os).1
  unfold hld
  rw [due_eq hs h, img_lsm h]
  generalize 2 ^ shr ss os = u at *
  generalize 2 ^ rk os = v at *
  split
  · omega
  · omega
include hs1 hl1 ho1 hp1 hs2 e1 e2
theorem jn_due {x y : Nat} (hx : x < 2 ^ l1.length) : due (jn n s1 s2) (jn n l1 l2) (jn n o1 o2) (jn n p1 p2) (x ^^^ y <<< l1.length) = 2 ^ rk o1 * 2 ^ rk o2 - hld s1 l1 o1 p1 x * hld s2 l2 o2 p2 y := by
  have E : (jn n l1 l2).length = (jn n p1 p2).length := by rw [jn_len, jn_len, e1, e2]
  have hJ : ∀ x ∈ jn n s1 s2, x < 2 ^ (n + m) := jn_lt hs1 hs2
  rw [due_eq hJ E, img_lsm E, jn_img hx]
  have hx' : x < 2 ^ p1.length := by rw [← e1]; exact hx
  have eP : img (jn n p1 p2) (x ^^^ y <<< l1.length) = img p1 x ^^^ img p2 y <<< n := by rw [e1]; exact jn_img hx'
  rw [eP, xor4, ← Nat.shiftLeft_xor_distrib, hld_eq hs1 e1, hld_eq hs2 e2, jn_rk ho1, jn_shr hs1 ho1, Nat.pow_add, Nat.pow_add]
  have hSO : ∀ z ∈ s1 ++ o1, z < 2 ^ n := fun z hz => by
    rcases List.mem_append.mp hz with hz | hz
    · exact hs1 z hz
    · exact ho1 z hz
  have lt : img l1 x ^^^ img p1 x < 2 ^ n := Nat.xor_lt_two_pow (imf_lt hl1 _ _) (imf_lt hp1 _ _)
  have key : Spn (jn n s1 s2 ++ jn n o1 o2) ((img l1 x ^^^ img p1 x) ^^^ (img l2 y ^^^ img p2 y) <<< n) ↔ Spn (s1 ++ o1) (img l1 x ^^^ img p1 x) ∧ Spn (s2 ++ o2) (img l2 y ^^^ img p2 y) := by
    rw [jn_app, jn_in hSO lt]
  by_cases q1 : Spn (s1 ++ o1) (img l1 x ^^^ img p1 x)
  · by_cases q2 : Spn (s2 ++ o2) (img l2 y ^^^ img p2 y)
    · rw [if_pos (key.mpr ⟨q1, q2⟩), if_pos q1, if_pos q2]
    · rw [if_neg (fun z => q2 (key.mp z).2), if_neg q2, Nat.mul_zero, Nat.sub_zero]
  · rw [if_neg (fun z => q1 (key.mp z).1), if_neg q1, Nat.zero_mul, Nat.sub_zero]
end
theorem fwr_self (ss ls : List Nat) : fwr ss ls ss ls = 0 := by
  have h : ∀ w ∈ lsm ls ls, Spn (ss ++ ss) w := fun w hw => by
    obtain ⟨i, _, rfl⟩ := List.mem_map.mp hw
    rw [Nat.xor_self]; exact .zero
  have e : rk (ss ++ ss) = rk ss := rk_eq fun x => ⟨fun h => h.sub fun w hw => (List.mem_append.mp hw).elim id id, fun h => h.sub fun w hw => List.mem_append_left _ hw⟩
  unfold fwr
  rw [if_pos h]
  unfold shr
  rw [e, Nat.add_sub_cancel, Nat.sub_self]
theorem fwr_le (ss ls os ps : List Nat) : fwr ss ls os ps ≤ 2 ^ rk os := by
  unfold fwr
  split
  · exact Nat.sub_le _ _
  · exact Nat.le_refl _
section
variable {n m : Nat} {s1 l1 o1 p1 s2 l2 o2 p2 : List Nat} (hs1 : ∀ x ∈ s1, x < 2 ^ n) (hl1 : ∀ x ∈ l1, x < 2 ^ n) (ho1 : ∀ x ∈ o1, x < 2 ^ n) (hp1 : ∀ x ∈ p1, x < 2 ^ n) (e1 : l1.length = p1.length) (e2 : l2.length = p2.length)
theorem jn_at1 {n : Nat} {A B : List Nat} {i : Nat} (h : i < A.length) : (jn n A B).getD i 0 = A.getD i 0 := by
  unfold jn
  simp only [List.getD_eq_getElem?_getD, List.getElem?_append_left h]
theorem jn_at2 {n : Nat} {A B : List Nat} {i : Nat} (h : i < B.length) : (jn n A B).getD (A.length + i) 0 = B.getD i 0 <<< n := by
  unfold jn
  simp only [List.getD_eq_getElem?_getD, List.getElem?_append_right (Nat.le_add_right _ _), Nat.add_sub_cancel_left, List.getElem?_map, List.getElem?_eq_getElem h]
  rfl
include hs1 hl1 ho1 hp1 e1 e2
theorem jn_hold (h : ∀ w ∈ lsm (jn n l1 l2) (jn n p1 p2), Spn (jn n s1 s2 ++ jn n o1 o2) w) : (∀ w ∈ lsm l1 p1, Spn (s1 ++ o1) w) ∧ ∀ w ∈ lsm l2 p2, Spn (s2 ++ o2) w := by
  have hSO : ∀ z ∈ s1 ++ o1, z < 2 ^ n := fun z hz => by
    rcases List.mem_append.mp hz with hz | hz
    · exact hs1 z hz
    · exact ho1 z hz
  constructor
  · intro w hw
    obtain ⟨i, hi, rfl⟩ := List.mem_map.mp hw
    have hi := List.mem_range.mp hi
    have a := h _ (List.mem_map.mpr ⟨i, List.mem_range.mpr (by rw [jn_len]; omega), rfl⟩)
    rw [jn_at1 hi, jn_at1 (by omega), jn_app] at a
    have lt : l1.getD i 0 ^^^ p1.getD i 0 < 2 ^ n := Nat.xor_lt_two_pow (hl1 _ (getD_mem hi)) (hp1 _ (getD_mem (by omega)))
    have b : Spn (jn n (s1 ++ o1) (s2 ++ o2)) ((l1.getD i 0 ^^^ p1.getD i 0) ^^^ 0 <<< n) := by rw [Nat.zero_shiftLeft, Nat.xor_zero]; exact a
    exact ((jn_in hSO lt).mp b).1
  · intro w hw
    obtain ⟨i, hi, rfl⟩ := List.mem_map.mp hw
    have hi := List.mem_range.mp hi
    have a := h _ (List.mem_map.mpr ⟨l1.length + i, List.mem_range.mpr (by rw [jn_len]; omega), rfl⟩)
    have q : (jn n p1 p2).getD (l1.length + i) 0 = p2.getD i 0 <<< n := by rw [e1]; exact jn_at2 (by omega)
    rw [jn_at2 hi, q, ← Nat.shiftLeft_xor_distrib, jn_app] at a
    have b : Spn (jn n (s1 ++ o1) (s2 ++ o2)) (0 ^^^ (l2.getD i 0 ^^^ p2.getD i 0) <<< n) := by rw [Nat.zero_xor]; exact a
    exact ((jn_in hSO (Nat.two_pow_pos n)).mp b).2
theorem jn_fwr : fwr s1 l1 o1 p1 ≤ fwr (jn n s1 s2) (jn n l1 l2) (jn n o1 o2) (jn n p1 p2) ∧ fwr s2 l2 o2 p2 ≤ fwr (jn n s1 s2) (jn n l1 l2) (jn n o1 o2) (jn n p1 p2) := by
  have r := jn_rk (B := o2) ho1
  have p1' : 1 ≤ 2 ^ rk o1 := Nat.two_pow_pos _
  have p2' : 1 ≤ 2 ^ rk o2 := Nat.two_pow_pos _
  by_cases h : ∀ w ∈ lsm (jn n l1 l2) (jn n p1 p2), Spn (jn n s1 s2 ++ jn n o1 o2) w
  · obtain ⟨h1, h2⟩ := jn_hold hs1 hl1 ho1 hp1 e1 e2 h
    have e : fwr (jn n s1 s2) (jn n l1 l2) (jn n o1 o2) (jn n p1 p2) = 2 ^ rk o1 * 2 ^ rk o2 - 2 ^ shr s1 o1 * 2 ^ shr s2 o2 := by
      unfold fwr
      rw [if_pos h, r, jn_shr hs1 ho1, Nat.pow_add, Nat.pow_add]
    have f1 : fwr s1 l1 o1 p1 = 2 ^ rk o1 - 2 ^ shr s1 o1 := by unfold fwr; rw [if_pos h1]
    have f2 : fwr s2 l2 o2 p2 = 2 ^ rk o2 - 2 ^ shr s2 o2 := by unfold fwr; rw [if_pos h2]
    have q1 := Nat.pow_le_pow_right (n := 2) (by decide) (shr_le' s1 o1).1
    have q2 := Nat.pow_le_pow_right (n := 2) (by decide) (shr_le' s2 o2).1
    have p3 : 1 ≤ 2 ^ shr s1 o1 := Nat.two_pow_pos _
    have p4 : 1 ≤ 2 ^ shr s2 o2 := Nat.two_pow_pos _
    rw [e, f1, f2]
    generalize 2 ^ rk o1 = R1 at *
    generalize 2 ^ rk o2 = R2 at *
    generalize 2 ^ shr s1 o1 = S1 at *
    generalize 2 ^ shr s2 o2 = S2 at *
    have m1 : S1 * S2 ≤ S1 * R2 := Nat.mul_le_mul_left _ q2
    have m2 : S1 * S2 ≤ R1 * S2 := Nat.mul_le_mul_right _ q1
    have m3 : R1 - S1 ≤ (R1 - S1) * R2 := Nat.le_mul_of_pos_right _ (by omega)
    have m4 : R2 - S2 ≤ R1 * (R2 - S2) := Nat.le_mul_of_pos_left _ (by omega)
    have m5 : (R1 - S1) * R2 = R1 * R2 - S1 * R2 := Nat.sub_mul _ _ _
    have m6 : R1 * (R2 - S2) = R1 * R2 - R1 * S2 := Nat.mul_sub _ _ _
    rw [m5] at m3
    rw [m6] at m4
    constructor <;> omega
  · have e : fwr (jn n s1 s2) (jn n l1 l2) (jn n o1 o2) (jn n p1 p2) = 2 ^ rk o1 * 2 ^ rk o2 := by
      unfold fwr
      rw [if_neg h, r, Nat.pow_add]
    rw [e]
    have f1 := fwr_le s1 l1 o1 p1
    have f2 := fwr_le s2 l2 o2 p2
    exact ⟨Nat.le_trans f1 (Nat.le_mul_of_pos_right _ (by omega)), Nat.le_trans f2 (Nat.le_mul_of_pos_left _ (by omega))⟩
end
/-- the rank of words that span all -/
theorem rk_all {b : Nat} {A : List Nat} (h : ∀ x ∈ A, x < 2 ^ b) (hb : b ≤ rk A) : rk A = b := Nat.le_antisymm (rk_le_bits h) hb
section
variable {n m : Nat} {s1 l1 s2 l2 : List Nat} (hs1 : ∀ x ∈ s1, x < 2 ^ n) (hl1 : ∀ x ∈ l1, x < 2 ^ n) (hs2 : ∀ x ∈ s2, x < 2 ^ m) (hl2 : ∀ x ∈ l2, x < 2 ^ m) (hb1 : n ≤ rk (s1 ++ l1)) (hb2 : m ≤ rk (s2 ++ l2))
include hs1 hl1
theorem two_lt : ∀ x ∈ s1 ++ l1, x < 2 ^ n := fun x hx => by
  rcases List.mem_append.mp hx with hx | hx
  · exact hs1 x hx
  · exact hl1 x hx
theorem jn_rk2 : rk (jn n s1 s2 ++ jn n l1 l2) = rk (s1 ++ l1) + rk (s2 ++ l2) := by rw [rk_eq jn_app, jn_rk (two_lt hs1 hl1)]
include hb1 hb2
/-- side by side they are onto -/
theorem jn_full : n + m ≤ rk (jn n s1 s2 ++ jn n l1 l2) := by
  rw [jn_rk2 hs1 hl1]; omega
include hs2 hl2
/-- copies -/
theorem jn_copies : (ker (jn n s1 s2 ++ jn n l1 l2)).length = (ker (s1 ++ l1)).length + (ker (s2 ++ l2)).length := by
  have a := ker_len_eq (jn n s1 s2 ++ jn n l1 l2)
  have b := ker_len_eq (s1 ++ l1)
  have c := ker_len_eq (s2 ++ l2)
  rw [jn_rk2 hs1 hl1, List.length_append, jn_len, jn_len] at a
  rw [List.length_append] at b c
  have q1 := rk_len (s1 ++ l1)
  have q2 := rk_len (s2 ++ l2)
  omega
/-- partners of words of the first one -/
theorem jn_partners {ws : List Nat} (hw : ∀ x ∈ ws, x < 2 ^ n) : (prt (jn n s1 s2) (jn n l1 l2) (spn ws)).length = (prt s1 l1 (spn ws)).length + (twn s2 l2).length := by
  have a := prt_size (jn n s1 s2) (jn n l1 l2) ws
  have b := prt_size s1 l1 ws
  have c := twn_size s2 l2
  have hsw : ∀ x ∈ s1 ++ ws, x < 2 ^ n := two_lt hs1 hw
  have e : ∀ x, Spn (jn n s1 s2 ++ ws) x ↔ Spn (jn n (s1 ++ ws) s2) x := fun x => by
    have p : (jn n s1 s2 ++ ws).Perm (jn n (s1 ++ ws) s2) := by
      unfold jn
      rw [List.append_assoc, List.append_assoc]
      exact List.Perm.append_left _ List.perm_append_comm
    exact ⟨fun h => h.sub fun w hw => p.mem_iff.mp hw, fun h => h.sub fun w hw => p.mem_iff.mpr hw⟩
  have r1 : rk (jn n s1 s2 ++ ws) = rk (s1 ++ ws) + rk s2 := by rw [rk_eq e, jn_rk hsw]
  have r2 : rk (jn n s1 s2 ++ ws ++ jn n l1 l2) = rk (s1 ++ ws ++ l1) + rk (s2 ++ l2) := by
    rw [rk_eq fun x => span_app e, rk_eq jn_app, jn_rk (two_lt hsw hl1)]
  have f1 : rk (s1 ++ ws ++ l1) ≤ l1.length + rk (s1 ++ ws) := by have := rk_app_len (s1 ++ ws) l1; omega
  rw [r1, r2, jn_len] at a
  omega
end
/-- no rounds for an empty space -/
theorem smr_nil {b : Nat} {ss ls : List Nat} (hs : ∀ x ∈ ss, x < 2 ^ b) (hl : ∀ x ∈ ls, x < 2 ^ b) (hb : b ≤ rk (ss ++ ls)) : smr b ss ls (spn []) = 0 := by
  have l := ldr_size (ws := []) hs hl (fun x hx => by cases hx) hb
  rw [List.append_nil, Nat.sub_self] at l
  unfold smr
  rw [l]
  unfold rdf
  rw [if_pos (Nat.zero_le _), Nat.sub_zero, Nat.sub_self]
end LaneX
set_option linter.all false
namespace LaneX
/-! ### words added to one another, words beside one another -/
theorem add_beside {n a b : Nat} (h : a < 2 ^ n) : a + b * 2 ^ n = a ^^^ b <<< n := by
  rw [← Nat.shiftLeft_eq, Nat.add_comm, add_eq_xor h, Nat.xor_comm]
theorem beside_lt {n m a b : Nat} (ha : a < 2 ^ n) (hb : b < 2 ^ m) : a ^^^ b <<< n < 2 ^ (n + m) := by
  refine Nat.xor_lt_two_pow (Nat.lt_of_lt_of_le ha (Nat.pow_le_pow_right (by decide) (Nat.le_add_right _ _))) ?_
  rw [Nat.shiftLeft_eq, Nat.pow_add, Nat.mul_comm]
  exact Nat.mul_lt_mul_of_pos_left hb (Nat.two_pow_pos n)
theorem set_span {M : List Nat} {i j : Nat} (hi : i < M.length) (hj : j < M.length) (ne : i ≠ j) (x : Nat) : Spn (M.set j (M.getD j 0 ^^^ M.getD i 0)) x ↔ Spn M x := by
  have gi : (M.set j (M.getD j 0 ^^^ M.getD i 0)).getD i 0 = M.getD i 0 := by rw [getD_set' _ _ _ _ hj, if_neg ne]
  have gj : (M.set j (M.getD j 0 ^^^ M.getD i 0)).getD j 0 = M.getD j 0 ^^^ M.getD i 0 := by rw [getD_set' _ _ _ _ hj, if_pos rfl]
  have l : (M.set j (M.getD j 0 ^^^ M.getD i 0)).length = M.length := List.length_set
  have gk : ∀ k, k ≠ j → (M.set j (M.getD j 0 ^^^ M.getD i 0)).getD k 0 = M.getD k 0 := fun k e => by rw [getD_set' _ _ _ _ hj, if_neg e]
  have at_ : ∀ (L : List Nat) (w : Nat), w ∈ L → ∃ k, k < L.length ∧ L.getD k 0 = w := fun L w hw => by
    obtain ⟨k, hk, e⟩ := List.getElem_of_mem hw
    exact ⟨k, hk, by rw [List.getD_eq_getElem?_getD, List.getElem?_eq_getElem hk, ← e]; rfl⟩
  constructor
  · intro h
    refine h.mono fun w hw => ?_
    obtain ⟨k, hk, rfl⟩ := at_ _ w hw
    rw [l] at hk
    rw [getD_set' _ _ _ _ hj]
    split
    · exact (Spn.of (getD_mem hj)).xor (.of (getD_mem hi))
    · exact .of (getD_mem hk)
  · intro h
    refine h.mono fun w hw => ?_
    obtain ⟨k, hk, rfl⟩ := at_ _ w hw
    have m : ∀ k, k < M.length → (M.set j (M.getD j 0 ^^^ M.getD i 0)).getD k 0 ∈ M.set j (M.getD j 0 ^^^ M.getD i 0) := fun k hk => getD_mem (by rw [l]; exact hk)
    generalize M.set j (M.getD j 0 ^^^ M.getD i 0) = N at *
    by_cases e : k = j
    · subst e
      have a := (Spn.of (m k hj)).xor (Spn.of (m i hi))
      rwa [gj, gi, Nat.xor_assoc, Nat.xor_self, Nat.xor_zero] at a
    · have g := gk k e
      rw [← g]
      exact .of (m k hk)
theorem mix_step {b : Nat} {M : List Nat} (h : Mix b M) {i j : Nat} (hi : i < b) (hj : j < b) (ne : i ≠ j) : Mix b (M.set j (M.getD j 0 ^^^ M.getD i 0)) := by
  have l := h.len
  have sp := set_span (M := M) (by omega) (by omega) ne
  refine ⟨by rw [List.length_set, l], fun x hx => ((sp x).mp (.of hx)).lt h.lt, by rw [rk_eq sp, h.rk]⟩
theorem prt_twice (ss ls ws : List Nat) : (prt ss ls (spn (spn ws))).length = (prt ss ls (spn ws)).length := by
  have a := prt_size ss ls ws
  have b := prt_size ss ls (spn ws)
  have e : ∀ x, Spn (ss ++ spn ws) x ↔ Spn (ss ++ ws) x := fun x => span_app2 (fun _ => Iff.rfl) (spn_span ws)
  have e2 : ∀ x, Spn (ss ++ spn ws ++ ls) x ↔ Spn (ss ++ ws ++ ls) x := fun x => span_app e
  rw [rk_eq e, rk_eq e2] at b
  omega
end LaneX
set_option linter.all false
namespace LaneX
/-! ### maps by their columns -/
theorem xz {a c : Nat} (h : a ^^^ c = 0) : a = c := by
  have := congrArg (· ^^^ c) h
  simp only [Nat.xor_assoc, Nat.xor_self, Nat.xor_zero, Nat.zero_xor] at this
  exact this
theorem two1 (i : Nat) : 1 <<< i = 2 ^ i := Nat.one_shiftLeft i
def colsf (b : Nat) (f : Nat → Nat) : List Nat := (List.range b).map fun i => f (1 <<< i)
theorem colsf_len (b : Nat) (f : Nat → Nat) : (colsf b f).length = b := by simp [colsf]
theorem colsf_at {b i : Nat} (f : Nat → Nat) (h : i < b) : (colsf b f).getD i 0 = f (1 <<< i) := by
  unfold colsf
  rw [List.getD_eq_getElem?_getD, List.getElem?_map, List.getElem?_range h]
  rfl
theorem colsf_img {b x : Nat} {f : Nat → Nat} (L : Lin f) (h : x < 2 ^ b) : img (colsf b f) x = f x := by
  have e : colsf b f = ((List.range b).map fun i => 1 <<< i).map f := by unfold colsf; rw [List.map_map]; rfl
  rw [e, img_map L, img_units h]
theorem getD_ext {M N : List Nat} (hl : M.length = N.length) (h : ∀ i, i < M.length → M.getD i 0 = N.getD i 0) : M = N := by
  refine List.ext_getElem hl fun i h1 h2 => ?_
  have := h i h1
  rwa [List.getD_eq_getElem?_getD, List.getD_eq_getElem?_getD, List.getElem?_eq_getElem h1, List.getElem?_eq_getElem h2] at this
theorem ext_cols {b : Nat} {M N : List Nat} (hM : M.length = b) (hN : N.length = b) (h : ∀ x, x < 2 ^ b → img M x = img N x) : M = N :=
  getD_ext (hM.trans hN.symm) fun i hi => by
    have := h (2 ^ i) (Nat.pow_lt_pow_right (by decide) (by omega))
    rwa [img_unit M hi, img_unit N (by omega)] at this
theorem mix_of {b : Nat} {F : List Nat} (len : F.length = b) (lt : ∀ x ∈ F, x < 2 ^ b) (inj : ∀ x, x < 2 ^ b → img F x = 0 → x = 0) : Mix b F :=
  ⟨len, lt, by rw [rk_of_inj (by rw [len]; exact inj), len]⟩
theorem Mix.inj0 {b : Nat} {M : List Nat} (h : Mix b M) {x : Nat} (hx : x < 2 ^ b) (e : img M x = 0) : x = 0 := img_inj (by rw [h.rk, h.len]) (by rw [h.len]; exact hx) e
theorem Mix.inj {b : Nat} {M : List Nat} (h : Mix b M) {x y : Nat} (hx : x < 2 ^ b) (hy : y < 2 ^ b) (e : img M x = img M y) : x = y := img_inj2 (by rw [h.rk, h.len]) (by rw [h.len]; exact hx) (by rw [h.len]; exact hy) e
theorem Mix.img_lt {b : Nat} {M : List Nat} (h : Mix b M) (x : Nat) : img M x < 2 ^ b := imf_lt h.lt _ _
theorem colsf_lt {b c : Nat} {f : Nat → Nat} (h : ∀ x, x < 2 ^ b → f x < 2 ^ c) : ∀ x ∈ colsf b f, x < 2 ^ c := fun x hx => by
  obtain ⟨i, hi, rfl⟩ := List.mem_map.mp hx
  exact h _ (by rw [two1]; exact Nat.pow_lt_pow_right (by decide) (List.mem_range.mp hi))
theorem mix_colsf {b : Nat} {f : Nat → Nat} (L : Lin f) (lt : ∀ x, x < 2 ^ b → f x < 2 ^ b) (inj : ∀ x, x < 2 ^ b → f x = 0 → x = 0) : Mix b (colsf b f) :=
  mix_of (colsf_len b f) (colsf_lt lt) fun x hx e => inj x hx (by rw [← colsf_img L hx]; exact e)
/-- words that are as many independent ones as there are bits span all -/
theorem span_of_rk {b : Nat} {A : List Nat} (lt : ∀ x ∈ A, x < 2 ^ b) (h : b ≤ rk A) {w : Nat} (hw : w < 2 ^ b) : Spn A w := by
  by_cases z : Spn A w
  · exact z
  · have a := rk_snoc_out z
    have c := rk_le_bits (ws := A ++ [w]) (b := b) fun x hx => by
      rcases List.mem_append.mp hx with hx | hx
      · exact lt x hx
      · rw [List.mem_singleton.mp hx]; exact hw
    omega
theorem Mix.all {b : Nat} {M : List Nat} (h : Mix b M) {w : Nat} (hw : w < 2 ^ b) : Spn M w := span_of_rk h.lt (by rw [h.rk]; exact Nat.le_refl _) hw
/-! ### undoing -/
def inv (b : Nat) (M : List Nat) : List Nat := (List.range b).map fun i => slv M (1 <<< i)
theorem inv_cols (b : Nat) (M : List Nat) : inv b M = colsf b (slv M) := rfl
section
variable {b : Nat} {M : List Nat} (h : Mix b M)
include h
theorem slv_lt' {x : Nat} (hx : x < 2 ^ b) : slv M x < 2 ^ b := by
  have := (slv_ok (h.all hx)).1
  rwa [h.len] at this
theorem inv_right {x : Nat} (hx : x < 2 ^ b) : img M (img (inv b M) x) = x := by
  rw [inv_cols, colsf_img (lin_slv M) hx]
  exact (slv_ok (h.all hx)).2
theorem inv_mix : Mix b (inv b M) := mix_colsf (lin_slv M) (fun x hx => slv_lt' h hx) fun x hx e => by
  have := (slv_ok (h.all hx)).2
  rw [e, (lin_img M).z] at this
  exact this.symm
theorem inv_left {x : Nat} (hx : x < 2 ^ b) : img (inv b M) (img M x) = x :=
  h.inj ((inv_mix h).img_lt _) hx (by rw [inv_right h (h.img_lt x)])
end
theorem img_comp (M N : List Nat) (x : Nat) : img (N.map (img M)) x = img M (img N x) := img_map (lin_img M) N x
/-! ### slots and lanes -/
def lo (s x : Nat) : Nat := x &&& (1 <<< s - 1)
theorem lo_mod (s x : Nat) : lo s x = x % 2 ^ s := by unfold lo; rw [two1, Nat.and_two_pow_sub_one_eq_mod]
theorem lo_lt (s x : Nat) : lo s x < 2 ^ s := by rw [lo_mod]; exact Nat.mod_lt _ (Nat.two_pow_pos s)
theorem lin_lo (s : Nat) : Lin (lo s) := ⟨by rw [lo_mod]; exact Nat.zero_mod _, fun a b => by rw [lo_mod, lo_mod, lo_mod]; exact Nat.xor_mod_two_pow⟩
theorem lo_of_lt {s x : Nat} (h : x < 2 ^ s) : lo s x = x := by rw [lo_mod, Nat.mod_eq_of_lt h]
theorem lo_shl (s y : Nat) : lo s (y <<< s) = 0 := by rw [lo_mod, Nat.shiftLeft_eq, Nat.mul_mod_left]
theorem hi_lt {s b x : Nat} (hs : s ≤ b) (h : x < 2 ^ b) : x >>> s < 2 ^ (b - s) := by
  rw [Nat.shiftRight_eq_div_pow]
  refine Nat.div_lt_of_lt_mul ?_
  rw [← Nat.pow_add, show s + (b - s) = b by omega]
  exact h
theorem hi_of_lt {s x : Nat} (h : x < 2 ^ s) : x >>> s = 0 := by rw [Nat.shiftRight_eq_div_pow, Nat.div_eq_of_lt h]
theorem hi_shl (s y : Nat) : (y <<< s) >>> s = y := Nat.shiftLeft_shiftRight ..
theorem lo_hi (s x : Nat) : lo s x ^^^ (x >>> s) <<< s = x := by
  rw [← add_beside (lo_lt s x), lo_mod, Nat.shiftRight_eq_div_pow, Nat.mul_comm]
  exact Nat.mod_add_div x (2 ^ s)
theorem shl_lt {s b y : Nat} (hs : s ≤ b) (h : y < 2 ^ (b - s)) : y <<< s < 2 ^ b := by
  rw [Nat.shiftLeft_eq, show (2 : Nat) ^ b = 2 ^ (b - s) * 2 ^ s by rw [← Nat.pow_add, Nat.sub_add_cancel hs]]
  exact Nat.mul_lt_mul_of_pos_right h (Nat.two_pow_pos s)
theorem zero_of {s x : Nat} (h1 : lo s x = 0) (h2 : x >>> s = 0) : x = 0 := by
  rw [← lo_hi s x, h1, h2, Nat.zero_shiftLeft, Nat.xor_zero]
def AA (s : Nat) (M : List Nat) : List Nat := (M.take s).map (lo s)
def CC (s : Nat) (M : List Nat) : List Nat := (M.take s).map fun x => x >>> s
def DD (s : Nat) (M : List Nat) : List Nat := (M.drop s).map fun x => x >>> s
def evb (s : Nat) (M : List Nat) : Bool := (M.drop s).all fun x => decide (lo s x = 0)
/-- how many slot moves of a split must be uneven -/
def unv (b s : Nat) (M : List Nat) : Nat := if evb s M = true then 0 else if rk (AA s M) = s then 1 else if rk (DD s M) = b - s then 1 else 2
section
variable {b s : Nat} {M : List Nat} (h : M.length = b) (hs : s ≤ b)
include h hs
theorem AA_len : (AA s M).length = s := by unfold AA; rw [List.length_map, List.length_take]; omega
theorem CC_len : (CC s M).length = s := by unfold CC; rw [List.length_map, List.length_take]; omega
theorem DD_len : (DD s M).length = b - s := by unfold DD; rw [List.length_map, List.length_drop]; omega
theorem img_take {x : Nat} (hx : x < 2 ^ s) : img (M.take s) x = img M x := by
  have l : (M.take s).length = s := by rw [List.length_take]; omega
  have := img_app (P := M.take s) (Q := M.drop s) (x := x) (y := 0) (by rw [l]; exact hx)
  rw [List.take_append_drop, Nat.zero_shiftLeft, Nat.xor_zero, (lin_img _).z, Nat.xor_zero] at this
  exact this.symm
theorem img_drop (y : Nat) : img (M.drop s) y = img M (y <<< s) := by
  have l : (M.take s).length = s := by rw [List.length_take]; omega
  have := img_app (P := M.take s) (Q := M.drop s) (x := 0) (y := y) (Nat.two_pow_pos _)
  rw [List.take_append_drop, Nat.zero_xor, (lin_img _).z, Nat.zero_xor, l] at this
  exact this.symm
theorem AA_img {x : Nat} (hx : x < 2 ^ s) : img (AA s M) x = lo s (img M x) := by unfold AA; rw [img_map (lin_lo s), img_take h hs hx]
theorem CC_img {x : Nat} (hx : x < 2 ^ s) : img (CC s M) x = img M x >>> s := by unfold CC; rw [img_map (lin_shr s), img_take h hs hx]
theorem DD_img (y : Nat) : img (DD s M) y = img M (y <<< s) >>> s := by unfold DD; rw [img_map (lin_shr s), img_drop h hs]
theorem ev_iff : evb s M = true ↔ ∀ y, y < 2 ^ (b - s) → lo s (img M (y <<< s)) = 0 := by
  unfold evb
  rw [List.all_eq_true]
  constructor
  · intro e y hy
    rw [← img_drop h hs, ← img_map (lin_lo s)]
    have : Spn ((M.drop s).map (lo s)) (img ((M.drop s).map (lo s)) y) := img_in _ (by rw [List.length_map, List.length_drop, h]; exact hy)
    have z := this.mono (vs := []) fun w hw => by
      obtain ⟨x, hx, rfl⟩ := List.mem_map.mp hw
      rw [of_decide_eq_true (e x hx)]
      exact .zero
    exact z.nil
  · intro e w hw
    obtain ⟨i, hi, rfl⟩ := List.getElem_of_mem hw
    rw [List.length_drop, h] at hi
    have := e (2 ^ i) (Nat.pow_lt_pow_right (by decide) hi)
    rw [← img_drop h hs, img_unit _ (by rw [List.length_drop, h]; exact hi)] at this
    refine decide_eq_true ?_
    rw [List.getD_eq_getElem?_getD, List.getElem?_eq_getElem (by rw [List.length_drop, h]; exact hi)] at this
    exact this
theorem alone_slots : rk (AA s M) = s ↔ ∀ x, x < 2 ^ s → lo s (img M x) = 0 → x = 0 := by
  have l := AA_len h hs
  constructor
  · intro e x hx z
    exact img_inj (by rw [e, l]) (by rw [l]; exact hx) (by rw [AA_img h hs hx]; exact z)
  · intro e
    have := rk_of_inj (A := AA s M) fun x hx z => e x (by rw [← l]; exact hx) (by rw [← AA_img h hs (by rw [← l]; exact hx)]; exact z)
    rw [this, l]
theorem alone_lanes : rk (DD s M) = b - s ↔ ∀ y, y < 2 ^ (b - s) → img M (y <<< s) >>> s = 0 → y = 0 := by
  have l := DD_len h hs
  constructor
  · intro e y hy z
    exact img_inj (by rw [e, l]) (by rw [l]; exact hy) (by rw [DD_img h hs]; exact z)
  · intro e
    have := rk_of_inj (A := DD s M) fun x hx z => e x (by rw [← l]; exact hx) (by rw [← DD_img h hs]; exact z)
    rw [this, l]
end
def KL (b s : Nat) (M : List Nat) : Prop := ∀ x, x < 2 ^ b → img M x >>> s = x >>> s
def KS (b s : Nat) (M : List Nat) : Prop := ∀ x, x < 2 ^ b → lo s (img M x) = lo s x
structure Spl (b s : Nat) (M F X L : List Nat) : Prop where
  f : Mix b F
  k : Mix b X
  l : Mix b L
  kf : KL b s F
  kk : KS b s X
  kl : KL b s L
  all : ∀ x, x < 2 ^ b → img L (img X (img F x)) = img M x
  un : (if evb s F = true then 0 else 1) + (if evb s L = true then 0 else 1) = unv b s M
/-! ### the first way -/
def ahd1 (b s : Nat) (M : List Nat) : List Nat := colsf b fun x => lo s (img M x) ^^^ (x >>> s) <<< s
theorem lin2 {f g : Nat → Nat} (F : Lin f) (G : Lin g) : Lin fun x => f x ^^^ g x := ⟨by rw [F.z, G.z]; rfl, fun a b => by rw [F.x, G.x, xor4]⟩
theorem lin_ahd1 (s : Nat) (M : List Nat) : Lin fun x => lo s (img M x) ^^^ (x >>> s) <<< s := lin2 ((lin_lo s).comp (lin_img M)) ((lin_shl s).comp (lin_shr s))
theorem beside_lo {s a c : Nat} (h : a < 2 ^ s) : lo s (a ^^^ c <<< s) = a := by rw [(lin_lo s).x, lo_of_lt h, lo_shl, Nat.xor_zero]
theorem beside_hi {s a c : Nat} (h : a < 2 ^ s) : (a ^^^ c <<< s) >>> s = c := by rw [(lin_shr s).x, hi_of_lt h, hi_shl, Nat.zero_xor]
theorem beside_lt' {s b a c : Nat} (hs : s ≤ b) (ha : a < 2 ^ s) (hc : c < 2 ^ (b - s)) : a ^^^ c <<< s < 2 ^ b := Nat.xor_lt_two_pow (Nat.lt_of_lt_of_le ha (Nat.pow_le_pow_right (by decide) hs)) (shl_lt hs hc)
theorem units_img {b x : Nat} (h : x < 2 ^ b) : img (units b) x = x := img_units h
theorem kl_units (b s : Nat) : KL b s (units b) := fun x hx => by rw [units_img hx]
section
variable {b s : Nat} {M : List Nat} (h : Mix b M) (hs : s ≤ b)
include h hs
theorem ahd1_mix (ha : rk (AA s M) = s) : Mix b (ahd1 b s M) := by
  refine mix_colsf (lin_ahd1 s M) (fun x hx => beside_lt' hs (lo_lt s _) (hi_lt hs hx)) fun x hx e => ?_
  have e1 : lo s (img M x) = 0 := by have := congrArg (lo s) e; rwa [beside_lo (lo_lt s _), (lin_lo s).z] at this
  have e2 : x >>> s = 0 := by have := congrArg (fun y => y >>> s) e; simp only [beside_hi (lo_lt s _), Nat.zero_shiftRight] at this; exact this
  refine (alone_slots h.len hs).mp ha x ?_ e1
  have := lo_hi s x
  rw [e2, Nat.zero_shiftLeft, Nat.xor_zero] at this
  rw [← this]
  exact lo_lt s x
theorem ahd1_img {x : Nat} (hx : x < 2 ^ b) : img (ahd1 b s M) x = lo s (img M x) ^^^ (x >>> s) <<< s := colsf_img (lin_ahd1 s M) hx
theorem evb_ahd1 : evb s (ahd1 b s M) = evb s M := by
  rw [Bool.eq_iff_iff, ev_iff (show (ahd1 b s M).length = b from colsf_len b _) hs, ev_iff h.len hs]
  constructor
  · intro e y hy
    have := e y hy
    rwa [ahd1_img h hs (shl_lt hs hy), beside_lo (lo_lt s _)] at this
  · intro e y hy
    rw [ahd1_img h hs (shl_lt hs hy), beside_lo (lo_lt s _)]
    exact e y hy
omit h in
theorem evb_units : evb s (units b) = true := by
  have l : (units b).length = b := by simp [units]
  rw [ev_iff l hs]
  intro y hy
  rw [units_img (shl_lt hs hy), lo_shl]
theorem spl_one (ha : rk (AA s M) = s) : Spl b s M (ahd1 b s M) ((inv b (ahd1 b s M)).map (img M)) (units b) := by
  have F := ahd1_mix h hs ha
  have I := inv_mix F
  refine ⟨F, mix_comp h I, mix_units b, fun x hx => ?_, fun x hx => ?_, kl_units b s, fun x hx => ?_, ?_⟩
  · rw [ahd1_img h hs hx, beside_hi (lo_lt s _)]
  · rw [img_comp]
    have e := inv_right F hx
    have l := I.img_lt x
    generalize img (inv b (ahd1 b s M)) x = y at *
    rw [ahd1_img h hs l] at e
    have := congrArg (lo s) e
    rwa [beside_lo (lo_lt s _)] at this
  · rw [img_comp, inv_left F hx, units_img (h.img_lt x)]
  · rw [evb_ahd1 h hs, evb_units hs, if_pos rfl, Nat.add_zero]
    unfold unv
    by_cases e : evb s M = true
    · rw [if_pos e, if_pos e]
    · rw [if_neg e, if_neg e, if_pos ha]
end
/-! ### the second way -/
def ahd2 (b s : Nat) (G : List Nat) : List Nat := colsf b fun x => x ^^^ img G (x >>> s)
def crs (b s : Nat) (N : List Nat) : List Nat := colsf b fun x => lo s x ^^^ (img N x >>> s) <<< s
theorem lin_id : Lin fun x => x := ⟨rfl, fun _ _ => rfl⟩
theorem lin_ahd2 (s : Nat) (G : List Nat) : Lin fun x => x ^^^ img G (x >>> s) := lin2 lin_id ((lin_img G).comp (lin_shr s))
theorem lin_crs (s : Nat) (N : List Nat) : Lin fun x => lo s x ^^^ (img N x >>> s) <<< s := lin2 (lin_lo s) ((lin_shl s).comp ((lin_shr s).comp (lin_img N)))
/-- what is asked of the filling -/
structure Fil (b s : Nat) (M G : List Nat) : Prop where
  len : G.length = b - s
  lt : ∀ g ∈ G, g < 2 ^ s
  all : ∀ y, y < 2 ^ (b - s) → img M (y <<< s) >>> s = img M (img G y) >>> s → y = 0
  z : rk (DD s M) = b - s → ∀ g ∈ G, g = 0
section
variable {b s : Nat} {M G : List Nat} (h : Mix b M) (hs : s ≤ b) (f : Fil b s M G)
theorem ahd2_img {x : Nat} (hx : x < 2 ^ b) : img (ahd2 b s G) x = x ^^^ img G (x >>> s) := colsf_img (lin_ahd2 s G) hx
theorem crs_img {N : List Nat} {x : Nat} (hx : x < 2 ^ b) : img (crs b s N) x = lo s x ^^^ (img N x >>> s) <<< s := colsf_img (lin_crs s N) hx
include f
theorem g_lt (y : Nat) : img G y < 2 ^ s := imf_lt f.lt _ _
theorem ahd2_hi {x : Nat} (hx : x < 2 ^ b) : img (ahd2 b s G) x >>> s = x >>> s := by
  rw [ahd2_img hx, (lin_shr s).x, hi_of_lt (g_lt f _), Nat.xor_zero]
include hs
theorem ahd2_lt {x : Nat} (hx : x < 2 ^ b) : x ^^^ img G (x >>> s) < 2 ^ b := Nat.xor_lt_two_pow hx (Nat.lt_of_lt_of_le (g_lt f _) (Nat.pow_le_pow_right (by decide) hs))
theorem ahd2_mix : Mix b (ahd2 b s G) := by
  refine mix_colsf (lin_ahd2 s G) (fun x hx => ahd2_lt hs f hx) fun x hx e => ?_
  have e2 : x >>> s = 0 := by
    have := congrArg (fun y => y >>> s) e
    simp only [(lin_shr s).x, hi_of_lt (g_lt f _), Nat.xor_zero, Nat.zero_shiftRight] at this
    exact this
  rw [e2, (lin_img G).z, Nat.xor_zero] at e
  exact e
theorem ahd2_twice {x : Nat} (hx : x < 2 ^ b) : img (ahd2 b s G) (img (ahd2 b s G) x) = x := by
  have e : img (ahd2 b s G) x < 2 ^ b := by rw [ahd2_img hx]; exact ahd2_lt hs f hx
  rw [ahd2_img e, ahd2_hi f hx, ahd2_img hx, Nat.xor_assoc, Nat.xor_self, Nat.xor_zero]
include h
/-- the move behind the filling -/
theorem thr_mix : Mix b ((ahd2 b s G).map (img M)) := mix_comp h (ahd2_mix hs f)
theorem thr_img {x : Nat} (hx : x < 2 ^ b) : img ((ahd2 b s G).map (img M)) x = img M (x ^^^ img G (x >>> s)) := by rw [img_comp, ahd2_img hx]
theorem crs_mix : Mix b (crs b s ((ahd2 b s G).map (img M))) := by
  have Tm := thr_mix h hs f
  refine mix_colsf (lin_crs s _) (fun x hx => beside_lt' hs (lo_lt s _) (hi_lt hs (Tm.img_lt x))) fun x hx e => ?_
  have e1 : lo s x = 0 := by have := congrArg (lo s) e; rwa [beside_lo (lo_lt s _), (lin_lo s).z] at this
  have e2 : img ((ahd2 b s G).map (img M)) x >>> s = 0 := by have := congrArg (fun y => y >>> s) e; simp only [beside_hi (lo_lt s _), Nat.zero_shiftRight] at this; exact this
  have ex : (x >>> s) <<< s = x := by have := lo_hi s x; rwa [e1, Nat.zero_xor] at this
  rw [thr_img h hs f hx, (lin_img M).x, (lin_shr s).x] at e2
  have := f.all (x >>> s) (hi_lt hs hx) (by rw [ex]; exact xz e2)
  rw [this, Nat.zero_shiftLeft] at ex
  exact ex.symm
theorem spl_two (hc : rk (AA s M) = s → rk (DD s M) = b - s) : Spl b s M (ahd2 b s G) (crs b s ((ahd2 b s G).map (img M))) ((inv b (crs b s ((ahd2 b s G).map (img M)))).map (img ((ahd2 b s G).map (img M)))) := by
  have Am := ahd2_mix hs f
  have Tm := thr_mix h hs f
  have Km := crs_mix h hs f
  have ti := fun {x : Nat} (hx : x < 2 ^ b) => thr_img h hs f hx
  generalize hT : (ahd2 b s G).map (img M) = T at *
  have I := inv_mix Km
  have Lm := mix_comp Tm I
  have lk : ∀ x, x < 2 ^ b → img ((inv b (crs b s T)).map (img T)) (img (crs b s T) x) = img T x := fun x hx => by rw [img_comp, inv_left Km hx]
  have klL : KL b s ((inv b (crs b s T)).map (img T)) := fun x hx => by
    rw [img_comp]
    have e := inv_right Km hx
    have l := I.img_lt x
    generalize img (inv b (crs b s T)) x = y at *
    rw [crs_img l] at e
    have := congrArg (fun y => y >>> s) e
    simp only [beside_hi (lo_lt s _)] at this
    exact this
  generalize (inv b (crs b s T)).map (img T) = L at *
  refine ⟨Am, Km, Lm, fun x hx => ahd2_hi f hx, fun x hx => ?_, klL, fun x hx => ?_, ?_⟩
  · rw [crs_img hx, beside_lo (lo_lt s _)]
  · rw [lk _ (Am.img_lt x), ← hT, img_comp, ahd2_twice hs f hx]
  · have g0 : evb s (ahd2 b s G) = true ↔ ∀ y, y < 2 ^ (b - s) → img G y = 0 := by
      rw [ev_iff Am.len hs]
      constructor
      · intro e y hy
        have := e y hy
        rwa [ahd2_img (shl_lt hs hy), (lin_lo s).x, lo_shl, Nat.zero_xor, hi_shl, lo_of_lt (g_lt f _)] at this
      · intro e y hy
        rw [ahd2_img (shl_lt hs hy), hi_shl, e y hy, Nat.xor_zero, lo_shl]
    by_cases hd : rk (DD s M) = b - s
    · -- lanes alone: nothing is filled
      have gz := f.z hd
      have gi : ∀ y, y < 2 ^ (b - s) → img G y = 0 := fun y hy => by
        have := (img_in G (z := y) (by rw [f.len]; exact hy)).mono (vs := []) fun w hw => by rw [gz w hw]; exact .zero
        exact this.nil
      have ta : ∀ x, x < 2 ^ b → img T x = img M x := fun x hx => by rw [ti hx, gi _ (hi_lt hs hx), Nat.xor_zero]
      rw [if_pos (g0.mpr gi), Nat.zero_add]
      have el : evb s L = evb s M := by
        rw [Bool.eq_iff_iff, ev_iff Lm.len hs, ev_iff h.len hs]
        have al := (alone_lanes h.len hs).mp hd
        constructor
        · intro e y hy
          have hx := shl_lt hs hy
          have k1 := lk _ hx
          rw [crs_img hx, lo_shl, Nat.zero_xor, ta _ hx] at k1
          rw [← k1]
          exact e _ (hi_lt hs (h.img_lt _))
        · intro e y hy
          -- some lane leads to y
          have sp : Spn (DD s M) y := span_of_rk (b := b - s) (fun x hx => by
            obtain ⟨w, hw, rfl⟩ := List.mem_map.mp hx
            exact hi_lt hs (h.lt w (List.mem_of_mem_drop hw))) (by rw [hd]; exact Nat.le_refl _) hy
          obtain ⟨z, hz, ez⟩ := span_img (cols := DD s M) (Nat.le_refl _) (by rw [List.take_length]; exact sp)
          rw [DD_len h.len hs] at hz
          rw [DD_img h.len hs] at ez
          have hx := shl_lt hs hz
          have k1 := lk _ hx
          rw [crs_img hx, lo_shl, Nat.zero_xor, ta _ hx, ez] at k1
          rw [k1]
          exact e z hz
      rw [el]
      unfold unv
      by_cases ev : evb s M = true
      · rw [if_pos ev, if_pos ev]
      · rw [if_neg ev, if_neg ev]
        by_cases ha : rk (AA s M) = s
        · rw [if_pos ha]
        · rw [if_neg ha, if_pos hd]
    · have ha : ¬ rk (AA s M) = s := fun e => hd (hc e)
      have nev : ¬ evb s M = true := fun ev => hd ((alone_lanes h.len hs).mpr fun y hy e => by
        have e1 := (ev_iff h.len hs).mp ev y hy
        have := h.inj0 (shl_lt hs hy) (zero_of e1 e)
        have e2 := hi_shl s y
        rw [this, Nat.zero_shiftRight] at e2
        exact e2.symm)
      have n1 : ¬ evb s (ahd2 b s G) = true := fun ev => hd ((alone_lanes h.len hs).mpr fun y hy e => f.all y hy (by rw [g0.mp ev y hy, (lin_img M).z, e, Nat.zero_shiftRight]))
      have n2 : ¬ evb s L = true := fun ev => ha ((alone_slots h.len hs).mpr fun x hx e => by
        have hb : x < 2 ^ b := Nat.lt_of_lt_of_le hx (Nat.pow_le_pow_right (by decide) hs)
        have k1 := lk x hb
        rw [crs_img hb, lo_of_lt hx, ti hb, hi_of_lt hx, (lin_img G).z, Nat.xor_zero, (lin_img L).x] at k1
        have k2 := congrArg (lo s) k1
        rw [(lin_lo s).x, (ev_iff Lm.len hs).mp ev _ (hi_lt hs (h.img_lt x)), Nat.xor_zero, e] at k2
        have k3 := klL x hb
        rw [hi_of_lt hx] at k3
        exact Lm.inj0 hb (zero_of k2 k3))
      rw [if_neg n1, if_neg n2]
      unfold unv
      rw [if_neg nev, if_neg ha, if_neg hd]
end
end LaneX
set_option linter.all false
namespace LaneX
/-! ### the filling -/
theorem img_set {G : List Nat} {t v : Nat} (ht : t < G.length) (z : G.getD t 0 = 0) (y : Nat) : img (G.set t v) y = img G y ^^^ (if y.testBit t = true then v else 0) := by
  have l : (G.set t v).length = G.length := List.length_set
  have keep : ∀ x : Nat, x.testBit t = false → img (G.set t v) x = img G x := fun x hx => img_at l fun i hi hb => by
    rw [getD_set' _ _ _ _ ht, if_neg]
    rintro rfl
    rw [hb] at hx
    cases hx
  by_cases e : y.testBit t = true
  · have f : (y ^^^ 2 ^ t).testBit t = false := by rw [Nat.testBit_xor, e, Nat.testBit_two_pow_self]; rfl
    have a : y = (y ^^^ 2 ^ t) ^^^ 2 ^ t := by rw [Nat.xor_assoc, Nat.xor_self, Nat.xor_zero]
    have b1 : img (G.set t v) y = img (G.set t v) (y ^^^ 2 ^ t) ^^^ img (G.set t v) (2 ^ t) := by rw [← (lin_img _).x, ← a]
    have b2 : img G y = img G (y ^^^ 2 ^ t) ^^^ img G (2 ^ t) := by rw [← (lin_img _).x, ← a]
    rw [if_pos e, b1, b2, keep _ f, img_unit _ (by rw [l]; exact ht), img_unit _ ht, getD_set' _ _ _ _ ht, if_pos rfl, z, Nat.xor_zero]
  · rw [if_neg e, Nat.xor_zero]
    exact keep y (by cases h : y.testBit t <;> simp_all)
/-- the top of a row of the kernel -/
def tp (s : Nat) (M : List Nat) (j : Nat) : Nat := blen ((ker (DD s M)).getD j 0) - 1
structure Flg (b s : Nat) (M : List Nat) (n a : Nat) (R G : List Nat) : Prop where
  len : G.length = b - s
  lt : ∀ g ∈ G, g < 2 ^ s
  rw_ : Rws R
  rl : R.length = rk (DD s M) + a
  d : ∀ w ∈ DD s M, Spn R w
  g : ∀ y, y < 2 ^ (b - s) → Spn R (img (CC s M) (img G y))
  i : ∀ y, y < 2 ^ (b - s) → Spn (DD s M) (img (CC s M) (img G y)) → ∀ j, j < a → y.testBit (tp s M j) = false
  o : ∀ y, y < 2 ^ (b - s) → (∀ j, j < a → y.testBit (tp s M j) = false) → img G y = 0
  le : a ≤ (ker (DD s M)).length
  c : a < (ker (DD s M)).length → ∀ k, k < n → Spn R ((CC s M).getD k 0)
section
variable {b s : Nat} {M : List Nat} (h : Mix b M) (hs : s ≤ b)
theorem img_zeros (n y : Nat) : img (List.replicate n 0) y = 0 := by
  have : ∀ w ∈ List.replicate n 0, Spn ([] : List Nat) w := fun w hw => by rw [List.eq_of_mem_replicate hw]; exact .zero
  exact (allin_img this y).nil
include h hs
theorem tp_lt {j : Nat} (hj : j < (ker (DD s M)).length) : tp s M j < b - s := by
  have m : (ker (DD s M)).getD j 0 ∈ ker (DD s M) := getD_mem hj
  have a := ker_blen _ _ m
  rw [DD_len h.len hs] at a
  have z := (ker_rws (DD s M)).nz _ m
  have := blen_pos z
  unfold tp
  omega
theorem tp_ne {i j : Nat} (hi : i < (ker (DD s M)).length) (hj : j < (ker (DD s M)).length) (e : i ≠ j) : tp s M i ≠ tp s M j := fun z => by
  have a := (ker_rws (DD s M)).getD_bit hi hj e
  have m : (ker (DD s M)).getD i 0 ∈ ker (DD s M) := getD_mem hi
  have nz := (ker_rws (DD s M)).nz _ m
  unfold tp at z
  rw [← z] at a
  rw [testBit_top nz] at a
  cases a
theorem flg_start : Flg b s M 0 0 (spn (DD s M)) (List.replicate (b - s) 0) := by
  refine ⟨by simp, fun g hg => by rw [List.eq_of_mem_replicate hg]; exact Nat.two_pow_pos s, spn_rws _, rfl, fun w hw => (spn_span _ _).mpr (.of hw), fun y _ => ?_, fun y _ _ j hj => absurd hj (Nat.not_lt_zero _), fun y _ _ => img_zeros _ _, Nat.zero_le _, fun _ k hk => absurd hk (Nat.not_lt_zero _)⟩
  rw [img_zeros, (lin_img _).z]
  exact .zero
theorem flg_skip {n a : Nat} {R G : List Nat} (f : Flg b s M n a R G) (hn : n < s) (e : a < (ker (DD s M)).length → clr R ((CC s M).getD n 0) = 0) : Flg b s M (n + 1) a R G := by
  refine ⟨f.len, f.lt, f.rw_, f.rl, f.d, f.g, f.i, f.o, f.le, fun ha k hk => ?_⟩
  by_cases z : k < n
  · exact f.c ha k z
  · have : k = n := by omega
    subst this
    exact f.rw_.span.mpr (e ha)
theorem flg_take {n a : Nat} {R G : List Nat} (f : Flg b s M n a R G) (hn : n < s) (ha : a < (ker (DD s M)).length) (e : clr R ((CC s M).getD n 0) ≠ 0) : Flg b s M (n + 1) (a + 1) (grw R ((CC s M).getD n 0)) (G.set (tp s M a) (1 <<< n)) := by
  have tl := tp_lt h hs ha
  have gl : tp s M a < G.length := by rw [f.len]; exact tl
  have ln : (1 <<< n) < 2 ^ s := by rw [two1]; exact Nat.pow_lt_pow_right (by decide) hn
  have z : G.getD (tp s M a) 0 = 0 := by
    rw [← img_unit _ gl]
    refine f.o _ (Nat.pow_lt_pow_right (by decide) tl) fun j hj => ?_
    rw [Nat.testBit_two_pow]
    exact decide_eq_false (tp_ne h hs ha (by omega) (by omega))
  have is := fun y => img_set (v := 1 <<< n) gl z y
  have cu : img (CC s M) (1 <<< n) = (CC s M).getD n 0 := by rw [two1, img_unit _ (by rw [CC_len h.len hs]; exact hn)]
  have ci : ∀ y, img (CC s M) (img (G.set (tp s M a) (1 <<< n)) y) = img (CC s M) (img G y) ^^^ (if y.testBit (tp s M a) = true then (CC s M).getD n 0 else 0) := fun y => by
    rw [is, (lin_img _).x]
    split
    · rw [cu]
    · rw [(lin_img _).z]
  have sub : ∀ w, Spn R w → Spn (grw R ((CC s M).getD n 0)) w := fun w hw => (grw_span _ _).mpr (hw.sub fun x hx => List.mem_append_left _ hx)
  have own : Spn (grw R ((CC s M).getD n 0)) ((CC s M).getD n 0) := (grw_span _ _).mpr (.of (List.mem_append_right _ (List.mem_singleton_self _)))
  refine ⟨by rw [List.length_set, f.len], fun g hg => ?_, grw_rws f.rw_ _, by rw [grw_length, if_neg e, f.rl]; omega, fun w hw => sub w (f.d w hw), fun y hy => ?_, fun y hy hD => ?_, fun y hy hz => ?_, by omega, fun _ k hk => ?_⟩
  · rcases List.mem_or_eq_of_mem_set hg with hg | rfl
    · exact f.lt g hg
    · exact ln
  · rw [ci]
    refine (sub _ (f.g y hy)).xor ?_
    split
    · exact own
    · exact .zero
  · rw [ci] at hD
    have q : y.testBit (tp s M a) = false := by
      cases t : y.testBit (tp s M a) with
      | false => rfl
      | true =>
        rw [t, if_pos rfl] at hD
        have w1 : Spn R (img (CC s M) (img G y) ^^^ (CC s M).getD n 0) := hD.mono f.d
        have w2 := (f.g y hy).xor w1
        rw [← Nat.xor_assoc, Nat.xor_self, Nat.zero_xor] at w2
        exact absurd (f.rw_.span.mp w2) e
    rw [q, if_neg (by decide), Nat.xor_zero] at hD
    intro j hj
    by_cases z : j < a
    · exact f.i y hy hD j z
    · have : j = a := by omega
      rw [this]; exact q
  · rw [is, hz a (Nat.lt_succ_self a), if_neg (by decide), Nat.xor_zero]
    exact f.o y hy fun j hj => hz j (by omega)
  · by_cases z : k < n
    · exact sub _ (f.c ha k z)
    · have : k = n := by omega
      subst this
      exact own
/-- in the end all rows of the kernel have got a slot -/
theorem flg_end {a : Nat} {R G : List Nat} (f : Flg b s M s a R G) : Fil b s M G := by
  have ld := DD_len h.len hs
  have full : b - s ≤ rk (CC s M ++ DD s M) := by
    refine rk_full fun u hu => ?_
    obtain ⟨i, hi, rfl⟩ := List.mem_map.mp hu
    have hi := List.mem_range.mp hi
    have w := h.all (w := (1 <<< i) <<< s) (shl_lt hs (by rw [two1]; exact Nat.pow_lt_pow_right (by decide) hi))
    have w2 := (lin_shr s).spn w
    rw [hi_shl] at w2
    have e : M.map (fun x => x >>> s) = CC s M ++ DD s M := by
      unfold CC DD
      rw [← List.map_append, List.take_append_drop]
    rwa [e] at w2
  have ka := ker_len_eq (DD s M)
  have ae : a = (ker (DD s M)).length := by
    have := f.le
    by_cases z : a < (ker (DD s M)).length
    · have r := rk_le (a := CC s M ++ DD s M) (b := R) fun x hx => by
        rcases List.mem_append.mp hx with hx | hx
        · obtain ⟨k, hk, e⟩ := List.getElem_of_mem hx
          have := f.c z k (by rw [← CC_len h.len hs]; exact hk)
          rw [List.getD_eq_getElem?_getD, List.getElem?_eq_getElem hk] at this
          rw [← e]
          exact this
        · exact f.d x hx
      rw [f.rw_.rk, f.rl] at r
      omega
    · omega
  refine ⟨f.len, f.lt, fun y hy e => ?_, fun hd g hg => ?_⟩
  · have gl : img G y < 2 ^ s := imf_lt f.lt _ _
    have e' : img (DD s M) y = img (CC s M) (img G y) := by rw [DD_img h.len hs, CC_img h.len hs gl]; exact e
    have t := f.i y hy (by rw [← e']; exact img_in _ (by rw [ld]; exact hy))
    have z := f.o y hy t
    rw [z, (lin_img _).z] at e'
    have k : Spn (ker (DD s M)) y := (ker_span _ _).mpr ⟨by rw [ld]; exact hy, e'⟩
    have c0 := (ker_rws (DD s M)).span.mp k
    rw [clr_of_none fun r hr => ?_] at c0
    · exact c0
    · obtain ⟨j, hj, e⟩ := List.getElem_of_mem hr
      have := t j (by omega)
      unfold tp at this
      rw [List.getD_eq_getElem?_getD, List.getElem?_eq_getElem hj] at this
      rw [← e]
      exact this
  · have a0 : a = 0 := by omega
    obtain ⟨j, hj, e⟩ := List.getElem_of_mem hg
    have := f.o (2 ^ j) (Nat.pow_lt_pow_right (by decide) (by rw [← f.len]; exact hj)) fun i hi => absurd hi (by omega)
    rw [img_unit _ hj, List.getD_eq_getElem?_getD, List.getElem?_eq_getElem hj] at this
    rw [← e]
    exact this
end
end LaneX
set_option linter.all false
namespace LaneX
/-! ### what the questions about a move answer -/
def klb (b s : Nat) (M : List Nat) : Bool := (List.range b).all fun i => decide (M.getD i 0 >>> s = (1 <<< i) >>> s)
def ksb (b s : Nat) (M : List Nat) : Bool := (List.range b).all fun i => decide (lo s (M.getD i 0) = lo s (1 <<< i))
theorem unit_hi {s i : Nat} : (1 <<< i) >>> s = if i < s then 0 else 1 <<< (i - s) := by
  by_cases h : i < s
  · rw [if_pos h, two1]
    exact hi_of_lt (Nat.pow_lt_pow_right (by decide) h)
  · rw [if_neg h]
    have e : i = (i - s) + s := by omega
    conv => lhs; rw [e, Nat.shiftLeft_add, hi_shl]
theorem unit_lo {s i : Nat} : lo s (1 <<< i) = if i < s then 1 <<< i else 0 := by
  by_cases h : i < s
  · rw [if_pos h]
    exact lo_of_lt (by rw [two1]; exact Nat.pow_lt_pow_right (by decide) h)
  · rw [if_neg h]
    have e : i = (i - s) + s := by omega
    conv => lhs; rw [e, Nat.shiftLeft_add, lo_shl]
theorem units_len (b : Nat) : (units b).length = b := by simp [units]
theorem units_at {b i : Nat} (h : i < b) : (units b).getD i 0 = 1 <<< i := by
  unfold units
  rw [List.getD_eq_getElem?_getD, List.getElem?_map, List.getElem?_range h]
  rfl
theorem app_at {A B : List Nat} {i : Nat} : (A ++ B).getD i 0 = if i < A.length then A.getD i 0 else B.getD (i - A.length) 0 := by
  by_cases h : i < A.length
  · rw [if_pos h, List.getD_eq_getElem?_getD, List.getElem?_append_left h, List.getD_eq_getElem?_getD]
  · rw [if_neg h, List.getD_eq_getElem?_getD, List.getElem?_append_right (by omega), List.getD_eq_getElem?_getD]
theorem zeros_at (n i : Nat) : (List.replicate n 0).getD i 0 = 0 := by
  rw [List.getD_eq_getElem?_getD, List.getElem?_replicate]
  split <;> rfl
theorem map_at {M : List Nat} {f : Nat → Nat} {i : Nat} (h : i < M.length) : (M.map f).getD i 0 = f (M.getD i 0) := by
  rw [List.getD_eq_getElem?_getD, List.getElem?_map, List.getD_eq_getElem?_getD, List.getElem?_eq_getElem h]
  rfl
theorem dec_list {A B : List Nat} {b : Nat} (ha : A.length = b) (hb : B.length = b) : decide (A = B) = (List.range b).all fun i => decide (A.getD i 0 = B.getD i 0) := by
  rw [Bool.eq_iff_iff, decide_eq_true_iff, List.all_eq_true]
  constructor
  · rintro rfl i _
    exact decide_eq_true rfl
  · intro h
    exact getD_ext (ha.trans hb.symm) fun i hi => of_decide_eq_true (h i (List.mem_range.mpr (by omega)))
theorem all_congr {b : Nat} {p q : Nat → Bool} (h : ∀ i, i < b → p i = q i) : (List.range b).all p = (List.range b).all q := by
  rw [Bool.eq_iff_iff, List.all_eq_true, List.all_eq_true]
  exact ⟨fun z i hi => by rw [← h i (List.mem_range.mp hi)]; exact z i hi, fun z i hi => by rw [h i (List.mem_range.mp hi)]; exact z i hi⟩
section
variable {b s : Nat} {M : List Nat} (h : M.length = b) (hs : s ≤ b)
include h hs
theorem klb_eq : decide (M.map (fun x => x >>> s) = List.replicate s 0 ++ units (b - s)) = klb b s M := by
  rw [dec_list (b := b) (by rw [List.length_map, h]) (by rw [List.length_append, List.length_replicate, units_len]; omega)]
  refine all_congr fun i hi => ?_
  rw [map_at (by omega), app_at, List.length_replicate, zeros_at, unit_hi]
  by_cases z : i < s
  · rw [if_pos z, if_pos z]
  · rw [if_neg z, if_neg z, units_at (by omega)]
theorem ksb_eq : decide (M.map (lo s) = units s ++ List.replicate (b - s) 0) = ksb b s M := by
  rw [dec_list (b := b) (by rw [List.length_map, h]) (by rw [List.length_append, List.length_replicate, units_len]; omega)]
  refine all_congr fun i hi => ?_
  rw [map_at (by omega), app_at, units_len, unit_lo]
  by_cases z : i < s
  · rw [if_pos z, if_pos z, units_at z]
  · rw [if_neg z, if_neg z, zeros_at]
omit hs in
theorem klb_true (k : KL b s M) : klb b s M = true := by
  unfold klb
  rw [List.all_eq_true]
  intro i hi
  have hi := List.mem_range.mp hi
  have := k (2 ^ i) (Nat.pow_lt_pow_right (by decide) hi)
  rw [img_unit _ (by omega)] at this
  exact decide_eq_true (by rw [two1]; exact this)
omit hs in
theorem ksb_true (k : KS b s M) : ksb b s M = true := by
  unfold ksb
  rw [List.all_eq_true]
  intro i hi
  have hi := List.mem_range.mp hi
  have := k (2 ^ i) (Nat.pow_lt_pow_right (by decide) hi)
  rw [img_unit _ (by omega)] at this
  exact decide_eq_true (by rw [two1]; exact this)
end
/-! ### the lists that are built -/
section
variable {b s : Nat} {M : List Nat} (h : M.length = b) (hs : s ≤ b)
include h hs
theorem ahd1_at {i : Nat} (hi : i < b) : (ahd1 b s M).getD i 0 = lo s (M.getD i 0) ^^^ (if i < s then 0 else 1 <<< i) := by
  unfold ahd1
  rw [colsf_at _ hi, two1, img_unit _ (by omega), ← two1, unit_hi]
  by_cases z : i < s
  · rw [if_pos z, if_pos z, Nat.zero_shiftLeft]
  · rw [if_neg z, if_neg z, ← Nat.shiftLeft_add, show i - s + s = i by omega]
omit h in
theorem ahd2_eq {G : List Nat} (hG : G.length = b - s) : units s ++ (List.range (b - s)).map (fun i => 1 <<< (s + i) ^^^ G.getD i 0) = ahd2 b s G := by
  have l : (ahd2 b s G).length = b := colsf_len b _
  refine getD_ext (by rw [List.length_append, units_len, List.length_map, List.length_range, l]; omega) fun i hi => ?_
  rw [List.length_append, units_len, List.length_map, List.length_range] at hi
  have hb : i < b := by omega
  unfold ahd2
  rw [app_at, units_len, colsf_at _ hb, unit_hi]
  by_cases z : i < s
  · rw [if_pos z, if_pos z, units_at z, (lin_img G).z, Nat.xor_zero]
  · rw [if_neg z, if_neg z, two1 (i - s), img_unit _ (by omega), List.getD_eq_getElem?_getD, List.getElem?_map, List.getElem?_range (by omega)]
    show 1 <<< (s + (i - s)) ^^^ _ = _
    rw [show s + (i - s) = i by omega]
/-- after n turns -/
def mid (s : Nat) (N : List Nat) (n : Nat) : List Nat := (List.range N.length).map fun i => (N.getD i 0 >>> s) <<< s ^^^ (if i < n then 1 <<< i else 0)
omit h hs in
theorem mid_zero (N : List Nat) : (N.map fun x => x >>> s).map (fun x => x <<< s) = mid s N 0 := by
  unfold mid
  refine getD_ext (by simp) fun i hi => ?_
  rw [List.length_map, List.length_map] at hi
  rw [map_at (by rw [List.length_map]; exact hi), map_at hi, List.getD_eq_getElem?_getD (l := List.map _ (List.range _)), List.getElem?_map, List.getElem?_range hi]
  show _ = _ ^^^ _
  rw [if_neg (by omega), Nat.xor_zero]
omit h hs in
theorem mid_len (N : List Nat) (n : Nat) : (mid s N n).length = N.length := by simp [mid]
omit h hs in
theorem mid_at {N : List Nat} {n i : Nat} (hi : i < N.length) : (mid s N n).getD i 0 = (N.getD i 0 >>> s) <<< s ^^^ (if i < n then 1 <<< i else 0) := by
  unfold mid
  rw [List.getD_eq_getElem?_getD, List.getElem?_map, List.getElem?_range hi]
  rfl
omit h hs in
theorem mid_succ {N : List Nat} {n : Nat} (hn : n < N.length) : (mid s N n).set n ((mid s N n).getD n 0 ^^^ 1 <<< n) = mid s N (n + 1) := by
  refine getD_ext (by rw [List.length_set, mid_len, mid_len]) fun i hi => ?_
  rw [List.length_set, mid_len] at hi
  rw [getD_set' _ _ _ _ (by rw [mid_len]; exact hn), mid_at (n := n + 1) hi]
  by_cases e : i = n
  · subst e
    rw [if_pos rfl, mid_at hi, if_neg (by omega), Nat.xor_zero, if_pos (by omega)]
  · rw [if_neg e, mid_at hi]
    by_cases z : i < n
    · rw [if_pos z, if_pos (by omega)]
    · rw [if_neg z, if_neg (by omega)]
theorem mid_crs : mid s M s = crs b s M := by
  have l : (crs b s M).length = b := colsf_len b _
  refine getD_ext (by rw [mid_len, l, h]) fun i hi => ?_
  rw [mid_len] at hi
  unfold crs
  rw [mid_at hi, colsf_at _ (by omega), unit_lo, two1, img_unit _ hi, ← two1, Nat.xor_comm]
end
/-! ### moves that are drawn -/
theorem mix_slot {s l : Nat} {A B : List Nat} (hA : Mix s A) (hB : B.length = l) (lt : ∀ x ∈ B, x < 2 ^ s) : Mix (s + l) (A ++ (List.range l).map fun i => 1 <<< (s + i) ^^^ B.getD i 0) := by
  have la := hA.len
  have e : A ++ (List.range l).map (fun i => 1 <<< (s + i) ^^^ B.getD i 0) = colsf (s + l) fun x => (img A (lo s x) ^^^ img B (x >>> s)) ^^^ (x >>> s) <<< s := by
    refine getD_ext (by rw [List.length_append, List.length_map, List.length_range, colsf_len, la]) fun i hi => ?_
    rw [List.length_append, List.length_map, List.length_range, la] at hi
    rw [app_at, colsf_at _ hi, unit_lo, unit_hi, la]
    by_cases z : i < s
    · rw [if_pos z, if_pos z, if_pos z, (lin_img B).z, Nat.zero_shiftLeft, Nat.xor_zero, Nat.xor_zero, two1, img_unit _ (by omega)]
    · rw [if_neg z, if_neg z, if_neg z, (lin_img A).z, Nat.zero_xor, two1, img_unit _ (by omega), List.getD_eq_getElem?_getD, List.getElem?_map, List.getElem?_range (by omega)]
      show 1 <<< (s + (i - s)) ^^^ _ = _
      rw [← two1, ← Nat.shiftLeft_add, show i - s + s = s + (i - s) by omega, Nat.xor_comm]
  rw [e]
  have L : Lin fun x => (img A (lo s x) ^^^ img B (x >>> s)) ^^^ (x >>> s) <<< s := lin2 (lin2 ((lin_img A).comp (lin_lo s)) ((lin_img B).comp (lin_shr s))) ((lin_shl s).comp (lin_shr s))
  have al : ∀ x, img A (lo s x) ^^^ img B (x >>> s) < 2 ^ s := fun x => Nat.xor_lt_two_pow (imf_lt hA.lt _ _) (imf_lt lt _ _)
  refine mix_colsf L (fun x hx => beside_lt' (Nat.le_add_right _ _) (al x) (hi_lt (Nat.le_add_right _ _) hx)) fun x hx z => ?_
  have e2 : x >>> s = 0 := by have := congrArg (fun y => y >>> s) z; simp only [beside_hi (al x), Nat.zero_shiftRight] at this; exact this
  rw [e2, (lin_img B).z, Nat.zero_shiftLeft, Nat.xor_zero, Nat.xor_zero] at z
  exact zero_of (hA.inj0 (lo_lt s x) z) e2
theorem mix_lane {s l : Nat} {A B : List Nat} (hA : Mix l A) (hB : B.length = s) (lt : ∀ x ∈ B, x < 2 ^ l) : Mix (s + l) ((List.range s).map (fun i => 1 <<< i ^^^ B.getD i 0 <<< s) ++ A.map fun x => x <<< s) := by
  have la := hA.len
  have e : (List.range s).map (fun i => 1 <<< i ^^^ B.getD i 0 <<< s) ++ A.map (fun x => x <<< s) = colsf (s + l) fun x => lo s x ^^^ (img B (lo s x) ^^^ img A (x >>> s)) <<< s := by
    refine getD_ext (by rw [List.length_append, List.length_map, List.length_range, colsf_len, List.length_map, la]) fun i hi => ?_
    rw [List.length_append, List.length_map, List.length_range, List.length_map, la] at hi
    rw [app_at, colsf_at _ hi, unit_lo, unit_hi, List.length_map, List.length_range]
    by_cases z : i < s
    · rw [if_pos z, if_pos z, if_pos z, (lin_img A).z, Nat.xor_zero, List.getD_eq_getElem?_getD, List.getElem?_map, List.getElem?_range z]
      show 1 <<< i ^^^ _ = _
      rw [two1, img_unit _ (by omega)]
    · rw [if_neg z, if_neg z, if_neg z, (lin_img B).z, Nat.zero_xor, Nat.zero_xor, map_at (by omega), two1, img_unit _ (by omega)]
  rw [e]
  have L : Lin fun x => lo s x ^^^ (img B (lo s x) ^^^ img A (x >>> s)) <<< s := lin2 (lin_lo s) ((lin_shl s).comp (lin2 ((lin_img B).comp (lin_lo s)) ((lin_img A).comp (lin_shr s))))
  have al : ∀ x, img B (lo s x) ^^^ img A (x >>> s) < 2 ^ l := fun x => Nat.xor_lt_two_pow (imf_lt lt _ _) (imf_lt hA.lt _ _)
  refine mix_colsf L (fun x hx => beside_lt' (Nat.le_add_right _ _) (lo_lt s x) (by rw [Nat.add_sub_cancel_left]; exact al x)) fun x hx z => ?_
  have e1 : lo s x = 0 := by have := congrArg (lo s) z; rwa [beside_lo (lo_lt s x), (lin_lo s).z] at this
  have e2 : img B (lo s x) ^^^ img A (x >>> s) = 0 := by have := congrArg (fun y => y >>> s) z; simp only [beside_hi (lo_lt s x), Nat.zero_shiftRight] at this; exact this
  rw [e1, (lin_img B).z, Nat.zero_xor] at e2
  refine zero_of e1 (hA.inj0 ?_ e2)
  have := hi_lt (Nat.le_add_right s l) hx
  rwa [Nat.add_sub_cancel_left] at this
theorem mix_order {b : Nat} {o : List Nat} (p : o.Perm (List.range b)) : Mix b (o.map fun i => 1 <<< i) := (mix_units b).perm (p.map _)
/-- undoing a move behind another one -/
theorem inv_behind {b : Nat} {G M : List Nat} (hG : Mix b G) (hM : Mix b M) : (M.map (img G)).map (img (inv b G)) = M :=
  ext_cols (by rw [List.length_map, List.length_map, hM.len]) hM.len fun x hx => by rw [img_comp, img_comp, inv_left hG (hM.img_lt x)]
theorem spl_cols {b s : Nat} {M F X L : List Nat} (hM : M.length = b) (h : Spl b s M F X L) : (F.map (img X)).map (img L) = M :=
  ext_cols (by rw [List.length_map, List.length_map, h.f.len]) hM fun x hx => by rw [img_comp, img_comp, h.all x hx]
end LaneX
set_option linter.all false
namespace LaneX
/-! ### odd meetings -/
/-- 1 for an odd number of ones -/
def par (k n : Nat) : Nat := imf (List.replicate k 1) n k
theorem rep_at {k i : Nat} (h : i < k) : (List.replicate k 1).getD i 0 = 1 := by
  rw [List.getD_eq_getElem?_getD, List.getElem?_replicate, if_pos h]
  rfl
theorem par_img (k n : Nat) : par k n = img (List.replicate k 1) n := by
  unfold par img
  rw [List.length_replicate]
theorem par_succ (k n : Nat) : par (k + 1) n = par k n ^^^ (if n.testBit k = true then 1 else 0) := by
  unfold par
  have e : imf (List.replicate (k + 1) 1) n k = imf (List.replicate k 1) n k := imf_cols fun i hi => by rw [rep_at (by omega), rep_at hi]
  rw [imf_succ, e]
  split
  · rw [rep_at (Nat.lt_succ_self k)]
  · rw [Nat.xor_zero]
theorem par_lin (k : Nat) : Lin (par k) := imf_lin _ _
theorem par_01 (n : Nat) : ∀ k, par k n = 0 ∨ par k n = 1
  | 0 => .inl rfl
  | k + 1 => by
    rw [par_succ]
    rcases par_01 n k with h | h <;> rw [h] <;> split <;> simp
theorem par_more {k n : Nat} (h : n < 2 ^ k) : ∀ j, k ≤ j → par j n = par k n
  | 0, hj => by
    have : k = 0 := by omega
    subst this
    rfl
  | j + 1, hj => by
    by_cases e : k = j + 1
    · rw [e]
    · rw [par_succ, par_more h j (by omega), Nat.testBit_lt_two_pow (Nat.lt_of_lt_of_le h (Nat.pow_le_pow_right (by decide) (by omega)))]
      simp
/-- whether a word meets a test oddly -/
def od (w t : Nat) : Bool := decide (par (blen (w &&& t)) (w &&& t) = 1)
theorem od_of {w t k : Nat} (h : w < 2 ^ k) : od w t = decide (par k (w &&& t) = 1) := by
  have l : w &&& t < 2 ^ k := Nat.lt_of_le_of_lt Nat.and_le_left h
  unfold od
  rw [par_more (blen_le.mp (Nat.le_refl _)) k (blen_le.mpr l)]
theorem and_lin (t : Nat) : Lin fun x => x &&& t := ⟨Nat.zero_and t, fun a b => Nat.and_xor_distrib_right⟩
/-- as a sum -/
def pt (k t x : Nat) : Nat := par k (x &&& t)
theorem pt_lin (k t : Nat) : Lin (pt k t) := (par_lin k).comp (and_lin t)
theorem pt_01 (k t x : Nat) : pt k t x = 0 ∨ pt k t x = 1 := par_01 _ _
theorem od_pt {k t x : Nat} (h : x < 2 ^ k) : od x t = decide (pt k t x = 1) := od_of h
/-- an exchange -/
def xch (k w t y : Nat) : Nat := if pt k t y = 1 then y ^^^ w else y
theorem xch_lin (k w t : Nat) : Lin (xch k w t) := by
  have L := pt_lin k t
  refine ⟨by unfold xch; rw [L.z]; simp, fun a b => ?_⟩
  unfold xch
  rw [L.x]
  rcases pt_01 k t a with ha | ha <;> rcases pt_01 k t b with hb | hb <;> rw [ha, hb] <;> simp
  · rw [Nat.xor_assoc]
  · rw [Nat.xor_assoc, Nat.xor_comm b w, Nat.xor_assoc]
  · rw [xor4, Nat.xor_self, Nat.xor_zero]
theorem xch_twice {k w t : Nat} (h : pt k t w = 0) (y : Nat) : xch k w t (xch k w t y) = y := by
  have L := pt_lin k t
  unfold xch
  rcases pt_01 k t y with hy | hy
  · simp [hy]
  · simp [hy, L.x, h, Nat.xor_assoc]
/-- the sums of places and images -/
def dcl (b : Nat) (N : List Nat) : List Nat := colsf b fun x => img N x ^^^ x
def drf (b s : Nat) (N : List Nat) : List Nat := (List.range b).map fun i => (N.getD i 0 ^^^ 1 <<< i) >>> s
theorem dcl_lin (N : List Nat) : Lin fun x => img N x ^^^ x := lin2 (lin_img N) lin_id
theorem drf_len (b s : Nat) (N : List Nat) : (drf b s N).length = b := by simp [drf]
theorem drf_eq {b s : Nat} {N : List Nat} (h : N.length = b) : drf b s N = (dcl b N).map fun x => x >>> s := by
  unfold drf dcl colsf
  rw [List.map_map]
  refine List.map_congr_left fun i hi => ?_
  show _ = (img N (1 <<< i) ^^^ 1 <<< i) >>> s
  rw [two1, img_unit _ (by rw [h]; exact List.mem_range.mp hi)]
theorem drf_img {b s : Nat} {N : List Nat} (h : N.length = b) {x : Nat} (hx : x < 2 ^ b) : img (drf b s N) x = (img N x ^^^ x) >>> s := by
  rw [drf_eq h, img_map (lin_shr s), dcl, colsf_img (dcl_lin N) hx]
theorem shl_rk (s : Nat) (A : List Nat) : rk (A.map fun x => x <<< s) = rk A := by
  have := jn_rk (n := s) (A := []) (B := A) (fun x hx => by cases hx)
  have e : rk ([] : List Nat) = 0 := rfl
  rw [e, Nat.zero_add] at this
  exact this
theorem ks_drift {b s : Nat} {N : List Nat} (k : KS b s N) {x : Nat} (hx : x < 2 ^ b) : ((img N x ^^^ x) >>> s) <<< s = img N x ^^^ x := by
  have := lo_hi s (img N x ^^^ x)
  rwa [(lin_lo s).x, k x hx, Nat.xor_self, Nat.zero_xor] at this
theorem drf_rk {b s : Nat} {N : List Nat} (h : N.length = b) (k : KS b s N) : rk (drf b s N) = rk (dcl b N) := by
  have e : dcl b N = (drf b s N).map fun x => x <<< s := by
    rw [drf_eq h, List.map_map]
    unfold dcl colsf
    rw [List.map_map]
    refine List.map_congr_left fun i hi => ?_
    show _ = ((img N (1 <<< i) ^^^ 1 <<< i) >>> s) <<< s
    rw [ks_drift k (by rw [two1]; exact Nat.pow_lt_pow_right (by decide) (List.mem_range.mp hi))]
  rw [e, shl_rk]
/-- slot moves ahead and behind change nothing -/
theorem drf_spl {b s : Nat} {M F X L : List Nat} (hM : M.length = b) (sp : Spl b s M F X L) : rk (drf b s M) = rk (drf b s X) := by
  have e : drf b s M = F.map (img (drf b s X)) := ext_cols (b := b) (drf_len b s M) (by rw [List.length_map, sp.f.len]) fun x hx => by
    rw [img_comp, drf_img hM hx, drf_img sp.k.len (sp.f.img_lt x), ← sp.all x hx]
    rw [(lin_shr s).x, (lin_shr s).x, sp.kl _ (sp.k.img_lt _), sp.kf x hx]
  rw [e]
  exact rk_eq fun x => sp.f.span (drf_len b s X) x
/-- what one exchange does to a lane move -/
structure Stp (b s : Nat) (N : List Nat) (w t : Nat) : Prop where
  mem : w ∈ dcl b N
  told : ∃ t0, pt b t0 w = 1 ∧ pt b t0 (w ^^^ img (inv b N) w) = 0 ∧ ∀ y, y < 2 ^ b → pt b t y = pt b t0 (img (inv b N) y ^^^ y)
section
variable {b s : Nat} {N : List Nat} {w t : Nat} (h : Mix b N) (hs : s ≤ b) (k : KS b s N) (st : Stp b s N w t)
include h hs k st
theorem stp_w : w < 2 ^ b ∧ (w >>> s) <<< s = w ∧ w ≠ 0 ∧ pt b t w = 0 := by
  obtain ⟨i, hi, e⟩ := List.mem_map.mp st.mem
  have hi : 1 <<< i < 2 ^ b := by rw [two1]; exact Nat.pow_lt_pow_right (by decide) (List.mem_range.mp hi)
  obtain ⟨t0, h1, h2, h3⟩ := st.told
  have wl : w < 2 ^ b := by rw [← e]; exact Nat.xor_lt_two_pow (h.img_lt _) hi
  refine ⟨wl, by rw [← e]; exact ks_drift k hi, fun z => ?_, ?_⟩
  · rw [z, (pt_lin b t0).z] at h1
    cases h1
  · rw [h3 w wl, Nat.xor_comm]
    exact h2
theorem stp_img (x : Nat) : img (N.map (xch b w t)) x = xch b w t (img N x) := img_map (xch_lin b w t) N x
theorem stp_back (x : Nat) : xch b w t (img (N.map (xch b w t)) x) = img N x := by rw [stp_img h hs k st, xch_twice (stp_w h hs k st).2.2.2]
theorem xch_lt {y : Nat} (hy : y < 2 ^ b) : xch b w t y < 2 ^ b := by
  unfold xch
  split
  · exact Nat.xor_lt_two_pow hy (stp_w h hs k st).1
  · exact hy
theorem stp_mix : Mix b (N.map (xch b w t)) := by
  refine mix_of (by rw [List.length_map, h.len]) (fun x hx => ?_) fun x hx e => ?_
  · obtain ⟨y, hy, rfl⟩ := List.mem_map.mp hx
    exact xch_lt h hs k st (h.lt y hy)
  · have := stp_back h hs k st x
    rw [e, (xch_lin b w t).z] at this
    exact h.inj0 hx this.symm
theorem stp_ks : KS b s (N.map (xch b w t)) := fun x hx => by
  rw [stp_img h hs k st]
  unfold xch
  split
  · rw [(lin_lo s).x, k x hx, ← (stp_w h hs k st).2.1, lo_shl, Nat.xor_zero]
  · exact k x hx
theorem stp_rk : rk (dcl b (N.map (xch b w t))) + 1 = rk (dcl b N) := by
  obtain ⟨t0, h1, h2, h3⟩ := st.told
  have L0 := pt_lin b t0
  have e : dcl b (N.map (xch b w t)) = (dcl b N).map (xch b w t0) := by
    unfold dcl colsf
    rw [List.map_map]
    refine List.map_congr_left fun i hi => ?_
    have hi : 1 <<< i < 2 ^ b := by rw [two1]; exact Nat.pow_lt_pow_right (by decide) (List.mem_range.mp hi)
    show img (N.map (xch b w t)) (1 <<< i) ^^^ 1 <<< i = xch b w t0 (img N (1 <<< i) ^^^ 1 <<< i)
    rw [stp_img h hs k st]
    have q := h3 (img N (1 <<< i)) (h.img_lt _)
    rw [inv_left h hi, Nat.xor_comm (1 <<< i)] at q
    unfold xch
    rw [q]
    split
    · rw [Nat.xor_assoc, Nat.xor_assoc, Nat.xor_comm w]
    · rfl
  rw [e]
  have out : ¬ Spn ((dcl b N).map (xch b w t0)) w := fun z => by
    have all : ∀ v, Spn ((dcl b N).map (xch b w t0)) v → pt b t0 v = 0 := fun v hv => by
      obtain ⟨y, _, rfl⟩ := (xch_lin b w t0).back hv
      unfold xch
      rcases pt_01 b t0 y with hy | hy
      · simp [hy]
      · simp [hy, L0.x, h1]
    rw [all w z] at h1
    cases h1
  rw [← rk_snoc_out out]
  refine rk_eq fun x => ?_
  have wS : Spn (dcl b N) w := .of st.mem
  constructor
  · intro q
    refine q.mono fun v hv => ?_
    rcases List.mem_append.mp hv with hv | hv
    · obtain ⟨y, hy, rfl⟩ := List.mem_map.mp hv
      unfold xch
      split
      · exact (Spn.of hy).xor wS
      · exact .of hy
    · rw [List.mem_singleton.mp hv]; exact wS
  · intro q
    refine q.mono fun v hv => ?_
    have a : Spn ((dcl b N).map (xch b w t0) ++ [w]) (xch b w t0 v) := .of (List.mem_append_left _ (List.mem_map.mpr ⟨v, hv, rfl⟩))
    have c : Spn ((dcl b N).map (xch b w t0) ++ [w]) w := .of (List.mem_append_right _ (List.mem_singleton_self _))
    unfold xch at a
    split at a
    · have := a.xor c
      rwa [Nat.xor_assoc, Nat.xor_self, Nat.xor_zero] at this
    · exact a
end
theorem dcl_zero {b : Nat} {N : List Nat} (h : N.length = b) (e : ∀ i, i < b → N.getD i 0 = 1 <<< i) : N = units b :=
  getD_ext (by rw [h, units_len]) fun i hi => by rw [e i (by omega), units_at (by omega)]
theorem rk_units0 (b : Nat) : rk (dcl b (units b)) = 0 := by
  have z : ∀ x ∈ dcl b (units b), Spn ([] : List Nat) x := fun x hx => by
    obtain ⟨i, hi, rfl⟩ := List.mem_map.mp hx
    have hi : 1 <<< i < 2 ^ b := by rw [two1]; exact Nat.pow_lt_pow_right (by decide) (List.mem_range.mp hi)
    show Spn [] (img (units b) (1 <<< i) ^^^ 1 <<< i)
    rw [units_img hi, Nat.xor_self]
    exact .zero
  have := rk_le z
  have e : rk ([] : List Nat) = 0 := rfl
  omega
/-! ### telling -/
def lwbit (n : Nat) : Nat := n - (n &&& (n - 1))
def tell (w u : Nat) : Nat := if w ^^^ (w &&& u) ≠ 0 then lwb (w ^^^ (w &&& u)) else lwb w ^^^ lwb (u ^^^ w)
theorem pt_lwb {k n x : Nat} (h : n ≠ 0) (hk : n < 2 ^ k) : pt k (lwb n) x = if x.testBit (low n) = true then 1 else 0 := by
  have lt : low n < k := by
    have := low_bit h
    by_cases z : low n < k
    · exact z
    · rw [Nat.testBit_lt_two_pow (Nat.lt_of_lt_of_le hk (Nat.pow_le_pow_right (by decide) (by omega)))] at this
      cases this
  unfold pt
  rw [lwb_eq h]
  by_cases e : x.testBit (low n) = true
  · have q : x &&& 2 ^ low n = 2 ^ low n := Nat.eq_of_testBit_eq fun i => by
      rw [Nat.testBit_and, Nat.testBit_two_pow]
      by_cases z : low n = i
      · subst z; simp [e]
      · simp [z]
    rw [if_pos e, q, par_img, img_unit _ (by simpa using lt), rep_at lt]
  · have q : x &&& 2 ^ low n = 0 := Nat.eq_of_testBit_eq fun i => by
      rw [Nat.testBit_and, Nat.testBit_two_pow, Nat.zero_testBit]
      by_cases z : low n = i
      · subst z
        have : x.testBit (low n) = false := by cases h : x.testBit (low n) <;> simp_all
        simp [this]
      · simp [z]
    rw [if_neg e, q, (par_lin k).z]
theorem pt_and (k a c x : Nat) : pt k (a ^^^ c) x = pt k a x ^^^ pt k c x := by
  unfold pt
  rw [Nat.and_xor_distrib_left, (par_lin k).x]
theorem tell_ok {k w u : Nat} (hw : w < 2 ^ k) (hu : u < 2 ^ k) (w0 : w ≠ 0) (ne : u ≠ w) : pt k (tell w u) w = 1 ∧ pt k (tell w u) u = 0 := by
  unfold tell
  by_cases f : w ^^^ (w &&& u) ≠ 0
  · rw [if_pos f]
    have fl : w ^^^ (w &&& u) < 2 ^ k := Nat.xor_lt_two_pow hw (Nat.lt_of_le_of_lt Nat.and_le_left hw)
    have lb := low_bit f
    rw [pt_lwb f fl, pt_lwb f fl]
    generalize low (w ^^^ (w &&& u)) = i at *
    rw [Nat.testBit_xor, Nat.testBit_and] at lb
    cases hw' : w.testBit i <;> cases hu' : u.testBit i <;> simp_all
  · have f0 : w ^^^ (w &&& u) = 0 := Decidable.not_not.mp f
    rw [if_neg f]
    have sub : ∀ i, w.testBit i = true → u.testBit i = true := fun i hi => by
      have := congrArg (fun n => n.testBit i) f0
      simp only [Nat.testBit_xor, Nat.testBit_and, Nat.zero_testBit, hi] at this
      cases h : u.testBit i <;> simp_all
    have r0 : u ^^^ w ≠ 0 := xor_ne ne
    have rl : u ^^^ w < 2 ^ k := Nat.xor_lt_two_pow hu hw
    have b1 := low_bit w0
    have b2 := low_bit r0
    rw [pt_and, pt_and, pt_lwb w0 hw, pt_lwb r0 rl, pt_lwb w0 hw, pt_lwb r0 rl]
    have c1 := sub _ b1
    have c2 : w.testBit (low (u ^^^ w)) = false ∧ u.testBit (low (u ^^^ w)) = true := by
      rw [Nat.testBit_xor] at b2
      have := sub (low (u ^^^ w))
      cases h1 : w.testBit (low (u ^^^ w)) <;> cases h2 : u.testBit (low (u ^^^ w)) <;> simp_all
    rw [b1, c1, c2.1, c2.2]
    decide
/-! ### walking stages -/
def wlk (b s : Nat) (l : List (Nat × Nat)) (y : Nat) : Nat := l.foldl (fun y p => xch b (p.1 <<< s) p.2 y) y
end LaneX
set_option linter.all false
namespace LaneX
/-! ### words with independent drifts, one by one -/
structure Dft (W : List Nat) (i : Nat) (R P : List Nat) : Prop where
  r : Rws R
  rl : R.length = P.length
  all : ∀ j, j < i → Spn R (W.getD j 0)
  sub : ∀ x ∈ P, ∃ j, j < i ∧ x = 1 <<< j
  sp : ∀ w, Spn R w ↔ Spn (P.map (img W)) w
theorem dft_start (W : List Nat) : Dft W 0 [] [] := ⟨Rws.nil, rfl, fun j hj => absurd hj (Nat.not_lt_zero _), (fun x hx => by cases hx), fun w => Iff.rfl⟩
theorem dft_skip {W R P : List Nat} {i : Nat} (h : Dft W i R P) (e : clr R (W.getD i 0) = 0) : Dft W (i + 1) R P := by
  refine ⟨h.r, h.rl, fun j hj => ?_, fun x hx => ?_, h.sp⟩
  · by_cases z : j < i
    · exact h.all j z
    · have : j = i := by omega
      subst this
      exact h.r.span.mpr e
  · obtain ⟨j, hj, e⟩ := h.sub x hx
    exact ⟨j, by omega, e⟩
theorem dft_take {W R P : List Nat} {i : Nat} (h : Dft W i R P) (hi : i < W.length) (e : clr R (W.getD i 0) ≠ 0) : Dft W (i + 1) (grw R (W.getD i 0)) (P ++ [1 <<< i]) := by
  have iu : img W (1 <<< i) = W.getD i 0 := by rw [two1, img_unit _ hi]
  refine ⟨grw_rws h.r _, by rw [grw_length, if_neg e, h.rl, List.length_append]; rfl, fun j hj => ?_, fun x hx => ?_, fun w => ?_⟩
  · refine (grw_span _ _).mpr ?_
    by_cases z : j < i
    · exact (h.all j z).sub fun y hy => List.mem_append_left _ hy
    · have : j = i := by omega
      subst this
      exact .of (List.mem_append_right _ (List.mem_singleton_self _))
  · rcases List.mem_append.mp hx with hx | hx
    · obtain ⟨j, hj, e⟩ := h.sub x hx
      exact ⟨j, by omega, e⟩
    · exact ⟨i, by omega, List.mem_singleton.mp hx⟩
  · rw [grw_span, List.map_append, List.map_cons, List.map_nil, iu]
    exact span_app h.sp
theorem dft_end {W R P : List Nat} (h : Dft W W.length R P) : (∀ x ∈ P, x < 2 ^ W.length) ∧ rk (P.map (img W)) = P.length ∧ P.length = rk W := by
  have e1 : rk (P.map (img W)) = P.length := by rw [← rk_eq h.sp, h.r.rk, h.rl]
  refine ⟨fun x hx => ?_, e1, ?_⟩
  · obtain ⟨j, hj, rfl⟩ := h.sub x hx
    rw [two1]
    exact Nat.pow_lt_pow_right (by decide) hj
  · rw [← e1]
    refine rk_eq fun w => ?_
    rw [← h.sp]
    constructor
    · intro q
      refine ((h.sp w).mp q).mono fun v hv => ?_
      obtain ⟨x, hx, rfl⟩ := List.mem_map.mp hv
      obtain ⟨j, hj, rfl⟩ := h.sub x hx
      exact img_in W (by rw [two1]; exact Nat.pow_lt_pow_right (by decide) hj)
    · intro q
      refine q.mono fun v hv => ?_
      obtain ⟨j, hj, e⟩ := List.getElem_of_mem hv
      have := h.all j hj
      rw [List.getD_eq_getElem?_getD, List.getElem?_eq_getElem hj] at this
      rw [← e]
      exact this
/-! ### the test of a stage -/
theorem pt_unit {b t i : Nat} (hi : i < b) : pt b t (1 <<< i) = if t.testBit i = true then 1 else 0 := by
  unfold pt
  rw [two1]
  by_cases e : t.testBit i = true
  · have q : 2 ^ i &&& t = 2 ^ i := Nat.eq_of_testBit_eq fun j => by
      rw [Nat.testBit_and, Nat.testBit_two_pow]
      by_cases z : i = j
      · subst z; simp [e]
      · simp [z]
    rw [if_pos e, q, par_img, img_unit _ (by simpa using hi), rep_at hi]
  · have q : 2 ^ i &&& t = 0 := Nat.eq_of_testBit_eq fun j => by
      rw [Nat.testBit_and, Nat.testBit_two_pow, Nat.zero_testBit]
      by_cases z : i = j
      · subst z
        have : t.testBit i = false := by cases h : t.testBit i <;> simp_all
        simp [this]
      · simp [z]
    rw [if_neg e, q, (par_lin b).z]
theorem pt_ext {b t : Nat} {f : Nat → Nat} (L : Lin f) (h : ∀ i, i < b → pt b t (1 <<< i) = f (1 <<< i)) {y : Nat} (hy : y < 2 ^ b) : pt b t y = f y := by
  rw [← colsf_img (pt_lin b t) hy, ← colsf_img L hy]
  congr 1
  unfold colsf
  exact List.map_congr_left fun i hi => h i (List.mem_range.mp hi)
/-- after i turns -/
structure Tst (g : Nat → Bool) (i t : Nat) : Prop where
  lt : t < 2 ^ i
  at_ : ∀ j, j < i → t.testBit j = g j
theorem tst_zero (g : Nat → Bool) : Tst g 0 0 := ⟨by decide, fun j hj => absurd hj (Nat.not_lt_zero _)⟩
theorem tst_skip {g : Nat → Bool} {i t : Nat} (h : Tst g i t) (e : g i = false) : Tst g (i + 1) t := by
  refine ⟨Nat.lt_of_lt_of_le h.lt (Nat.pow_le_pow_right (by decide) (Nat.le_succ i)), fun j hj => ?_⟩
  by_cases z : j < i
  · exact h.at_ j z
  · have : j = i := by omega
    subst this
    rw [Nat.testBit_lt_two_pow h.lt, e]
theorem tst_take {g : Nat → Bool} {i t : Nat} (h : Tst g i t) (e : g i = true) : Tst g (i + 1) (t ^^^ 1 <<< i) := by
  refine ⟨Nat.xor_lt_two_pow (Nat.lt_of_lt_of_le h.lt (Nat.pow_le_pow_right (by decide) (Nat.le_succ i))) (by rw [two1]; exact Nat.pow_lt_pow_right (by decide) (Nat.lt_succ_self i)), fun j hj => ?_⟩
  rw [Nat.testBit_xor, two1, Nat.testBit_two_pow]
  by_cases z : j < i
  · rw [h.at_ j z, decide_eq_false (by omega), Bool.xor_false]
  · have : j = i := by omega
    subst this
    rw [Nat.testBit_lt_two_pow h.lt, decide_eq_true rfl, e]
    rfl
theorem stp_of {b s : Nat} {N : List Nat} {i t : Nat} (h : Mix b N) (hi : i < b) (ne : N.getD i 0 ≠ 1 <<< i)
    (ht : Tst (fun j => od (img (inv b N) (1 <<< j) ^^^ 1 <<< j) (tell (N.getD i 0 ^^^ 1 <<< i) ((N.getD i 0 ^^^ 1 <<< i) ^^^ img (inv b N) (N.getD i 0 ^^^ 1 <<< i)))) b t) : Stp b s N (N.getD i 0 ^^^ 1 <<< i) t := by
  have ul : 1 <<< i < 2 ^ b := by rw [two1]; exact Nat.pow_lt_pow_right (by decide) hi
  have gm : N.getD i 0 ∈ N := getD_mem (by rw [h.len]; exact hi)
  have mem : N.getD i 0 ^^^ 1 <<< i ∈ dcl b N := by
    refine List.mem_map.mpr ⟨i, List.mem_range.mpr hi, ?_⟩
    show img N (1 <<< i) ^^^ 1 <<< i = _
    rw [two1, img_unit _ (by rw [h.len]; exact hi)]
  have wl : N.getD i 0 ^^^ 1 <<< i < 2 ^ b := Nat.xor_lt_two_pow (h.lt _ gm) ul
  have w0 : N.getD i 0 ^^^ 1 <<< i ≠ 0 := xor_ne ne
  generalize N.getD i 0 ^^^ 1 <<< i = w at *
  have I := inv_mix h
  have bw : img (inv b N) w ≠ 0 := fun z => w0 (I.inj0 wl z)
  have ul2 : w ^^^ img (inv b N) w < 2 ^ b := Nat.xor_lt_two_pow wl (I.img_lt w)
  have ne2 : w ^^^ img (inv b N) w ≠ w := fun z => by
    have := congrArg (fun y => w ^^^ y) z
    simp only [Nat.xor_self] at this
    rw [← Nat.xor_assoc, Nat.xor_self, Nat.zero_xor] at this
    exact bw this
  obtain ⟨t1, t2⟩ := tell_ok wl ul2 w0 ne2
  refine ⟨mem, tell w (w ^^^ img (inv b N) w), t1, t2, fun y hy => ?_⟩
  refine pt_ext (f := fun y => pt b (tell w (w ^^^ img (inv b N) w)) (img (inv b N) y ^^^ y)) ((pt_lin b _).comp (lin2 (lin_img _) lin_id)) (fun j hj => ?_) hy
  have uj : 1 <<< j < 2 ^ b := by rw [two1]; exact Nat.pow_lt_pow_right (by decide) hj
  rw [pt_unit hj, ht.at_ j hj, od_pt (Nat.xor_lt_two_pow (I.img_lt _) uj)]
  show _ = pt b _ (img (inv b N) (1 <<< j) ^^^ 1 <<< j)
  rcases pt_01 b (tell w (w ^^^ img (inv b N) w)) (img (inv b N) (1 <<< j) ^^^ 1 <<< j) with z | z <;> rw [z] <;> decide
/-! ### stages found -/
/-- valid stages -/
def Stv (b s : Nat) (st : List (Nat × Nat)) : Prop := ∀ p ∈ st, p.1 ≠ 0 ∧ p.1 < 2 ^ (b - s) ∧ p.2 < 2 ^ b ∧ pt b p.2 (p.1 <<< s) = 0
structure Lst (b s : Nat) (X N : List Nat) (st : List (Nat × Nat)) : Prop where
  m : Mix b N
  k : KS b s N
  n : st.length + rk (dcl b N) = rk (dcl b X)
  w : ∀ x, x < 2 ^ b → wlk b s st.reverse (img N x) = img X x
  v : Stv b s st
theorem lst_start {b s : Nat} {X : List Nat} (m : Mix b X) (k : KS b s X) : Lst b s X X [] := ⟨m, k, Nat.zero_add _, fun x _ => rfl, fun p hp => by cases hp⟩
theorem lst_step {b s : Nat} {X N : List Nat} {st : List (Nat × Nat)} {w t : Nat} (hs : s ≤ b) (h : Lst b s X N st) (p : Stp b s N w t) (ht : t < 2 ^ b) : Lst b s X (N.map fun c => if od c t = true then c ^^^ w else c) (st ++ [(w >>> s, t)]) := by
  have e : (N.map fun c => if od c t = true then c ^^^ w else c) = N.map (xch b w t) := List.map_congr_left fun c hc => by
    unfold xch
    rw [od_pt (h.m.lt c hc)]
    by_cases z : pt b t c = 1
    · rw [if_pos (decide_eq_true z), if_pos z]
    · rw [if_neg (by rw [decide_eq_false z]; decide), if_neg z]
  rw [e]
  obtain ⟨wl, wh, w0, pw⟩ := stp_w h.m hs h.k p
  have r := stp_rk h.m hs h.k p
  refine ⟨stp_mix h.m hs h.k p, stp_ks h.m hs h.k p, ?_, fun x hx => ?_, fun q hq => ?_⟩
  · have := h.n
    rw [List.length_append, List.length_singleton]
    omega
  · rw [List.reverse_append]
    show wlk b s st.reverse (xch b ((w >>> s) <<< s) t (img (N.map (xch b w t)) x)) = _
    rw [wh, stp_back h.m hs h.k p]
    exact h.w x hx
  · rcases List.mem_append.mp hq with hq | hq
    · exact h.v q hq
    · rw [List.mem_singleton.mp hq]
      refine ⟨fun z => w0 (by rw [← wh, show w >>> s = 0 from z, Nat.zero_shiftLeft]), hi_lt hs wl, ht, by rw [wh]; exact pw⟩
theorem lst_end {b s : Nat} {X N : List Nat} {st : List (Nat × Nat)} (h : Lst b s X N st) (e : N = units b) : st.length = rk (dcl b X) ∧ (∀ x, x < 2 ^ b → wlk b s st.reverse x = img X x) := by
  subst e
  have n := h.n
  rw [rk_units0, Nat.add_zero] at n
  refine ⟨n, fun x hx => ?_⟩
  have := h.w x hx
  rwa [units_img hx] at this
end LaneX
set_option linter.all false
namespace LaneX
/-! ### drifts of moves one behind another -/
theorem drf_at {b s : Nat} {N : List Nat} {i : Nat} (hi : i < b) : (drf b s N).getD i 0 = (N.getD i 0 ^^^ 1 <<< i) >>> s := by
  unfold drf
  rw [List.getD_eq_getElem?_getD, List.getElem?_map, List.getElem?_range hi]
  rfl
theorem pow_lt {i b : Nat} (h : i < b) : 1 <<< i < 2 ^ b := by rw [two1]; exact Nat.pow_lt_pow_right (by decide) h
theorem drf_unit {b s : Nat} {N : List Nat} {v : Nat} (hv : v ∈ drf b s N) : ∃ i, i < b ∧ v = img (drf b s N) (1 <<< i) := by
  obtain ⟨i, hi, e⟩ := List.getElem_of_mem hv
  have l := drf_len b s N
  refine ⟨i, by omega, ?_⟩
  rw [two1, img_unit _ hi, List.getD_eq_getElem?_getD, List.getElem?_eq_getElem hi, e]
  rfl
theorem drf_behind {b s : Nat} {A B : List Nat} (hA : Mix b A) (hB : Mix b B) : rk (drf b s (B.map (img A))) ≤ rk (drf b s A) + rk (drf b s B) := by
  refine Nat.le_trans (rk_le fun v hv => ?_) (rk_app _ _)
  obtain ⟨i, hi, rfl⟩ := drf_unit hv
  have hx := pow_lt hi
  have lA := drf_len b s A
  have lB := drf_len b s B
  have e : img (drf b s (B.map (img A))) (1 <<< i) = img (drf b s A) (img B (1 <<< i)) ^^^ img (drf b s B) (1 <<< i) := by
    rw [drf_img (mix_comp hA hB).len hx, drf_img hA.len (hB.img_lt _), drf_img hB.len hx, img_comp, ← (lin_shr s).x]
    congr 1
    rw [Nat.xor_assoc, ← Nat.xor_assoc (img B (1 <<< i)), Nat.xor_self, Nat.zero_xor]
  rw [e]
  refine Spn.xor ?_ ?_
  · exact (img_in _ (by rw [lA]; exact hB.img_lt _)).sub fun y hy => List.mem_append_left _ hy
  · exact (img_in _ (by rw [lB]; exact hx)).sub fun y hy => List.mem_append_right _ hy
theorem rk_zero_iff {A : List Nat} : rk A = 0 ↔ ∀ x ∈ A, x = 0 := by
  constructor
  · intro h x hx
    by_cases z : x = 0
    · exact z
    · have o : rk ([] ++ [x]) = rk [] + 1 := rk_snoc_out fun q => z q.nil
      have : rk [x] ≤ rk A := rk_le fun y hy => by rw [List.mem_singleton.mp hy]; exact .of hx
      rw [List.nil_append] at o
      omega
  · intro h
    have : rk A ≤ rk [] := rk_le fun x hx => by rw [h x hx]; exact .zero
    have e : rk ([] : List Nat) = 0 := rfl
    omega
theorem kl_zero {b s : Nat} {M : List Nat} (hM : M.length = b) : (rk (drf b s M) = 0) ↔ KL b s M := by
  rw [rk_zero_iff]
  constructor
  · intro h x hx
    have e := drf_img (s := s) hM hx
    have z : img (drf b s M) x = 0 := (Spn.mono (vs := []) (img_in (drf b s M) (by rw [drf_len]; exact hx)) fun y hy => by rw [h y hy]; exact .zero).nil
    rw [z, (lin_shr s).x] at e
    exact xor_eq_zero e.symm
  · intro k v hv
    obtain ⟨i, hi, rfl⟩ := drf_unit hv
    rw [drf_img hM (pow_lt hi), (lin_shr s).x, k _ (pow_lt hi), Nat.xor_self]
theorem kl_cols {b s : Nat} {M : List Nat} (h : M.length = b) (e : ∀ i, i < b → M.getD i 0 >>> s = (1 <<< i) >>> s) : KL b s M :=
  (kl_zero h).mp (rk_zero_iff.mpr fun v hv => by
    obtain ⟨i, hi, rfl⟩ := List.mem_map.mp hv
    rw [(lin_shr s).x, e i (List.mem_range.mp hi), Nat.xor_self])
theorem klb_kl {b s : Nat} {M : List Nat} (h : M.length = b) (e : klb b s M = true) : KL b s M := by
  unfold klb at e
  rw [List.all_eq_true] at e
  exact kl_cols h fun i hi => of_decide_eq_true (e i (List.mem_range.mpr hi))
theorem zero_klb {b s : Nat} {M : List Nat} (h : M.length = b) : decide (rk (drf b s M) = 0) = klb b s M := by
  cases e : klb b s M
  · refine decide_eq_false fun z => ?_
    rw [klb_true h ((kl_zero h).mp z)] at e
    cases e
  · exact decide_eq_true ((kl_zero h).mpr (klb_kl h e))
theorem kl_slot {s l : Nat} {A B : List Nat} (hA : Mix s A) (hB : B.length = l) (lt : ∀ x ∈ B, x < 2 ^ s) : KL (s + l) s (A ++ (List.range l).map fun i => 1 <<< (s + i) ^^^ B.getD i 0) := by
  have la := hA.len
  refine kl_cols (mix_slot hA hB lt).len fun i hi => ?_
  rw [app_at, la]
  by_cases z : i < s
  · rw [if_pos z, unit_hi, if_pos z]
    refine hi_of_lt ?_
    rw [List.getD_eq_getElem?_getD, List.getElem?_eq_getElem (by omega)]
    exact hA.lt _ (List.getElem_mem _)
  · rw [if_neg z, List.getD_eq_getElem?_getD, List.getElem?_map, List.getElem?_range (by omega)]
    show (1 <<< (s + (i - s)) ^^^ B.getD (i - s) 0) >>> s = _
    rw [show s + (i - s) = i by omega, (lin_shr s).x]
    have : B.getD (i - s) 0 < 2 ^ s := by
      rw [List.getD_eq_getElem?_getD, List.getElem?_eq_getElem (by omega)]
      exact lt _ (List.getElem_mem _)
    rw [hi_of_lt this, Nat.xor_zero]
/-- slot moves behind -/
theorem drf_kl {b s : Nat} {S M : List Nat} (hS : Mix b S) (hM : Mix b M) (k : KL b s S) : drf b s (M.map (img S)) = drf b s M :=
  ext_cols (b := b) (drf_len ..) (drf_len ..) fun x hx => by
    rw [drf_img (mix_comp hS hM).len hx, drf_img hM.len hx, img_comp, (lin_shr s).x, (lin_shr s).x, k _ (hM.img_lt _)]
/-- slot moves ahead -/
theorem drf_ahead {b s : Nat} {S M : List Nat} (hS : Mix b S) (hM : Mix b M) (k : KL b s S) : rk (drf b s (S.map (img M))) = rk (drf b s M) := by
  have e : drf b s (S.map (img M)) = S.map (img (drf b s M)) := ext_cols (b := b) (drf_len ..) (by rw [List.length_map, hS.len]) fun x hx => by
    rw [drf_img (mix_comp hM hS).len hx, img_comp, img_comp, drf_img hM.len (hS.img_lt _), (lin_shr s).x, (lin_shr s).x, k _ hx]
  rw [e]
  exact rk_eq fun x => hS.span (drf_len b s M) x
/-- undone -/
theorem drf_back {b s : Nat} {M U : List Nat} (hM : Mix b M) (hU : U.length = b) (e : ∀ x, x < 2 ^ b → img U (img M x) = x) : rk (drf b s U) = rk (drf b s M) := by
  have q : drf b s M = M.map (img (drf b s U)) := ext_cols (b := b) (drf_len ..) (by rw [List.length_map, hM.len]) fun x hx => by
    rw [drf_img hM.len hx, img_comp, drf_img hU (hM.img_lt _), e x hx, Nat.xor_comm]
  rw [q]
  exact (rk_eq fun x => hM.span (drf_len b s U) x).symm
theorem drf_lanes {b s : Nat} {M : List Nat} (hM : Mix b M) (hs : s ≤ b) : rk (drf b s M) ≤ b - s := rk_le_bits fun v hv => by
  obtain ⟨i, hi, rfl⟩ := drf_unit hv
  rw [drf_img hM.len (pow_lt hi)]
  exact hi_lt hs (Nat.xor_lt_two_pow (hM.img_lt _) (pow_lt hi))
/-! ### a drawn exchange -/
def xcl (b w t : Nat) : List Nat := colsf b (xch b w t)
theorem xcl_at {b w t i : Nat} (h : i < b) : (xcl b w t).getD i 0 = if t.testBit i = true then 1 <<< i ^^^ w else 1 <<< i := by
  unfold xcl
  rw [colsf_at _ h]
  unfold xch
  rw [pt_unit h]
  by_cases z : t.testBit i = true
  · rw [if_pos z, if_pos z, if_pos rfl]
  · rw [if_neg z, if_neg z, if_neg (by decide)]
theorem xcl_mix {b w t : Nat} (hw : w < 2 ^ b) (e : pt b t w = 0) : Mix b (xcl b w t) := by
  refine mix_colsf (xch_lin b w t) (fun x hx => ?_) fun x hx z => ?_
  · unfold xch
    split
    · exact Nat.xor_lt_two_pow hx hw
    · exact hx
  · have := xch_twice e x
    rw [z, (xch_lin b w t).z] at this
    exact this.symm
theorem xcl_rk {b s w t : Nat} : rk (drf b s (xcl b w t)) ≤ 1 := by
  refine Nat.le_trans (rk_le (b := [w >>> s]) fun v hv => ?_) (rk_len _)
  obtain ⟨i, hi, rfl⟩ := List.mem_map.mp hv
  rw [xcl_at (List.mem_range.mp hi)]
  split
  · rw [Nat.xor_comm (1 <<< i) w, Nat.xor_assoc, Nat.xor_self, Nat.xor_zero]
    exact .of (List.mem_singleton_self _)
  · rw [Nat.xor_self, Nat.zero_shiftRight]
    exact .zero
def xtt (w t : Nat) : Nat := if od w t = true then t ^^^ lwb w else t
theorem xtt_ok {b w t : Nat} (hw : w < 2 ^ b) (h0 : w ≠ 0) : pt b (xtt w t) w = 0 := by
  unfold xtt
  rw [od_pt hw]
  rcases pt_01 b t w with z | z
  · rw [z]; simp [z]
  · rw [z, if_pos (by decide), pt_and, pt_lwb h0 hw, low_bit h0, z]
    decide
/-! ### undoing by clearing one bit after the other -/
structure Unp (n : Nat) (C U : List Nat) (B : Nat) : Prop where
  m : Mix n U
  a : ∀ j i, j < B → i < B → (img C (U.getD j 0)).testBit i = decide (i = j)
  z : ∀ u ∈ U.drop B, ∀ i, i < B → (img C u).testBit i = false
theorem unp_start (n : Nat) (C : List Nat) : Unp n C (units n) 0 := ⟨mix_units n, fun j i hj => absurd hj (Nat.not_lt_zero _), fun u hu i hi => absurd hi (Nat.not_lt_zero _)⟩
theorem mem_drop {U : List Nat} {B i : Nat} (h : B ≤ i) (hi : i < U.length) : U.getD i 0 ∈ U.drop B := by
  rw [List.getD_eq_getElem?_getD, List.getElem?_eq_getElem hi]
  refine List.mem_of_getElem? (i := i - B) ?_
  rw [List.getElem?_drop, show B + (i - B) = i by omega, List.getElem?_eq_getElem hi]
  rfl
theorem unp_find {n B : Nat} {C U : List Nat} (hC : Mix n C) (h : Unp n C U B) (hB : B < n) : ∃ u ∈ U.drop B, (img C u).testBit B = true := by
  by_cases q : ∃ u ∈ U.drop B, (img C u).testBit B = true
  · exact q
  exfalso
  have no : ∀ u ∈ U.drop B, (img C u).testBit B = false := fun u hu => by
    cases e : (img C u).testBit B
    · rfl
    · exact absurd ⟨u, hu, e⟩ q
  have mP := mix_comp hC h.m
  have lU := h.m.len
  have lP := mP.len
  have at' : ∀ i, i < n → (U.map (img C)).getD i 0 = img C (U.getD i 0) := fun i hi => map_at (by omega)
  have hx := inv_right mP (pow_lt hB)
  generalize img (inv n (U.map (img C))) (1 <<< B) = x at hx
  have hx : imf (U.map (img C)) x (U.map (img C)).length = 1 <<< B := hx
  rw [lP] at hx
  have low0 : ∀ j, j < B → x.testBit j = false := fun j hj => by
    have e := imf_stay (A := U.map (img C)) (x := x) (t := j) (m := j + 1) (n - (j + 1)) fun i h1 h2 _ => by
      rw [at' i (by omega)]
      by_cases z : i < B
      · rw [h.a i j z hj]
        exact decide_eq_false (by omega)
      · exact h.z _ (mem_drop (by omega) (by omega)) j hj
    rw [show j + 1 + (n - (j + 1)) = n by omega] at e
    have e0 : (imf (U.map (img C)) x j).testBit j = false := imf_bit fun i hi => by
      rw [at' i (by omega), h.a i j (by omega) hj]
      exact decide_eq_false (by omega)
    rw [hx, unit_bit, decide_eq_false (by omega), imf_succ] at e
    cases q : x.testBit j
    · rfl
    · rw [q, if_pos rfl, Nat.testBit_xor, e0, at' j (by omega), h.a j j hj hj] at e
      simp at e
  have e := imf_stay (A := U.map (img C)) (x := x) (t := B) (m := B) (n - B) fun i h1 h2 _ => by
    rw [at' i (by omega)]
    exact no _ (mem_drop h1 (by omega))
  rw [show B + (n - B) = n by omega, hx, unit_bit, imf_none B low0, Nat.zero_testBit] at e
  simp at e
def fxm (C : List Nat) (B m u : Nat) : Nat := if (img C u).testBit B = true then u ^^^ m else u
theorem unp_out {n B : Nat} {C U A R : List Nat} {m : Nat} (h : Unp n C U B) (e : U.drop B = A ++ m :: R) : U.filter (fun u => decide (u ≠ m)) = U.take B ++ (A ++ R) := by
  have e2 : U = U.take B ++ (A ++ m :: R) := by rw [← e, List.take_append_drop]
  have lU := h.m.len
  have ne : ∀ u ∈ U.take B ++ (A ++ R), u ≠ m := fun u hu z => by
    subst z
    have : rk U ≤ rk (U.take B ++ (A ++ R)) := rk_le fun x hx => by
      refine .of ?_
      rw [e2] at hx
      simp only [List.mem_append, List.mem_cons] at hx hu ⊢
      rcases hx with hx | hx | rfl | hx
      · exact .inl hx
      · exact .inr (.inl hx)
      · exact hu
      · exact .inr (.inr hx)
    have l2 := rk_len (U.take B ++ (A ++ R))
    have l3 := congrArg List.length e2
    simp only [List.length_append, List.length_cons] at l2 l3
    have := h.m.rk
    omega
  have all : ∀ l : List Nat, (∀ u ∈ l, u ≠ m) → l.filter (fun u => decide (u ≠ m)) = l := fun l hl => List.filter_eq_self.mpr fun u hu => decide_eq_true (hl u hu)
  have f1 : U.filter (fun u => decide (u ≠ m)) = (U.take B ++ (A ++ m :: R)).filter (fun u => decide (u ≠ m)) := congrArg _ e2
  rw [f1, List.filter_append, List.filter_append, List.filter_cons_of_neg (by simp), ← List.filter_append, ← List.filter_append, all _ ne]
theorem unp_step {n B : Nat} {C U A R : List Nat} {m : Nat} (h : Unp n C U B) (hB : B < n) (e : U.drop B = A ++ m :: R) (hm : (img C m).testBit B = true) :
    Unp n C ((U.take B).map (fxm C B m) ++ m :: (A ++ R).map (fxm C B m)) (B + 1) := by
  have e2 : U = U.take B ++ (A ++ m :: R) := by rw [← e, List.take_append_drop]
  have lU := h.m.len
  have lT : (U.take B).length = B := by rw [List.length_take]; omega
  have l3 := congrArg List.length e2
  simp only [List.length_append, List.length_cons] at l3
  have mD : m ∈ U.drop B := by rw [e]; exact List.mem_append_right _ (List.mem_cons_self ..)
  have mU : m ∈ U := List.mem_of_mem_drop mD
  have sub : ∀ u, u ∈ A ++ R → u ∈ U.drop B := fun u hu => by
    rw [e]
    simp only [List.mem_append, List.mem_cons] at hu ⊢
    rcases hu with hu | hu
    · exact .inl hu
    · exact .inr (.inr hu)
  have m0 : ∀ i, i < B → (img C m).testBit i = false := h.z m mD
  have fb : ∀ u, (img C (fxm C B m u)).testBit B = false := fun u => by
    unfold fxm
    split
    · rename_i q
      rw [(lin_img C).x, Nat.testBit_xor, q, hm]
      rfl
    · rename_i q
      cases z : (img C u).testBit B
      · rfl
      · exact absurd z q
  have fi : ∀ u i, i < B → (img C (fxm C B m u)).testBit i = (img C u).testBit i := fun u i hi => by
    unfold fxm
    split
    · rw [(lin_img C).x, Nat.testBit_xor, m0 i hi, Bool.xor_false]
    · rfl
  refine ⟨⟨?_, ?_, ?_⟩, ?_, ?_⟩
  · simp only [List.length_append, List.length_cons, List.length_map]
    omega
  · intro x hx
    have f : ∀ u ∈ U, fxm C B m u < 2 ^ n := fun u hu => by
      unfold fxm
      split
      · exact Nat.xor_lt_two_pow (h.m.lt u hu) (h.m.lt m mU)
      · exact h.m.lt u hu
    rcases List.mem_append.mp hx with hx | hx
    · obtain ⟨u, hu, rfl⟩ := List.mem_map.mp hx
      exact f u (List.mem_of_mem_take hu)
    · rcases List.mem_cons.mp hx with rfl | hx
      · exact h.m.lt _ mU
      · obtain ⟨u, hu, rfl⟩ := List.mem_map.mp hx
        exact f u (List.mem_of_mem_drop (sub u hu))
  · rw [← h.m.rk]
    have mN : m ∈ (U.take B).map (fxm C B m) ++ m :: (A ++ R).map (fxm C B m) := List.mem_append_right _ (List.mem_cons_self ..)
    have fN : ∀ u, u ∈ U.take B ∨ u ∈ A ++ R → fxm C B m u ∈ (U.take B).map (fxm C B m) ++ m :: (A ++ R).map (fxm C B m) := fun u hu => by
      rcases hu with hu | hu
      · exact List.mem_append_left _ (List.mem_map.mpr ⟨u, hu, rfl⟩)
      · exact List.mem_append_right _ (List.mem_cons_of_mem _ (List.mem_map.mpr ⟨u, hu, rfl⟩))
    have bk : ∀ u, u ∈ U.take B ∨ u ∈ A ++ R → Spn ((U.take B).map (fxm C B m) ++ m :: (A ++ R).map (fxm C B m)) u := fun u hu => by
      have q := Spn.of (fN u hu)
      unfold fxm at q
      generalize hL : List.map (fun u => if (img C u).testBit B = true then u ^^^ m else u) (List.take B U) ++ m :: List.map (fun u => if (img C u).testBit B = true then u ^^^ m else u) (A ++ R) = L at q
      have hL' : (U.take B).map (fxm C B m) ++ m :: (A ++ R).map (fxm C B m) = L := hL
      rw [hL'] at mN ⊢
      split at q
      · have := q.xor (.of mN)
        rwa [Nat.xor_assoc, Nat.xor_self, Nat.xor_zero] at this
      · exact q
    refine rk_eq fun x => ⟨fun q => q.mono fun v hv => ?_, fun q => q.mono fun v hv => ?_⟩
    · have f : ∀ u ∈ U, Spn U (fxm C B m u) := fun u hu => by
        unfold fxm
        split
        · exact (Spn.of hu).xor (.of mU)
        · exact .of hu
      rcases List.mem_append.mp hv with hx | hx
      · obtain ⟨u, hu, rfl⟩ := List.mem_map.mp hx
        exact f u (List.mem_of_mem_take hu)
      · rcases List.mem_cons.mp hx with rfl | hx
        · exact .of mU
        · obtain ⟨u, hu, rfl⟩ := List.mem_map.mp hx
          exact f u (List.mem_of_mem_drop (sub u hu))
    · rw [e2] at hv
      simp only [List.mem_append, List.mem_cons] at hv
      rcases hv with hv | hv | rfl | hv
      · exact bk v (.inl hv)
      · exact bk v (.inr (List.mem_append_left _ hv))
      · exact .of mN
      · exact bk v (.inr (List.mem_append_right _ hv))
  · intro j i hj hi
    rw [app_at, List.length_map, lT]
    by_cases z : j < B
    · rw [if_pos z, map_at (by omega)]
      have g : (U.take B).getD j 0 = U.getD j 0 := by rw [List.getD_eq_getElem?_getD, List.getD_eq_getElem?_getD, List.getElem?_take, if_pos z]
      rw [g]
      by_cases q : i < B
      · rw [fi _ i q, h.a j i z q]
      · have : i = B := by omega
        subst this
        rw [fb]
        exact (decide_eq_false (by omega)).symm
    · have : j = B := by omega
      subst this
      rw [if_neg (by omega), Nat.sub_self]
      show (img C m).testBit i = _
      by_cases q : i < j
      · rw [m0 i q]
        exact (decide_eq_false (by omega)).symm
      · have : i = j := by omega
        subst this
        rw [hm]
        exact (decide_eq_true rfl).symm
  · intro u hu i hi
    have d : ((U.take B).map (fxm C B m) ++ m :: (A ++ R).map (fxm C B m)).drop (B + 1) = (A ++ R).map (fxm C B m) := by
      rw [List.drop_append, List.length_map, lT, List.drop_of_length_le (by rw [List.length_map]; omega), List.nil_append, show B + 1 - B = 1 by omega]
      rfl
    rw [d] at hu
    obtain ⟨v, hv, rfl⟩ := List.mem_map.mp hu
    by_cases q : i < B
    · rw [fi _ i q]
      exact h.z v (sub v hv) i q
    · have : i = B := by omega
      subst this
      exact fb v
theorem unp_end {n : Nat} {C U : List Nat} (hC : Mix n C) (h : Unp n C U n) : ∀ x, x < 2 ^ n → img U (img C x) = x := by
  have lU := h.m.len
  have e : U.map (img C) = units n := getD_ext (by rw [List.length_map, lU, units_len]) fun j hj => by
    rw [List.length_map, lU] at hj
    rw [map_at (by omega), units_at hj]
    refine Nat.eq_of_testBit_eq fun i => ?_
    rw [unit_bit]
    by_cases q : i < n
    · rw [h.a j i hj q]
      by_cases z : i = j
      · subst z; rfl
      · rw [decide_eq_false z, decide_eq_false (fun y => z y.symm)]
    · rw [Nat.testBit_lt_two_pow (Nat.lt_of_lt_of_le (hC.img_lt _) (Nat.pow_le_pow_right (by decide) (by omega))), decide_eq_false (by omega)]
  intro x hx
  refine hC.inj (h.m.img_lt _) hx ?_
  rw [← img_comp, e, units_img (hC.img_lt x)]
theorem unp_units {n : Nat} {C U : List Nat} (hC : Mix n C) (e : ∀ x, x < 2 ^ n → img U (img C x) = x) : C.map (img U) = units n :=
  ext_cols (b := n) (by rw [List.length_map, hC.len]) (units_len n) fun x hx => by rw [img_comp, e x hx, units_img hx]
end LaneX
set_option linter.all false
set_option maxHeartbeats 1000000
namespace LaneX
/-! ### words that complete -/
structure Cpl (P Q X : List Nat) : Prop where
  i : ∀ x ∈ X, Spn Q x
  s : ∀ x, Spn Q x → Spn (P ++ X) x
  n : X.length + rk P = rk Q
theorem cpl_of {P Q : List Nat} (R : Rws P) (h : ∀ x ∈ P, Spn Q x) : Cpl P Q (cmpl P Q) := by
  obtain ⟨h1, h2, h3⟩ := base_of R h
  refine ⟨fun x hx => .of (cmpl_mem _ x hx), fun x hx => (h1 x).mpr hx, ?_⟩
  rw [← h3, List.length_append, R.rk]
  omega
/-- the same, of spaces told by what lies in them -/
def CplP (p q : Nat → Prop) (X : List Nat) : Prop := ∃ P Q, (∀ x, Spn P x ↔ p x) ∧ (∀ x, Spn Q x ↔ q x) ∧ Cpl P Q X
theorem CplP.iff {p q p' q' : Nat → Prop} {X : List Nat} (h : CplP p q X) (hp : ∀ x, p x ↔ p' x) (hq : ∀ x, q x ↔ q' x) : CplP p' q' X := by
  obtain ⟨P, Q, h1, h2, h3⟩ := h
  exact ⟨P, Q, fun x => (h1 x).trans (hp x), fun x => (h2 x).trans (hq x), h3⟩
theorem CplP.mem {p q : Nat → Prop} {X : List Nat} (h : CplP p q X) {x : Nat} (hx : x ∈ X) : q x := by
  obtain ⟨P, Q, h1, h2, h3⟩ := h
  exact (h2 x).mp (h3.i x hx)
theorem CplP.split {p q : Nat → Prop} {X : List Nat} (h : CplP p q X) {x : Nat} (hx : q x) : ∃ y z, p y ∧ Spn X z ∧ x = y ^^^ z := by
  obtain ⟨P, Q, h1, h2, h3⟩ := h
  obtain ⟨y, z, hy, hz, e⟩ := span_split (h3.s x ((h2 x).mpr hx))
  exact ⟨y, z, (h1 y).mp hy, hz, e⟩
theorem CplP.len {p q : Nat → Prop} {X A B : List Nat} (h : CplP p q X) (hA : ∀ x, Spn A x ↔ p x) (hB : ∀ x, Spn B x ↔ q x) : X.length + rk A = rk B := by
  obtain ⟨P, Q, h1, h2, h3⟩ := h
  rw [rk_eq fun x => (hA x).trans (h1 x).symm, rk_eq fun x => (hB x).trans (h2 x).symm]
  exact h3.n
/-! ### meets and sums of rows -/
def mt (b : Nat) (A B : List Nat) : List Nat := spn (mtd b A B)
def sm (A B : List Nat) : List Nat := spn (A ++ B)
def evr (b : Nat) : List Nat := spn (units b)
theorem mt_span {b : Nat} {A B : List Nat} (lt : ∀ x ∈ A, x < 2 ^ b) (x : Nat) : Spn (mt b A B) x ↔ Spn A x ∧ Spn B x := by
  unfold mt
  rw [spn_span, mtd_span lt]
theorem sm_span (A B : List Nat) (x : Nat) : Spn (sm A B) x ↔ Spn (A ++ B) x := spn_span _ x
theorem sm_rws (A B : List Nat) : Rws (sm A B) := spn_rws _
theorem mt_rws (b : Nat) (A B : List Nat) : Rws (mt b A B) := spn_rws _
theorem evr_span (b x : Nat) : Spn (evr b) x ↔ x < 2 ^ b := by
  unfold evr
  rw [spn_span]
  exact ⟨fun h => h.lt (mix_units b).lt, fun h => (mix_units b).all h⟩
theorem spn_ltb {b : Nat} {A : List Nat} (h : ∀ x ∈ A, x < 2 ^ b) : ∀ x ∈ spn A, x < 2 ^ b := fun x hx => ((spn_span A x).mp (.of hx)).lt h
theorem mt_lt {b : Nat} {A B : List Nat} (lt : ∀ x ∈ A, x < 2 ^ b) : ∀ x ∈ mt b A B, x < 2 ^ b := fun x hx => (((mt_span lt x).mp (.of hx)).1).lt lt
theorem sm_lt {b : Nat} {A B : List Nat} (hA : ∀ x ∈ A, x < 2 ^ b) (hB : ∀ x ∈ B, x < 2 ^ b) : ∀ x ∈ sm A B, x < 2 ^ b := spn_ltb fun x hx => (List.mem_append.mp hx).elim (hA x) (hB x)
theorem app_iff {A A' B B' : List Nat} (hA : ∀ x, Spn A x ↔ Spn A' x) (hB : ∀ x, Spn B x ↔ Spn B' x) (x : Nat) : Spn (A ++ B) x ↔ Spn (A' ++ B') x := by
  have go : ∀ {A A' B B' : List Nat}, (∀ x, Spn A x ↔ Spn A' x) → (∀ x, Spn B x ↔ Spn B' x) → Spn (A ++ B) x → Spn (A' ++ B') x := fun hA hB h => by
    obtain ⟨s, q, hs, hq, rfl⟩ := span_split h
    exact (((hA s).mp hs).sub fun y hy => List.mem_append_left _ hy).xor (((hB q).mp hq).sub fun y hy => List.mem_append_right _ hy)
  exact ⟨go hA hB, go (fun x => (hA x).symm) fun x => (hB x).symm⟩
theorem app_spl {A B : List Nat} {x : Nat} : Spn (A ++ B) x ↔ ∃ y z, Spn A y ∧ Spn B z ∧ x = y ^^^ z := by
  constructor
  · intro h
    obtain ⟨s, q, hs, hq, e⟩ := span_split h
    exact ⟨s, q, hs, hq, e⟩
  · rintro ⟨y, z, hy, hz, rfl⟩
    exact (hy.sub fun y hy => List.mem_append_left _ hy).xor (hz.sub fun y hy => List.mem_append_right _ hy)
/-- a space inside one of the same dimension is that one -/
theorem span_of_le {K L : List Nat} (h : ∀ x ∈ K, Spn L x) (e : rk L ≤ rk K) (x : Nat) : Spn L x ↔ Spn K x := by
  constructor
  · intro hx
    by_cases z : Spn K x
    · exact z
    · have o := rk_snoc_out z
      have := rk_le (a := K ++ [x]) (b := L) fun y hy => by
        rcases List.mem_append.mp hy with hy | hy
        · exact h y hy
        · rw [List.mem_singleton.mp hy]; exact hx
      omega
  · intro hx
    exact hx.mono h
theorem meet_rk {b : Nat} {A B : List Nat} (lt : ∀ x ∈ A, x < 2 ^ b) : rk (mt b (spn A) (spn B)) + rk (A ++ B) = rk A + rk B := by
  have h := mtd_len (spn_rws A) (spn_rws B) (spn_ltb lt)
  have e1 : rk (mt b (spn A) (spn B)) = (mtd b (spn A) (spn B)).length := by unfold mt; rw [rk_spn, (mtd_rws b _ _).rk]
  have e2 : rk (spn A ++ spn B) = rk (A ++ B) := rk_eq (app_iff (spn_span A) (spn_span B))
  have e3 : rk A = (spn A).length := by rw [← (spn_rws A).rk, rk_spn]
  have e4 : rk B = (spn B).length := by rw [← (spn_rws B).rk, rk_spn]
  omega
theorem meet_is {b : Nat} {A B K : List Nat} (lt : ∀ x ∈ A, x < 2 ^ b) (hA : ∀ x ∈ K, Spn A x) (hB : ∀ x ∈ K, Spn B x) (e : rk K + rk (A ++ B) = rk A + rk B) (x : Nat) : (Spn A x ∧ Spn B x) ↔ Spn K x := by
  have r := meet_rk (B := B) lt
  have m : ∀ y, Spn (mt b (spn A) (spn B)) y ↔ Spn A y ∧ Spn B y := fun y => by rw [mt_span (spn_ltb lt), spn_span, spn_span]
  rw [← m x]
  exact span_of_le (fun y hy => (m y).mpr ⟨hA y hy, hB y hy⟩) (by omega) x
/-! ### words of one's own -/
def shp (b : Nat) (Rs : List (List Nat)) (ch : List Nat) : Nat → List Nat
  | 0 => evr b
  | i + 1 => if i ∈ ch then mt b (shp b Rs ch i) (Rs.getD i []) else shp b Rs ch i
def otp (Rs : List (List Nat)) (ch : List Nat) : Nat → List Nat
  | 0 => spn []
  | i + 1 => if i ∈ ch then otp Rs ch i else sm (otp Rs ch i) (Rs.getD i [])
def own (b : Nat) (Rs : List (List Nat)) (ch : List Nat) : List Nat := cmpl (mt b (shp b Rs ch Rs.length) (otp Rs ch Rs.length)) (shp b Rs ch Rs.length)
theorem evr_lt (b : Nat) : ∀ x ∈ evr b, x < 2 ^ b := fun x hx => (evr_span b x).mp (.of hx)
theorem shp_lt (b : Nat) (Rs : List (List Nat)) (ch : List Nat) : ∀ i, ∀ x ∈ shp b Rs ch i, x < 2 ^ b
  | 0 => evr_lt b
  | i + 1 => by
    unfold shp
    split
    · exact mt_lt (shp_lt b Rs ch i)
    · exact shp_lt b Rs ch i
theorem shp_span (b : Nat) (Rs : List (List Nat)) (ch : List Nat) (x : Nat) : ∀ i, Spn (shp b Rs ch i) x ↔ x < 2 ^ b ∧ ∀ j, j < i → j ∈ ch → Spn (Rs.getD j []) x
  | 0 => by
    unfold shp
    rw [evr_span]
    exact ⟨fun h => ⟨h, fun j hj => absurd hj (Nat.not_lt_zero j)⟩, fun h => h.1⟩
  | i + 1 => by
    unfold shp
    split
    · rename_i hi
      rw [mt_span (shp_lt b Rs ch i), shp_span b Rs ch x i]
      constructor
      · rintro ⟨⟨h1, h2⟩, h3⟩
        refine ⟨h1, fun j hj hc => ?_⟩
        by_cases z : j < i
        · exact h2 j z hc
        · have : j = i := by omega
          subst this
          exact h3
      · rintro ⟨h1, h2⟩
        exact ⟨⟨h1, fun j hj hc => h2 j (by omega) hc⟩, h2 i (by omega) hi⟩
    · rename_i hi
      rw [shp_span b Rs ch x i]
      constructor
      · rintro ⟨h1, h2⟩
        refine ⟨h1, fun j hj hc => ?_⟩
        by_cases z : j < i
        · exact h2 j z hc
        · have : j = i := by omega
          subst this
          exact absurd hc hi
      · rintro ⟨h1, h2⟩
        exact ⟨h1, fun j hj hc => h2 j (by omega) hc⟩
theorem otp_span (Rs : List (List Nat)) (ch : List Nat) : ∀ i x, Spn (otp Rs ch i) x ↔ Spn (((List.range i).filter fun j => decide (j ∉ ch)).flatMap fun j => Rs.getD j []) x
  | 0, x => spn_span _ x
  | i + 1, x => by
    unfold otp
    rw [List.range_succ, List.filter_append, List.flatMap_append]
    split
    · rename_i hi
      rw [List.filter_cons_of_neg (by simp [hi]), List.filter_nil, List.flatMap_nil, List.append_nil]
      exact otp_span Rs ch i x
    · rename_i hi
      rw [List.filter_cons_of_pos (by simp [hi]), List.filter_nil, List.flatMap_cons, List.flatMap_nil, List.append_nil, sm_span]
      exact app_iff (otp_span Rs ch i) (fun _ => Iff.rfl) x
theorem own_cpl (b : Nat) (Rs : List (List Nat)) (ch : List Nat) : CplP (fun x => Spn (shp b Rs ch Rs.length) x ∧ Spn (otp Rs ch Rs.length) x) (Spn (shp b Rs ch Rs.length)) (own b Rs ch) :=
  ⟨_, _, fun x => mt_span (shp_lt b Rs ch _) x, fun x => Iff.rfl, cpl_of (spn_rws _) fun x hx => ((mt_span (shp_lt b Rs ch _) x).mp (.of hx)).1⟩
/-! ### three spaces -/
structure ThW where
  S : List Nat
  P1 : List Nat
  P2 : List Nat
  P3 : List Nat
  W : List (Nat × Nat)
  N1 : List Nat
  N2 : List Nat
  N3 : List Nat
  O : List Nat
def fpw (b : Nat) (A B C : List Nat) : List Nat := cmpl (sm (mt b A B) (mt b A C)) (mt b A (sm B C))
def fpl (b : Nat) (A B C : List Nat) : List (Nat × Nat) := (fpw b A B C).map fun w => (w, img B (slv (B ++ C) w &&& (1 <<< B.length - 1)))
def thw (b : Nat) (A B C : List Nat) : ThW := ⟨own b [A, B, C] [0, 1, 2], own b [A, B, C] [0, 1], own b [A, B, C] [0, 2], own b [A, B, C] [1, 2], fpl b A B C, own b [A, B, C] [0], own b [A, B, C] [1], own b [A, B, C] [2], own b [A, B, C] []⟩
structure Thr (b : Nat) (A B C : List Nat) (t : ThW) : Prop where
  s : CplP (fun x => x = 0) (fun x => Spn A x ∧ Spn B x ∧ Spn C x) t.S
  p1 : CplP (fun x => Spn A x ∧ Spn B x ∧ Spn C x) (fun x => Spn A x ∧ Spn B x) t.P1
  p2 : CplP (fun x => Spn A x ∧ Spn B x ∧ Spn C x) (fun x => Spn A x ∧ Spn C x) t.P2
  p3 : CplP (fun x => Spn A x ∧ Spn B x ∧ Spn C x) (fun x => Spn B x ∧ Spn C x) t.P3
  w1 : CplP (fun x => ∃ y z, (Spn A y ∧ Spn B y) ∧ (Spn A z ∧ Spn C z) ∧ x = y ^^^ z) (fun x => Spn A x ∧ Spn (B ++ C) x) (t.W.map (·.1))
  w2 : ∀ p ∈ t.W, Spn B p.2 ∧ Spn C (p.1 ^^^ p.2)
  n1 : CplP (fun x => Spn A x ∧ Spn (B ++ C) x) (Spn A) t.N1
  n2 : CplP (fun x => Spn B x ∧ Spn (A ++ C) x) (Spn B) t.N2
  n3 : CplP (fun x => Spn C x ∧ Spn (A ++ B) x) (Spn C) t.N3
  o : CplP (Spn (A ++ B ++ C)) (fun x => x < 2 ^ b) t.O
section
variable {b : Nat} {A B C : List Nat} (hA : ∀ x ∈ A, x < 2 ^ b) (hB : ∀ x ∈ B, x < 2 ^ b) (hC : ∀ x ∈ C, x < 2 ^ b)
include hA hB hC
theorem thr_mk (sf ot ow : List Nat → List Nat) (fw : List Nat) (sf_span : ∀ (ch : List Nat) (x : Nat), Spn (sf ch) x ↔ x < 2 ^ b ∧ ∀ j, j < 3 → j ∈ ch → Spn ([A, B, C].getD j []) x) (otp_span : ∀ (ch : List Nat) (x : Nat), Spn (ot ch) x ↔ Spn (((List.range 3).filter fun j => decide (j ∉ ch)).flatMap fun j => [A, B, C].getD j []) x)
    (o : ∀ ch, CplP (fun x => Spn (sf ch) x ∧ Spn (ot ch) x) (Spn (sf ch)) (ow ch))
    (w1 : CplP (fun x => ∃ y z, (Spn A y ∧ Spn B y) ∧ (Spn A z ∧ Spn C z) ∧ x = y ^^^ z) (fun x => Spn A x ∧ Spn (B ++ C) x) fw) :
    Thr b A B C ⟨ow [0, 1, 2], ow [0, 1], ow [0, 2], ow [1, 2], fw.map fun w => (w, img B (slv (B ++ C) w &&& (1 <<< B.length - 1))), ow [0], ow [1], ow [2], ow []⟩ := by
  have la : ∀ x, Spn A x → x < 2 ^ b := fun x h => h.lt hA
  have lb : ∀ x, Spn B x → x < 2 ^ b := fun x h => h.lt hB
  have lc : ∀ x, Spn C x → x < 2 ^ b := fun x h => h.lt hC
  have sh : ∀ (ch : List Nat) (x : Nat), Spn (sf ch) x ↔ x < 2 ^ b ∧ (0 ∈ ch → Spn A x) ∧ (1 ∈ ch → Spn B x) ∧ (2 ∈ ch → Spn C x) := fun ch x => by
    rw [sf_span]
    refine and_congr_right fun _ => ⟨fun h => ⟨h 0 (by decide), h 1 (by decide), h 2 (by decide)⟩, fun ⟨h0, h1, h2⟩ j hj => ?_⟩
    match j, hj with
    | 0, _ => exact h0
    | 1, _ => exact h1
    | 2, _ => exact h2
  have c012 : ∀ x, Spn (sf [0, 1, 2]) x ↔ (Spn A x ∧ Spn B x ∧ Spn C x) := fun x => by
    rw [sh]; simp; exact fun h _ _ => la x h
  have c01 : ∀ x, Spn (sf [0, 1]) x ↔ (Spn A x ∧ Spn B x) := fun x => by
    rw [sh]; simp; exact fun h _ => la x h
  have c02 : ∀ x, Spn (sf [0, 2]) x ↔ (Spn A x ∧ Spn C x) := fun x => by
    rw [sh]; simp; exact fun h _ => la x h
  have c12 : ∀ x, Spn (sf [1, 2]) x ↔ (Spn B x ∧ Spn C x) := fun x => by
    rw [sh]; simp; exact fun h _ => lb x h
  have c0 : ∀ x, Spn (sf [0]) x ↔ Spn A x := fun x => by
    rw [sh]; simp; exact la x
  have c1 : ∀ x, Spn (sf [1]) x ↔ Spn B x := fun x => by
    rw [sh]; simp; exact lb x
  have c2 : ∀ x, Spn (sf [2]) x ↔ Spn C x := fun x => by
    rw [sh]; simp; exact lc x
  have c : ∀ x, Spn (sf []) x ↔ x < 2 ^ b := fun x => by
    rw [sh]; simp
  have d012 : ∀ x, Spn (ot [0, 1, 2]) x ↔ x = 0 := fun x => by
    rw [otp_span]
    exact ⟨fun h => Spn.nil h, fun h => by rw [h]; exact .zero⟩
  have d01 : ∀ x, Spn (ot [0, 1]) x ↔ Spn C x := fun x => by
    rw [otp_span]
    show Spn (C ++ []) x ↔ _
    rw [List.append_nil]
  have d02 : ∀ x, Spn (ot [0, 2]) x ↔ Spn B x := fun x => by
    rw [otp_span]
    show Spn (B ++ []) x ↔ _
    rw [List.append_nil]
  have d12 : ∀ x, Spn (ot [1, 2]) x ↔ Spn A x := fun x => by
    rw [otp_span]
    show Spn (A ++ []) x ↔ _
    rw [List.append_nil]
  have d0 : ∀ x, Spn (ot [0]) x ↔ Spn (B ++ C) x := fun x => by
    rw [otp_span]
    show Spn (B ++ (C ++ [])) x ↔ _
    rw [List.append_nil]
  have d1 : ∀ x, Spn (ot [1]) x ↔ Spn (A ++ C) x := fun x => by
    rw [otp_span]
    show Spn (A ++ (C ++ [])) x ↔ _
    rw [List.append_nil]
  have d2 : ∀ x, Spn (ot [2]) x ↔ Spn (A ++ B) x := fun x => by
    rw [otp_span]
    show Spn (A ++ (B ++ [])) x ↔ _
    rw [List.append_nil]
  have d : ∀ x, Spn (ot []) x ↔ Spn (A ++ B ++ C) x := fun x => by
    rw [otp_span]
    show Spn (A ++ (B ++ (C ++ []))) x ↔ _
    rw [List.append_nil, List.append_assoc]
  refine ⟨(o [0, 1, 2]).iff (fun x => ?_) c012, (o [0, 1]).iff (fun x => ?_) c01, (o [0, 2]).iff (fun x => ?_) c02, (o [1, 2]).iff (fun x => ?_) c12, ?_, ?_, (o [0]).iff (fun x => ?_) c0, (o [1]).iff (fun x => ?_) c1, (o [2]).iff (fun x => ?_) c2, (o []).iff (fun x => ?_) c⟩
  · exact (and_congr (c012 x) (d012 x)).trans ⟨fun h => h.2, fun h => by rw [h]; exact ⟨⟨.zero, .zero, .zero⟩, rfl⟩⟩
  · exact (and_congr (c01 x) (d01 x)).trans ⟨fun h => ⟨h.1.1, h.1.2, h.2⟩, fun h => ⟨⟨h.1, h.2.1⟩, h.2.2⟩⟩
  · exact (and_congr (c02 x) (d02 x)).trans ⟨fun h => ⟨h.1.1, h.2, h.1.2⟩, fun h => ⟨⟨h.1, h.2.2⟩, h.2.1⟩⟩
  · exact (and_congr (c12 x) (d12 x)).trans ⟨fun h => ⟨h.2, h.1.1, h.1.2⟩, fun h => ⟨h.2, h.1⟩⟩
  · show CplP _ _ ((fw.map fun w => (w, img B (slv (B ++ C) w &&& (1 <<< B.length - 1)))).map (·.1))
    rw [List.map_map]
    have e : fw.map ((fun p : Nat × Nat => p.1) ∘ fun w => (w, img B (slv (B ++ C) w &&& (1 <<< B.length - 1)))) = fw := List.map_id _
    rw [e]
    exact w1
  · intro p hp
    obtain ⟨w, hw, rfl⟩ := List.mem_map.mp hp
    have q := (w1.mem hw).2
    obtain ⟨z1, z2⟩ := slv_ok q
    generalize slv (B ++ C) w = z at *
    have l : lo B.length z = z &&& (1 <<< B.length - 1) := rfl
    show Spn B (img B (z &&& (1 <<< B.length - 1))) ∧ Spn C (w ^^^ img B (z &&& (1 <<< B.length - 1)))
    rw [← l]
    have h1 : Spn B (img B (lo B.length z)) := img_in B (lo_lt _ _)
    refine ⟨h1, ?_⟩
    have e := img_app (P := B) (Q := C) (y := z >>> B.length) (lo_lt B.length z)
    rw [Nat.xor_comm (lo _ _), Nat.xor_comm ((z >>> B.length) <<< B.length), lo_hi, z2] at e
    rw [e, Nat.xor_comm, ← Nat.xor_assoc, Nat.xor_self, Nat.zero_xor]
    rw [List.length_append] at z1
    exact img_in C (by have := hi_lt (Nat.le_add_right B.length C.length) z1; rwa [Nat.add_sub_cancel_left] at this)
  · exact and_congr (c0 x) (d0 x)
  · exact and_congr (c1 x) (d1 x)
  · exact and_congr (c2 x) (d2 x)
  · exact (and_congr (c x) (d x)).trans ⟨fun h => h.2, fun h => ⟨h.lt fun y hy => by
      rcases List.mem_append.mp hy with hy | hy
      · exact (List.mem_append.mp hy).elim (hA y) (hB y)
      · exact hC y hy, h⟩⟩
theorem thr_of : Thr b A B C (thw b A B C) := by
  have nr : ∀ x, Spn (sm (mt b A B) (mt b A C)) x ↔ ∃ y z, (Spn A y ∧ Spn B y) ∧ (Spn A z ∧ Spn C z) ∧ x = y ^^^ z := fun x => by
    rw [sm_span, app_spl]
    constructor
    · rintro ⟨y, z, h1, h2, h3⟩
      exact ⟨y, z, (mt_span hA y).mp h1, (mt_span hA z).mp h2, h3⟩
    · rintro ⟨y, z, h1, h2, h3⟩
      exact ⟨y, z, (mt_span hA y).mpr h1, (mt_span hA z).mpr h2, h3⟩
  have se : ∀ x, Spn (mt b A (sm B C)) x ↔ Spn A x ∧ Spn (B ++ C) x := fun x => by rw [mt_span hA, sm_span]
  have w1 : CplP (fun x => ∃ y z, (Spn A y ∧ Spn B y) ∧ (Spn A z ∧ Spn C z) ∧ x = y ^^^ z) (fun x => Spn A x ∧ Spn (B ++ C) x) (fpw b A B C) :=
    ⟨_, _, nr, se, cpl_of (sm_rws _ _) fun x hx => by
      obtain ⟨y, z, h1, h2, rfl⟩ := (nr x).mp (.of hx)
      exact (se _).mpr ⟨h1.1.xor h2.1, app_spl.mpr ⟨y, z, h1.2, h2.2, rfl⟩⟩⟩
  exact thr_mk hA hB hC (fun ch => shp b [A, B, C] ch 3) (fun ch => otp [A, B, C] ch 3) (fun ch => own b [A, B, C] ch) (fpw b A B C) (fun ch x => shp_span b [A, B, C] ch x 3) (fun ch x => otp_span [A, B, C] ch 3 x) (fun ch => own_cpl b [A, B, C] ch) w1
end
/-! ### the words told are all words -/
def fd1 (t : ThW) : List Nat := t.S ++ t.P1 ++ t.P2 ++ t.W.map (·.1) ++ t.N1
def fd2 (t : ThW) : List Nat := t.S ++ t.P1 ++ t.P3 ++ t.W.map (·.2) ++ t.N2
def fd3 (t : ThW) : List Nat := t.S ++ t.P2 ++ t.P3 ++ t.W.map (fun p => p.1 ^^^ p.2) ++ t.N3
def fall (t : ThW) : List Nat := t.S ++ t.P1 ++ t.P2 ++ t.P3 ++ t.W.flatMap (fun p => [p.1, p.2]) ++ t.N1 ++ t.N2 ++ t.N3 ++ t.O
theorem spn_pick {W : List (Nat × Nat)} (f g : Nat × Nat → Nat) {z : Nat} (h : Spn (W.map f) z) : ∃ y, Spn (W.map g) y ∧ ∃ v, Spn (W.map fun p => f p ^^^ g p) v ∧ z = y ^^^ v := by
  induction h with
  | zero => exact ⟨0, .zero, 0, .zero, rfl⟩
  | add hw _ ih =>
    obtain ⟨y, hy, v, hv, rfl⟩ := ih
    obtain ⟨p, hp, rfl⟩ := List.mem_map.mp hw
    refine ⟨y ^^^ g p, .add (List.mem_map.mpr ⟨p, hp, rfl⟩) hy, v ^^^ (f p ^^^ g p), .add (List.mem_map.mpr ⟨p, hp, rfl⟩) hv, ?_⟩
    rw [xor4, ← Nat.xor_assoc (g p), Nat.xor_comm (g p), Nat.xor_assoc (f p), Nat.xor_self, Nat.xor_zero]
section
variable {b : Nat} {A B C : List Nat} {t : ThW} (h : Thr b A B C t)
include h
theorem thr_abc {x : Nat} (hx : Spn A x ∧ Spn B x ∧ Spn C x) : Spn t.S x := by
  obtain ⟨y, z, rfl, hz, e⟩ := h.s.split hx
  rw [e, Nat.zero_xor]
  exact hz
theorem thr_ab {x : Nat} (hx : Spn A x ∧ Spn B x) : Spn (t.S ++ t.P1) x := by
  obtain ⟨y, z, hy, hz, rfl⟩ := h.p1.split hx
  exact app_spl.mpr ⟨y, z, thr_abc h hy, hz, rfl⟩
theorem thr_ac {x : Nat} (hx : Spn A x ∧ Spn C x) : Spn (t.S ++ t.P2) x := by
  obtain ⟨y, z, hy, hz, rfl⟩ := h.p2.split hx
  exact app_spl.mpr ⟨y, z, thr_abc h hy, hz, rfl⟩
theorem thr_bc {x : Nat} (hx : Spn B x ∧ Spn C x) : Spn (t.S ++ t.P3) x := by
  obtain ⟨y, z, hy, hz, rfl⟩ := h.p3.split hx
  exact app_spl.mpr ⟨y, z, thr_abc h hy, hz, rfl⟩
theorem thr_bW {z : Nat} (hz : Spn (t.W.map (·.2)) z) : Spn B z := hz.mono fun v hv => by
  obtain ⟨p, hp, rfl⟩ := List.mem_map.mp hv
  exact (h.w2 p hp).1
theorem thr_cW {z : Nat} (hz : Spn (t.W.map fun p => p.1 ^^^ p.2) z) : Spn C z := hz.mono fun v hv => by
  obtain ⟨p, hp, rfl⟩ := List.mem_map.mp hv
  exact (h.w2 p hp).2
/-- what lies in the first one and in the sum of the others -/
theorem thr_seen {x : Nat} (hx : Spn A x ∧ Spn (B ++ C) x) : ∃ y z u v, (Spn A y ∧ Spn B y) ∧ (Spn A z ∧ Spn C z) ∧ Spn (t.W.map (·.2)) u ∧ Spn (t.W.map fun p => p.1 ^^^ p.2) v ∧ Spn (t.W.map (·.1)) (u ^^^ v) ∧ x = (y ^^^ z) ^^^ (u ^^^ v) := by
  obtain ⟨n, w, ⟨y, z, hy, hz, rfl⟩, hw, rfl⟩ := h.w1.split hx
  obtain ⟨u, hu, v, hv, rfl⟩ := spn_pick (·.1) (·.2) hw
  exact ⟨y, z, u, v, hy, hz, hu, hv, hw, rfl⟩
theorem thr_a {x : Nat} (hx : Spn A x) : Spn (fd1 t) x := by
  obtain ⟨n, k, hn, hk, rfl⟩ := h.n1.split hx
  obtain ⟨y, z, u, v, hy, hz, hu, hv, hw, rfl⟩ := thr_seen h hn
  unfold fd1
  refine Spn.xor (Spn.xor (Spn.xor ?_ ?_) ?_) ?_
  · exact (thr_ab h hy).sub fun q hq => by simp only [List.mem_append] at hq ⊢; rcases hq with hq | hq <;> simp [hq]
  · exact (thr_ac h hz).sub fun q hq => by simp only [List.mem_append] at hq ⊢; rcases hq with hq | hq <;> simp [hq]
  · exact hw.sub fun q hq => by simp only [List.mem_append]; simp [hq]
  · exact hk.sub fun q hq => by simp only [List.mem_append]; simp [hq]
theorem thr_b {x : Nat} (hx : Spn B x) : Spn (fd2 t) x := by
  obtain ⟨n, k, ⟨hn, hs⟩, hk, rfl⟩ := h.n2.split hx
  obtain ⟨α, γ, hα, hγ, e⟩ := app_spl.mp hs
  have e2 : α = n ^^^ γ := by rw [e, Nat.xor_assoc, Nat.xor_self, Nat.xor_zero]
  obtain ⟨y, z, u, v, hy, hz, hu, hv, hw, e3⟩ := thr_seen h ⟨hα, by rw [e2]; exact app_spl.mpr ⟨n, γ, hn, hγ, rfl⟩⟩
  have m1 : Spn B (n ^^^ y ^^^ u) := (hn.xor hy.2).xor (thr_bW h hu)
  have m2 : n ^^^ y ^^^ u = γ ^^^ z ^^^ v := by
    rw [e, e3]
    apply Nat.eq_of_testBit_eq
    intro i
    simp only [Nat.testBit_xor]
    cases y.testBit i <;> cases z.testBit i <;> cases u.testBit i <;> cases v.testBit i <;> cases γ.testBit i <;> rfl
  have m3 : Spn C (n ^^^ y ^^^ u) := by rw [m2]; exact (hγ.xor hz.2).xor (thr_cW h hv)
  have e4 : n = (n ^^^ y ^^^ u) ^^^ (y ^^^ u) := by
    apply Nat.eq_of_testBit_eq
    intro i
    simp only [Nat.testBit_xor]
    cases n.testBit i <;> cases y.testBit i <;> cases u.testBit i <;> rfl
  rw [e4]
  unfold fd2
  refine Spn.xor (Spn.xor ?_ (Spn.xor ?_ ?_)) ?_
  · exact (thr_bc h ⟨m1, m3⟩).sub fun q hq => by simp only [List.mem_append] at hq ⊢; rcases hq with hq | hq <;> simp [hq]
  · exact (thr_ab h hy).sub fun q hq => by simp only [List.mem_append] at hq ⊢; rcases hq with hq | hq <;> simp [hq]
  · exact hu.sub fun q hq => by simp only [List.mem_append]; simp [hq]
  · exact hk.sub fun q hq => by simp only [List.mem_append]; simp [hq]
theorem thr_c {x : Nat} (hx : Spn C x) : Spn (fd3 t) x := by
  obtain ⟨n, k, ⟨hn, hs⟩, hk, rfl⟩ := h.n3.split hx
  obtain ⟨α, γ, hα, hγ, e⟩ := app_spl.mp hs
  have e2 : α = γ ^^^ n := by rw [e, Nat.xor_comm, Nat.xor_assoc, Nat.xor_self, Nat.xor_zero]
  obtain ⟨y, z, u, v, hy, hz, hu, hv, hw, e3⟩ := thr_seen h ⟨hα, by rw [e2]; exact app_spl.mpr ⟨γ, n, hγ, hn, rfl⟩⟩
  have m1 : Spn C (n ^^^ z ^^^ v) := (hn.xor hz.2).xor (thr_cW h hv)
  have m2 : n ^^^ z ^^^ v = γ ^^^ y ^^^ u := by
    rw [e, e3]
    apply Nat.eq_of_testBit_eq
    intro i
    simp only [Nat.testBit_xor]
    cases y.testBit i <;> cases z.testBit i <;> cases u.testBit i <;> cases v.testBit i <;> cases γ.testBit i <;> rfl
  have m3 : Spn B (n ^^^ z ^^^ v) := by rw [m2]; exact (hγ.xor hy.2).xor (thr_bW h hu)
  have e4 : n = (n ^^^ z ^^^ v) ^^^ (z ^^^ v) := by
    apply Nat.eq_of_testBit_eq
    intro i
    simp only [Nat.testBit_xor]
    cases n.testBit i <;> cases z.testBit i <;> cases v.testBit i <;> rfl
  rw [e4]
  unfold fd3
  refine Spn.xor (Spn.xor ?_ (Spn.xor ?_ ?_)) ?_
  · exact (thr_bc h ⟨m3, m1⟩).sub fun q hq => by simp only [List.mem_append] at hq ⊢; rcases hq with hq | hq <;> simp [hq]
  · exact (thr_ac h hz).sub fun q hq => by simp only [List.mem_append] at hq ⊢; rcases hq with hq | hq <;> simp [hq]
  · exact hv.sub fun q hq => by simp only [List.mem_append]; simp [hq]
  · exact hk.sub fun q hq => by simp only [List.mem_append]; simp [hq]
theorem fd1_all : ∀ x ∈ fd1 t, Spn (fall t) x := fun x hx => by
  unfold fd1 at hx
  unfold fall
  simp only [List.mem_append] at hx
  have m : ∀ y, (y ∈ t.S ∨ y ∈ t.P1 ∨ y ∈ t.P2 ∨ y ∈ t.W.flatMap (fun p => [p.1, p.2]) ∨ y ∈ t.N1) → y ∈ t.S ++ t.P1 ++ t.P2 ++ t.P3 ++ t.W.flatMap (fun p => [p.1, p.2]) ++ t.N1 ++ t.N2 ++ t.N3 ++ t.O := fun y hy => by
    simp only [List.mem_append]
    rcases hy with hy | hy | hy | hy | hy <;> simp only [hy, true_or, or_true]
  refine .of (m x ?_)
  rcases hx with (((hx | hx) | hx) | hx) | hx
  · exact .inl hx
  · exact .inr (.inl hx)
  · exact .inr (.inr (.inl hx))
  · obtain ⟨p, hp, rfl⟩ := List.mem_map.mp hx
    exact .inr (.inr (.inr (.inl (List.mem_flatMap.mpr ⟨p, hp, by simp⟩))))
  · exact .inr (.inr (.inr (.inr hx)))
theorem fd2_all : ∀ x ∈ fd2 t, Spn (fall t) x := fun x hx => by
  unfold fd2 at hx
  unfold fall
  simp only [List.mem_append] at hx
  have m : ∀ y, (y ∈ t.S ∨ y ∈ t.P1 ∨ y ∈ t.P3 ∨ y ∈ t.W.flatMap (fun p => [p.1, p.2]) ∨ y ∈ t.N2) → y ∈ t.S ++ t.P1 ++ t.P2 ++ t.P3 ++ t.W.flatMap (fun p => [p.1, p.2]) ++ t.N1 ++ t.N2 ++ t.N3 ++ t.O := fun y hy => by
    simp only [List.mem_append]
    rcases hy with hy | hy | hy | hy | hy <;> simp only [hy, true_or, or_true]
  refine .of (m x ?_)
  rcases hx with (((hx | hx) | hx) | hx) | hx
  · exact .inl hx
  · exact .inr (.inl hx)
  · exact .inr (.inr (.inl hx))
  · obtain ⟨p, hp, rfl⟩ := List.mem_map.mp hx
    exact .inr (.inr (.inr (.inl (List.mem_flatMap.mpr ⟨p, hp, by simp⟩))))
  · exact .inr (.inr (.inr (.inr hx)))
theorem fd3_all : ∀ x ∈ fd3 t, Spn (fall t) x := fun x hx => by
  unfold fd3 at hx
  unfold fall
  simp only [List.mem_append] at hx
  have m : ∀ y, (y ∈ t.S ∨ y ∈ t.P2 ∨ y ∈ t.P3 ∨ y ∈ t.W.flatMap (fun p => [p.1, p.2]) ∨ y ∈ t.N3) → y ∈ t.S ++ t.P1 ++ t.P2 ++ t.P3 ++ t.W.flatMap (fun p => [p.1, p.2]) ++ t.N1 ++ t.N2 ++ t.N3 ++ t.O := fun y hy => by
    simp only [List.mem_append]
    rcases hy with hy | hy | hy | hy | hy <;> simp only [hy, true_or, or_true]
  rcases hx with (((hx | hx) | hx) | hx) | hx
  · exact .of (m x (.inl hx))
  · exact .of (m x (.inr (.inl hx)))
  · exact .of (m x (.inr (.inr (.inl hx))))
  · obtain ⟨p, hp, rfl⟩ := List.mem_map.mp hx
    exact (Spn.of (m _ (.inr (.inr (.inr (.inl (List.mem_flatMap.mpr ⟨p, hp, by simp⟩))))))).xor (.of (m _ (.inr (.inr (.inr (.inl (List.mem_flatMap.mpr ⟨p, hp, by simp⟩)))))))
  · exact .of (m x (.inr (.inr (.inr (.inr hx)))))
theorem thr_all {x : Nat} (hx : x < 2 ^ b) : Spn (fall t) x := by
  obtain ⟨n, k, hn, hk, rfl⟩ := h.o.split hx
  refine Spn.xor ?_ (hk.sub fun q hq => by unfold fall; simp only [List.mem_append, hq, or_true])
  obtain ⟨y, z, hy, hz, rfl⟩ := app_spl.mp hn
  obtain ⟨u, v, hu, hv, rfl⟩ := app_spl.mp hy
  exact (((thr_a h hu).mono (fd1_all h)).xor ((thr_b h hv).mono (fd2_all h))).xor ((thr_c h hz).mono (fd3_all h))
theorem thr_m1 {x : Nat} (hx : x ∈ fd1 t) : Spn A x := by
  unfold fd1 at hx
  simp only [List.mem_append] at hx
  rcases hx with (((hx | hx) | hx) | hx) | hx
  · exact (h.s.mem hx).1
  · exact (h.p1.mem hx).1
  · exact (h.p2.mem hx).1
  · exact (h.w1.mem hx).1
  · exact h.n1.mem hx
theorem thr_m2 {x : Nat} (hx : x ∈ fd2 t) : Spn B x := by
  unfold fd2 at hx
  simp only [List.mem_append] at hx
  rcases hx with (((hx | hx) | hx) | hx) | hx
  · exact (h.s.mem hx).2.1
  · exact (h.p1.mem hx).2
  · exact (h.p3.mem hx).1
  · exact thr_bW h (.of hx)
  · exact h.n2.mem hx
theorem thr_m3 {x : Nat} (hx : x ∈ fd3 t) : Spn C x := by
  unfold fd3 at hx
  simp only [List.mem_append] at hx
  rcases hx with (((hx | hx) | hx) | hx) | hx
  · exact (h.s.mem hx).2.2
  · exact (h.p2.mem hx).2
  · exact (h.p3.mem hx).2
  · exact thr_cW h (.of hx)
  · exact h.n3.mem hx
end
end LaneX
set_option linter.all false
set_option maxHeartbeats 1000000
namespace LaneX
/-! ### a planted base in lots -/
def cat (seg : Nat → List Nat) (I : List Nat) : List Nat := I.flatMap seg
def lns (seg : Nat → List Nat) (I : List Nat) : Nat := (I.map fun i => (seg i).length).sum
theorem cat_len (seg : Nat → List Nat) (I : List Nat) : (cat seg I).length = lns seg I := List.length_flatMap
structure Plt (b : Nat) (seg : Nat → List Nat) : Prop where
  m : Mix b (cat seg [0, 1, 2, 3, 4, 5, 6, 7, 8, 9])
  l : (seg 5).length = (seg 4).length
  r : seg 10 = (List.range (seg 4).length).map fun k => (seg 4).getD k 0 ^^^ (seg 5).getD k 0
def cok (I : List Nat) (i : Nat) : Bool := decide (i ∈ I) || (i == 10 && decide (4 ∈ I) && decide (5 ∈ I)) || (i == 4 && decide (5 ∈ I) && decide (10 ∈ I)) || (i == 5 && decide (4 ∈ I) && decide (10 ∈ I))
theorem cat_mem {seg : Nat → List Nat} {I : List Nat} {i x : Nat} (hi : i ∈ I) (hx : x ∈ seg i) : x ∈ cat seg I := List.mem_flatMap.mpr ⟨i, hi, hx⟩
theorem cat_mono {seg : Nat → List Nat} {I J : List Nat} (h : I.Sublist J) : (cat seg I).Sublist (cat seg J) := by
  unfold cat
  induction h with
  | slnil => exact List.Sublist.refl _
  | cons a _ ih => rw [List.flatMap_cons]; exact ih.trans (List.sublist_append_right _ _)
  | cons_cons a _ ih => rw [List.flatMap_cons, List.flatMap_cons]; exact List.Sublist.append (List.Sublist.refl _) ih
theorem rk_sublist {X Y : List Nat} (s : X.Sublist Y) (h : rk Y = Y.length) : rk X = X.length := by
  obtain ⟨l, p⟩ := s.exists_perm_append
  have h1 := rk_perm p
  have h2 := p.length_eq
  have h3 := rk_app_len X l
  have h4 := rk_len X
  rw [List.length_append] at h2
  omega
theorem mem_at {A : List Nat} {x : Nat} (h : x ∈ A) : ∃ k, k < A.length ∧ x = A.getD k 0 := by
  obtain ⟨k, hk, e⟩ := List.getElem_of_mem h
  exact ⟨k, hk, by rw [List.getD_eq_getElem?_getD, List.getElem?_eq_getElem hk, e]; rfl⟩
theorem getD_memB {A : List Nat} {k : Nat} (h : k < A.length) : A.getD k 0 ∈ A := by
  rw [List.getD_eq_getElem?_getD, List.getElem?_eq_getElem h]
  exact List.getElem_mem _
def LL0 : List Nat := [0, 1, 2, 3, 4, 5, 6, 7, 8, 9]
def LL1 : List Nat := [0, 1, 2, 3, 4, 10, 6, 7, 8, 9]
def LL2 : List Nat := [0, 1, 2, 3, 10, 5, 6, 7, 8, 9]
def okI (I : List Nat) : Bool := I.isSublist LL0 || I.isSublist LL1 || I.isSublist LL2
section
variable {b : Nat} {seg : Nat → List Nat} (h : Plt b seg)
include h
theorem plt_r {k : Nat} (hk : k < (seg 4).length) : (seg 4).getD k 0 ^^^ (seg 5).getD k 0 ∈ seg 10 := by
  rw [h.r]
  exact List.mem_map.mpr ⟨k, List.mem_range.mpr hk, rfl⟩
theorem cat_sub {I J : List Nat} (q : ∀ i ∈ J, cok I i = true) : ∀ x ∈ cat seg J, Spn (cat seg I) x := fun x hx => by
  obtain ⟨i, hi, hx⟩ := List.mem_flatMap.mp hx
  have c := q i hi
  unfold cok at c
  simp only [Bool.or_eq_true, Bool.and_eq_true, decide_eq_true_eq, beq_iff_eq] at c
  rcases c with ((c | ⟨⟨rfl, c4⟩, c5⟩) | ⟨⟨rfl, c5⟩, c10⟩) | ⟨⟨rfl, c4⟩, c10⟩
  · exact .of (cat_mem c hx)
  · rw [h.r] at hx
    obtain ⟨k, hk, rfl⟩ := List.mem_map.mp hx
    have hk := List.mem_range.mp hk
    exact (Spn.of (cat_mem c4 (getD_memB hk))).xor (.of (cat_mem c5 (getD_memB (by rw [h.l]; exact hk))))
  · obtain ⟨k, hk, rfl⟩ := mem_at hx
    have e : (seg 4).getD k 0 = ((seg 4).getD k 0 ^^^ (seg 5).getD k 0) ^^^ (seg 5).getD k 0 := by rw [Nat.xor_assoc, Nat.xor_self, Nat.xor_zero]
    rw [e]
    exact (Spn.of (cat_mem c10 (plt_r h hk))).xor (.of (cat_mem c5 (getD_memB (by rw [h.l]; exact hk))))
  · obtain ⟨k, hk, rfl⟩ := mem_at hx
    rw [h.l] at hk
    have e : (seg 5).getD k 0 = (seg 4).getD k 0 ^^^ ((seg 4).getD k 0 ^^^ (seg 5).getD k 0) := by rw [← Nat.xor_assoc, Nat.xor_self, Nat.zero_xor]
    rw [e]
    exact (Spn.of (cat_mem c4 (getD_memB hk))).xor (.of (cat_mem c10 (plt_r h hk)))
theorem cat_iff {I J : List Nat} (q1 : (J.all (cok I)) = true) (q2 : (I.all (cok J)) = true) (x : Nat) : Spn (cat seg I) x ↔ Spn (cat seg J) x :=
  ⟨fun z => z.mono (cat_sub h (List.all_eq_true.mp q2)), fun z => z.mono (cat_sub h (List.all_eq_true.mp q1))⟩
theorem plt_l10 : (seg 10).length = (seg 4).length := by rw [h.r, List.length_map, List.length_range]
theorem rk_L0 : rk (cat seg LL0) = (cat seg LL0).length := by
  have := h.m
  rw [show cat seg LL0 = cat seg [0, 1, 2, 3, 4, 5, 6, 7, 8, 9] from rfl, this.rk, this.len]
theorem rk_L1 : rk (cat seg LL1) = (cat seg LL1).length := by
  rw [rk_eq (cat_iff h (I := LL1) (J := LL0) (by decide) (by decide)), rk_L0 h, cat_len, cat_len]
  have := plt_l10 h
  have := h.l
  simp only [lns, LL0, LL1, List.map_cons, List.map_nil, List.sum_cons, List.sum_nil]
  omega
theorem rk_L2 : rk (cat seg LL2) = (cat seg LL2).length := by
  rw [rk_eq (cat_iff h (I := LL2) (J := LL0) (by decide) (by decide)), rk_L0 h, cat_len, cat_len]
  have := plt_l10 h
  have := h.l
  simp only [lns, LL0, LL2, List.map_cons, List.map_nil, List.sum_cons, List.sum_nil]
  omega
theorem cat_rk {I : List Nat} (o : okI I = true) : rk (cat seg I) = lns seg I := by
  rw [← cat_len]
  unfold okI at o
  simp only [Bool.or_eq_true, List.isSublist_iff_sublist] at o
  rcases o with (o | o) | o
  · exact rk_sublist (cat_mono o) (rk_L0 h)
  · exact rk_sublist (cat_mono o) (rk_L1 h)
  · exact rk_sublist (cat_mono o) (rk_L2 h)
theorem cat_lt {I : List Nat} (q : I.all (cok LL0) = true) : ∀ x ∈ cat seg I, x < 2 ^ b := fun x hx => (cat_sub h (List.all_eq_true.mp q) x hx).lt h.m.lt
theorem cat_meet {A B I J K U : List Nat} (hA : ∀ x, Spn A x ↔ Spn (cat seg I) x) (hB : ∀ x, Spn B x ↔ Spn (cat seg J) x) (oI : okI I = true) (oJ : okI J = true) (oK : okI K = true) (oU : okI U = true)
    (q : I.all (cok LL0) = true) (kI : K.all (cok I) = true) (kJ : K.all (cok J) = true) (u1 : U.all (cok (I ++ J)) = true) (u2 : (I ++ J).all (cok U) = true) (e : lns seg K + lns seg U = lns seg I + lns seg J) (x : Nat) : (Spn A x ∧ Spn B x) ↔ Spn (cat seg K) x := by
  rw [hA, hB]
  refine meet_is (cat_lt h q) (cat_sub h (List.all_eq_true.mp kI)) (cat_sub h (List.all_eq_true.mp kJ)) ?_ x
  have : cat seg I ++ cat seg J = cat seg (I ++ J) := by unfold cat; rw [List.flatMap_append]
  rw [this, rk_eq (cat_iff h (I := I ++ J) (J := U) u1 u2), cat_rk h oI, cat_rk h oJ, cat_rk h oK, cat_rk h oU, e]
theorem cat_sum {A B I J U : List Nat} (hA : ∀ x, Spn A x ↔ Spn (cat seg I) x) (hB : ∀ x, Spn B x ↔ Spn (cat seg J) x) (u1 : U.all (cok (I ++ J)) = true) (u2 : (I ++ J).all (cok U) = true) (x : Nat) : Spn (A ++ B) x ↔ Spn (cat seg U) x := by
  rw [app_iff hA hB, ← cat_iff h (I := I ++ J) (J := U) u1 u2]
  unfold cat
  rw [List.flatMap_append]
/-- the numbers of the words told -/
theorem plt_numbers {A B C : List Nat} {t : ThW} (T : Thr b A B C t) (hA : ∀ x, Spn A x ↔ Spn (cat seg [0, 1, 2, 4, 6]) x) (hB : ∀ x, Spn B x ↔ Spn (cat seg [0, 1, 3, 5, 7]) x) (hC : ∀ x, Spn C x ↔ Spn (cat seg [0, 2, 3, 10, 8]) x) :
    t.S.length = (seg 0).length ∧ t.P1.length = (seg 1).length ∧ t.P2.length = (seg 2).length ∧ t.P3.length = (seg 3).length ∧ t.W.length = (seg 4).length ∧ t.N1.length = (seg 6).length ∧ t.N2.length = (seg 7).length ∧ t.N3.length = (seg 8).length ∧ t.O.length = (seg 9).length := by
  have l10 := plt_l10 h
  have l5 := h.l
  have AB := cat_meet h (K := [0, 1]) (U := [0, 1, 2, 3, 4, 5, 6, 7]) hA hB (by decide) (by decide) (by decide) (by decide) (by decide) (by decide) (by decide) (by decide) (by decide) (by simp only [lns, List.map_cons, List.map_nil, List.sum_cons, List.sum_nil]; omega)
  have AC := cat_meet h (K := [0, 2]) (U := [0, 1, 2, 3, 4, 10, 6, 8]) hA hC (by decide) (by decide) (by decide) (by decide) (by decide) (by decide) (by decide) (by decide) (by decide) (by simp only [lns, List.map_cons, List.map_nil, List.sum_cons, List.sum_nil]; omega)
  have BC := cat_meet h (K := [0, 3]) (U := [0, 1, 2, 3, 10, 5, 7, 8]) hB hC (by decide) (by decide) (by decide) (by decide) (by decide) (by decide) (by decide) (by decide) (by decide) (by simp only [lns, List.map_cons, List.map_nil, List.sum_cons, List.sum_nil]; omega)
  have ABC := cat_meet h (A := cat seg [0, 1]) (K := [0]) (U := [0, 1, 2, 3, 10, 8]) (fun _ => Iff.rfl) hC (by decide) (by decide) (by decide) (by decide) (by decide) (by decide) (by decide) (by decide) (by decide) (by simp only [lns, List.map_cons, List.map_nil, List.sum_cons, List.sum_nil]; omega)
  have abc : ∀ x, Spn (cat seg [0]) x ↔ (Spn A x ∧ Spn B x ∧ Spn C x) := fun x => by rw [← ABC x, ← AB x, and_assoc]
  have sBC := cat_sum h (U := [0, 1, 2, 3, 10, 5, 7, 8]) hB hC (by decide) (by decide)
  have sAC := cat_sum h (U := [0, 1, 2, 3, 4, 10, 6, 8]) hA hC (by decide) (by decide)
  have sAB := cat_sum h (U := [0, 1, 2, 3, 4, 5, 6, 7]) hA hB (by decide) (by decide)
  have A_ := cat_meet h (K := [0, 1, 2, 4]) (U := [0, 1, 2, 3, 4, 5, 6, 7, 8]) hA sBC (by decide) (by decide) (by decide) (by decide) (by decide) (by decide) (by decide) (by decide) (by decide) (by simp only [lns, List.map_cons, List.map_nil, List.sum_cons, List.sum_nil]; omega)
  have B_ := cat_meet h (K := [0, 1, 3, 5]) (U := [0, 1, 2, 3, 4, 5, 6, 7, 8]) hB sAC (by decide) (by decide) (by decide) (by decide) (by decide) (by decide) (by decide) (by decide) (by decide) (by simp only [lns, List.map_cons, List.map_nil, List.sum_cons, List.sum_nil]; omega)
  have C_ := cat_meet h (K := [0, 2, 3, 10]) (U := [0, 1, 2, 3, 4, 5, 6, 7, 8]) hC sAB (by decide) (by decide) (by decide) (by decide) (by decide) (by decide) (by decide) (by decide) (by decide) (by simp only [lns, List.map_cons, List.map_nil, List.sum_cons, List.sum_nil]; omega)
  have near : ∀ x, Spn (cat seg [0, 1, 2]) x ↔ ∃ y z, (Spn A y ∧ Spn B y) ∧ (Spn A z ∧ Spn C z) ∧ x = y ^^^ z := fun x => by
    rw [← cat_sum h (A := cat seg [0, 1]) (B := cat seg [0, 2]) (I := [0, 1]) (J := [0, 2]) (U := [0, 1, 2]) (fun _ => Iff.rfl) (fun _ => Iff.rfl) (by decide) (by decide), app_spl]
    constructor
    · rintro ⟨y, z, h1, h2, h3⟩
      exact ⟨y, z, (AB y).mpr h1, (AC z).mpr h2, h3⟩
    · rintro ⟨y, z, h1, h2, h3⟩
      exact ⟨y, z, (AB y).mp h1, (AC z).mp h2, h3⟩
  have all : ∀ x, Spn (cat seg LL0) x ↔ x < 2 ^ b := fun x => ⟨fun z => z.lt h.m.lt, fun z => h.m.all z⟩
  have sABC := cat_sum h (U := [0, 1, 2, 3, 4, 5, 6, 7, 8]) sAB hC (by decide) (by decide)
  have nil : ∀ x, Spn ([] : List Nat) x ↔ x = 0 := fun x => ⟨fun z => z.nil, fun z => by rw [z]; exact .zero⟩
  have k0 := T.s.len nil abc
  have k1 := T.p1.len abc (fun x => (AB x).symm)
  have k2 := T.p2.len abc (fun x => (AC x).symm)
  have k3 := T.p3.len abc (fun x => (BC x).symm)
  have k4 := T.w1.len near (fun x => (A_ x).symm)
  have k6 := T.n1.len (fun x => (A_ x).symm) (fun x => (hA x).symm)
  have k7 := T.n2.len (fun x => (B_ x).symm) (fun x => (hB x).symm)
  have k8 := T.n3.len (fun x => (C_ x).symm) (fun x => (hC x).symm)
  have k9 := T.o.len (fun x => (sABC x).symm) all
  have r0 : rk ([] : List Nat) = 0 := rfl
  rw [r0, cat_rk h (by decide)] at k0
  rw [cat_rk h (by decide), cat_rk h (by decide)] at k1 k2 k3 k4 k6 k7 k8 k9
  rw [List.length_map] at k4
  simp only [lns, LL0, List.map_cons, List.map_nil, List.sum_cons, List.sum_nil] at k0 k1 k2 k3 k4 k6 k7 k8 k9
  omega
end
end LaneX
set_option linter.all false
set_option maxHeartbeats 1000000
namespace LaneX
/-! ### one triple led to another -/
structure Nums where
  s : Nat
  p1 : Nat
  p2 : Nat
  p3 : Nat
  w : Nat
  n1 : Nat
  n2 : Nat
  n3 : Nat
  o : Nat
def Nums.l (n : Nums) : List Nat := [n.s, n.p1, n.p2, n.p3, n.w, n.n1, n.n2, n.n3, n.o]
def Nums.bits (n : Nums) : Nat := n.s + n.p1 + n.p2 + n.p3 + n.w + n.n1 + n.n2 + n.n3 + n.o + n.w
structure Tn (t : ThW) (n : Nums) : Prop where
  s : t.S.length = n.s
  p1 : t.P1.length = n.p1
  p2 : t.P2.length = n.p2
  p3 : t.P3.length = n.p3
  w : t.W.length = n.w
  n1 : t.N1.length = n.n1
  n2 : t.N2.length = n.n2
  n3 : t.N3.length = n.n3
  o : t.O.length = n.o
theorem flat_len (W : List (Nat × Nat)) : (W.flatMap fun p => [p.1, p.2]).length = 2 * W.length := by
  induction W with
  | nil => rfl
  | cons p W ih => rw [List.flatMap_cons, List.length_append, ih, List.length_cons, List.length_cons, List.length_cons, List.length_nil]; omega
theorem fall_len {t : ThW} {n : Nums} (h : Tn t n) : (fall t).length = n.bits := by
  unfold fall Nums.bits
  simp only [List.length_append, flat_len, h.s, h.p1, h.p2, h.p3, h.w, h.n1, h.n2, h.n3, h.o]
  omega
section
variable {b : Nat} {A B C : List Nat} {t : ThW} (h : Thr b A B C t) (hA : ∀ x ∈ A, x < 2 ^ b) (hB : ∀ x ∈ B, x < 2 ^ b) (hC : ∀ x ∈ C, x < 2 ^ b)
include h hA hB hC
theorem fall_lt : ∀ x ∈ fall t, x < 2 ^ b := fun x hx => by
  unfold fall at hx
  simp only [List.mem_append] at hx
  rcases hx with (((((((hx | hx) | hx) | hx) | hx) | hx) | hx) | hx) | hx
  · exact (h.s.mem hx).1.lt hA
  · exact (h.p1.mem hx).1.lt hA
  · exact (h.p2.mem hx).1.lt hA
  · exact (h.p3.mem hx).1.lt hB
  · obtain ⟨p, hp, q⟩ := List.mem_flatMap.mp hx
    have l1 : p.1 < 2 ^ b := (h.w1.mem (List.mem_map.mpr ⟨p, hp, rfl⟩)).1.lt hA
    have l2 : p.2 < 2 ^ b := (h.w2 p hp).1.lt hB
    simp only [List.mem_cons, List.not_mem_nil, or_false] at q
    rcases q with rfl | rfl
    · exact l1
    · exact l2
  · exact (h.n1.mem hx).lt hA
  · exact (h.n2.mem hx).lt hB
  · exact (h.n3.mem hx).lt hC
  · exact h.o.mem hx
theorem fall_rk {X : List Nat} (q : ∀ x ∈ fall t, x ∈ X) (l : ∀ x ∈ X, x ∈ fall t) : rk X = b := by
  refine rk_all (fun x hx => fall_lt h hA hB hC x (l x hx)) (rk_full fun u hu => ?_)
  exact (thr_all h ((mix_units b).lt u hu)).sub q
theorem fall_mix {n : Nums} (T : Tn t n) (e : n.bits = b) : Mix b (fall t) :=
  ⟨by rw [fall_len T, e], fall_lt h hA hB hC, fall_rk h hA hB hC (fun _ z => z) fun _ z => z⟩
end
theorem flat_map {φ : Nat → Nat} : ∀ {W W' : List (Nat × Nat)}, W.length = W'.length → (W.flatMap fun p => [p.1, p.2]).map φ = W'.flatMap (fun p => [p.1, p.2]) → W.map (fun p => (φ p.1, φ p.2)) = W'
  | [], [], _, _ => rfl
  | [], _ :: _, h, _ => by cases h
  | _ :: _, [], h, _ => by cases h
  | p :: W, q :: W', h, e => by
    rw [List.flatMap_cons, List.flatMap_cons, List.map_append] at e
    have e1 := List.append_inj e rfl
    have e2 : [φ p.1, φ p.2] = [q.1, q.2] := e1.1
    have a1 : φ p.1 = q.1 := by injection e2
    have a2 : φ p.2 = q.2 := by injection e2 with _ z; injection z
    rw [List.map_cons, flat_map (by simpa using h) e1.2, a1, a2]
structure Sgm (φ : Nat → Nat) (t t' : ThW) : Prop where
  s : t.S.map φ = t'.S
  p1 : t.P1.map φ = t'.P1
  p2 : t.P2.map φ = t'.P2
  p3 : t.P3.map φ = t'.P3
  w : t.W.map (fun p => (φ p.1, φ p.2)) = t'.W
  n1 : t.N1.map φ = t'.N1
  n2 : t.N2.map φ = t'.N2
  n3 : t.N3.map φ = t'.N3
theorem sgm_of {φ : Nat → Nat} {t t' : ThW} {n : Nums} (T : Tn t n) (T' : Tn t' n) (e : (fall t).map φ = fall t') : Sgm φ t t' := by
  unfold fall at e
  simp only [List.map_append] at e
  obtain ⟨e, _⟩ := List.append_inj' e (by rw [List.length_map, T.o, T'.o])
  obtain ⟨e, x8⟩ := List.append_inj' e (by rw [List.length_map, T.n3, T'.n3])
  obtain ⟨e, x7⟩ := List.append_inj' e (by rw [List.length_map, T.n2, T'.n2])
  obtain ⟨e, x6⟩ := List.append_inj' e (by rw [List.length_map, T.n1, T'.n1])
  obtain ⟨e, x5⟩ := List.append_inj' e (by rw [List.length_map, flat_len, flat_len, T.w, T'.w])
  obtain ⟨e, x4⟩ := List.append_inj' e (by rw [List.length_map, T.p3, T'.p3])
  obtain ⟨e, x3⟩ := List.append_inj' e (by rw [List.length_map, T.p2, T'.p2])
  obtain ⟨x1, x2⟩ := List.append_inj' e (by rw [List.length_map, T.p1, T'.p1])
  exact ⟨x1, x2, x3, x4, flat_map (by rw [T.w, T'.w]) x5, x6, x7, x8⟩
theorem Sgm.f1 {φ : Nat → Nat} {t t' : ThW} (h : Sgm φ t t') : (fd1 t).map φ = fd1 t' := by
  unfold fd1
  simp only [List.map_append, h.s, h.p1, h.p2, h.n1]
  rw [← h.w, List.map_map, List.map_map]
  rfl
theorem Sgm.f2 {φ : Nat → Nat} {t t' : ThW} (h : Sgm φ t t') : (fd2 t).map φ = fd2 t' := by
  unfold fd2
  simp only [List.map_append, h.s, h.p1, h.p3, h.n2]
  rw [← h.w, List.map_map, List.map_map]
  rfl
theorem Sgm.f3 {φ : Nat → Nat} (L : Lin φ) {t t' : ThW} (h : Sgm φ t t') : (fd3 t).map φ = fd3 t' := by
  unfold fd3
  simp only [List.map_append, h.s, h.p2, h.p3, h.n3]
  rw [← h.w, List.map_map, List.map_map]
  have : (fun p : Nat × Nat => p.1 ^^^ p.2) ∘ (fun p : Nat × Nat => (φ p.1, φ p.2)) = φ ∘ fun p : Nat × Nat => p.1 ^^^ p.2 := by
    funext p
    exact (L.x _ _).symm
  rw [this]
def ldm (b : Nat) (t t' : ThW) : List Nat := (inv b (fall t)).map (img (fall t'))
section
variable {b : Nat} {A B C A' B' C' : List Nat} {t t' : ThW} {n : Nums} (h : Thr b A B C t) (h' : Thr b A' B' C' t') (T : Tn t n) (T' : Tn t' n) (m : Mix b (fall t)) (m' : Mix b (fall t'))
include h h' T T' m m'
theorem ldm_sgm : Sgm (img (ldm b t t')) t t' := by
  refine sgm_of T T' (ext_cols (b := b) (by rw [List.length_map, m.len]) m'.len fun x hx => ?_)
  rw [img_comp]
  unfold ldm
  rw [img_comp, inv_left m hx]
theorem ldm_a {x : Nat} (hx : Spn A x) : Spn A' (img (ldm b t t') x) := by
  have q := (lin_img (ldm b t t')).spn (thr_a h hx)
  rw [(ldm_sgm h h' T T' m m').f1] at q
  exact q.mono fun y hy => thr_m1 h' hy
theorem ldm_b {x : Nat} (hx : Spn B x) : Spn B' (img (ldm b t t') x) := by
  have q := (lin_img (ldm b t t')).spn (thr_b h hx)
  rw [(ldm_sgm h h' T T' m m').f2] at q
  exact q.mono fun y hy => thr_m2 h' hy
theorem ldm_c {x : Nat} (hx : Spn C x) : Spn C' (img (ldm b t t') x) := by
  have q := (lin_img (ldm b t t')).spn (thr_c h hx)
  rw [(ldm_sgm h h' T T' m m').f3 (lin_img _)] at q
  exact q.mono fun y hy => thr_m3 h' hy
theorem ldm_mix : Mix b (ldm b t t') := mix_comp m' (inv_mix m)
end
end LaneX
set_option linter.all false
set_option maxHeartbeats 1000000
namespace LaneX
/-! ### what a map leaves of a space -/
theorem rk_map {K A : List Nat} {φ : Nat → Nat} (R : Rws K) (L : Lin φ) (h : ∀ x, Spn K x ↔ Spn A x ∧ φ x = 0) : rk K + rk (A.map φ) = rk A := by
  obtain ⟨h1, h2, h3⟩ := base_of (A := K) (B := A) R fun x hx => ((h x).mp (.of hx)).1
  have i := (cmpl_ind R A L fun y hy e => (h y).mpr ⟨hy, e⟩).rk
  rw [List.length_map] at i
  have e : rk (A.map φ) = rk ((cmpl K A).map φ) := rk_eq fun z => by
    constructor
    · intro hz
      obtain ⟨y, hy, rfl⟩ := L.back hz
      obtain ⟨k, x, hk, hx, rfl⟩ := span_split ((h1 y).mpr hy)
      rw [L.x, ((h k).mp hk).2, Nat.zero_xor]
      exact L.spn hx
    · intro hz
      obtain ⟨y, hy, rfl⟩ := L.back hz
      exact L.spn ((h1 y).mp (hy.sub fun w hw => List.mem_append_right _ hw))
  rw [List.length_append] at h3
  rw [e, i, spn_id R]
  omega
theorem rk_map_le {A : List Nat} {φ : Nat → Nat} (L : Lin φ) : rk (A.map φ) ≤ rk A := by
  have : ∀ l : List Nat, rk (l.map φ) ≤ rk l := snoc_rec (p := fun l => rk (l.map φ) ≤ rk l) (Nat.le_refl _) fun a x ih => by
    rw [List.map_append]
    by_cases z : Spn a x
    · rw [rk_snoc_in z]
      show rk (a.map φ ++ [φ x]) ≤ _
      rw [rk_snoc_in (L.spn z)]
      exact ih
    · rw [rk_snoc_out z]
      have := rk_app_len (a.map φ) [φ x]
      simp only [List.length_cons, List.length_nil] at this
      show rk (a.map φ ++ [φ x]) ≤ _
      omega
  exact this A
theorem map_iff {A B : List Nat} {φ : Nat → Nat} (L : Lin φ) (h : ∀ x, Spn A x ↔ Spn B x) (z : Nat) : Spn (A.map φ) z ↔ Spn (B.map φ) z := by
  constructor
  · intro hz
    obtain ⟨y, hy, rfl⟩ := L.back hz
    exact L.spn ((h y).mp hy)
  · intro hz
    obtain ⟨y, hy, rfl⟩ := L.back hz
    exact L.spn ((h y).mpr hy)
def jmd (b : Nat) (R M : List Nat) : Nat := (mt b R (spn (ker M))).length
theorem jmd_eq {b : Nat} {R M : List Nat} (lt : ∀ x ∈ R, x < 2 ^ b) (hM : M.length = b) : jmd b R M + rk (R.map (img M)) = rk R := by
  have r := mt_rws b R (spn (ker M))
  unfold jmd
  rw [← spn_id r]
  refine rk_map r (lin_img M) fun x => ?_
  rw [mt_span lt, spn_span, ker_span]
  constructor
  · rintro ⟨h1, h2, h3⟩
    exact ⟨h1, h3⟩
  · rintro ⟨h1, h2⟩
    exact ⟨h1, by rw [hM]; exact h1.lt lt, h2⟩
/-! ### as many words as bits -/
section
variable {b : Nat} {A B C : List Nat} {t : ThW} (h : Thr b A B C t) (hA : ∀ x ∈ A, x < 2 ^ b) (hB : ∀ x ∈ B, x < 2 ^ b) (hC : ∀ x ∈ C, x < 2 ^ b)
include h hA hB hC
/-- the numbers, by dimensions -/
theorem thr_dims : ∃ i ab ac bc : Nat, t.S.length = i ∧ t.P1.length + i = ab ∧ t.P2.length + i = ac ∧ t.P3.length + i = bc ∧ ab + rk (A ++ B) = rk A + rk B ∧ ac + rk (A ++ C) = rk A + rk C ∧ bc + rk (B ++ C) = rk B + rk C ∧
    t.W.length + ab + ac + rk (A ++ B ++ C) = i + rk A + rk (B ++ C) ∧ t.N1.length + rk (B ++ C) = rk (A ++ B ++ C) ∧ t.N2.length + rk (A ++ C) = rk (A ++ B ++ C) ∧ t.N3.length + rk (A ++ B) = rk (A ++ B ++ C) ∧ t.O.length + rk (A ++ B ++ C) = b := by
  have lAB : ∀ x ∈ A ++ B, x < 2 ^ b := fun x hx => (List.mem_append.mp hx).elim (hA x) (hB x)
  have mAB : ∀ x, Spn (mt b A B) x ↔ Spn A x ∧ Spn B x := mt_span hA
  have mAC : ∀ x, Spn (mt b A C) x ↔ Spn A x ∧ Spn C x := mt_span hA
  have mBC : ∀ x, Spn (mt b B C) x ↔ Spn B x ∧ Spn C x := mt_span hB
  have lm : ∀ x ∈ mt b A B, x < 2 ^ b := mt_lt hA
  have mABC : ∀ x, Spn (mt b (mt b A B) C) x ↔ Spn A x ∧ Spn B x ∧ Spn C x := fun x => by rw [mt_span lm, mAB, and_assoc]
  have mABC2 : ∀ x, Spn (mt b (mt b A B) (mt b A C)) x ↔ Spn A x ∧ Spn B x ∧ Spn C x := fun x => by
    rw [mt_span lm, mAB, mAC]
    exact ⟨fun z => ⟨z.1.1, z.1.2, z.2.2⟩, fun z => ⟨⟨z.1, z.2.1⟩, z.1, z.2.2⟩⟩
  have nil : ∀ x, Spn ([] : List Nat) x ↔ x = 0 := fun x => ⟨fun z => z.nil, fun z => by rw [z]; exact .zero⟩
  have near : ∀ x, Spn (mt b A B ++ mt b A C) x ↔ ∃ y z, (Spn A y ∧ Spn B y) ∧ (Spn A z ∧ Spn C z) ∧ x = y ^^^ z := fun x => by
    rw [app_spl]
    constructor
    · rintro ⟨y, z, h1, h2, e⟩
      exact ⟨y, z, (mAB y).mp h1, (mAC z).mp h2, e⟩
    · rintro ⟨y, z, h1, h2, e⟩
      exact ⟨y, z, (mAB y).mpr h1, (mAC z).mpr h2, e⟩
  have s1 : ∀ x, Spn (mt b A (B ++ C)) x ↔ Spn A x ∧ Spn (B ++ C) x := mt_span hA
  have s2 : ∀ x, Spn (mt b B (A ++ C)) x ↔ Spn B x ∧ Spn (A ++ C) x := mt_span hB
  have s3 : ∀ x, Spn (mt b C (A ++ B)) x ↔ Spn C x ∧ Spn (A ++ B) x := mt_span hC
  have me : ∀ {X Y : List Nat}, (∀ x ∈ X, x < 2 ^ b) → rk (mt b X Y) + rk (X ++ Y) = rk X + rk Y := fun {X Y} hX => by
    have q := meet_rk (b := b) (A := X) (B := Y) hX
    have e : rk (mt b (spn X) (spn Y)) = rk (mt b X Y) := rk_eq fun x => by rw [mt_span (spn_ltb hX), mt_span hX, spn_span, spn_span]
    rw [← e]; exact q
  have dAB := me (Y := B) hA
  have dAC := me (Y := C) hA
  have dBC := me (Y := C) hB
  have d1 := me (Y := B ++ C) hA
  have d2 := me (Y := A ++ C) hB
  have d3 := me (Y := A ++ B) hC
  have dn := me (Y := mt b A C) lm
  have e0 : rk (mt b (mt b A B) (mt b A C)) = rk (mt b (mt b A B) C) := rk_eq fun x => (mABC2 x).trans (mABC x).symm
  have q1 : rk (A ++ (B ++ C)) = rk (A ++ B ++ C) := by rw [List.append_assoc]
  have q2 : rk (B ++ (A ++ C)) = rk (A ++ B ++ C) := rk_perm (by rw [List.append_assoc]; exact List.perm_append_comm_assoc B A C)
  have q3 : rk (C ++ (A ++ B)) = rk (A ++ B ++ C) := rk_perm List.perm_append_comm
  have k0 := h.s.len nil mABC
  have k1 := h.p1.len mABC mAB
  have k2 := h.p2.len mABC mAC
  have k3 := h.p3.len mABC mBC
  have k4 := h.w1.len near s1
  have k5 := h.n1.len s1 fun x => Iff.rfl
  have k6 := h.n2.len s2 fun x => Iff.rfl
  have k7 := h.n3.len s3 fun x => Iff.rfl
  have k8 := h.o.len (fun x => Iff.rfl) (evr_span b)
  have r0 : rk ([] : List Nat) = 0 := rfl
  have re : rk (evr b) = b := by unfold evr; rw [rk_spn, units_rk]
  rw [List.length_map] at k4
  refine ⟨rk (mt b (mt b A B) C), rk (mt b A B), rk (mt b A C), rk (mt b B C), by omega, k1, k2, k3, dAB, dAC, dBC, by omega, by omega, by omega, by omega, by omega⟩
theorem thr_bits : (fall t).length = b := by
  obtain ⟨i, ab, ac, bc, e0, e1, e2, e3, e4, e5, e6, e7, e8, e9, e10, e11⟩ := thr_dims h hA hB hC
  unfold fall
  simp only [List.length_append, flat_len]
  omega
theorem thr_mixb : Mix b (fall t) := ⟨thr_bits h hA hB hC, fall_lt h hA hB hC, fall_rk h hA hB hC (fun _ z => z) fun _ z => z⟩
theorem thr_f1 : (fd1 t).length = rk A := by
  obtain ⟨i, ab, ac, bc, e0, e1, e2, e3, e4, e5, e6, e7, e8, e9, e10, e11⟩ := thr_dims h hA hB hC
  unfold fd1
  simp only [List.length_append, List.length_map]
  omega
theorem thr_f2 : (fd2 t).length = rk B := by
  obtain ⟨i, ab, ac, bc, e0, e1, e2, e3, e4, e5, e6, e7, e8, e9, e10, e11⟩ := thr_dims h hA hB hC
  unfold fd2
  simp only [List.length_append, List.length_map]
  omega
theorem thr_f3 : (fd3 t).length = rk C := by
  obtain ⟨i, ab, ac, bc, e0, e1, e2, e3, e4, e5, e6, e7, e8, e9, e10, e11⟩ := thr_dims h hA hB hC
  unfold fd3
  simp only [List.length_append, List.length_map]
  omega
end
def numsOf (t : ThW) : Nums := ⟨t.S.length, t.P1.length, t.P2.length, t.P3.length, t.W.length, t.N1.length, t.N2.length, t.N3.length, t.O.length⟩
theorem tn_of (t : ThW) : Tn t (numsOf t) := ⟨rfl, rfl, rfl, rfl, rfl, rfl, rfl, rfl, rfl⟩
/-! ### three that fill a space -/
structure Fld3 (t : ThW) : Prop where
  p1 : t.P1.length = 0
  p2 : t.P2.length = 0
  p3 : t.P3.length = 0
  w : t.W.length = 1
  n1 : t.N1.length = 0
  n2 : t.N2.length = 0
  n3 : t.N3.length = 0
theorem spn_one {S : List Nat} {w x : Nat} (h : Spn (S ++ [w]) x) : Spn S x ∨ Spn S (x ^^^ w) := by
  obtain ⟨y, z, hy, hz, rfl⟩ := app_spl.mp h
  cases hz with
  | zero => exact .inl (by simpa using hy)
  | add hv hz' =>
    rw [List.mem_singleton.mp hv] at *
    have : ∀ {z : Nat}, Spn [w] z → z = 0 ∨ z = w := fun {z} hz => by
      induction hz with
      | zero => exact .inl rfl
      | add hv _ ih =>
        rw [List.mem_singleton.mp hv]
        rcases ih with e | e
        · rw [e]; right; simp
        · rw [e]; left; simp
    rcases this hz' with e | e
    · right
      subst e
      simpa [Nat.xor_assoc] using hy
    · left
      subst e
      simpa using hy
section
variable {b : Nat} {A B C : List Nat} {t : ThW} (h : Thr b A B C t) (hA : ∀ x ∈ A, x < 2 ^ b) (hB : ∀ x ∈ B, x < 2 ^ b) (hC : ∀ x ∈ C, x < 2 ^ b) (f : Fld3 t)
include h hA hB hC f
theorem fil_dims : rk A = t.S.length + 1 ∧ rk B = t.S.length + 1 ∧ rk C = t.S.length + 1 ∧ rk (A ++ B ++ C) = t.S.length + 2 ∧ rk (A ++ B) = t.S.length + 2 ∧ rk (A ++ C) = t.S.length + 2 ∧ rk (B ++ C) = t.S.length + 2 := by
  obtain ⟨i, ab, ac, bc, e0, e1, e2, e3, e4, e5, e6, e7, e8, e9, e10, e11⟩ := thr_dims h hA hB hC
  have a1 := f.p1; have a2 := f.p2; have a3 := f.p3; have a4 := f.w; have a5 := f.n1; have a6 := f.n2; have a7 := f.n3
  omega
omit hA hB hC in
theorem fil_ab {x : Nat} (hx : Spn A x ∧ Spn B x) : Spn t.S x := by
  have := thr_ab h hx
  rwa [List.eq_nil_of_length_eq_zero f.p1, List.append_nil] at this
omit hA hB hC in
theorem fil_ac {x : Nat} (hx : Spn A x ∧ Spn C x) : Spn t.S x := by
  have := thr_ac h hx
  rwa [List.eq_nil_of_length_eq_zero f.p2, List.append_nil] at this
omit hA hB hC in
theorem fil_bc {x : Nat} (hx : Spn B x ∧ Spn C x) : Spn t.S x := by
  have := thr_bc h hx
  rwa [List.eq_nil_of_length_eq_zero f.p3, List.append_nil] at this
omit hA hB hC f in
theorem fil_s {x : Nat} (hx : Spn t.S x) : Spn A x ∧ Spn B x ∧ Spn C x :=
  ⟨hx.mono fun y hy => (h.s.mem hy).1, hx.mono fun y hy => (h.s.mem hy).2.1, hx.mono fun y hy => (h.s.mem hy).2.2⟩
omit hA hB hC in
theorem fil_union {x : Nat} (hx : Spn (A ++ B ++ C) x) : Spn A x ∨ Spn B x ∨ Spn C x := by
  have k1 := List.eq_nil_of_length_eq_zero f.p1
  have k2 := List.eq_nil_of_length_eq_zero f.p2
  have k3 := List.eq_nil_of_length_eq_zero f.p3
  have k5 := List.eq_nil_of_length_eq_zero f.n1
  have k6 := List.eq_nil_of_length_eq_zero f.n2
  have k7 := List.eq_nil_of_length_eq_zero f.n3
  obtain ⟨p, ep⟩ : ∃ p, t.W = [p] := List.length_eq_one_iff.mp f.w
  have a : ∀ x, Spn A x → Spn (t.S ++ [p.1]) x := fun x hx => by
    have := thr_a h hx
    unfold fd1 at this
    rwa [k1, k2, k5, ep, List.append_nil, List.append_nil, List.append_nil] at this
  have b' : ∀ x, Spn B x → Spn (t.S ++ [p.2]) x := fun x hx => by
    have := thr_b h hx
    unfold fd2 at this
    rwa [k1, k3, k6, ep, List.append_nil, List.append_nil, List.append_nil] at this
  have c : ∀ x, Spn C x → Spn (t.S ++ [p.1 ^^^ p.2]) x := fun x hx => by
    have := thr_c h hx
    unfold fd3 at this
    rwa [k2, k3, k7, ep, List.append_nil, List.append_nil, List.append_nil] at this
  have w1 : Spn A p.1 := (h.w1.mem (x := p.1) (by rw [ep]; exact List.mem_singleton_self _)).1
  have w2 := h.w2 p (by rw [ep]; exact List.mem_singleton_self _)
  obtain ⟨u, z, hu, hz, rfl⟩ := app_spl.mp hx
  obtain ⟨x', y, hx', hy, rfl⟩ := app_spl.mp hu
  -- each is of S, or of S and its word
  have S3 : ∀ {v}, Spn t.S v → Spn A v ∧ Spn B v ∧ Spn C v := fun hv => fil_s h hv
  rcases spn_one (a x' hx') with q1 | q1 <;> rcases spn_one (b' y hy) with q2 | q2 <;> rcases spn_one (c z hz) with q3 | q3
  · exact .inl (((S3 q1).1.xor (S3 q2).1).xor (S3 q3).1)
  · exact .inr (.inr (((S3 q1).2.2.xor (S3 q2).2.2).xor hz))
  · exact .inr (.inl (((S3 q1).2.1.xor hy).xor (S3 q3).2.1))
  · left
    have e : x' ^^^ y ^^^ z = x' ^^^ (y ^^^ p.2) ^^^ (z ^^^ (p.1 ^^^ p.2)) ^^^ p.1 := by
      apply Nat.eq_of_testBit_eq; intro i; simp only [Nat.testBit_xor]; cases x'.testBit i <;> cases y.testBit i <;> cases z.testBit i <;> cases p.1.testBit i <;> cases p.2.testBit i <;> rfl
    rw [e]
    exact ((hx'.xor (S3 q2).1).xor (S3 q3).1).xor w1
  · exact .inl ((hx'.xor (S3 q2).1).xor (S3 q3).1)
  · right; left
    have e : x' ^^^ y ^^^ z = (x' ^^^ p.1) ^^^ y ^^^ (z ^^^ (p.1 ^^^ p.2)) ^^^ p.2 := by
      apply Nat.eq_of_testBit_eq; intro i; simp only [Nat.testBit_xor]; cases x'.testBit i <;> cases y.testBit i <;> cases z.testBit i <;> cases p.1.testBit i <;> cases p.2.testBit i <;> rfl
    rw [e]
    exact (((S3 q1).2.1.xor hy).xor (S3 q3).2.1).xor w2.1
  · right; right
    have e : x' ^^^ y ^^^ z = (x' ^^^ p.1) ^^^ (y ^^^ p.2) ^^^ z ^^^ (p.1 ^^^ p.2) := by
      apply Nat.eq_of_testBit_eq; intro i; simp only [Nat.testBit_xor]; cases x'.testBit i <;> cases y.testBit i <;> cases z.testBit i <;> cases p.1.testBit i <;> cases p.2.testBit i <;> rfl
    rw [e]
    exact (((S3 q1).2.2.xor (S3 q2).2.2).xor hz).xor w2.2
  · left
    have e : x' ^^^ y ^^^ z = (x' ^^^ p.1) ^^^ (y ^^^ p.2) ^^^ (z ^^^ (p.1 ^^^ p.2)) := by
      apply Nat.eq_of_testBit_eq; intro i; simp only [Nat.testBit_xor]; cases x'.testBit i <;> cases y.testBit i <;> cases z.testBit i <;> cases p.1.testBit i <;> cases p.2.testBit i <;> rfl
    rw [e]
    exact ((S3 q1).1.xor (S3 q2).1).xor (S3 q3).1
end
end LaneX
set_option linter.all false
set_option maxHeartbeats 1000000
namespace LaneX
/-! ### images of planes -/
def vv (s j : Nat) : Nat := 1 <<< (s + j)
def pst (m : Nat) : Nat := if m % 2 = 1 then 3 else 0
def plr (m s i : Nat) : List (Nat × Nat) := [(vv s (pst m + 2 * i), vv s (pst m + 2 * i + 1)), (vv s (pst m + 2 * i + 1), vv s (pst m + 2 * i) ^^^ vv s (pst m + 2 * i + 1))]
def pl0 (m s : Nat) : List (Nat × Nat) := if m % 2 = 1 then [(vv s 0, vv s 1), (vv s 1, vv s 2), (vv s 2, vv s 0 ^^^ vv s 1)] else []
def plo (m s : Nat) : List (Nat × Nat) := pl0 m s ++ (List.range ((m - pst m) / 2)).flatMap (plr m s)
def pli (m s : Nat) : List (Nat × Nat) := if m = 1 then [(1 <<< s, 2 <<< s)] else plo m s
theorem flat2_len {f : Nat → List (Nat × Nat)} (h : ∀ i, (f i).length = 2) : ∀ n, ((List.range n).flatMap f).length = 2 * n
  | 0 => rfl
  | n + 1 => by
    rw [List.range_succ, List.flatMap_append, List.length_append, flat2_len h n, List.flatMap_cons, List.flatMap_nil, List.append_nil, h]
    omega
theorem plo_len {m s : Nat} (h : m ≠ 1) : (plo m s).length = m := by
  unfold plo
  rw [List.length_append, flat2_len (fun i => rfl)]
  unfold pl0 pst
  by_cases o : m % 2 = 1
  · rw [if_pos o, if_pos o]
    show 3 + _ = m
    omega
  · rw [if_neg o, if_neg o]
    show 0 + _ = m
    omega
theorem pli_len (m s : Nat) : (pli m s).length = m := by
  unfold pli
  by_cases h : m = 1
  · rw [if_pos h, h]; rfl
  · rw [if_neg h, plo_len h]
theorem plr_mem {m s i : Nat} (hi : i < (m - pst m) / 2) {p : Nat × Nat} (hp : p ∈ plr m s i) : p ∈ plo m s := List.mem_append_right _ (List.mem_flatMap.mpr ⟨i, List.mem_range.mpr hi, hp⟩)
theorem pl0_mem {m s : Nat} (o : m % 2 = 1) {p : Nat × Nat} (hp : p ∈ [(vv s 0, vv s 1), (vv s 1, vv s 2), (vv s 2, vv s 0 ^^^ vv s 1)]) : p ∈ plo m s := List.mem_append_left _ (by unfold pl0; rw [if_pos o]; exact hp)
theorem xc1 (a b : Nat) : a ^^^ (a ^^^ b) = b := xor_cancel a b
theorem xc2 (a b : Nat) : b ^^^ (a ^^^ b) = a := by rw [Nat.xor_comm a b, xor_cancel]
theorem xc3 (a b : Nat) : a ^^^ b ^^^ a = b := by rw [Nat.xor_comm, xor_cancel]
theorem xc4 (a b : Nat) : a ^^^ b ^^^ b = a := xor_cancel_right a b
/-- each unit is a sum of the first ones, of the second ones, of the third ones -/
theorem plo_spans {m s j : Nat} (h : m ≠ 1) (hj : j < m) : Spn ((plo m s).map (·.1)) (vv s j) ∧ Spn ((plo m s).map (·.2)) (vv s j) ∧ Spn ((plo m s).map fun p => p.1 ^^^ p.2) (vv s j) := by
  have mem : ∀ (f : Nat × Nat → Nat) {p : Nat × Nat}, p ∈ plo m s → Spn ((plo m s).map f) (f p) := fun f p hp => .of (List.mem_map.mpr ⟨p, hp, rfl⟩)
  by_cases c : j < pst m
  · have o : m % 2 = 1 := by
      unfold pst at c
      split at c
      · assumption
      · omega
    have c3 : j < 3 := by unfold pst at c; rw [if_pos o] at c; exact c
    have m0 := pl0_mem (s := s) o (p := (vv s 0, vv s 1)) (by simp)
    have m1 := pl0_mem (s := s) o (p := (vv s 1, vv s 2)) (by simp)
    have m2 := pl0_mem (s := s) o (p := (vv s 2, vv s 0 ^^^ vv s 1)) (by simp)
    have a0 := mem (·.1) m0
    have a1 := mem (·.1) m1
    have a2 := mem (·.1) m2
    have b0 := mem (·.2) m0
    have b1 := mem (·.2) m1
    have b2 := mem (·.2) m2
    have c0 := mem (fun p => p.1 ^^^ p.2) m0
    have c1 := mem (fun p => p.1 ^^^ p.2) m1
    have c2 := mem (fun p => p.1 ^^^ p.2) m2
    have d2 : Spn ((plo m s).map fun p => p.1 ^^^ p.2) (vv s 2) := by have := c0.xor c2; simp only at this; rwa [xc2] at this
    have d1 : Spn ((plo m s).map fun p => p.1 ^^^ p.2) (vv s 1) := by have := c1.xor d2; simp only at this; rwa [xc4] at this
    have d0 : Spn ((plo m s).map fun p => p.1 ^^^ p.2) (vv s 0) := by have := c0.xor d1; simp only at this; rwa [xc4] at this
    have e0 : Spn ((plo m s).map (·.2)) (vv s 0) := by have := b2.xor b0; simp only at this; rwa [xc4] at this
    match j, c3 with
    | 0, _ => exact ⟨a0, e0, d0⟩
    | 1, _ => exact ⟨a1, b0, d1⟩
    | 2, _ => exact ⟨a2, b1, d2⟩
  · have hi : (j - pst m) / 2 < (m - pst m) / 2 := by
      unfold pst at c ⊢
      split at c <;> simp only [*, if_true, if_false] <;> omega
    have m0 := plr_mem (s := s) hi (p := (vv s (pst m + 2 * ((j - pst m) / 2)), vv s (pst m + 2 * ((j - pst m) / 2) + 1))) (by unfold plr; simp)
    have m1 := plr_mem (s := s) hi (p := (vv s (pst m + 2 * ((j - pst m) / 2) + 1), vv s (pst m + 2 * ((j - pst m) / 2)) ^^^ vv s (pst m + 2 * ((j - pst m) / 2) + 1))) (by unfold plr; simp)
    have a0 := mem (·.1) m0
    have a1 := mem (·.1) m1
    have b0 := mem (·.2) m0
    have b1 := mem (·.2) m1
    have c0 := mem (fun p => p.1 ^^^ p.2) m0
    have c1 := mem (fun p => p.1 ^^^ p.2) m1
    simp only at c1
    rw [xc2] at c1
    have d1 := c0.xor c1
    simp only at d1
    rw [xc3] at d1
    have e0 := b1.xor b0
    simp only at e0
    rw [xc4] at e0
    have two : j = pst m + 2 * ((j - pst m) / 2) ∨ j = pst m + 2 * ((j - pst m) / 2) + 1 := by omega
    rcases two with e | e
    · rw [← e] at a0 e0 c1
      exact ⟨a0, e0, c1⟩
    · rw [← e] at a1 b0 d1
      exact ⟨a1, b0, d1⟩
theorem vv_lt {s j k : Nat} (h : s + j < k) : vv s j < 2 ^ k := by
  unfold vv
  rw [Nat.one_shiftLeft]
  exact Nat.pow_lt_pow_right (by decide) h
theorem plo_lt {m s : Nat} (h : m ≠ 1) : ∀ p ∈ plo m s, p.1 < 2 ^ (s + m) ∧ p.2 < 2 ^ (s + m) := fun p hp => by
  unfold plo at hp
  rcases List.mem_append.mp hp with hp | hp
  · unfold pl0 at hp
    by_cases o : m % 2 = 1
    · rw [if_pos o] at hp
      have m3 : 3 ≤ m := by omega
      have a0 : vv s 0 < 2 ^ (s + m) := vv_lt (by omega)
      have a1 : vv s 1 < 2 ^ (s + m) := vv_lt (by omega)
      have a2 : vv s 2 < 2 ^ (s + m) := vv_lt (by omega)
      simp only [List.mem_cons, List.not_mem_nil, or_false] at hp
      rcases hp with rfl | rfl | rfl
      · exact ⟨a0, a1⟩
      · exact ⟨a1, a2⟩
      · exact ⟨a2, Nat.xor_lt_two_pow a0 a1⟩
    · rw [if_neg o] at hp; cases hp
  · obtain ⟨i, hi, hp⟩ := List.mem_flatMap.mp hp
    have hi := List.mem_range.mp hi
    have a0 : vv s (pst m + 2 * i) < 2 ^ (s + m) := vv_lt (by omega)
    have a1 : vv s (pst m + 2 * i + 1) < 2 ^ (s + m) := vv_lt (by omega)
    unfold plr at hp
    simp only [List.mem_cons, List.not_mem_nil, or_false] at hp
    rcases hp with rfl | rfl
    · exact ⟨a0, a1⟩
    · exact ⟨a1, Nat.xor_lt_two_pow a0 a1⟩
theorem units_app {s m : Nat} {X : List Nat} (hX : X.length = m) (h : ∀ j, j < m → Spn X (vv s j)) : rk (units s ++ X) = s + m := by
  have lu : (units s).length = s := by unfold units; simp
  refine Nat.le_antisymm (Nat.le_trans (rk_len _) (by rw [List.length_append, lu, hX]; exact Nat.le_refl _)) (rk_full fun u hu => ?_)
  obtain ⟨i, hi, rfl⟩ := List.mem_map.mp hu
  have hi := List.mem_range.mp hi
  by_cases c : i < s
  · exact .of (List.mem_append_left _ (List.mem_map.mpr ⟨i, List.mem_range.mpr c, rfl⟩))
  · have := h (i - s) (by omega)
    unfold vv at this
    rw [show s + (i - s) = i by omega] at this
    exact this.sub fun w hw => List.mem_append_right _ hw
theorem unit_out {s v : Nat} (h : v ≥ 2 ^ s) : ¬ Spn (units s) v := fun z => by
  have := z.lt (k := s) fun w hw => by
    obtain ⟨i, hi, rfl⟩ := List.mem_map.mp hw
    rw [Nat.one_shiftLeft]
    exact Nat.pow_lt_pow_right (by decide) (List.mem_range.mp hi)
  omega
theorem pli_rk (m s : Nat) : rk (units s ++ (pli m s).map (·.1)) = s + m ∧ rk (units s ++ (pli m s).map (·.2)) = s + m ∧ rk (units s ++ (pli m s).map fun p => p.1 ^^^ p.2) = s + m := by
  by_cases h : m = 1
  · subst h
    have u := units_rk s
    have one : (1 <<< s) = 2 ^ s := Nat.one_shiftLeft s
    have two : (2 <<< s) = 2 * 2 ^ s := Nat.shiftLeft_eq 2 s
    have p := Nat.two_pow_pos s
    have three : (1 <<< s ^^^ 2 <<< s) ≥ 2 ^ s := by
      have : (1 <<< s ^^^ 2 <<< s) = 3 <<< s := by rw [← Nat.shiftLeft_xor_distrib]; rfl
      rw [this, Nat.shiftLeft_eq]
      omega
    unfold pli
    rw [if_pos rfl]
    refine ⟨?_, ?_, ?_⟩
    · show rk (units s ++ [1 <<< s]) = _
      rw [rk_snoc_out (unit_out (by omega)), u]
    · show rk (units s ++ [2 <<< s]) = _
      rw [rk_snoc_out (unit_out (by omega)), u]
    · show rk (units s ++ [1 <<< s ^^^ 2 <<< s]) = _
      rw [rk_snoc_out (unit_out three), u]
  · unfold pli
    rw [if_neg h]
    have l := plo_len (s := s) h
    exact ⟨units_app (by rw [List.length_map, l]) fun j hj => (plo_spans h hj).1, units_app (by rw [List.length_map, l]) fun j hj => (plo_spans h hj).2.1, units_app (by rw [List.length_map, l]) fun j hj => (plo_spans h hj).2.2⟩
theorem pli_lt {m s k : Nat} (h1 : s + m ≤ k) (h2 : m = 1 → s + 2 ≤ k) : ∀ p ∈ pli m s, p.1 < 2 ^ k ∧ p.2 < 2 ^ k := fun p hp => by
  unfold pli at hp
  by_cases h : m = 1
  · rw [if_pos h] at hp
    rw [List.mem_singleton.mp hp]
    have q := h2 h
    refine ⟨?_, ?_⟩
    · show 1 <<< s < _
      rw [Nat.one_shiftLeft]; exact Nat.pow_lt_pow_right (by decide) (by omega)
    · show 2 <<< s < _
      rw [Nat.shiftLeft_eq, show 2 * 2 ^ s = 2 ^ (s + 1) by rw [Nat.pow_succ]; omega]
      exact Nat.pow_lt_pow_right (by decide) (by omega)
  · rw [if_neg h] at hp
    have := plo_lt h p hp
    have le : 2 ^ (s + m) ≤ 2 ^ k := Nat.pow_le_pow_right (by decide) h1
    omega
/-! ### images laid one by one -/
def Fk (u : ThW) : Nat → List Nat
  | 0 => fd1 u
  | 1 => fd2 u
  | _ => fd3 u
structure LdI (k : Nat) (u : ThW) (R : List (List Nat)) : Prop where
  l : R.length = 3
  r : ∀ i, i < 3 → Rws (R.getD i [])
  s : ∀ i, i < 3 → ∀ x, Spn (R.getD i []) x ↔ Spn (Fk u i) x
  n : ∀ i, i < 3 → rk (Fk u i) = (Fk u i).length
  bd : ∀ x ∈ fall u, x < 2 ^ k
theorem LdI.len {k : Nat} {u : ThW} {R : List (List Nat)} (h : LdI k u R) {i : Nat} (hi : i < 3) : (R.getD i []).length = (Fk u i).length := by
  rw [← spn_id (h.r i hi), rk_eq (h.s i hi), h.n i hi]
theorem LdI.step {k : Nat} {u u' : ThW} {R R' : List (List Nat)} (h : LdI k u R) (l : R'.length = 3) (bd : ∀ x ∈ fall u', x < 2 ^ k)
    (e : ∀ i, i < 3 → (∃ x, (Fk u' i).Perm (Fk u i ++ [x]) ∧ ¬ Spn (R.getD i []) x ∧ R'.getD i [] = grw (R.getD i []) x) ∨ ((Fk u' i).Perm (Fk u i) ∧ R'.getD i [] = R.getD i [])) : LdI k u' R' := by
  have pm : ∀ {X Y : List Nat}, X.Perm Y → ∀ x, Spn X x ↔ Spn Y x := fun p x => ⟨fun h => h.sub fun w hw => p.mem_iff.mp hw, fun h => h.sub fun w hw => p.mem_iff.mpr hw⟩
  refine ⟨l, fun i hi => ?_, fun i hi x => ?_, fun i hi => ?_, bd⟩
  · rcases e i hi with ⟨x, p, o, q⟩ | ⟨p, q⟩
    · rw [q]; exact grw_rws (h.r i hi) x
    · rw [q]; exact h.r i hi
  · rcases e i hi with ⟨y, p, o, q⟩ | ⟨p, q⟩
    · rw [q, grw_span, span_app (h.s i hi), pm p]
    · rw [q, h.s i hi, pm p]
  · rcases e i hi with ⟨x, p, o, q⟩ | ⟨p, q⟩
    · rw [rk_perm p, rk_snoc_out fun z => o ((h.s i hi x).mpr z), h.n i hi, p.length_eq, List.length_append]; rfl
    · rw [rk_perm p, h.n i hi, p.length_eq]
def pone (a : Nat) : Nat := if a = 2 then 1 else 0
def poth (a : Nat) : Nat := if a = 0 then 1 else 2
def ThW.p (u : ThW) : Nat → List Nat
  | 0 => u.P1
  | 1 => u.P2
  | _ => u.P3
def ThW.q (u : ThW) : Nat → List Nat
  | 0 => u.N1
  | 1 => u.N2
  | _ => u.N3
def ThW.pp (u : ThW) (x : Nat) : Nat → ThW
  | 0 => ⟨u.S, u.P1 ++ [x], u.P2, u.P3, u.W, u.N1, u.N2, u.N3, u.O⟩
  | 1 => ⟨u.S, u.P1, u.P2 ++ [x], u.P3, u.W, u.N1, u.N2, u.N3, u.O⟩
  | _ => ⟨u.S, u.P1, u.P2, u.P3 ++ [x], u.W, u.N1, u.N2, u.N3, u.O⟩
def ThW.qq (u : ThW) (x : Nat) : Nat → ThW
  | 0 => ⟨u.S, u.P1, u.P2, u.P3, u.W, u.N1 ++ [x], u.N2, u.N3, u.O⟩
  | 1 => ⟨u.S, u.P1, u.P2, u.P3, u.W, u.N1, u.N2 ++ [x], u.N3, u.O⟩
  | _ => ⟨u.S, u.P1, u.P2, u.P3, u.W, u.N1, u.N2, u.N3 ++ [x], u.O⟩
/-- ahead of planes: images of shared words and of pairs -/
structure StP (k : Nat) (t : ThW) (a i : Nat) (u : ThW) (R : List (List Nat)) (I : List Nat) : Prop where
  h : LdI k u R
  s : u.S.length = t.S.length
  w : u.W = pli t.W.length t.S.length
  im : I = u.S ++ u.P1 ++ u.P2 ++ u.P3
  p : ∀ c, c < 3 → (u.p c).length = if c < a then (t.p c).length else if c = a then i else 0
  n1 : u.N1 = []
  n2 : u.N2 = []
  n3 : u.N3 = []
  o : u.O = []
/-- behind them -/
structure StN (k : Nat) (t : ThW) (a i : Nat) (u : ThW) (R : List (List Nat)) (I : List Nat) : Prop where
  h : LdI k u R
  s : u.S.length = t.S.length
  w : u.W = pli t.W.length t.S.length
  im : I = fall u
  p : ∀ c, c < 3 → (u.p c).length = (t.p c).length
  q : ∀ c, c < 3 → (u.q c).length = if c < a then (t.q c).length else if c = a then i else 0
  o : u.O = []
section
variable {k : Nat} {t u : ThW} {R : List (List Nat)} {I : List Nat} {a i x : Nat}
theorem pcount {X Y : List Nat} (h : ∀ a, X.count a = Y.count a) : X.Perm Y := List.perm_iff_count.mpr h
theorem StP.step (S : StP k t a i u R I) (ha : a < 3) (hi : i < (t.p a).length) (x1 : ¬ Spn (R.getD (pone a) []) x) (x2 : ¬ Spn (R.getD (poth a) []) x) (hx : x < 2 ^ k) :
    StP k t a (i + 1) (u.pp x a) ((R.set (pone a) (grw (R.getD (pone a) []) x)).set (poth a) (grw (R.getD (poth a) []) x)) (I ++ [x]) := by
  obtain ⟨h, s, w, im, p, n1, n2, n3, o⟩ := S
  have bd : ∀ y ∈ fall (u.pp x a), y < 2 ^ k := fun y hy => by
    have : y ∈ fall u ∨ y = x := by
      match a, ha with
      | 0, _ | 1, _ | 2, _ => 
        unfold ThW.pp fall at hy
        simp only [List.mem_append, List.mem_singleton] at hy
        unfold fall
        simp only [List.mem_append]
        grind
    rcases this with z | rfl
    · exact h.bd y z
    · exact hx
  obtain ⟨R0, R1, R2, rfl⟩ : ∃ R0 R1 R2, R = [R0, R1, R2] := by
    match R, h.l with
    | [R0, R1, R2], _ => exact ⟨R0, R1, R2, rfl⟩
  have p0 := p 0 (by decide)
  have p1 := p 1 (by decide)
  have p2 := p 2 (by decide)
  have cc : ∀ {X Y : List Nat}, (∀ a, X.count a = Y.count a) → X.Perm Y := fun h => pcount h
  match a, ha with
  | 0, _ =>
    refine ⟨h.step rfl bd fun c hc => ?_, s, w, ?_, fun c hc => ?_, n1, n2, n3, o⟩
    · match c, hc with
      | 0, _ => exact .inl ⟨x, cc fun y => (by simp only [ThW.pp, Fk, fd1, List.count_append]; omega), x1, rfl⟩
      | 1, _ => exact .inl ⟨x, cc fun y => (by simp only [ThW.pp, Fk, fd2, List.count_append]; omega), x2, rfl⟩
      | 2, _ => exact .inr ⟨List.Perm.refl _, rfl⟩
    · have e1 : u.P2 = [] := List.eq_nil_of_length_eq_zero (by simpa [ThW.p] using p1)
      have e2 : u.P3 = [] := List.eq_nil_of_length_eq_zero (by simpa [ThW.p] using p2)
      rw [im]
      simp only [ThW.pp, e1, e2, List.append_nil, List.append_assoc]
    · match c, hc with
      | 0, _ => simp only [ThW.p, ThW.pp, List.length_append] at p0 ⊢; simp at p0 ⊢; omega
      | 1, _ => simpa [ThW.p, ThW.pp] using p1
      | 2, _ => simpa [ThW.p, ThW.pp] using p2
  | 1, _ =>
    refine ⟨h.step rfl bd fun c hc => ?_, s, w, ?_, fun c hc => ?_, n1, n2, n3, o⟩
    · match c, hc with
      | 0, _ => exact .inl ⟨x, cc fun y => (by simp only [ThW.pp, Fk, fd1, List.count_append]; omega), x1, rfl⟩
      | 1, _ => exact .inr ⟨List.Perm.refl _, rfl⟩
      | 2, _ => exact .inl ⟨x, cc fun y => (by simp only [ThW.pp, Fk, fd3, List.count_append]; omega), x2, rfl⟩
    · have e2 : u.P3 = [] := List.eq_nil_of_length_eq_zero (by simpa [ThW.p] using p2)
      rw [im]
      simp only [ThW.pp, e2, List.append_nil, List.append_assoc]
    · match c, hc with
      | 0, _ => simpa [ThW.p, ThW.pp] using p0
      | 1, _ => simp only [ThW.p, ThW.pp, List.length_append] at p1 ⊢; simp at p1 ⊢; omega
      | 2, _ => simpa [ThW.p, ThW.pp] using p2
  | 2, _ =>
    refine ⟨h.step rfl bd fun c hc => ?_, s, w, ?_, fun c hc => ?_, n1, n2, n3, o⟩
    · match c, hc with
      | 0, _ => exact .inr ⟨List.Perm.refl _, rfl⟩
      | 1, _ => exact .inl ⟨x, cc fun y => (by simp only [ThW.pp, Fk, fd2, List.count_append]; omega), x1, rfl⟩
      | 2, _ => exact .inl ⟨x, cc fun y => (by simp only [ThW.pp, Fk, fd3, List.count_append]; omega), x2, rfl⟩
    · rw [im]
      simp only [ThW.pp, List.append_assoc]
    · match c, hc with
      | 0, _ => simpa [ThW.p, ThW.pp] using p0
      | 1, _ => simpa [ThW.p, ThW.pp] using p1
      | 2, _ => simp only [ThW.p, ThW.pp, List.length_append] at p2 ⊢; simp at p2 ⊢; omega
theorem StP.next (S : StP k t a (t.p a).length u R I) : StP k t (a + 1) 0 u R I := by
  obtain ⟨h, s, w, im, p, n1, n2, n3, o⟩ := S
  refine ⟨h, s, w, im, fun c hc => ?_, n1, n2, n3, o⟩
  rw [p c hc]
  by_cases e : c = a
  · subst e
    rw [if_neg (by omega), if_pos rfl, if_pos (by omega)]
  · by_cases l : c < a
    · rw [if_pos l, if_pos (by omega)]
    · rw [if_neg l, if_neg e, if_neg (by omega)]
      split <;> rfl
/-- there is room for one more -/
theorem StP.room (S : StP k t a i u R I) (ha : a < 3) (hi : i < (t.p a).length) (k1 : (fd1 t).length ≤ k) (k2 : (fd2 t).length ≤ k) (k3 : (fd3 t).length ≤ k) : (R.getD (pone a) []).length < k ∧ (R.getD (poth a) []).length < k := by
  obtain ⟨h, s, w, im, p, n1, n2, n3, o⟩ := S
  have p0 := p 0 (by decide)
  have p1 := p 1 (by decide)
  have p2 := p 2 (by decide)
  have lw : u.W.length = t.W.length := by rw [w, pli_len]
  have l0 := h.len (i := 0) (by decide)
  have l1 := h.len (i := 1) (by decide)
  have l2 := h.len (i := 2) (by decide)
  simp only [Fk, fd1, fd2, fd3, List.length_append, List.length_map, n1, n2, n3, List.length_nil] at l0 l1 l2 k1 k2 k3
  match a, ha with
  | 0, _ =>
    have a0 : u.P1.length = i := p0
    have a1 : u.P2.length = 0 := p1
    have a2 : u.P3.length = 0 := p2
    have hi : i < t.P1.length := hi
    show (R.getD 0 []).length < k ∧ (R.getD 1 []).length < k
    rw [l0, l1]
    omega
  | 1, _ =>
    have a0 : u.P1.length = t.P1.length := p0
    have a1 : u.P2.length = i := p1
    have a2 : u.P3.length = 0 := p2
    have hi : i < t.P2.length := hi
    show (R.getD 0 []).length < k ∧ (R.getD 2 []).length < k
    rw [l0, l2]
    omega
  | 2, _ =>
    have a0 : u.P1.length = t.P1.length := p0
    have a1 : u.P2.length = t.P2.length := p1
    have a2 : u.P3.length = i := p2
    have hi : i < t.P3.length := hi
    show (R.getD 1 []).length < k ∧ (R.getD 2 []).length < k
    rw [l1, l2]
    omega
theorem StN.step (S : StN k t a i u R I) (ha : a < 3) (hi : i < (t.q a).length) (x1 : ¬ Spn (R.getD a []) x) (hx : x < 2 ^ k) :
    StN k t a (i + 1) (u.qq x a) (R.set a (grw (R.getD a []) x)) (I ++ [x]) := by
  obtain ⟨h, s, w, im, p, q, o⟩ := S
  have bd : ∀ y ∈ fall (u.qq x a), y < 2 ^ k := fun y hy => by
    have : y ∈ fall u ∨ y = x := by
      match a, ha with
      | 0, _ | 1, _ | 2, _ => 
        unfold ThW.qq fall at hy
        simp only [List.mem_append, List.mem_singleton] at hy
        unfold fall
        simp only [List.mem_append]
        grind
    rcases this with z | rfl
    · exact h.bd y z
    · exact hx
  obtain ⟨R0, R1, R2, rfl⟩ : ∃ R0 R1 R2, R = [R0, R1, R2] := by
    match R, h.l with
    | [R0, R1, R2], _ => exact ⟨R0, R1, R2, rfl⟩
  have q0 := q 0 (by decide)
  have q1 := q 1 (by decide)
  have q2 := q 2 (by decide)
  match a, ha with
  | 0, _ =>
    have e1 : u.N2 = [] := List.eq_nil_of_length_eq_zero (by simpa [ThW.q] using q1)
    have e2 : u.N3 = [] := List.eq_nil_of_length_eq_zero (by simpa [ThW.q] using q2)
    refine ⟨h.step rfl bd fun c hc => ?_, s, w, ?_, fun c hc => ?_, fun c hc => ?_, o⟩
    · match c, hc with
      | 0, _ => exact .inl ⟨x, pcount fun y => (by simp only [ThW.qq, Fk, fd1, List.count_append]; omega), x1, rfl⟩
      | 1, _ => exact .inr ⟨List.Perm.refl _, rfl⟩
      | 2, _ => exact .inr ⟨List.Perm.refl _, rfl⟩
    · rw [im]
      simp only [fall, ThW.qq, e1, e2, o, List.append_nil, List.append_assoc]
    · match c, hc with
      | 0, _ => exact p 0 (by decide)
      | 1, _ => exact p 1 (by decide)
      | 2, _ => exact p 2 (by decide)
    · match c, hc with
      | 0, _ => simp only [ThW.q, ThW.qq, List.length_append] at q0 ⊢; simp at q0 ⊢; omega
      | 1, _ => simpa [ThW.q, ThW.qq] using q1
      | 2, _ => simpa [ThW.q, ThW.qq] using q2
  | 1, _ =>
    have e2 : u.N3 = [] := List.eq_nil_of_length_eq_zero (by simpa [ThW.q] using q2)
    refine ⟨h.step rfl bd fun c hc => ?_, s, w, ?_, fun c hc => ?_, fun c hc => ?_, o⟩
    · match c, hc with
      | 0, _ => exact .inr ⟨List.Perm.refl _, rfl⟩
      | 1, _ => exact .inl ⟨x, pcount fun y => (by simp only [ThW.qq, Fk, fd2, List.count_append]; omega), x1, rfl⟩
      | 2, _ => exact .inr ⟨List.Perm.refl _, rfl⟩
    · rw [im]
      simp only [fall, ThW.qq, e2, o, List.append_nil, List.append_assoc]
    · match c, hc with
      | 0, _ => exact p 0 (by decide)
      | 1, _ => exact p 1 (by decide)
      | 2, _ => exact p 2 (by decide)
    · match c, hc with
      | 0, _ => simpa [ThW.q, ThW.qq] using q0
      | 1, _ => simp only [ThW.q, ThW.qq, List.length_append] at q1 ⊢; simp at q1 ⊢; omega
      | 2, _ => simpa [ThW.q, ThW.qq] using q2
  | 2, _ =>
    refine ⟨h.step rfl bd fun c hc => ?_, s, w, ?_, fun c hc => ?_, fun c hc => ?_, o⟩
    · match c, hc with
      | 0, _ => exact .inr ⟨List.Perm.refl _, rfl⟩
      | 1, _ => exact .inr ⟨List.Perm.refl _, rfl⟩
      | 2, _ => exact .inl ⟨x, pcount fun y => (by simp only [ThW.qq, Fk, fd3, List.count_append]; omega), x1, rfl⟩
    · rw [im]
      simp only [fall, ThW.qq, o, List.append_nil, List.append_assoc]
    · match c, hc with
      | 0, _ => exact p 0 (by decide)
      | 1, _ => exact p 1 (by decide)
      | 2, _ => exact p 2 (by decide)
    · match c, hc with
      | 0, _ => simpa [ThW.q, ThW.qq] using q0
      | 1, _ => simpa [ThW.q, ThW.qq] using q1
      | 2, _ => simp only [ThW.q, ThW.qq, List.length_append] at q2 ⊢; simp at q2 ⊢; omega
theorem StN.next (S : StN k t a (t.q a).length u R I) : StN k t (a + 1) 0 u R I := by
  obtain ⟨h, s, w, im, p, q, o⟩ := S
  refine ⟨h, s, w, im, p, fun c hc => ?_, o⟩
  rw [q c hc]
  by_cases e : c = a
  · subst e
    rw [if_neg (by omega), if_pos rfl, if_pos (by omega)]
  · by_cases l : c < a
    · rw [if_pos l, if_pos (by omega)]
    · rw [if_neg l, if_neg e, if_neg (by omega)]
      split <;> rfl
theorem StN.room (S : StN k t a i u R I) (ha : a < 3) (hi : i < (t.q a).length) (k1 : (fd1 t).length ≤ k) (k2 : (fd2 t).length ≤ k) (k3 : (fd3 t).length ≤ k) : (R.getD a []).length < k := by
  obtain ⟨h, s, w, im, p, q, o⟩ := S
  have p0 := p 0 (by decide)
  have p1 := p 1 (by decide)
  have p2 := p 2 (by decide)
  have q0 := q 0 (by decide)
  have q1 := q 1 (by decide)
  have q2 := q 2 (by decide)
  have lw : u.W.length = t.W.length := by rw [w, pli_len]
  have l := h.len ha
  match a, ha with
  | 0, _ => simp [ThW.p, ThW.q, Fk, fd1] at *; omega
  | 1, _ => simp [ThW.p, ThW.q, Fk, fd2] at *; omega
  | 2, _ => simp [ThW.p, ThW.q, Fk, fd3] at *; omega
end
end LaneX
set_option linter.all false
set_option maxHeartbeats 1000000
namespace LaneX
/-! ### the stages joined -/
def fwk : Nat → Nat × Nat → Nat
  | 0 => fun p => p.1
  | 1 => fun p => p.2
  | _ => fun p => p.1 ^^^ p.2
structure StW (s : Nat) (W : List (Nat × Nat)) (R : List (List Nat)) : Prop where
  l : R.length = 3
  r : ∀ i, i < 3 → Rws (R.getD i [])
  s : ∀ i, i < 3 → ∀ x, Spn (R.getD i []) x ↔ Spn (units s ++ W.map (fwk i)) x
theorem stw_start (s : Nat) : StW s [] [units s, units s, units s] := ⟨rfl, fun i hi => by
  match i, hi with
  | 0, _ | 1, _ | 2, _ => exact units_rws s, fun i hi x => by
  rw [List.map_nil, List.append_nil]
  match i, hi with
  | 0, _ | 1, _ | 2, _ => exact Iff.rfl⟩
theorem StW.step {s : Nat} {W : List (Nat × Nat)} {R : List (List Nat)} (h : StW s W R) (p : Nat × Nat) : StW s (W ++ [p]) [grw (R.getD 0 []) p.1, grw (R.getD 1 []) p.2, grw (R.getD 2 []) (p.1 ^^^ p.2)] := by
  have key : ∀ i, i < 3 → ∀ x, Spn (grw (R.getD i []) (fwk i p)) x ↔ Spn (units s ++ (W ++ [p]).map (fwk i)) x := fun i hi x => by
    rw [grw_span, List.map_append, ← List.append_assoc]
    exact span_app (h.s i hi)
  refine ⟨rfl, fun i hi => ?_, fun i hi x => ?_⟩
  · match i, hi with
    | 0, hi => exact grw_rws (h.r 0 hi) _
    | 1, hi => exact grw_rws (h.r 1 hi) _
    | 2, hi => exact grw_rws (h.r 2 hi) _
  · match i, hi with
    | 0, hi => exact key 0 hi x
    | 1, hi => exact key 1 hi x
    | 2, hi => exact key 2 hi x
theorem StW.done {k : Nat} {t : ThW} {R : List (List Nat)} (h : StW t.S.length (pli t.W.length t.S.length) R) (k1 : t.S.length + t.W.length ≤ k) (k2 : t.W.length = 1 → t.S.length + 2 ≤ k) :
    StP k t 0 0 ⟨units t.S.length, [], [], [], pli t.W.length t.S.length, [], [], [], []⟩ R (units t.S.length) := by
  obtain ⟨q1, q2, q3⟩ := pli_rk t.W.length t.S.length
  have lu : (units t.S.length).length = t.S.length := by unfold units; simp
  have lp := pli_len t.W.length t.S.length
  have bw := pli_lt k1 k2
  refine ⟨⟨h.l, h.r, fun i hi x => ?_, fun i hi => ?_, fun x hx => ?_⟩, lu, rfl, by simp, fun c hc => ?_, rfl, rfl, rfl, rfl⟩
  · rw [h.s i hi]
    match i, hi with
    | 0, _ => simp [Fk, fd1, fwk]
    | 1, _ => simp [Fk, fd2, fwk]
    | 2, _ => simp [Fk, fd3, fwk]
  · match i, hi with
    | 0, _ => simp only [Fk, fd1, List.append_nil]; rw [q1, List.length_append, List.length_map, lu, lp]
    | 1, _ => simp only [Fk, fd2, List.append_nil]; rw [q2, List.length_append, List.length_map, lu, lp]
    | 2, _ => simp only [Fk, fd3, List.append_nil]; rw [q3, List.length_append, List.length_map, lu, lp]
  · simp only [fall, List.append_nil] at hx
    rcases List.mem_append.mp hx with hx | hx
    · have := (mix_units t.S.length).lt x hx
      exact Nat.lt_of_lt_of_le this (Nat.pow_le_pow_right (by decide) (by omega))
    · obtain ⟨p, hp, hx⟩ := List.mem_flatMap.mp hx
      simp only [List.mem_cons, List.not_mem_nil, or_false] at hx
      rcases hx with rfl | rfl
      · exact (bw p hp).1
      · exact (bw p hp).2
  · match c, hc with
    | 0, _ | 1, _ | 2, _ => rfl
theorem StP.planes {k : Nat} {t u : ThW} {R : List (List Nat)} {I : List Nat} (S : StP k t 3 0 u R I) : StN k t 0 0 u R (I ++ u.W.flatMap fun p => [p.1, p.2]) := by
  obtain ⟨h, s, w, im, p, n1, n2, n3, o⟩ := S
  refine ⟨h, s, w, ?_, fun c hc => ?_, fun c hc => ?_, o⟩
  · rw [im]
    unfold fall
    rw [n1, n2, n3, o]
    simp only [List.append_nil]
  · rw [p c hc, if_pos hc]
  · match c, hc with
    | 0, _ => show u.N1.length = 0; rw [n1]; rfl
    | 1, _ => show u.N2.length = 0; rw [n2]; rfl
    | 2, _ => show u.N3.length = 0; rw [n3]; rfl
structure Laid (k : Nat) (t u : ThW) : Prop where
  tn : Tn u (numsOf t)
  n : ∀ i, i < 3 → rk (Fk u i) = (Fk u i).length
  bd : ∀ x ∈ fall u, x < 2 ^ k
theorem StN.laid {k : Nat} {t u : ThW} {R : List (List Nat)} {I : List Nat} (S : StN k t 3 0 u R I) : ∃ u', Laid k t u' ∧ I ++ List.replicate t.O.length 0 = fall u' := by
  obtain ⟨h, s, w, im, p, q, o⟩ := S
  refine ⟨⟨u.S, u.P1, u.P2, u.P3, u.W, u.N1, u.N2, u.N3, List.replicate t.O.length 0⟩, ⟨⟨s, p 0 (by decide), p 1 (by decide), p 2 (by decide), by rw [w, pli_len]; rfl, q 0 (by decide), q 1 (by decide), q 2 (by decide), List.length_replicate⟩, fun i hi => ?_, fun x hx => ?_⟩, ?_⟩
  · match i, hi with
    | 0, _ => exact h.n 0 (by decide)
    | 1, _ => exact h.n 1 (by decide)
    | 2, _ => exact h.n 2 (by decide)
  · have : x ∈ fall u ∨ x = 0 := by
      unfold fall at hx ⊢
      rw [o, List.append_nil]
      rcases List.mem_append.mp hx with hx | hx
      · exact .inl hx
      · exact .inr (List.eq_of_mem_replicate hx)
    rcases this with z | rfl
    · exact h.bd x z
    · exact Nat.two_pow_pos k
  · rw [im]
    unfold fall
    rw [o, List.append_nil]
/-! ### the map told -/
theorem ldm_sgm2 {b : Nat} {t t' : ThW} {n : Nums} (T : Tn t n) (T' : Tn t' n) (m : Mix b (fall t)) (l' : (fall t').length = b) : Sgm (img (ldm b t t')) t t' := by
  refine sgm_of T T' (ext_cols (b := b) (by rw [List.length_map, m.len]) l' fun x hx => ?_)
  rw [img_comp]
  unfold ldm
  rw [img_comp, inv_left m hx]
theorem laid_led {b k : Nat} {A B C : List Nat} {t u : ThW} (h : Thr b A B C t) (hA : ∀ x ∈ A, x < 2 ^ b) (hB : ∀ x ∈ B, x < 2 ^ b) (hC : ∀ x ∈ C, x < 2 ^ b) (L : Laid k t u) :
    (ldm b t u).length = b ∧ (∀ x ∈ ldm b t u, x < 2 ^ k) ∧ rk (A.map (img (ldm b t u))) = rk A ∧ rk (B.map (img (ldm b t u))) = rk B ∧ rk (C.map (img (ldm b t u))) = rk C := by
  have m := thr_mixb h hA hB hC
  have T := tn_of t
  have l' : (fall u).length = b := by rw [fall_len L.tn, ← fall_len T, m.len]
  have S := ldm_sgm2 T L.tn m l'
  have LI := lin_img (ldm b t u)
  refine ⟨by unfold ldm; rw [List.length_map, (inv_mix m).len], fun x hx => ?_, ?_, ?_, ?_⟩
  · unfold ldm at hx
    obtain ⟨y, hy, rfl⟩ := List.mem_map.mp hx
    exact imf_lt L.bd _ _
  · rw [rk_eq (map_iff LI fun x => ⟨thr_a h, fun z => z.mono fun y hy => thr_m1 h hy⟩), S.f1, show rk (fd1 u) = _ from L.n 0 (by decide), ← thr_f1 h hA hB hC]
    show (fd1 u).length = _
    rw [← S.f1, List.length_map]
  · rw [rk_eq (map_iff LI fun x => ⟨thr_b h, fun z => z.mono fun y hy => thr_m2 h hy⟩), S.f2, show rk (fd2 u) = _ from L.n 1 (by decide), ← thr_f2 h hA hB hC]
    show (fd2 u).length = _
    rw [← S.f2, List.length_map]
  · rw [rk_eq (map_iff LI fun x => ⟨thr_c h, fun z => z.mono fun y hy => thr_m3 h hy⟩), S.f3 LI, show rk (fd3 u) = _ from L.n 2 (by decide), ← thr_f3 h hA hB hC]
    show (fd3 u).length = _
    rw [← S.f3 LI, List.length_map]
/-! ### three cut to the banks -/
structure CutR (b banks : Nat) (A B C A' B' C' : List Nat) (e : Nat → Nat) : Prop where
  s1 : ∀ x, Spn A' x → Spn A x
  s2 : ∀ x, Spn B' x → Spn B x
  s3 : ∀ x, Spn C' x → Spn C x
  d1 : rk A' + e 0 = min (rk A) banks
  d2 : rk B' + e 1 = min (rk B) banks
  d3 : rk C' + e 2 = min (rk C) banks
  nf : ∀ t, Thr b A' B' C' t → Fld3 t → t.S.length + 2 ≤ banks
theorem tak_rk {A : List Nat} (R : Rws A) (n : Nat) : rk (spn (A.take n)) = min (rk A) n := by
  rw [rk_spn, spn_id R, rk_sublist (List.take_sublist n A) (spn_id R), List.length_take, Nat.min_comm]
theorem tak_sub (A : List Nat) (n : Nat) : ∀ x, Spn (spn (A.take n)) x → Spn A x := fun x hx => ((spn_span _ x).mp hx).sub fun w hw => List.mem_of_mem_take hw
theorem lt_sub {b : Nat} {A A' : List Nat} (h : ∀ x ∈ A, x < 2 ^ b) (s : ∀ x, Spn A' x → Spn A x) : ∀ x ∈ A', x < 2 ^ b := fun x hx => (s x (.of hx)).lt h
theorem rk_app_sub {A B : List Nat} (h : ∀ x, Spn A x → Spn B x) : rk (A ++ B) = rk B := rk_eq fun x => ⟨fun z => z.mono fun y hy => (List.mem_append.mp hy).elim (fun q => h y (.of q)) Spn.of, fun z => z.sub fun y hy => List.mem_append_right _ hy⟩
theorem rk_app_sub' {A B : List Nat} (h : ∀ x, Spn B x → Spn A x) : rk (A ++ B) = rk A := rk_eq fun x => ⟨fun z => z.mono fun y hy => (List.mem_append.mp hy).elim Spn.of (fun q => h y (.of q)), fun z => z.sub fun y hy => List.mem_append_left _ hy⟩
/-- one inside another: no space is filled -/
theorem no_fill {b : Nat} {A B C : List Nat} {t : ThW} (h : Thr b A B C t) (hA : ∀ x ∈ A, x < 2 ^ b) (hB : ∀ x ∈ B, x < 2 ^ b) (hC : ∀ x ∈ C, x < 2 ^ b)
    (s : (∀ x, Spn A x → Spn B x) ∨ (∀ x, Spn B x → Spn A x) ∨ ∀ x, Spn C x → Spn A x) : ¬ Fld3 t := fun f => by
  obtain ⟨d1, d2, d3, d4, d5, d6, d7⟩ := fil_dims h hA hB hC f
  rcases s with s | s | s
  · rw [rk_app_sub s] at d5; omega
  · rw [rk_app_sub' s] at d5; omega
  · rw [rk_app_sub' s] at d6; omega
/-- other rows of a wide one: no space is filled -/
theorem no_fill2 {P P' X Y S' : List Nat} {x : Nat} (h1 : ∀ z, Spn P' z → Spn X z → Spn S' z) (h2 : ∀ z, Spn P' z → Spn Y z → Spn S' z) (h3 : ∀ z, Spn S' z → Spn X z ∧ Spn Y z) (h4 : ∀ z, Spn X z → Spn Y z → Spn P z)
    (u : ∀ z, Spn (X ++ Y) z → Spn P z ∨ Spn X z ∨ Spn Y z) (r : rk (P' ++ (X ++ Y)) = rk (X ++ Y)) (hx : Spn P' x) (nx : ¬ Spn P x) : False := by
  have sub : Spn (X ++ Y) x := (span_of_le (K := X ++ Y) (L := P' ++ (X ++ Y)) (fun y hy => .of (List.mem_append_right _ hy)) (by omega) x).mp (hx.sub fun w hw => List.mem_append_left _ hw)
  have back : ∀ {z}, Spn S' z → Spn P z := fun hz => h4 _ (h3 _ hz).1 (h3 _ hz).2
  rcases u x sub with z | z | z
  · exact nx z
  · exact nx (back (h1 x hx z))
  · exact nx (back (h2 x hx z))
theorem row_out {A : List Nat} (R : Rws A) {n : Nat} (h : n < A.length) : ¬ Spn (A.take n) (A.getD n 0) := fun z => by
  have e : A.take (n + 1) = A.take n ++ [A.getD n 0] := by
    rw [List.take_succ, List.getD_eq_getElem?_getD, List.getElem?_eq_getElem h]; rfl
  have r := rk_sublist (List.take_sublist (n + 1) A) (spn_id R)
  rw [e, rk_snoc_in z, List.length_append] at r
  have := rk_len (A.take n)
  simp only [List.length_cons, List.length_nil] at r
  omega
theorem row_in {A : List Nat} {n : Nat} (h : n < A.length) (h0 : 0 < n) : A.getD n 0 ∈ (A.drop 1).take n := by
  have e : (A.drop 1)[n - 1]? = some (A.getD n 0) := by
    rw [List.getElem?_drop, show 1 + (n - 1) = n by omega, List.getD_eq_getElem?_getD, List.getElem?_eq_getElem h]; rfl
  have e2 : ((A.drop 1).take n)[n - 1]? = some (A.getD n 0) := by rw [List.getElem?_take, if_pos (by omega), e]
  exact List.mem_of_getElem? e2
theorem drp_rk {A : List Nat} (R : Rws A) {n : Nat} (h : n < A.length) : rk (spn ((A.drop 1).take n)) = min (rk A) n := by
  rw [rk_spn, spn_id R, rk_sublist ((List.take_sublist n _).trans (List.drop_sublist 1 A)) (spn_id R), List.length_take, List.length_drop]
  omega
/-! ### costs -/
def e0 : Nat → Nat := fun _ => 0
def ea (a : Nat) : Nat → Nat := fun i => if i = a then 1 else 0
theorem jam_le {b banks : Nat} {A A' M : List Nat} {e : Nat} (hA : ∀ x ∈ A, x < 2 ^ b) (hM : M.length = b) (bM : ∀ x ∈ M, x < 2 ^ banks) (s : ∀ x, Spn A' x → Spn A x) (d : rk A' + e = min (rk A) banks) (r : rk (A'.map (img M)) = rk A') :
    rk A - banks ≤ jmd b A M ∧ jmd b A M ≤ rk A - banks + e := by
  have j := jmd_eq hA hM
  have up : rk (A.map (img M)) ≤ banks := rk_le_bits fun x hx => by
    obtain ⟨y, _, rfl⟩ := List.mem_map.mp hx
    exact imf_lt bM _ _
  have le : rk (A'.map (img M)) ≤ rk (A.map (img M)) := rk_le fun z hz => by
    obtain ⟨y, hy, rfl⟩ := List.mem_map.mp hz
    exact (lin_img M).spn (s y (.of hy))
  have := rk_len A
  omega
theorem jam_low {b banks : Nat} {A M : List Nat} (hA : ∀ x ∈ A, x < 2 ^ b) (bM : ∀ x ∈ M, x < 2 ^ banks) : rk A - banks ≤ rk A - rk (A.map (img M)) := by
  have up : rk (A.map (img M)) ≤ banks := rk_le_bits fun x hx => by
    obtain ⟨y, _, rfl⟩ := List.mem_map.mp hx
    exact imf_lt bM _ _
  omega
/-- three that fill a space have a word that goes to 0 -/
theorem bars_low {b banks : Nat} {A B C M : List Nat} {t : ThW} (h : Thr b A B C t) (hA : ∀ x ∈ A, x < 2 ^ b) (hB : ∀ x ∈ B, x < 2 ^ b) (hC : ∀ x ∈ C, x < 2 ^ b) (f : Fld3 t) (hM : M.length = b) (bM : ∀ x ∈ M, x < 2 ^ banks) (hb : banks ≤ t.S.length + 1) :
    rk (A.map (img M)) < rk A ∨ rk (B.map (img M)) < rk B ∨ rk (C.map (img M)) < rk C := by
  obtain ⟨d1, d2, d3, d4, _⟩ := fil_dims h hA hB hC f
  have lt : ∀ x ∈ A ++ B ++ C, x < 2 ^ b := fun x hx => by
    rcases List.mem_append.mp hx with hx | hx
    · exact (List.mem_append.mp hx).elim (hA x) (hB x)
    · exact hC x hx
  have j := jmd_eq lt hM
  have up : rk ((A ++ B ++ C).map (img M)) ≤ banks := rk_le_bits fun x hx => by
    obtain ⟨y, _, rfl⟩ := List.mem_map.mp hx
    exact imf_lt bM _ _
  have pos : 0 < jmd b (A ++ B ++ C) M := by omega
  have one : ∀ {X : List Nat}, (∀ x ∈ X, x < 2 ^ b) → ∀ x, x ≠ 0 → Spn X x → img M x = 0 → rk (X.map (img M)) < rk X := fun {X} lX x nx hx ex => by
    have jX := jmd_eq lX hM
    have : 0 < jmd b X M := by
      unfold jmd
      refine List.length_pos_iff.mpr fun z => ?_
      have q : Spn (mt b X (spn (ker M))) x := (mt_span lX x).mpr ⟨hx, by rw [spn_span, ker_span]; exact ⟨by rw [hM]; exact hx.lt lX, ex⟩⟩
      rw [z] at q
      exact nx q.nil
    omega
  unfold jmd at pos
  obtain ⟨x, hx⟩ := List.exists_mem_of_length_pos pos
  have nx := (mt_rws b (A ++ B ++ C) (spn (ker M))).nz x hx
  obtain ⟨q1, q2⟩ := (mt_span lt x).mp (.of hx)
  rw [spn_span, ker_span] at q2
  rcases fil_union h f q1 with z | z | z
  · exact .inl (one hA x nx z q2.2)
  · exact .inr (.inl (one hB x nx z q2.2))
  · exact .inr (.inr (one hC x nx z q2.2))
def cst (w j : Nat → Nat) : Nat := (w 0 <<< j 0) + (w 1 <<< j 1) + (w 2 <<< j 2)
def min3 (w : Nat → Nat) : Nat := min (min (w 0) (w 1)) (w 2)
theorem shl_mono {w a c : Nat} (h : a ≤ c) : w <<< a ≤ w <<< c := by
  rw [Nat.shiftLeft_eq, Nat.shiftLeft_eq]
  exact Nat.mul_le_mul_left _ (Nat.pow_le_pow_right (by decide) h)
theorem shl_more {w a c : Nat} (h : a < c) : w <<< a + w ≤ w <<< c := by
  refine Nat.le_trans ?_ (shl_mono (w := w) (show a + 1 ≤ c from h))
  rw [Nat.shiftLeft_eq, Nat.shiftLeft_eq, Nat.pow_succ, ← Nat.mul_assoc, Nat.mul_two]
  exact Nat.add_le_add_left (Nat.le_mul_of_pos_right _ (Nat.two_pow_pos _)) _
theorem cst_mono {w j j' : Nat → Nat} (h : ∀ i, i < 3 → j i ≤ j' i) : cst w j ≤ cst w j' := by
  have a := shl_mono (w := w 0) (h 0 (by decide))
  have b := shl_mono (w := w 1) (h 1 (by decide))
  have c := shl_mono (w := w 2) (h 2 (by decide))
  unfold cst
  omega
theorem cst_more {w j j' : Nat → Nat} (h : ∀ i, i < 3 → j i ≤ j' i) (m : ∃ i, i < 3 ∧ j i < j' i) : cst w j + min3 w ≤ cst w j' := by
  have a := shl_mono (w := w 0) (h 0 (by decide))
  have b := shl_mono (w := w 1) (h 1 (by decide))
  have c := shl_mono (w := w 2) (h 2 (by decide))
  obtain ⟨i, hi, l⟩ := m
  have q := shl_more (w := w i) l
  unfold cst min3
  match i, hi with
  | 0, _ => omega
  | 1, _ => omega
  | 2, _ => omega
end LaneX
set_option Elab.async false
set_option linter.all false
set_option maxRecDepth 100000
set_option maxHeartbeats 4000000
namespace LaneX
open PySem PySem.Spec PyProof.Rows L2
/-! ### C(y) of such a class, raised -/
theorem xi_mk {K : PySem.W.Frag} {C : Addr} {fld : Str} {H1 : Hp} {y : V} {Q : XK} (h : ∀ d, H1 d = none → Q (.ref C) (some d) (upd H1 d (.xd [(fld, y)]))) :
    ([y] : List V).length ≤ 1000 ∧ ∀ a, H1 a = none → sp_xi K C fld (.ref a :: ([y] ++ [])) (upd H1 a (exo a C none))
      (fun v H2 => v = .non ∧ ∃ (d : Addr) (fs : List (Str × V)), H2 a = some (exo a C (some d)) ∧ H2 d = some (exd d fs) ∧ H1 d = none ∧ Q (.ref C) (some d) (upd (del H2 a) d (.xd fs))) (fun _ _ _ => False) := by
  refine ⟨by show 1 ≤ 1000; decide, fun a ha => ⟨a, y, rfl, upd_same, fun dx hdx ne => ⟨rfl, dx, [(fld, y)], upd_same, (upd_ne ne).trans upd_same, ?_, ?_⟩⟩⟩
  · rw [upd_ne ne] at hdx
    exact hdx
  · have hd1 : H1 dx = none := by
      rw [upd_ne ne] at hdx
      exact hdx
    have e : upd (del (upd (upd (upd H1 a (exo a C none)) dx (exd dx [(fld, y)])) a (exo a C (some dx))) a) dx (.xd [(fld, y)]) = upd H1 dx (.xd [(fld, y)]) := by
      funext b
      by_cases hb : b = dx
      · rw [hb, upd_same, upd_same]
      · rw [upd_ne hb, upd_ne hb]
        by_cases hba : b = a
        · rw [hba, del_same, ha]
        · rw [del_ne hba, upd_ne hba, upd_ne hb, upd_ne hba]
    rw [e]
    exact h dx hd1
section
variable {X : Cx} {x xc fld : Str} {C : Addr} {p pos : Pos} {j : Nat} {e : Expr} {es : List Expr} {ta : TA}
theorem pmk_xi (T : Xi X.prog X.K X.mg C x fld) (gl : X.mg xc = some (.ref C)) (hr : Room j X.A) (ha : PA X (e :: es) ta) (hk : 2 ≤ j := by decide) (hg : Gl X xc := by rfl) (hdb : (xc == ("__debug__" : Str)) = false := by decide)
    (he : starEach (e :: es) X.env = (false, eval e X.env) :: starEach es X.env := by rfl) (hpl : (backTo pos (starEach es X.env)).any (·.1) = false := by rfl) :
    PMk X (.Call (.Name xc p) (e :: es) [] pos) (tMkO C (sp_xi X.K C fld) [] ta) := by
  obtain ⟨f, fd, h1, h2, h3, h4⟩ := T.ini
  exact pmk_oex T.T h1 h2 (h4 X.w X.base CX0 0) (hr.mono hk) h3 .nil pass0 hg gl ha hdb he hpl
end
/-! ### isinstance of a caught one that has its dict -/
theorem call_isXD {X : Cx} {a D : Addr} {oe : Obj} {pn : List (Addr × Obj)} {cls : Value} {d : Option Addr} (C : ExcC X.K D) (hz : Zc cls d oe) (hf : ∃ vs, oe.data = .fields vs) :
    CallR (X.suite a ((a, oe) :: pn)) (.builtin "isinstance") (fun xs H Q => cls = .ref D ∧ ∃ (dd : Addr) (fs : List (Str × V)), d = some dd ∧ H dd = some (.xd fs) ∧ rIsE X.K D a xs H Q) := by
  intro pins s σ H xs us Q I r h
  obtain ⟨rfl, dd, fs, rfl, ed, c, cv, b, rfl, hcv, e, q⟩ := h
  cases r with
  | cons rx rr =>
    cases rr with
    | cons rt rr =>
      cases rr
      cases rx
      have ec := hcv _ rt
      subst ec
      obtain ⟨hget, _⟩ := I.pin (a, oe) (List.mem_append.mpr (.inl List.mem_cons_self))
      obtain ⟨vs, hv⟩ := hf
      have hx : ObjOk X.prog X.w H s.heap dd (.xd fs) := I.hok dd _ ed
      obtain ⟨mA, hns, hr⟩ := hx
      obtain ⟨od, ho, hl⟩ := lookIn_ns hns
      have J : PySem.W.InstAt s.heap a oe D (some od) := ⟨hget, hz.1, by unfold PySem.W.notCls; rw [hv] <;> rfl, by rw [hz.2]; exact ho⟩
      obtain ⟨cdD, hcD, _⟩ := PySem.W.any_some C.hd
      exact PySem.W.kia_one (PySem.W.kitx_exc (by rw [hcD]; rfl) C.hg C.hk C.hs C.ha C.hn C.ht C.hm) I.kIn J e (fun z => nomatch z) fun tk => ⟨.bl b, H, I.kept (t' := tk) fun _ _ z => z, rfl, q⟩
end LaneX
set_option Elab.async false
set_option linter.all false
set_option maxRecDepth 100000
set_option maxHeartbeats 4000000
namespace LaneX
open PySem PySem.Spec PyProof.Rows L2
/-! ### several clauses `except X as n` -/
/-- the ends, slot i let go -/
def Ends.drop (D : Ends) (i : Nat) : Ends := { nx := fun σ' H' => D.nx (σ'.set i none) H', rt := D.rt, bk := fun σ' H' => D.bk (σ'.set i none) H', ct := fun σ' H' => D.ct (σ'.set i none) H' }
def wAll (K : PySem.W.Frag) (Wout : WX) (D : Ends) (n : Nat) : List (Value × Nat × (Addr → Value → Option Addr → TS)) → WX
  | [] => Wout
  | (c, i, ts) :: r => fun cls d σ H => ∃ b, PySem.W.exmOne K cls c = some b ∧ (b = true → ∀ a, H a = none → σ.length = n → ts a cls d (Ends.drop D i) (σ.set i (some (.ref a))) H) ∧ (b = false → wAll K Wout D n r cls d σ H)
inductive ClsOk (X : Cx) : List ExceptHandler → List (Value × Nat × (Addr → Value → Option Addr → TS)) → Prop
  | nil : ClsOk X [] []
  | cons {x n : Str} {c : Value} {i : Nat} {ts : Addr → Value → Option Addr → TS} {b₀ : Stmt} {suite : List Stmt} {np pos' : Pos} {hds : List ExceptHandler} {l : List (Value × Nat × (Addr → Value → Option Addr → TS))} (hc : Names X x c) (hi : X.N[i]? = some n) (hln : X.env.kindOf n = some .local)
      (hsu : ∀ (a : Addr) (oe : Obj) (cls : Value) (d : Option Addr) (pn : List (Addr × Obj)), Zc cls d oe → (∃ vs, oe.data = .fields vs) → PSs (X.suite a ((a, oe) :: pn)) (b₀ :: suite) (ts a cls d)) (r : ClsOk X hds l) :
      ClsOk X (.ExceptHandler (some (.Name x np)) (some n) (b₀ :: suite) pos' :: hds) ((c, i, ts) :: l)
section
variable {X : Cx} {body : List Stmt} {h₀ : ExceptHandler} {hds : List ExceptHandler} {l : List (Value × Nat × (Addr → Value → Option Addr → TS))} {pos : Pos} {tb : WX → TS} {Wout : WX}
theorem ps_try_all (hs : X.stack = X.env :: X.outer) (hf : X.env.frame = some X.env.locals) (hN : X.N.Nodup) (tk : Takes X Wout)
    (hb : ∀ (W : WX) (pn : List (Addr × Obj)) (xe : Value → Shared → Prop), Takes (X.tr pn xe) W → PassesOwn (model X.prog X.w) X.A X.env xe → PSs (X.tr pn xe) body (tb W))
    (hh : ClsOk X (h₀ :: hds) l) : PS X (.Try body (h₀ :: hds) [] [] pos) (fun D σ H => tb (wAll X.K Wout D X.N.length l) D σ H) := by
  refine ⟨fun pins s σ H D I h => ?_⟩
  have ok := I.ok
  have hfr : X.A.frames = some (X.env :: X.outer) := by rw [ok.frames, hs]
  refine wpAny_Try_except ?_
  refine wpAny_mono ((hb (wAll X.K Wout D X.N.length l) (X.pn ++ pins) (fun e s₁ => wpAny (model X.prog X.w) X.A (noteFrame e X.env) (fun _ s₂ => wpAny (model X.prog X.w) X.A (setFlight e none) (fun _ s₃ =>
    wpAny (model X.prog X.w) X.A (handleBy e X.env (h₀ :: hds)) (SP X pins D) X.xe s₃) X.xe s₂) X.xe s₁) (fun u s' xx => ?_) PassesOwn.looking).run [] s σ H D (I.toTry _) h) (fun f s1 hsp => ?_) (fun e s1 he => he)
  · obtain ⟨a, B, sI, pins', σ', H', cls, d, rfl, J', nb, up, sky, na, os, ag, wd⟩ := xx
    have J : Inv X pins σ' H' sI := J'.ofTry ok
    have sky' : Sky B (X.env :: X.outer) a (Zc cls d) X.env.locals s'.heap := by rw [← hs]; exact sky
    show wpAny (model X.prog X.w) X.A (noteFrame (.ref a) X.env) _ _ _
    refine Sky.land Zc.steady hfr hf sky' fun h3 fl3 up3 => ?_
    have J3 : Inv X pins σ' H' { s' with heap := h3 } := J.landed nb fl3.1 (up.trans up3) os ag
    obtain ⟨oe3, vs3, he3, hz3, hd3⟩ := fl3.there
    have notFr : ∀ {h : Heap} {o : Obj} {vs : Array Value}, h.FunFrames B (X.env :: X.outer) → h.get? a = some o → o.data = .fields vs → a ∉ frs (X.env :: X.outer) := fun {h o vs} ff e dd hm => by
      obtain ⟨_, o', e', hnf⟩ := ff.mem hm
      rw [e] at e'; cases e'
      exact hnf _ dd
    have nfr := notFr fl3.2.2.1 he3 hd3
    have nL : a ≠ X.env.locals := fun z => nfr (List.mem_filterMap.mpr ⟨X.env, List.mem_cons_self, by rw [hf, z]⟩)
    have nF : a ∉ X.fs := fun hm => by
      obtain ⟨e, he, q⟩ := List.mem_filterMap.mp hm
      exact nfr (List.mem_filterMap.mpr ⟨e, List.mem_cons_of_mem _ he, q⟩)
    have S3 := J3.suite he3 hd3 na nL nF
    have go : ∀ {hds' : List ExceptHandler} {l' : List (Value × Nat × (Addr → Value → Option Addr → TS))}, ClsOk X hds' l' → wAll X.K Wout D X.N.length l' cls d σ' H' →
        wpAny (model X.prog X.w) X.A (handleBy (.ref a) X.env hds') (SP X pins D) X.xe { s' with heap := h3 } := by
      intro hds' l' hk
      induction hk with
      | nil =>
        intro wd
        refine wpAny_handleBy_nil ?_
        obtain ⟨_, _, _, oe, vs, T, oT, ts', he, hz, hd, h1, hr⟩ := id fl3
        unfold PySem.passOn
        refine wpAny_bind (wpAny_field he hd h1 ?_)
        rw [if_neg (show ¬ ((Value.ref T == Value.none) = true) from by simp)]
        have fin : wpAny (model X.prog X.w) X.A (setFlight (.ref a) X.env.frame) (fun _ s4 => wpAny (model X.prog X.w) X.A (throw (.ref a) : Sem Flow) (SP X pins D) X.xe s4) X.xe { s' with heap := h3 } := by
          rw [hf]
          refine HandSPX.setFlight_upZ fl3 fun h4 hh4 up4 => wpAny_throw (tk _ _ ?_)
          exact ⟨a, B, sI, pins, σ', H', cls, d, rfl, J, nb, (up.trans up3).trans up4, .inr (.inr (by rw [hs]; exact hh4)), na, os, ag, wd⟩
        first
          | exact wpAny_bind (wpAny_pure (wpAny_bind fin))
          | exact wpAny_bind fin
      | @cons x n c i ts b₀ suite np pos' hds2 l2 hc hi hln hsu r ih =>
        intro wd
        obtain ⟨b, hb1, hyes, hno⟩ := wd
        refine wpAny_handleBy_cons (codeAny_handlers_test ?_) (by intro q; cases q)
        have LT : PySem.W.Looks (model X.prog X.w) h3 (typeOf (.ref a)) cls := fun A Q E s k q => wpAny_typeOf_ref (k _ _ he3) (by rw [hz3.1]; exact q)
        have LM := PySem.W.exm_one (M := model X.prog X.w) (J3.kIn) LT hb1
        have test : ∀ {Q : Value → Shared → Prop} {E : Value → Shared → Prop}, Q c { s' with heap := h3 } → wpAny (model X.prog X.w) (X.A.mark (some (.ref a))) (eval (.Name x np) X.env) Q E { s' with heap := h3 } := fun {Q E} q => by
          obtain ⟨hg, hdbg, hm | ⟨hm, hv, hnn⟩⟩ := hc
          · exact ld_glob (X := X.suite a ((a, oe3) :: (X.pn ++ pins))) S3 hg hm q hdbg
          · exact ld_blt (X := X.suite a ((a, oe3) :: (X.pn ++ pins))) S3 hg hm hv q hnn hdbg
        refine test (LM.here ?_)
        cases b with
        | true =>
          refine codeAny_handlers_suite_as ?_
          refine HandSPX.lands_againZ fl3 fun h4 fl4 up4 => ?_
          have J4 : Inv X pins σ' H' { s' with heap := h4 } := J.landed nb fl4.1 ((up.trans up3).trans up4) os ag
          obtain ⟨oe4, vs4, he4, hz4, hd4⟩ := fl4.there
          have S4 := J4.suite he4 hd4 na nL nF
          refine store_ok (X := X.suite a ((a, oe4) :: (X.pn ++ pins))) (v := .ref a) S4 hN hi (.inl hln) rfl (fun s5 S5 => ?_) (.inr hln)
          have gone : ∀ {σ6 : L2.St} {H6 : Hp} {s6 : Shared} {Q : Shared → Prop}, Inv (X.suite a ((a, oe4) :: (X.pn ++ pins))) [] σ6 H6 s6 → (∀ s7, Inv X pins (σ6.set i none) H6 s7 → Q s7) →
              wpAny (model X.prog X.w) X.A (do bindName X.env n .none; unbindBehindTheSuite X.env n pos') (fun _ s7 => Q s7) X.xe s6 := fun {σ6 H6 s6 Q} S6 hq => gone_ok (S6.unsuite ok) hN hi hln hq
          refine wpAny_mono ((hsu a oe4 cls d (X.pn ++ pins) hz4 ⟨_, hd4⟩).run [] s5 _ H' _ S5 (hyes rfl a na J.len)) (fun f s6 hsp => ?_) (fun _ _ z => False.elim z)
          cases f with
          | next =>
            obtain ⟨σ6, H6, S6, q6⟩ := hsp
            exact gone S6 fun s7 J7 => ⟨_, _, J7, q6⟩
          | brk =>
            obtain ⟨σ6, H6, S6, q6⟩ := hsp
            exact gone S6 fun s7 J7 => ⟨_, _, J7, q6⟩
          | cont =>
            obtain ⟨σ6, H6, S6, q6⟩ := hsp
            exact gone S6 fun s7 J7 => ⟨_, _, J7, q6⟩
          | ret u =>
            obtain ⟨v6, σ6, H6, S6, r6, q6⟩ := hsp
            exact gone S6 fun s7 J7 => ⟨_, _, _, J7, r6, q6⟩
        | false =>
          show wpAny _ X.A (handleBy (.ref a) X.env hds2) _ _ _
          exact ih (hno rfl)
    exact go hh wd
  · cases f with
    | next =>
      obtain ⟨σ', H', J', q⟩ := hsp
      exact wpAny_execs_nil ⟨σ', H', J'.ofTry ok, q⟩
    | brk =>
      obtain ⟨σ', H', J', q⟩ := hsp
      exact ⟨σ', H', J'.ofTry ok, q⟩
    | cont =>
      obtain ⟨σ', H', J', q⟩ := hsp
      exact ⟨σ', H', J'.ofTry ok, q⟩
    | ret u =>
      obtain ⟨v, σ', H', J', r, q⟩ := hsp
      exact ⟨v, σ', H', J'.ofTry ok, r, q⟩
end
end LaneX
set_option Elab.async false
set_option linter.all false
set_option maxRecDepth 100000
set_option maxHeartbeats 4000000
namespace LaneX
open PySem PySem.Spec PyProof.Rows L2

/-! ### what the checks promise, for values that are as described -/
def sp_is_whole : Sp := fun vs H Q _ => ∃ n : Nat, vs = [vN n] ∧ Q (.bl true) H
def sp_need_whole : Sp := fun vs H Q _ => ∃ n : Nat, vs = [vN n] ∧ Q .non H
def sp_need_items (K : PySem.W.Frag) : Sp := fun vs H Q _ => ∃ (a : Addr) (xs : List V), vs = [.ref a] ∧ Wq K H a xs ∧ ∀ H', Same H H' → Q .non H'
def sp_need_word : Sp := fun vs H Q _ => ∃ n b : Nat, vs = [vN n, vN b] ∧ blen n ≤ b ∧ Q .non H
def sp_need_words : Sp := fun vs H Q _ => ∃ (a : Addr) (ns : List Nat) (b : Nat), vs = [.ref a, vN b] ∧ Tq H a (ns.map vN) ∧ (∀ n ∈ ns, blen n ≤ b) ∧ ∀ H' p, Same H H' → H p = none → H' p = some (.lst (ns.map vN)) → Q (.ref p) H'
theorem ok_is_whole {P : Program} {w : World} {K : PySem.W.Frag} {mg : Str → Option Value} {base : Heap} {f : Addr} {fd : FuncData} (T : Bt mg) (F : FnP K "is_whole" "is_whole" s_is_whole f fd) : FnOk P w K mg base CX0 1 f fd ["value"] sp_is_whole := by
  have nd := sc_is_whole.nd
  refine fnok F sc_is_whole (fun vs H Q E h => ?_) (fun cdv A outer s H vs Q E hr h => ?_)
  · obtain ⟨n, rfl, _⟩ := h
    rfl
  · obtain ⟨n, rfl, k⟩ := h
    refine ⟨_, (pss_one (ps_ret (pe_and (pe_callB call_isi (by rfl) T.isinstance (by decide +kernel) (pa_cons (pv 0) (pa_cons (pe_bltn (v := .ty "int") (by rfl) T.int (by decide +kernel) rfl) pa_nil))) (pe_and (pe_not (pe_callB call_isi (by rfl) T.isinstance (by decide +kernel) (pa_cons (pv 0) (pa_cons (pe_bltn (v := .ty "bool") (by rfl) T.bool (by decide +kernel) rfl) pa_nil)))) (pe_one (pe_cmpR op_ge (pv 0) pe_int (nomark _))))))), ?_⟩
    refine ⟨_, rfl, _, _, _, _, _, rfl, .ty _, .base (.int _), kit_ty (r := true) (by decide +kernel), _, rfl, iteT ?_⟩
    refine ⟨_, rfl, _, _, _, _, _, rfl, .ty _, .base (.int _), kit_ty (r := false) (by decide +kernel), _, rfl, _, rfl, iteT ?_⟩
    refine ⟨_, rfl, _, _, rfl, rfl, ?_⟩
    have e : decide ((0 : Int) ≤ (n : Int)) = true := decide_eq_true (by omega)
    show Q (.bl (decide ((0 : Int) ≤ (n : Int)))) H
    rw [e]
    exact k
theorem ok_need_whole {P : Program} {w : World} {K : PySem.W.Frag} {mg : Str → Option Value} {base : Heap} {f : Addr} {fd : FuncData} (T : Bt mg) (F : FnP K "need_whole" "need_whole" s_need_whole f fd) (D_is_whole : Dn P w K mg base 1 "is_whole" ["value"] sp_is_whole) : FnOk P w K mg base CX0 2 f fd ["value"] sp_need_whole := by
  have nd := sc_need_whole.nd
  refine fnok F sc_need_whole (fun vs H Q E h => ?_) (fun cdv A outer s H vs Q E hr h => ?_)
  · obtain ⟨n, rfl, _⟩ := h
    rfl
  · obtain ⟨n, rfl, k⟩ := h
    refine ⟨_, (pss_one (ps_if (pt_not (pt_val (pe_d D_is_whole hr (pa_cons (pv 0) pa_nil))))
      (pss_one ps_never)
      pss_nil)), ?_⟩
    exact ⟨_, rfl, n, rfl, _, rfl, iteF k⟩
theorem ok_need_items {P : Program} {w : World} {K : PySem.W.Frag} {mg : Str → Option Value} {base : Heap} {f : Addr} {fd : FuncData} (T : Bt mg) (F : FnP K "need_items" "need_items" s_need_items f fd) : FnOk P w K mg base CX0 1 f fd ["value"] (sp_need_items K) := by
  have nd := sc_need_items.nd
  refine fnok F sc_need_items (fun vs H Q E h => ?_) (fun cdv A outer s H vs Q E hr h => ?_)
  · obtain ⟨a, xs, rfl, _⟩ := h
    rfl
  · obtain ⟨a, xs, rfl, hS, k⟩ := h
    refine ⟨_, (pss_one (ps_if (pt_not (pt_val (pe_callB call_isiT (by rfl) T.isinstance (by decide +kernel) (pa_cons (pv 0) (pa_cons (pe_tup (pa_cons (pe_bltn (v := .ty "list") (by rfl) T.list (by decide +kernel) rfl) (pa_cons (pe_bltn (v := .ty "tuple") (by rfl) T.tuple (by decide +kernel) rfl) pa_nil))) pa_nil)))))
      (pss_one ps_never)
      pss_nil)), ?_⟩
    refine ⟨_, rfl, (by show 2 ≤ sizeLine; decide), fun p hp => ?_⟩
    obtain ⟨t, ht, hk⟩ := (hS.same (same_new0 (o := .tup [.ty "list", .ty "tuple"]) hp)).ty
    refine ⟨_, _, _, _, _, _, rfl, upd_same, .cons (.ty _) (.cons (.ty _) .nil), ht, hk, _, rfl, iteF ?_⟩
    exact k _ (same_new0 hp)
theorem ok_need_word {P : Program} {w : World} {K : PySem.W.Frag} {mg : Str → Option Value} {base : Heap} {f : Addr} {fd : FuncData} (T : Bt mg) (F : FnP K "need_word" "need_word" s_need_word f fd) (D_is_whole : Dn P w K mg base 1 "is_whole" ["value"] sp_is_whole) : FnOk P w K mg base CX0 2 f fd ["value", "bits"] sp_need_word := by
  have nd := sc_need_word.nd
  refine fnok F sc_need_word (fun vs H Q E h => ?_) (fun cdv A outer s H vs Q E hr h => ?_)
  · obtain ⟨n, b, rfl, _⟩ := h
    rfl
  · obtain ⟨n, b, rfl, hb, k⟩ := h
    refine ⟨_, (pss_one (ps_if (PW.pt (pw_or (pt_not (pt_val (pe_d D_is_whole hr (pa_cons (pv 0) pa_nil)))) (pw_or1 (pt_cmpR op_gt (pe_bits (pv 0)) (pv 1) (nomark _)))))
      (pss_one ps_never)
      pss_nil)), ?_⟩
    refine ⟨_, rfl, n, rfl, _, rfl, iteF ?_⟩
    refine ⟨_, rfl, _, rfl, _, rfl, _, _, rfl, rfl, _, rfl, ?_⟩
    rw [blen_bits]
    have e : decide ((b : Int) < (blen n : Int)) = false := decide_eq_false (by omega)
    rw [e]
    exact iteF k
theorem ok_need_words {P : Program} {w : World} {K : PySem.W.Frag} {mg : Str → Option Value} {base : Heap} {f : Addr} {fd : FuncData} (T : Bt mg) (F : FnP K "need_words" "need_words" s_need_words f fd) (D_need_items : Dn P w K mg base 1 "need_items" ["value"] (sp_need_items K)) (D_need_word : Dn P w K mg base 2 "need_word" ["value", "bits"] sp_need_word) :
    FnOk P w K mg base CX0 3 f fd ["values", "bits"] sp_need_words := by
  have nd := sc_need_words.nd
  refine fnok F sc_need_words (fun vs H Q E h => ?_) (fun cdv A outer s H vs Q E hr h => ?_)
  · obtain ⟨a, ns, b, rfl, _⟩ := h
    rfl
  · obtain ⟨a, ns, b, rfl, hS, hb, k⟩ := h
    refine ⟨_, (pss_cons (ps_expr (pe_d D_need_items hr (pa_cons (pv 0) pa_nil)))
      (pss_cons (ps_for PassesOwn.never rfl (pi_seq (pv 0)) (pg_name (i := 2) nd rfl (Or.inl rfl))
        (pss_one (ps_expr (pe_d D_need_word hr (pa_cons (pv 2) (pa_cons (pv 1) pa_nil))))))
      (pss_one (ps_ret (pe_callTy call_listQ (by rfl) T.list (by decide +kernel) (pa_cons (pv 0) pa_nil)))))), ?_⟩
    refine ⟨_, rfl, a, _, rfl, .inl hS, fun H1 s1 => ?_⟩
    refine ⟨_, rfl, for_seq (K := K) (same_tq s1 hS).sq (fun i σ H2 => ∃ v, σ = [some (.ref a), some (vN b), v] ∧ H2 = H1) ⟨none, rfl, rfl⟩ (fun i σ H2 hp => by obtain ⟨_, _, rfl⟩ := hp; exact Kp.refl _) ?_ ?_⟩
    · rintro i x σ H2 hx ⟨v, rfl, rfl⟩
      obtain ⟨n, hn, rfl⟩ := map_get hx
      exact ⟨_, rfl, _, rfl, n, b, rfl, hb n (List.mem_of_getElem? hn), _, rfl, rfl⟩
    · rintro σ H2 ⟨v, rfl, rfl⟩
      refine ⟨_, rfl, a, _, rfl, (same_tq s1 hS), fun l hl => ?_⟩
      exact k _ _ (same_new s1 hl) (same_free s1 hl) upd_same
end LaneX
set_option Elab.async false
set_option linter.all false
set_option maxRecDepth 100000
set_option maxHeartbeats 4000000
namespace LaneX
open PySem PySem.Spec PyProof.Rows L2
theorem dec_int {a b : Int} : decide (V.int a = V.int b) = decide (a = b) := by
  by_cases h : a = b
  · subst h; simp
  · rw [decide_eq_false h, decide_eq_false (fun e => h (by cases e; rfl))]
theorem dec_nat {a b : Nat} : decide (V.int (a : Int) = V.int (b : Int)) = decide (a = b) := by
  rw [dec_int]
  by_cases h : a = b
  · subst h; simp
  · rw [decide_eq_false h, decide_eq_false (by omega)]
theorem clr_snoc (a : List Nat) (r w : Nat) : clr (a ++ [r]) w = if (clr a w).testBit (blen r - 1) = true then clr a w ^^^ r else clr a w := clr_append a [r] w
theorem dec_zero {n : Nat} (h : decide (V.int (n : Int) = V.int 0) = true) : n = 0 := by
  rw [show (V.int 0 : V) = V.int ((0 : Nat) : Int) from rfl, dec_nat] at h
  exact of_decide_eq_true h
theorem dec_nz {n : Nat} (h : decide (V.int (n : Int) = V.int 0) = false) : n ≠ 0 := by
  rw [show (V.int 0 : V) = V.int ((0 : Nat) : Int) from rfl, dec_nat] at h
  exact of_decide_eq_false h
theorem dec_bit (n b : Nat) : decide (V.int ((n >>> b &&& 1 : Nat) : Int) = V.int 1) = n.testBit b := by
  rw [show (V.int 1 : V) = V.int ((1 : Nat) : Int) from rfl, dec_nat]
  cases q : n.testBit b with
  | true => exact decide_eq_true ((shr_and_one _ _).mpr q)
  | false => exact decide_eq_false fun z => by rw [(shr_and_one _ _).mp z] at q; cases q
theorem size6'' {n : Nat} (h : n ≤ 1000000) : n + 1 ≤ sizeLine := by rw [sizeLine_eq]; omega
def sp_spanned : Sp := fun vs H Q _ => ∃ (a : Addr) (ws : List Nat), vs = [.ref a] ∧ Tq H a (ws.map vN) ∧ ws.length ≤ 1000000 ∧
  ∀ H' p, Same H H' → H p = none → H' p = some (.lst ((spn ws).map vN)) → Q (.ref p) H'
def sp_cleared : Sp := fun vs H Q _ => ∃ (a : Addr) (rows : List Nat) (x : Nat), vs = [.ref a, vN x] ∧ Tq H a (rows.map vN) ∧ (∀ r ∈ rows, r ≠ 0) ∧ Q (vN (clr rows x)) H
def sp_grown : Sp := fun vs H Q _ => ∃ (a : Addr) (rows : List Nat) (x : Nat), vs = [.ref a, vN x] ∧ Tq H a (rows.map vN) ∧ (∀ r ∈ rows, r ≠ 0) ∧ rows.length ≤ 1000000 ∧
  ∀ H' p, Same H H' → H p = none → H' p = some (.lst ((grw rows x).map vN)) → Q (.ref p) H'
section
variable {P : Program} {w : World} {K : PySem.W.Frag} {mg : Str → Option Value} {base : Heap} {f : Addr} {fd : FuncData} (T : Bt mg)
include T
theorem ok_cleared (F : FnP K "cleared" "cleared" s_cleared f fd) : FnOk P w K mg base CX0 1 f fd ["rows", "word"] sp_cleared := by
  have nd := sc_cleared.nd
  refine fnok F sc_cleared (fun vs H Q E h => ?_) (fun cdv A outer s H vs Q E hr h => ?_)
  · obtain ⟨a, rows, x, rfl, _⟩ := h
    rfl
  · obtain ⟨a, rows, x, rfl, hS, hn, k⟩ := h
    refine ⟨_, (pss_cons (ps_set (i := 2) nd rfl (Or.inl rfl) (pv 1))
      (pss_cons (ps_for PassesOwn.never rfl (pi_seq (pv 0)) (pg_name (i := 3) nd rfl (Or.inl rfl))
        (pss_one (ps_if (pt_cmpR op_eq (pe_op on_and (pe_op on_shr (pv 2) (pe_op on_sub (pe_bits (pv 3)) pe_int)) pe_int) pe_int (nomark _))
          (pss_one (ps_set (i := 2) nd rfl (Or.inl rfl) (pe_op on_xor (pv 2) (pv 3))))
          pss_nil)))
      (pss_one (ps_ret (pv 2))))), ?_⟩
    refine ⟨_, rfl, _, rfl, for_seq (K := K) hS.sq (fun i σ H2 => ∃ v, σ = [some (.ref a), some (vN x), some (vN (clr (rows.take i) x)), v] ∧ H2 = H) ⟨none, rfl, rfl⟩ (fun i σ H2 hp => by obtain ⟨_, _, rfl⟩ := hp; exact Kp.refl _) ?_ ?_⟩
    · rintro i y σ H2 hy ⟨v, rfl, rfl⟩
      obtain ⟨r, hr', rfl⟩ := map_get hy
      have rn := hn r (List.mem_of_getElem? hr')
      have rb := blen_pos rn
      refine ⟨_, rfl, _, rfl, _, rfl, _, 1, rfl, rfl, (by show 1 ≤ Builtin.Int.intBits (r : Int); rw [blen_bits]; exact rb), _, _, rfl, rfl, _, 1, rfl, rfl, rfl, _, rfl, ?_⟩
      rw [take_succ hr', clr_snoc]
      rw [blen_bits]
      have e : decide (V.int ((clr (rows.take i) x >>> (blen r - 1) &&& 1 : Nat) : Int) = V.int 1) = (clr (rows.take i) x).testBit (blen r - 1) := by
        rw [show (V.int 1 : V) = V.int ((1 : Nat) : Int) from rfl, dec_nat]
        cases q : (clr (rows.take i) x).testBit (blen r - 1) with
        | true => exact decide_eq_true ((shr_and_one _ _).mpr q)
        | false => exact decide_eq_false fun z => by rw [(shr_and_one _ _).mp z] at q; cases q
      rw [e]
      cases q : (clr (rows.take i) x).testBit (blen r - 1) with
      | true => exact iteT ⟨_, rfl, _, rfl, _, _, rfl, rfl, _, rfl, rfl⟩
      | false => exact iteF ⟨_, rfl, rfl⟩
    · rintro σ H2 ⟨v, rfl, rfl⟩
      refine ⟨_, rfl, ?_⟩
      rw [List.length_map, List.take_length]
      exact k
theorem ok_grown (F : FnP K "grown" "grown" s_grown f fd) (D_cleared : Dn P w K mg base 1 "cleared" ["rows", "word"] sp_cleared) : FnOk P w K mg base CX0 2 f fd ["rows", "word"] sp_grown := by
  have nd := sc_grown.nd
  refine fnok F sc_grown (fun vs H Q E h => ?_) (fun cdv A outer s H vs Q E hr h => ?_)
  · obtain ⟨a, rows, x, rfl, _⟩ := h
    rfl
  · obtain ⟨a, rows, x, rfl, hS, hn, hl, k⟩ := h
    refine ⟨_, (pss_cons (ps_set (i := 2) nd rfl (Or.inr rfl) (pe_d D_cleared hr (pa_cons (pv 0) (pa_cons (pv 1) pa_nil))))
  (pss_cons (ps_if (pt_cmpR op_eq (pv 2) pe_int (nomark _))
    (pss_one (ps_ret (pe_callTy call_listQ (by rfl) T.list (by decide +kernel) (pa_cons (pv 0) pa_nil))))
    pss_nil)
  (pss_cons (ps_set (i := 3) nd rfl (Or.inr rfl) (pe_op on_sub (pe_bits (pv 2)) pe_int))
  (pss_one (ps_ret (pe_callB cr_sortedN (by rfl) T.sorted (by decide +kernel) (pa_cons (pe_op op_cat (pe_lc (own := [("row", 4)]) (g := gName 4) (by rfl) nd (pi_seq (pv 0)) (blkOk_by (own := [("row", 4)]) (N := ["rows", "word", "left", "top", "row"]) (sc := defScope s_grown) (by decide +kernel)) (fun _ _ _ _ _ => (pg_name (i := 4) nd rfl (Or.inl rfl))) (fun _ _ _ _ _ => pts_nil) (fun _ _ _ _ _ => (pe_ifExp (pt_cmpR op_eq (pe_op on_and (pe_op on_shr (pv 4) (pv 3)) pe_int) pe_int (nomark _)) (pe_op on_xor (pv 4) (pv 2)) (pv 4)))) (pe_lst (pa_cons (pv 2) pa_nil))) pa_nil))))))), ?_⟩
    refine ⟨_, rfl, _, rfl, a, rows, x, rfl, hS, hn, ?_⟩
    refine ⟨_, rfl, rfl, _, rfl, ?_⟩
    refine br (fun e => ?_) (fun e => ?_)
    · have e0 : clr rows x = 0 := dec_zero e
      refine ⟨_, rfl, a, _, rfl, hS, fun l hl' => ?_⟩
      refine k _ _ (same_new0 hl') hl' ?_
      rw [grw_eq, if_pos e0]
      exact upd_same
    · have e0 : clr rows x ≠ 0 := dec_nz e
      have eb := blen_pos e0
      refine ⟨_, rfl, _, rfl, _, 1, rfl, rfl, (by show 1 ≤ Builtin.Int.intBits (clr rows x : Int); rw [blen_bits]; exact eb), ?_⟩
      refine ⟨_, rfl, lc_pure rows vN (fun _ => true) (fun r => vN (chg (clr rows x) r)) hS hl (fun n H' hn' s => ?_) (fun D H1 hD s1 h1 => ?_)⟩
      · intro Z Nx h1 h2
        refine ⟨rfl, _, rfl, _, rfl, _, _, rfl, rfl, _, 1, rfl, rfl, rfl, _, rfl, ?_⟩
        rw [blen_bits, dec_bit]
        have z := h1 rfl H' (Same.refl H')
        unfold chg at z
        cases q : n.testBit (blen (clr rows x) - 1) with
        | true =>
          rw [q] at z
          exact iteT ⟨_, rfl, _, rfl, _, _, rfl, rfl, z⟩
        | false =>
          rw [q] at z
          exact iteF ⟨_, rfl, z⟩
      · rw [List.filter_eq_self.mpr (fun _ _ => rfl)] at h1
        refine ⟨_, rfl, (by show 1 ≤ sizeLine; decide), fun l hl' => ?_⟩
        refine ⟨_, _, _, _, rfl, rfl, upd_new hl' h1, upd_same, (by show (rows.map _).length + 1 ≤ _; rw [List.length_map]; exact size6'' hl), fun q hq => ?_⟩
        refine ⟨q, rows.map (chg (clr rows x)) ++ [clr rows x], rfl, ?_, fun p hp => ?_⟩
        · rw [upd_same]
          simp [List.map_append]
        · have s3 := same_new (o := .lst [vN (clr rows x)]) s1 hl'
          have s4 := same_new (o := .lst (rows.map (fun r => vN (chg (clr rows x) r)) ++ [vN (clr rows x)])) s3 hq
          refine k _ _ (same_new s4 hp) (same_free s4 hp) ?_
          rw [upd_same, grw_eq, if_neg e0]
theorem ok_spanned (F : FnP K "spanned" "spanned" s_spanned f fd) (D_grown : Dn P w K mg base 2 "grown" ["rows", "word"] sp_grown) : FnOk P w K mg base CX0 3 f fd ["words"] sp_spanned := by
  have nd := sc_spanned.nd
  refine fnok F sc_spanned (fun vs H Q E h => ?_) (fun cdv A outer s H vs Q E hr h => ?_)
  · obtain ⟨a, ws, rfl, _⟩ := h
    rfl
  · obtain ⟨a, ws, rfl, hS, hl, k⟩ := h
    refine ⟨_, (pss_cons (ps_set (i := 1) nd rfl (Or.inl rfl) (pe_lst pa_nil))
      (pss_cons (ps_for PassesOwn.never rfl (pi_seq (pv 0)) (pg_name (i := 2) nd rfl (Or.inl rfl))
        (pss_one (ps_set (i := 1) nd rfl (Or.inl rfl) (pe_d D_grown hr (pa_cons (pv 1) (pa_cons (pv 2) pa_nil))))))
      (pss_one (ps_ret (pv 1))))), ?_⟩
    refine ⟨(by show 0 ≤ sizeLine; decide), fun l0 hl0 => ?_⟩
    have s0 : Same H (upd H l0 (.lst [])) := same_new0 hl0
    refine ⟨_, rfl, for_seq (K := K) (same_tq s0 hS).sq (fun i σ H2 => ∃ v l, σ = [some (.ref a), some (.ref l), v] ∧ Same (upd H l0 (.lst [])) H2 ∧ H l = none ∧ H2 l = some (.lst ((spn (ws.take i)).map vN))) ⟨none, l0, rfl, Same.refl _, hl0, upd_same⟩ (fun i σ H2 hp => ?_) ?_ ?_⟩
    · obtain ⟨_, l, _, s2, hn, h2⟩ := hp
      exact Kp.of s2
    · rintro i y σ H2 hy ⟨v, l, rfl, s2, hn, h2⟩
      obtain ⟨r, hr', rfl⟩ := map_get hy
      refine ⟨_, rfl, _, rfl, l, _, r, rfl, .inl h2, (spn_rws _).nz, Nat.le_trans (spn_len _) (Nat.le_trans (by rw [List.length_take]; omega) hl), fun H3 p s3 hp h3 => ?_⟩
      refine ⟨_, p, rfl, s2.trans s3, same_free s0 (same_free s2 hp), ?_⟩
      rw [take_succ hr', spn_append]
      exact h3
    · rintro σ H2 ⟨v, l, rfl, s2, hn, h2⟩
      rw [List.length_map, List.take_length] at h2
      exact ⟨_, rfl, k _ _ (s0.trans s2) hn h2⟩
end
end LaneX
set_option Elab.async false
set_option linter.all false
set_option maxRecDepth 100000
set_option maxHeartbeats 4000000
namespace LaneX
open PySem PySem.Spec PyProof.Rows L2
def sp_paired : Sp := fun vs H Q _ => ∃ (a : Addr) (cs : List Nat), vs = [.ref a] ∧ Tq H a (cs.map vN) ∧ cs.length ≤ 1000000 ∧ (∀ c ∈ cs, blen c ≤ 1000000) ∧
  ∀ H' p, Same H H' → H p = none → H' p = some (.lst ((prd cs).map vN)) → Q (.ref p) H'
def sp_kernel_rows : Sp := fun vs H Q _ => ∃ (a : Addr) (cs : List Nat), vs = [.ref a] ∧ Tq H a (cs.map vN) ∧ cs.length ≤ 1000000 ∧ (∀ c ∈ cs, blen c ≤ 1000000) ∧
  ∀ H' p, Same H H' → H p = none → H' p = some (.lst ((ker cs).map vN)) → Q (.ref p) H'
def sp_met : Sp := fun vs H Q _ => ∃ (b : Nat) (a c : Addr) (rs os : List Nat), vs = [vN b, .ref a, .ref c] ∧ Tq H a (rs.map vN) ∧ Tq H c (os.map vN) ∧ b ≤ 1000000 ∧ rs.length ≤ 400000 ∧ os.length ≤ 400000 ∧ (∀ r ∈ rs, blen r ≤ 1000000) ∧ (∀ r ∈ os, blen r ≤ 1000000) ∧
  ∀ H' p, Same H H' → H p = none → H' p = some (.lst ((mtd b rs os).map vN)) → Q (.ref p) H'
theorem shl_ok1 {n m : Nat} (h1 : blen n ≤ 1000000) (h2 : m ≤ 1000000) : CShN n m := by unfold CShN; omega
theorem blen_one : blen 1 = 1 := by decide
theorem dec_le (a b : Nat) : decide ((a : Int) ≤ (b : Int)) = decide (a ≤ b) := by
  by_cases h : a ≤ b
  · rw [decide_eq_true h, decide_eq_true (by omega)]
  · rw [decide_eq_false h, decide_eq_false (by omega)]
theorem filt_true {α : Type} (l : List α) : l.filter (fun _ => true) = l := List.filter_eq_self.mpr fun _ _ => rfl
section
variable {P : Program} {w : World} {K : PySem.W.Frag} {mg : Str → Option Value} {base : Heap} {f : Addr} {fd : FuncData} (T : Bt mg)
include T
theorem ok_paired (F : FnP K "paired" "paired" s_paired f fd) (D_spanned : Dn P w K mg base 3 "spanned" ["words"] sp_spanned) : FnOk P w K mg base CX0 4 f fd ["columns"] sp_paired := by
  have nd := sc_paired.nd
  refine fnok F sc_paired (fun vs H Q E h => ?_) (fun cdv A outer s H vs Q E hr h => ?_)
  · obtain ⟨a, cs, rfl, _⟩ := h
    rfl
  · obtain ⟨a, cs, rfl, hS, hl, hc, k⟩ := h
    refine ⟨_, (pss_cons (ps_set (i := 1) nd rfl (Or.inr rfl) (pe_callB call_lenQ (by rfl) T.len PySem.boot_len (pa_cons (pv 0) pa_nil)))
  (pss_one (ps_ret (pe_d D_spanned hr (pa_cons (pe_lc (own := [("bit", 2)]) (g := gName 2) (by rfl) nd (pi_range1 (by rfl) T.range (pa_cons (pv 1) pa_nil)) (blkOk_by (own := [("bit", 2)]) (N := ["columns", "source", "bit"]) (sc := defScope s_paired) (by decide +kernel)) (fun _ _ _ _ _ => (pg_name (i := 2) nd rfl (Or.inl rfl))) (fun _ _ _ _ _ => pts_nil) (fun _ _ _ _ _ => (pe_op on_add (pe_op on_shl (pe_ix ix_q (pv 0) (pv 2) (fun _ _ => rfl)) (pv 1)) (pe_op on_shl pe_int (pv 2))))) pa_nil))))), ?_⟩
    refine ⟨_, rfl, a, _, rfl, hS, _, rfl, _, rfl, (by omega), (by rw [List.length_map]; omega), lc_pureR (n := (cs.map vN).length) (fun _ => true) (fun i => vN ((cs.getD i 0 <<< cs.length) + (1 <<< i))) (by rw [List.length_map]; exact hl) (fun i H' hi s => ?_) (fun D H1 hD s1 h1 => ?_)⟩
    · intro Z Nx h1 h2
      rw [List.length_map] at hi
      have hg : (cs.map vN)[i]? = some (vN (cs.getD i 0)) := by
        rw [List.getElem?_map, List.getElem?_eq_getElem hi, List.getD_eq_getElem?_getD, List.getElem?_eq_getElem hi]
        rfl
      have hm : cs.getD i 0 ∈ cs := by
        rw [List.getD_eq_getElem?_getD, List.getElem?_eq_getElem hi]
        exact List.getElem_mem hi
      have z := h1 rfl H' (Same.refl H')
      rw [← List.length_map (f := vN)] at z
      exact ⟨rfl, _, rfl, _, rfl, a, _, i, _, rfl, rfl, same_tq s hS, hg, _, rfl, _, _, rfl, rfl, shl_ok1 (hc _ hm) (by rw [List.length_map]; exact hl), _, rfl, 1, _, rfl, rfl, shl_ok1 (by rw [blen_one]; decide) (by omega), _, _, rfl, rfl, z⟩
    · rw [filt_true, List.length_map] at h1
      refine ⟨D, prs cs, rfl, .inl ?_, by simp [prs]; omega, fun H2 p s2 hp h2 => k _ _ (s1.trans s2) (same_free s1 hp) h2⟩
      rw [h1]
      simp [prs]
theorem ok_kernel_rows (F : FnP K "kernel_rows" "kernel_rows" s_kernel_rows f fd) (D_paired : Dn P w K mg base 4 "paired" ["columns"] sp_paired) : FnOk P w K mg base CX0 5 f fd ["columns"] sp_kernel_rows := by
  have nd := sc_kernel_rows.nd
  refine fnok F sc_kernel_rows (fun vs H Q E h => ?_) (fun cdv A outer s H vs Q E hr h => ?_)
  · obtain ⟨a, cs, rfl, _⟩ := h
    rfl
  · obtain ⟨a, cs, rfl, hS, hl, hc, k⟩ := h
    refine ⟨_, (pss_one (ps_ret (pe_lc (own := [("row", 1)]) (g := gName 1) (by rfl) nd (pi_seq (pe_d D_paired hr (pa_cons (pv 0) pa_nil))) (blkOk_by (own := [("row", 1)]) (N := ["columns", "row"]) (sc := defScope s_kernel_rows) (by decide +kernel)) (fun _ _ _ _ _ => (pg_name (i := 1) nd rfl (Or.inl rfl))) (fun _ _ _ _ _ => (pts_one (pt_cmpR op_le (pe_bits (pv 1)) (pe_callB call_lenQ (by rfl) T.len PySem.boot_len (pa_cons (pv 0) pa_nil)) (nomark _)))) (fun _ _ _ _ _ => (pv 1))))), ?_⟩
    refine ⟨_, rfl, a, cs, rfl, hS, hl, hc, fun H1 p s1 hp h1 => ?_⟩
    have hlp : (prd cs).length ≤ 1000000 := Nat.le_trans (spn_len _) (by simp [prs]; exact hl)
    refine lc_pure (prd cs) vN (fun r => decide (blen r ≤ cs.length)) vN (.inl h1) hlp (fun n H' hn s => ?_) (fun D H2 hD s2 h2 => ?_)
    · intro Z Nx z1 z2
      refine ⟨rfl, _, rfl, _, rfl, _, rfl, a, _, rfl, (same_tq (s1.trans s) hS), _, _, rfl, rfl, _, rfl, ?_⟩
      rw [blen_bits, List.length_map, dec_le]
      exact br (fun e => ⟨_, rfl, z1 e _ (Same.refl _)⟩) (fun e => z2 e _ (Same.refl _))
    · exact k _ _ (s1.trans s2) (same_free s1 hD) h2
theorem ok_met (F : FnP K "met" "met" s_met f fd) (D_spanned : Dn P w K mg base 3 "spanned" ["words"] sp_spanned) : FnOk P w K mg base CX0 4 f fd ["bits", "rows", "others"] sp_met := by
  have nd := sc_met.nd
  refine fnok F sc_met (fun vs H Q E h => ?_) (fun cdv A outer s H vs Q E hr h => ?_)
  · obtain ⟨b, a, c, rs, os, rfl, _⟩ := h
    rfl
  · obtain ⟨b, a, c, rs, os, rfl, hA, hC, hb, hl1, hl2, hr1, hr2, k⟩ := h
    refine ⟨_, (pss_cons (ps_set (i := 3) nd rfl (Or.inl rfl) (pe_op op_cat (pe_lc (own := [("row", 4)]) (g := gName 4) (by rfl) nd (pi_seq (pv 1)) (blkOk_by (own := [("row", 4)]) (N := ["bits", "rows", "others", "both", "row"]) (sc := defScope s_met) (by decide +kernel)) (fun _ _ _ _ _ => (pg_name (i := 4) nd rfl (Or.inl rfl))) (fun _ _ _ _ _ => pts_nil) (fun _ _ _ _ _ => (pe_op on_add (pe_op on_shl (pv 4) (pv 0)) (pv 4)))) (pe_lc (own := [("row", 4)]) (g := gName 4) (by rfl) nd (pi_seq (pv 2)) (blkOk_by (own := [("row", 4)]) (N := ["bits", "rows", "others", "both", "row"]) (sc := defScope s_met) (by decide +kernel)) (fun _ _ _ _ _ => (pg_name (i := 4) nd rfl (Or.inl rfl))) (fun _ _ _ _ _ => pts_nil) (fun _ _ _ _ _ => (pe_op on_shl (pv 4) (pv 0))))))
  (pss_one (ps_ret (pe_lc (own := [("row", 4)]) (g := gName 4) (by rfl) nd (pi_seq (pe_d D_spanned hr (pa_cons (pv 3) pa_nil))) (blkOk_by (own := [("row", 4)]) (N := ["bits", "rows", "others", "both", "row"]) (sc := defScope s_met) (by decide +kernel)) (fun _ _ _ _ _ => (pg_name (i := 4) nd rfl (Or.inl rfl))) (fun _ _ _ _ _ => (pts_one (pt_cmpR op_le (pe_bits (pv 4)) (pv 0) (nomark _)))) (fun _ _ _ _ _ => (pv 4)))))), ?_⟩
    refine ⟨_, rfl, lc_pure rs vN (fun _ => true) (fun r => vN ((r <<< b) + r)) hA (by omega) (fun n H' hn s => ?_) (fun D1 H1 hD1 s1 h1 => ?_)⟩
    · intro Z Nx z1 z2
      exact ⟨rfl, _, rfl, _, rfl, _, _, rfl, rfl, shl_ok1 (hr1 n hn) hb, _, rfl, _, _, rfl, rfl, z1 rfl _ (Same.refl _)⟩
    · rw [filt_true] at h1
      refine ⟨_, rfl, lc_pure os vN (fun _ => true) (fun r => vN (r <<< b)) (same_tq s1 hC) (by omega) (fun n H' hn s => ?_) (fun D2 H2 hD2 s2 h2 => ?_)⟩
      · intro Z Nx z1 z2
        exact ⟨rfl, _, rfl, _, rfl, _, _, rfl, rfl, shl_ok1 (hr2 n hn) hb, z1 rfl _ (Same.refl _)⟩
      · rw [filt_true] at h2
        refine ⟨_, _, _, _, rfl, rfl, s2 _ _ h1, h2, (by rw [List.length_map, List.length_map, sizeLine_eq]; omega), fun q hq => ?_⟩
        have s3 := same_new (o := .lst (rs.map (fun r => vN ((r <<< b) + r)) ++ os.map (fun r => vN (r <<< b)))) (s1.trans s2) hq
        refine ⟨_, rfl, q, mts b rs os, rfl, .inl ?_, (by simp [mts]; omega), fun H3 p s4 hp h3 => ?_⟩
        · rw [upd_same]
          simp [mts]
          rfl
        · have hlp : (spn (mts b rs os)).length ≤ 1000000 := Nat.le_trans (spn_len _) (by simp [mts]; omega)
          refine lc_pure (spn (mts b rs os)) vN (fun r => decide (blen r ≤ b)) vN (.inl h3) hlp (fun n H' hn s => ?_) (fun D H4 hD s5 h4 => ?_)
          · intro Z Nx z1 z2
            refine ⟨rfl, _, rfl, _, rfl, _, rfl, _, _, rfl, rfl, _, rfl, ?_⟩
            rw [blen_bits, dec_le]
            exact br (fun e => ⟨_, rfl, z1 e _ (Same.refl _)⟩) (fun e => z2 e _ (Same.refl _))
          · exact k _ _ ((s3.trans s4).trans s5) (same_free (s3.trans s4) hD) h4
end
end LaneX
set_option Elab.async false
set_option linter.all false
set_option maxRecDepth 100000
set_option maxHeartbeats 4000000
namespace LaneX
open PySem PySem.Spec PyProof.Rows L2
/-! ### objects -/
structure ObjT (K : PySem.W.Frag) (C : Addr) : Prop where
  cl : Cls K C
  ha : PySem.W.findIn K (.ref C) "__class__" = some (some (.builtin "object.__class__"))
  hn : PySem.W.specialIn K (.builtin "object.__class__") "__get__" = some (some (.builtin "getset_descriptor.__get__"))
  htk : PySem.W.takesIn K (.builtin "object.__class__") = some true
  hm : PySem.W.mroIn K C (.type "object") = some true
  me : PySem.W.kitOne K (.ref C) (.ref C) = some true
theorem ObjT.ty {K : PySem.W.Frag} {C : Addr} (T : ObjT K C) {H : Hp} {a dx : Addr} {fs : List (Str × V)} (e : H a = some (.ins C dx fs)) : TyX K H (.ref a) (.ref C) := .base (.ins e T.cl T.ha T.hn T.htk T.hm)
structure SpaceT (K : PySem.W.Frag) (mg : Str → Option Value) (C : Addr) : Prop extends ObjT K C where
  gl : mg "Space" = some (.ref C)
  nb : NoAttr K C "bits"
  nr : NoAttr K C "rows"
  nd : NoAttr K C "dimension"
structure SpreadT (K : PySem.W.Frag) (mg : Str → Option Value) (C : Addr) : Prop extends ObjT K C where
  gl : mg "Spread" = some (.ref C)
  nb : NoAttr K C "bits"
  ns : NoAttr K C "slots"
  nl : NoAttr K C "lanes"
def spf (b : Nat) (t : Addr) (d : Nat) : List (Str × V) := [("bits", vN b), ("rows", .ref t), ("dimension", vN d)]
def srf (b : Nat) (s l : Addr) : List (Str × V) := [("bits", vN b), ("slots", .ref s), ("lanes", .ref l)]
theorem spf_b (b : Nat) (t : Addr) (d : Nat) : (spf b t d).lookup ("bits" : Str) = some (vN b) := rfl
theorem spf_r (b : Nat) (t : Addr) (d : Nat) : (spf b t d).lookup ("rows" : Str) = some (.ref t) := rfl
theorem spf_d (b : Nat) (t : Addr) (d : Nat) : (spf b t d).lookup ("dimension" : Str) = some (vN d) := rfl
theorem srf_b (b : Nat) (t d : Addr) : (srf b t d).lookup ("bits" : Str) = some (vN b) := rfl
theorem srf_s (b : Nat) (t d : Addr) : (srf b t d).lookup ("slots" : Str) = some (.ref t) := rfl
theorem srf_l (b : Nat) (t d : Addr) : (srf b t d).lookup ("lanes" : Str) = some (.ref d) := rfl
theorem spf_p (b : Nat) (t : Addr) (d : Nat) : putF "dimension" (vN d) (putF "rows" (.ref t) (putF "bits" (vN b) [])) = spf b t d := rfl
theorem srf_p (b : Nat) (t d : Addr) : putF "lanes" (.ref d) (putF "slots" (.ref t) (putF "bits" (vN b) [])) = srf b t d := rfl
def SpaceAt (C : Addr) (H : Hp) (p : Addr) (b : Nat) (rows : List Nat) : Prop := ∃ dx t, H p = some (.ins C dx (spf b t rows.length)) ∧ H t = some (.tup (rows.map vN))
def SpreadAt (C : Addr) (H : Hp) (p : Addr) (b : Nat) (ss ls : List Nat) : Prop := ∃ dx s l, H p = some (.ins C dx (srf b s l)) ∧ H s = some (.tup (ss.map vN)) ∧ H l = some (.tup (ls.map vN))
theorem SpaceAt.same {C : Addr} {H H' : Hp} {p : Addr} {b : Nat} {rows : List Nat} (h : SpaceAt C H p b rows) (s : Same H H') : SpaceAt C H' p b rows := by
  obtain ⟨dx, t, h1, h2⟩ := h
  exact ⟨dx, t, s _ _ h1, s _ _ h2⟩
theorem SpaceAt.kp {C : Addr} {H H' : Hp} {p : Addr} {b : Nat} {rows : List Nat} (h : SpaceAt C H p b rows) (s : Kp H H') : SpaceAt C H' p b rows := by
  obtain ⟨dx, t, h1, h2⟩ := h
  exact ⟨dx, t, s _ _ h1 rfl, s _ _ h2 rfl⟩
theorem SpreadAt.same {C : Addr} {H H' : Hp} {p : Addr} {b : Nat} {ss ls : List Nat} (h : SpreadAt C H p b ss ls) (s : Same H H') : SpreadAt C H' p b ss ls := by
  obtain ⟨dx, a, l, h1, h2, h3⟩ := h
  exact ⟨dx, a, l, s _ _ h1, s _ _ h2, s _ _ h3⟩
theorem SpreadAt.kp {C : Addr} {H H' : Hp} {p : Addr} {b : Nat} {ss ls : List Nat} (h : SpreadAt C H p b ss ls) (s : Kp H H') : SpreadAt C H' p b ss ls := by
  obtain ⟨dx, a, l, h1, h2, h3⟩ := h
  exact ⟨dx, a, l, s _ _ h1 rfl, s _ _ h2 rfl, s _ _ h3 rfl⟩

/-- a new instance, filled -/
theorem made_same {H H1 : Hp} {x dx C : Addr} (nx : H x = none) (nd : H dx = none) (k : ∀ b o, (upd (upd H dx (.own x)) x (.ins C dx [])) b = some o → b ≠ x → H1 b = some o) : Same H H1 := Same.made nx nd k
def sp_Space (C : Addr) : Sp := fun vs H Q _ => ∃ (p dx : Addr) (b : Nat) (a : Addr) (ws : List Nat), vs = [.ref p, vN b, .ref a] ∧ H p = some (.ins C dx []) ∧ Tq H a (ws.map vN) ∧ (∀ x ∈ ws, blen x ≤ b) ∧ ws.length ≤ 1000000 ∧
  ∀ H', SpaceAt C H' p b (spn ws) → (∀ c o, H c = some o → c ≠ p → H' c = some o) → Q .non H'
def sp_Spread (C : Addr) : Sp := fun vs H Q _ => ∃ (p dx : Addr) (b : Nat) (a c : Addr) (ss ls : List Nat), vs = [.ref p, vN b, .ref a, .ref c] ∧ H p = some (.ins C dx []) ∧ Tq H a (ss.map vN) ∧ Tq H c (ls.map vN) ∧ (∀ x ∈ ss, blen x ≤ b) ∧ (∀ x ∈ ls, blen x ≤ b) ∧
  ss.length ≤ 400000 ∧ ls.length ≤ 400000 ∧ b ≤ rk (ss ++ ls) ∧ ∀ H', SpreadAt C H' p b ss ls → (∀ c o, H c = some o → c ≠ p → H' c = some o) → Q .non H'
def sp_need_space (C : Addr) : Sp := fun vs H Q _ => ∃ (p : Addr) (b : Nat) (rows : List Nat), vs = [.ref p, vN b] ∧ SpaceAt C H p b rows ∧ Q .non H
def sp_any_spread (C : Addr) : Sp := fun vs H Q _ => ∃ (p : Addr) (b : Nat) (ss ls : List Nat), vs = [.ref p] ∧ SpreadAt C H p b ss ls ∧ Q .non H
theorem upd_put {H : Hp} {p a : Addr} {o u : HO} (h : H a = some u) (n : a ≠ p) : upd H p o a = some u := (upd_ne n).trans h
section
variable {P : Program} {w : World} {K : PySem.W.Frag} {mg : Str → Option Value} {base : Heap} {f : Addr} {fd : FuncData} {CS CR : Addr} (T : Bt mg) (TS : SpaceT K mg CS) (TR : SpreadT K mg CR)
include T
include TS in
theorem ok_Space (F : FnP K "__init__" "Space.__init__" s_Space_init f fd) (D_need_whole : Dn P w K mg base 2 "need_whole" ["value"] sp_need_whole) (D_need_words : Dn P w K mg base 3 "need_words" ["values", "bits"] sp_need_words) (D_spanned : Dn P w K mg base 3 "spanned" ["words"] sp_spanned) :
    FnOk P w K mg base CX0 4 f fd ["self", "bits", "words"] (sp_Space CS) := by
  have nd := sc_Space_init.nd
  refine fnok F sc_Space_init (fun vs H Q E h => ?_) (fun cdv A outer s H vs Q E hr h => ?_)
  · obtain ⟨p, dx, b, a, ws, rfl, _⟩ := h
    rfl
  · obtain ⟨p, dx, b, a, ws, rfl, hp, hS, hb, hl, k⟩ := h
    refine ⟨_, (pss_cons (ps_expr (pe_d D_need_whole hr (pa_cons (pv 1) pa_nil)))
  (pss_cons (ps_fld (pv 0) (pv 1) rfl)
  (pss_cons (ps_fld (pv 0) (pe_callTy call_tupleQ (by rfl) T.tuple (by decide +kernel) (pa_cons (pe_d D_spanned hr (pa_cons (pe_d D_need_words hr (pa_cons (pv 2) (pa_cons (pv 1) pa_nil))) pa_nil)) pa_nil)) rfl)
  (pss_one (ps_fld (pv 0) (pe_callB call_lenQ (by rfl) T.len PySem.boot_len (pa_cons (pe_fld (pv 0) rfl) pa_nil)) rfl))))), ?_⟩
    have nap : a ≠ p := by
      rcases hS with h | h
      · exact ne_of h hp (by intro z; cases z)
      · exact ne_of h hp (by intro z; cases z)
    have hS1 : Tq (upd H p (.ins CS dx (putF "bits" (vN b) []))) a (ws.map vN) := hS.elim (fun h => .inl (upd_put h nap)) fun h => .inr (upd_put h nap)
    refine ⟨_, rfl, b, rfl, _, rfl, _, rfl, p, CS, dx, [], rfl, hp, TS.cl, TS.nb, (by decide), ?_⟩
    refine ⟨_, rfl, _, rfl, a, ws, b, rfl, hS1, hb, fun H1 q1 s1 hq1 h1 => ?_⟩
    refine ⟨q1, ws, rfl, .inl h1, hl, fun H2 q2 s2 hq2 h2 => ?_⟩
    refine ⟨q2, _, rfl, h2, fun t ht => ?_⟩
    have hpt : p ≠ t := ne_of_none (s2 _ _ (s1 _ _ upd_same)) ht
    have hp3 : upd H2 t (.tup ((spn ws).map vN)) p = some (.ins CS dx (putF "bits" (vN b) [])) := upd_put (s2 _ _ (s1 _ _ upd_same)) hpt
    refine ⟨_, rfl, p, CS, dx, _, rfl, hp3, TS.cl, TS.nr, (by show 1 < 1000; decide), ?_⟩
    refine ⟨_, rfl, p, CS, dx, _, .ref t, rfl, upd_same, TS.cl, TS.nr, rfl, t, _, rfl, .inr (upd_put upd_same hpt.symm), ?_⟩
    refine ⟨_, rfl, p, CS, dx, _, rfl, upd_same, TS.cl, TS.nd, (by show 2 < 1000; decide), ?_⟩
    refine k _ ⟨dx, t, ?_, upd_put (upd_put upd_same hpt.symm) hpt.symm⟩ fun c o hc hcp => ?_
    · rw [upd_same, List.length_map]
      rfl
    · have e1 : upd H p (.ins CS dx (putF "bits" (vN b) [])) c = some o := upd_put hc hcp
      have e2 := s2 _ _ (s1 _ _ e1)
      exact upd_put (upd_put (upd_put e2 (ne_of_none e2 ht)) hcp) hcp
end
end LaneX
set_option Elab.async false
set_option linter.all false
set_option maxRecDepth 100000
set_option maxHeartbeats 4000000
namespace LaneX
open PySem PySem.Spec PyProof.Rows L2
theorem mk_Space {C : Addr} {H1 : Hp} {b : Nat} {a : Addr} {ws : List Nat} {Q : VK} {E : XK} (hS : Tq H1 a (ws.map vN)) (hb : ∀ x ∈ ws, blen x ≤ b) (hl : ws.length ≤ 1000000) (k : ∀ H' p, Same H1 H' → H1 p = none → SpaceAt C H' p b (spn ws) → Q (.ref p) H') :
    ∀ x dx, H1 x = none → H1 dx = none → dx ≠ x → sp_Space C (.ref x :: ([vN b, .ref a] ++ [])) (upd (upd H1 dx (.own x)) x (.ins C dx [])) (fun v H2 => v = .non ∧ Q (.ref x) H2) E := by
  intro x dx nx ndx ne
  have nx' : upd H1 dx (.own x) x = none := (upd_ne ne.symm).trans nx
  refine ⟨x, dx, b, a, ws, rfl, upd_same, (hS.new ndx).new nx', hb, hl, fun H' hA kp => ⟨rfl, k _ _ (made_same nx ndx kp) nx hA⟩⟩
theorem mk_Spread {C : Addr} {H1 : Hp} {b : Nat} {a c : Addr} {ss ls : List Nat} {Q : VK} {E : XK} (hS : Tq H1 a (ss.map vN)) (hL : Tq H1 c (ls.map vN)) (wf : WfR b ss ls) (hk : b ≤ rk (ss ++ ls)) (k : ∀ H' p, Same H1 H' → H1 p = none → SpreadAt C H' p b ss ls → Q (.ref p) H') :
    ∀ x dx, H1 x = none → H1 dx = none → dx ≠ x → sp_Spread C (.ref x :: ([vN b, .ref a, .ref c] ++ [])) (upd (upd H1 dx (.own x)) x (.ins C dx [])) (fun v H2 => v = .non ∧ Q (.ref x) H2) E := by
  intro x dx nx ndx ne
  have nx' : upd H1 dx (.own x) x = none := (upd_ne ne.symm).trans nx
  refine ⟨x, dx, b, a, c, ss, ls, rfl, upd_same, (hS.new ndx).new nx', (hL.new ndx).new nx', wf.s, wf.l, wf.sl, wf.ll, hk, fun H' hA kp => ⟨rfl, k _ _ (made_same nx ndx kp) nx hA⟩⟩
/-- a def that gives a new Space -/
def spNewSpace (C : Addr) (b : Nat) (rows : List Nat) (H : Hp) (Q : VK) : Prop := ∀ H' p, Same H H' → H p = none → SpaceAt C H' p b rows → Q (.ref p) H'
def sp_every (C : Addr) : Sp := fun vs H Q _ => ∃ b : Nat, vs = [vN b] ∧ b ≤ 400000 ∧ spNewSpace C b (spn ((List.range b).map fun i => 1 <<< i)) H Q
def sp_and (C : Addr) : Sp := fun vs H Q _ => ∃ (p q : Addr) (b : Nat) (rs os : List Nat), vs = [.ref p, .ref q] ∧ SpaceAt C H p b rs ∧ SpaceAt C H q b os ∧ WfS b rs ∧ WfS b os ∧ spNewSpace C b (spn (mtd b rs os)) H Q
def sp_completing (C : Addr) : Sp := fun vs H Q _ => ∃ (p q : Addr) (b : Nat) (rs os : List Nat), vs = [.ref p, .ref q] ∧ SpaceAt C H p b rs ∧ SpaceAt C H q b os ∧ WfS b rs ∧ WfS b os ∧ ∀ H' t, Same H H' → H t = none → H' t = some (.tup ((cmpl rs os).map vN)) → Q (.ref t) H'
def sp_slot_space (CS CR : Addr) : Sp := fun vs H Q _ => ∃ (p : Addr) (b : Nat) (ss ls : List Nat), vs = [.ref p] ∧ SpreadAt CR H p b ss ls ∧ WfR b ss ls ∧ spNewSpace CS b (spn ss) H Q
def sp_twins (CS CR : Addr) : Sp := fun vs H Q _ => ∃ (p : Addr) (b : Nat) (ss ls : List Nat), vs = [.ref p] ∧ SpreadAt CR H p b ss ls ∧ WfR b ss ls ∧ spNewSpace CS ls.length (twn ss ls) H Q
def sp_need_pair (CS CR : Addr) : Sp := fun vs H Q _ => ∃ (p q : Addr) (b : Nat) (ss ls rows : List Nat), vs = [.ref p, .ref q] ∧ SpreadAt CR H p b ss ls ∧ SpaceAt CS H q b rows ∧ Q .non H
/-- what a spread and a space ask -/
def spPair (CS CR : Addr) (k : Nat → List Nat → List Nat → List Nat → Hp → VK → Prop) : Sp := fun vs H Q _ => ∃ (p q : Addr) (b : Nat) (ss ls rows : List Nat), vs = [.ref p, .ref q] ∧ SpreadAt CR H p b ss ls ∧ SpaceAt CS H q b rows ∧ WfR b ss ls ∧ WfS b rows ∧ k b ss ls rows H Q
def sp_partner_rows (CS CR : Addr) : Sp := spPair CS CR fun b ss ls rows H Q => ∀ H' t, Same H H' → H t = none → H' t = some (.lst ((prw ss ls rows).map vN)) → Q (.ref t) H'
def sp_partners (CS CR : Addr) : Sp := spPair CS CR fun b ss ls rows H Q => spNewSpace CS ls.length (prt ss ls rows) H Q
def sp_leaders (CS CR : Addr) : Sp := spPair CS CR fun b ss ls rows H Q => ∀ H' t, Same H H' → H t = none → H' t = some (.lst ((ldr ss ls rows).map vN)) → Q (.ref t) H'
def sp_kept_bits (CS CR : Addr) : Sp := spPair CS CR fun b ss ls rows H Q => ∀ H', Same H H' → Q (.int (kpt b ss rows)) H'
def sp_sum_rounds (CS CR : Addr) : Sp := spPair CS CR fun b ss ls rows H Q => ∀ H', Same H H' → Q (vN (smr b ss ls rows)) H'
def sp_sum_steps (CS CR : Addr) : Sp := spPair CS CR fun b ss ls rows H Q => ∀ H' t, Same H H' → H t = none → H' t = some (.tup ((ldr ss ls rows).map vN)) → Q (.ref t) H'
def sp_rounds_for : Sp := fun vs H Q _ => ∃ n m : Nat, vs = [vN n, vN m] ∧ n ≤ 400000 ∧ m ≤ 400000 ∧ Q (vN (rdf n m)) H
theorem dec_ne0 {n : Nat} : (!decide (V.int (n : Int) = V.int 0)) = !decide (n = 0) := by
  rw [show (V.int 0 : V) = V.int ((0 : Nat) : Int) from rfl, dec_nat]
section
variable {P : Program} {w : World} {K : PySem.W.Frag} {mg : Str → Option Value} {base : Heap} {f : Addr} {fd : FuncData} {CS CR : Addr} (T : Bt mg) (TS : SpaceT K mg CS) (TR : SpreadT K mg CR)
include T
include TS in
theorem ok_need_space (F : FnP K "need_space" "need_space" s_need_space f fd) : FnOk P w K mg base CX0 1 f fd ["value", "bits"] (sp_need_space CS) := by
  have nd := sc_need_space.nd
  refine fnok F sc_need_space (fun vs H Q E h => ?_) (fun cdv A outer s H vs Q E hr h => ?_)
  · obtain ⟨p, b, rows, rfl, _⟩ := h
    rfl
  · obtain ⟨p, b, rows, rfl, ⟨dx, t, h1, h2⟩, k⟩ := h
    refine ⟨_, (pss_one (ps_if (PW.pt (pw_or (pt_not (pt_val (pe_callB call_isi (by rfl) T.isinstance (by decide +kernel) (pa_cons (pv 0) (pa_cons (pe_glob (v := .ref CS) (by rfl) TS.gl rfl) pa_nil))))) (pw_or1 (pt_cmpR op_ne (pe_fld (pv 0) rfl) (pv 1) (nomark _)))))
    (pss_one ps_never)
    pss_nil)), ?_⟩
    refine ⟨_, rfl, _, _, _, _, _, rfl, .own _, TS.ty h1, TS.me, _, rfl, iteF ?_⟩
    refine ⟨_, rfl, p, CS, dx, _, vN b, rfl, h1, TS.cl, TS.nb, rfl, _, rfl, rfl, _, rfl, ?_⟩
    rw [show (!decide (vN b = vN b)) = false by simp]
    exact iteF k
theorem ok_every (F : FnP K "every" "every" s_every f fd) (D_need_whole : Dn P w K mg base 2 "need_whole" ["value"] sp_need_whole) (K_Space : Kn P w K mg base 4 CS "Space" ["self", "bits", "words"] (sp_Space CS)) : FnOk P w K mg base CX0 6 f fd ["bits"] (sp_every CS) := by
  have nd := sc_every.nd
  refine fnok F sc_every (fun vs H Q E h => ?_) (fun cdv A outer s H vs Q E hr h => ?_)
  · obtain ⟨b, rfl, _⟩ := h
    rfl
  · obtain ⟨b, rfl, hb, k⟩ := h
    refine ⟨_, (pss_cons (ps_expr (pe_d D_need_whole hr (pa_cons (pv 0) pa_nil)))
  (pss_one (ps_ret (pe_k K_Space hr (pa_cons (pv 0) (pa_cons (pe_lc (own := [("bit", 1)]) (g := gName 1) (by rfl) nd (pi_range1 (by rfl) T.range (pa_cons (pv 0) pa_nil)) (blkOk_by (own := [("bit", 1)]) (N := ["bits", "bit"]) (sc := defScope s_every) (by decide +kernel)) (fun _ _ _ _ _ => (pg_name (i := 1) nd rfl (Or.inl rfl))) (fun _ _ _ _ _ => pts_nil) (fun _ _ _ _ _ => (pe_op on_shl pe_int (pv 1)))) pa_nil)))))), ?_⟩
    refine ⟨_, rfl, b, rfl, _, rfl, _, rfl, _, rfl, (by omega), (by omega), lc_pureR (n := b) (fun _ => true) (fun i => vN (1 <<< i)) (by omega) (fun i H' hi s => ?_) (fun D H1 hD s1 h1 => ?_)⟩
    · intro Z Nx z1 z2
      exact ⟨rfl, _, rfl, 1, _, rfl, rfl, shl_ok1 (by rw [blen_one]; decide) (by omega), z1 rfl _ (Same.refl _)⟩
    · rw [filt_true] at h1
      refine mk_Space (ws := (List.range b).map fun i => 1 <<< i) (.inl ?_) ?_ (by simp; omega) (fun H' p s2 hp hA => k _ _ (s1.trans s2) (same_free s1 hp) hA)
      · rw [h1]
        simp
      · intro x hx
        obtain ⟨i, hi, rfl⟩ := List.mem_map.mp hx
        rw [blen_le, Nat.one_shiftLeft]
        exact Nat.pow_lt_pow_right (by decide) (List.mem_range.mp hi)
include TS in
theorem ok_and (F : FnP K "__and__" "Space.__and__" s_Space_and f fd) (D_need_space : Dn P w K mg base 1 "need_space" ["value", "bits"] (sp_need_space CS)) (D_met : Dn P w K mg base 4 "met" ["bits", "rows", "others"] sp_met) (K_Space : Kn P w K mg base 4 CS "Space" ["self", "bits", "words"] (sp_Space CS)) :
    FnOk P w K mg base CX0 6 f fd ["self", "other"] (sp_and CS) := by
  have nd := sc_Space_and.nd
  refine fnok F sc_Space_and (fun vs H Q E h => ?_) (fun cdv A outer s H vs Q E hr h => ?_)
  · obtain ⟨p, q, b, rs, os, rfl, _⟩ := h
    rfl
  · obtain ⟨p, q, b, rs, os, rfl, hp, hq, w1, w2, k⟩ := h
    refine ⟨_, (pss_cons (ps_expr (pe_d D_need_space hr (pa_cons (pv 1) (pa_cons (pe_fld (pv 0) rfl) pa_nil))))
  (pss_one (ps_ret (pe_k K_Space hr (pa_cons (pe_fld (pv 0) rfl) (pa_cons (pe_d D_met hr (pa_cons (pe_fld (pv 0) rfl) (pa_cons (pe_fld (pv 0) rfl) (pa_cons (pe_fld (pv 1) rfl) pa_nil)))) pa_nil)))))), ?_⟩
    obtain ⟨dx, t, h1, h2⟩ := hp
    have hq' := hq
    obtain ⟨dy, u, g1, g2⟩ := hq
    refine ⟨_, rfl, _, rfl, p, CS, dx, _, vN b, rfl, h1, TS.cl, TS.nb, rfl, q, b, os, rfl, hq', ?_⟩
    refine ⟨_, rfl, p, CS, dx, _, vN b, rfl, h1, TS.cl, TS.nb, rfl, _, rfl, p, CS, dx, _, vN b, rfl, h1, TS.cl, TS.nb, rfl, _, rfl, p, CS, dx, _, .ref t, rfl, h1, TS.cl, TS.nr, rfl, _, rfl, q, CS, dy, _, .ref u, rfl, g1, TS.cl, TS.nr, rfl, ?_⟩
    have bb := w1.bb
    refine ⟨b, t, u, rs, os, rfl, .inr h2, .inr g2, by omega, w1.len, w2.len, fun r hr => Nat.le_trans (w1.b r hr) (by omega), fun r hr => Nat.le_trans (w2.b r hr) (by omega), fun H1 q1 s1 hq1 h3 => ?_⟩
    exact mk_Space (.inl h3) (mtd_blen _ _ _) (Nat.le_trans ((mtd_rws b rs os).len_le (mtd_blen _ _ _)) (by omega)) (fun H' p s2 hp hA => k _ _ (s1.trans s2) (same_free s1 hp) hA)
end
end LaneX
set_option Elab.async false
set_option linter.all false
set_option maxRecDepth 100000
set_option maxHeartbeats 4000000
namespace LaneX
open PySem PySem.Spec PyProof.Rows L2
section
variable {P : Program} {w : World} {K : PySem.W.Frag} {mg : Str → Option Value} {base : Heap} {f : Addr} {fd : FuncData} {CS CR : Addr} (T : Bt mg) (TS : SpaceT K mg CS) (TR : SpreadT K mg CR)
include T
include TS in
theorem ok_completing (F : FnP K "completing" "Space.completing" s_Space_completing f fd) (D_need_space : Dn P w K mg base 1 "need_space" ["value", "bits"] (sp_need_space CS)) (D_cleared : Dn P w K mg base 1 "cleared" ["rows", "word"] sp_cleared) (D_grown : Dn P w K mg base 2 "grown" ["rows", "word"] sp_grown) :
    FnOk P w K mg base CX0 3 f fd ["self", "other"] (sp_completing CS) := by
  have nd := sc_Space_completing.nd
  refine fnok F sc_Space_completing (fun vs H Q E h => ?_) (fun cdv A outer s H vs Q E hr h => ?_)
  · obtain ⟨p, q, b, rs, os, rfl, _⟩ := h
    rfl
  · obtain ⟨p, q, b, rs, os, rfl, hp, hq, w1, w2, k⟩ := h
    refine ⟨_, (pss_cons (ps_expr (pe_d D_need_space hr (pa_cons (pv 1) (pa_cons (pe_fld (pv 0) rfl) pa_nil))))
  (pss_cons (ps_par (i := 2) (j := 3) (by rfl) nd rfl rfl (by decide) rfl rfl (pa_cons (pe_callTy call_listQ (by rfl) T.list (by decide +kernel) (pa_cons (pe_fld (pv 0) rfl) pa_nil)) (pa_cons (pe_lst pa_nil) pa_nil)) (by rfl))
  (pss_cons (ps_for PassesOwn.never rfl (pi_seq (pe_fld (pv 1) rfl)) (pg_name (i := 4) nd rfl (Or.inl rfl))
    (pss_one (ps_if (pt_cmpR op_ne (pe_d D_cleared hr (pa_cons (pv 2) (pa_cons (pv 4) pa_nil))) pe_int (nomark _))
      (pss_cons (ps_set (i := 2) nd rfl (Or.inl rfl) (pe_d D_grown hr (pa_cons (pv 2) (pa_cons (pv 4) pa_nil))))
      (pss_one (ps_expr (pe_bm PySem.F.plainAttrs_list PySem.F.slot_list_append PySem.F.type_list_append mt_append (pv 3) (pa_cons (pv 4) pa_nil)))))
      pss_nil)))
  (pss_one (ps_ret (pe_callTy call_tupleQ (by rfl) T.tuple (by decide +kernel) (pa_cons (pv 3) pa_nil))))))), ?_⟩
    have l1 := w1.len
    have l2 := w2.len
    obtain ⟨dx, t, h1, h2⟩ := hp
    have hq' := hq
    obtain ⟨dy, u, g1, g2⟩ := hq
    refine ⟨_, rfl, _, rfl, p, CS, dx, _, vN b, rfl, h1, TS.cl, TS.nb, rfl, q, b, os, rfl, hq', ?_⟩
    refine ⟨_, rfl, p, CS, dx, _, .ref t, rfl, h1, TS.cl, TS.nr, rfl, t, _, rfl, .inr h2, fun a0 ha0 => ?_⟩
    refine ⟨(by decide), fun c0 hc0 => ⟨_, _, rfl, ?_⟩⟩
    have na : a0 ≠ c0 := ne_of_none upd_same hc0
    have hc0' : H c0 = none := same_free (same_new0 ha0) hc0
    generalize hHB : upd (upd H a0 (.lst (rs.map vN))) c0 (.lst []) = HB at *
    have s0 : Same H HB := by rw [← hHB]; exact same_new (same_new0 ha0) hc0
    have hB1 : HB a0 = some (.lst (rs.map vN)) := by rw [← hHB]; exact upd_new hc0 upd_same
    have hB2 : HB c0 = some (.lst []) := by rw [← hHB]; exact upd_same
    refine ⟨_, rfl, q, CS, dy, _, .ref u, rfl, s0 _ _ g1, TS.cl, TS.nr, rfl, for_sq2 (K := K) (Tq.t (s0 _ _ g2)) (fun i σ H2 => ∃ v a, σ = [some (.ref p), some (.ref q), some (.ref a), some (.ref c0), v] ∧ (∀ c o, H c = some o → H2 c = some o) ∧ H a = none ∧ a ≠ c0 ∧ H2 a = some (.lst ((cms rs (os.take i)).1.map vN)) ∧ H2 c0 = some (.lst ((cms rs (os.take i)).2.map vN)))
      ⟨none, a0, rfl, s0, ha0, na, hB1, hB2⟩ (fun i σ H2 hp => ?_) ?_ ?_⟩
    · obtain ⟨_, _, _, s2, _⟩ := hp
      exact stay_of g2 s0 s2
    · rintro i y σ H2 hy ⟨v, a, rfl, s2, han, nac, h3, h4⟩
      obtain ⟨r, hr', rfl⟩ := map_get hy
      have R := cms_rws w1.r (os.take i)
      have L := cms_len rs (os.take i)
      have tl : (os.take i).length ≤ 400000 := Nat.le_trans (by rw [List.length_take]; omega) l2
      refine ⟨_, rfl, _, rfl, a, _, r, rfl, .inl h3, R.nz, rfl, _, rfl, ?_⟩
      rw [dec_ne0, take_succ hr', cms_snoc]
      refine br (fun e => ?_) (fun e => ?_)
      · have e0 : clr (cms rs (os.take i)).1 r ≠ 0 := by simpa using e
        rw [if_neg e0]
        refine ⟨_, rfl, _, rfl, a, _, r, rfl, .inl h3, R.nz, (by omega), fun H3 a1 s3 ha1 h5 => ?_⟩
        have na1 : a1 ≠ c0 := (ne_of_none h4 ha1).symm
        refine ⟨_, rfl, .inl ⟨rfl, _, SqL.of (s3 _ _ h4)⟩, _, rfl, c0, _, _, rfl, rfl, s3 _ _ h4, (by rw [List.length_map]; exact size6 (by omega)), ?_⟩
        refine ⟨_, a1, rfl, fun c o hc => upd_put (s3 _ _ (s2 _ _ hc)) (ne_of_none hc hc0'), ?_, na1, upd_put h5 na1, ?_⟩
        · cases z : H a1 with
          | none => rfl
          | some o => rw [s2 _ _ z] at ha1; cases ha1
        · rw [upd_same, List.map_append]
          rfl
      · have e0 : clr (cms rs (os.take i)).1 r = 0 := by simpa using e
        rw [if_pos e0]
        exact ⟨_, a, rfl, s2, han, nac, h3, h4⟩
    · rintro σ H2 ⟨v, a, rfl, s2, han, nac, h3, h4⟩
      rw [List.length_map, List.take_length] at h4
      refine ⟨_, rfl, c0, _, rfl, h4, fun t' ht' => ?_⟩
      refine k _ _ (same_new s2 ht') ?_ upd_same
      cases z : H t' with
      | none => rfl
      | some o => rw [s2 _ _ z] at ht'; cases ht'
end
end LaneX
set_option Elab.async false
set_option linter.all false
set_option maxRecDepth 100000
set_option maxHeartbeats 4000000
namespace LaneX
open PySem PySem.Spec PyProof.Rows L2
/-! ### the bits of a word -/
theorem lwb_le {n : Nat} : lwb n ≤ n := Nat.sub_le _ _
theorem lt_of_bit : ∀ (i : Nat) {n m : Nat}, n.testBit i = false → m.testBit i = true → (∀ j, i < j → n.testBit j = m.testBit j) → n < m
  | 0, n, m, h1, h2, h => by
    have e : n / 2 = m / 2 := Nat.eq_of_testBit_eq fun j => by
      have := h (j + 1) (Nat.succ_pos j)
      rwa [Nat.testBit_succ, Nat.testBit_succ] at this
    rw [Nat.testBit_zero] at h1 h2
    have := of_decide_eq_false h1
    have := of_decide_eq_true h2
    omega
  | i + 1, n, m, h1, h2, h => by
    rw [Nat.testBit_succ] at h1 h2
    have := lt_of_bit i h1 h2 fun j hj => by
      have := h (j + 1) (by omega)
      rwa [Nat.testBit_succ, Nat.testBit_succ] at this
    omega
theorem xor_lwb_lt {n : Nat} (h : n ≠ 0) : n ^^^ lwb n < n := by
  have hb := low_bit h
  rw [lwb_eq h]
  refine lt_of_bit (low n) ?_ hb fun j hj => ?_
  · rw [Nat.testBit_xor, hb, Nat.testBit_two_pow_self]; rfl
  · rw [Nat.testBit_xor, Nat.testBit_two_pow, decide_eq_false (by omega), Bool.xor_false]
def ons (n : Nat) : List Nat := if h : n = 0 then [] else low n :: ons (n ^^^ lwb n)
termination_by n
decreasing_by exact xor_lwb_lt h
theorem ons_zero : ons 0 = [] := by unfold ons; rfl
theorem ons_pos {n : Nat} (h : n ≠ 0) : ons n = low n :: ons (n ^^^ lwb n) := by
  conv => lhs; unfold ons
  rw [dif_neg h]
theorem low_lt {n k : Nat} (h : n ≠ 0) (hk : n < 2 ^ k) : low n < k := by
  refine Classical.byContradiction fun z => ?_
  have := low_bit h
  rw [Nat.testBit_lt_two_pow (Nat.lt_of_lt_of_le hk (Nat.pow_le_pow_right (by decide) (by omega)))] at this
  cases this
theorem lwb_lt {n k : Nat} (h : n ≠ 0) (hk : n < 2 ^ k) : n ^^^ lwb n < 2 ^ k := Nat.lt_trans (xor_lwb_lt h) hk
theorem ons_lt {k : Nat} : ∀ {n : Nat}, n < 2 ^ k → ∀ i ∈ ons n, i < k := by
  intro n
  induction n using Nat.strongRecOn with
  | _ n ih =>
    intro hk i hi
    by_cases h : n = 0
    · subst h; rw [ons_zero] at hi; cases hi
    · rw [ons_pos h] at hi
      rcases List.mem_cons.mp hi with rfl | hi
      · exact low_lt h hk
      · exact ih _ (xor_lwb_lt h) (lwb_lt h hk) i hi
theorem ons_len {k : Nat} : ∀ {n : Nat}, n < 2 ^ k → (ons n).length ≤ n := by
  intro n
  induction n using Nat.strongRecOn with
  | _ n ih =>
    intro hk
    by_cases h : n = 0
    · subst h; rw [ons_zero]; exact Nat.le_refl _
    · rw [ons_pos h]
      have := ih _ (xor_lwb_lt h) (lwb_lt h hk)
      have := xor_lwb_lt h
      simp only [List.length_cons]
      omega
theorem low_le_low {n i : Nat} (h : n.testBit i = true) : low n ≤ i := by
  induction n using Nat.strongRecOn generalizing i with
  | _ n ih =>
    have hn : n ≠ 0 := fun e => by rw [e] at h; simp at h
    unfold low
    rw [dif_neg hn]
    split
    · exact Nat.zero_le _
    · rename_i ho
      cases i with
      | zero => rw [Nat.testBit_zero] at h; exact absurd (of_decide_eq_true h) ho
      | succ i =>
        rw [Nat.testBit_succ] at h
        have := ih (n / 2) (by omega) h
        omega
theorem ons_sorted : ∀ {n : Nat}, (ons n).Pairwise (· < ·) := by
  intro n
  induction n using Nat.strongRecOn with
  | _ n ih =>
    by_cases h : n = 0
    · subst h; rw [ons_zero]; exact .nil
    · rw [ons_pos h]
      refine List.pairwise_cons.mpr ⟨fun i hi => ?_, ih _ (xor_lwb_lt h)⟩
      have bit : ∀ {m j : Nat}, j ∈ ons m → m.testBit j = true := by
        intro m
        induction m using Nat.strongRecOn with
        | _ m ihm =>
          intro j hj
          by_cases hm : m = 0
          · subst hm; rw [ons_zero] at hj; cases hj
          · rw [ons_pos hm] at hj
            rcases List.mem_cons.mp hj with rfl | hj
            · exact low_bit hm
            · have := ihm _ (xor_lwb_lt hm) hj
              rw [Nat.testBit_xor, lwb_eq hm, Nat.testBit_two_pow] at this
              by_cases e : low m = j
              · subst e; exact low_bit hm
              · simpa [e] using this
      have b := bit hi
      rw [Nat.testBit_xor, lwb_eq h, Nat.testBit_two_pow] at b
      by_cases e : low n = i
      · subst e
        rw [low_bit h] at b
        simp at b
      · have b2 : n.testBit i = true := by simpa [e] using b
        have := low_le_low b2
        omega
theorem pw_len : ∀ {l : List Nat} {b k : Nat}, l.Pairwise (· < ·) → (∀ i ∈ l, b ≤ i ∧ i < k) → l.length ≤ k - b
  | [], _, _, _, _ => Nat.zero_le _
  | x :: l, b, k, hp, h => by
    have hp' := List.pairwise_cons.mp hp
    have hx := h x (.head _)
    have := pw_len (b := x + 1) (k := k) hp'.2 fun i hi => ⟨hp'.1 i hi, (h i (.tail _ hi)).2⟩
    simp only [List.length_cons]
    omega
theorem ons_len2 {n k : Nat} (h : n < 2 ^ k) : (ons n).length ≤ k := by
  have := pw_len (b := 0) (k := k) (ons_sorted (n := n)) fun i hi => ⟨Nat.zero_le _, ons_lt h i hi⟩
  omega
/-- what image_of sums -/
def ims (cols : List Nat) (l : List Nat) : Nat := l.foldl (fun t i => t ^^^ cols.getD i 0) 0
theorem ims_from (cols : List Nat) : ∀ (l : List Nat) (t : Nat), l.foldl (fun t i => t ^^^ cols.getD i 0) t = t ^^^ ims cols l
  | [], t => by show t = t ^^^ 0; rw [Nat.xor_zero]
  | i :: l, t => by
    show l.foldl _ (t ^^^ cols.getD i 0) = t ^^^ (l.foldl _ (0 ^^^ cols.getD i 0))
    rw [ims_from cols l, ims_from cols l, Nat.zero_xor, Nat.xor_assoc]
theorem ims_ons (cols : List Nat) : ∀ {n : Nat}, n < 2 ^ cols.length → ims cols (ons n) = img cols n := by
  intro n
  induction n using Nat.strongRecOn with
  | _ n ih =>
    intro hk
    by_cases h : n = 0
    · subst h; rw [ons_zero, (lin_img cols).z]; rfl
    · rw [ons_pos h]
      have e := ih _ (xor_lwb_lt h) (lwb_lt h hk)
      show (ons (n ^^^ lwb n)).foldl _ (0 ^^^ cols.getD (low n) 0) = _
      rw [ims_from, e, Nat.zero_xor, (lin_img cols).x, lwb_eq h, img_unit cols (low_lt h hk), Nat.xor_comm (img cols n), xor_cancel]
def sp_ones : Sp := fun vs H Q _ => ∃ n k : Nat, vs = [vN n] ∧ n < 2 ^ k ∧ k ≤ 1000000 ∧ ∀ H' q, Same H H' → H q = none → H' q = some (.tup ((ons n).map vN)) → Q (.ref q) H'
def sp_image_of : Sp := fun vs H Q _ => ∃ (a : Addr) (cs : List Nat) (n : Nat), vs = [.ref a, vN n] ∧ Tq H a (cs.map vN) ∧ cs.length ≤ 1000000 ∧ n < 2 ^ cs.length ∧ ∀ H', Same H H' → Q (vN (img cs n)) H'
def sp_solved : Sp := fun vs H Q _ => ∃ (a : Addr) (ss : List Nat) (b g : Nat), vs = [.ref a, vN ss.length, vN g] ∧ Tq H a ((prd ss).map vN) ∧ ss.length ≤ 400000 ∧ g < 2 ^ b ∧ b ≤ 400000 ∧ Spn ss g ∧ Q (vN (slv ss g)) H
def sp_write_count (CR : Addr) : Sp := fun vs H Q _ => ∃ (p : Addr) (b : Nat) (ss ls : List Nat), vs = [.ref p] ∧ SpreadAt CR H p b ss ls ∧ b ≤ 400000 ∧ Q (vN (1 <<< (b - ls.length))) H
section
variable {P : Program} {w : World} {K : PySem.W.Frag} {mg : Str → Option Value} {base : Heap} {f : Addr} {fd : FuncData} {CS CR : Addr} (T : Bt mg) (TR : SpreadT K mg CR)
include T
theorem ok_ones (F : FnP K "ones" "ones" s_ones f fd) (D_need_whole : Dn P w K mg base 2 "need_whole" ["value"] sp_need_whole) : FnOk P w K mg base CX0 3 f fd ["word"] sp_ones := by
  have nd := sc_ones.nd
  refine fnok F sc_ones (fun vs H Q E h => ?_) (fun cdv A outer s H vs Q E hr h => ?_)
  · obtain ⟨n, k, rfl, _⟩ := h
    rfl
  · obtain ⟨n, k, rfl, hn, hk, q⟩ := h
    refine ⟨_, (pss_cons (ps_expr (pe_d D_need_whole hr (pa_cons (pv 0) pa_nil)))
  (pss_cons (ps_set (i := 1) nd rfl (Or.inl rfl) (pe_lst pa_nil))
  (pss_cons (ps_set (i := 2) nd rfl (Or.inl rfl) (pv 0))
  (pss_cons (ps_while PassesOwn.never (pt_cmpR op_gt (pv 2) pe_int (nomark _))
    (pss_cons (ps_set (i := 3) nd rfl (Or.inl rfl) (pe_op on_low (pv 2) (pe_un un_neg (pv 2))))
    (pss_cons (ps_expr (pe_bm PySem.F.plainAttrs_list PySem.F.slot_list_append PySem.F.type_list_append mt_append (pv 1) (pa_cons (pe_op on_sub (pe_bits (pv 3)) pe_int) pa_nil)))
    (pss_one (ps_set (i := 2) nd rfl (Or.inl rfl) (pe_op on_xor (pv 2) (pv 3)))))))
  (pss_one (ps_ret (pe_callTy call_tupleQ (by rfl) T.tuple (by decide +kernel) (pa_cons (pv 1) pa_nil)))))))), ?_⟩
    refine ⟨_, rfl, n, rfl, (by decide), fun l hl => ⟨_, rfl, ?_⟩⟩
    refine ⟨fun m σ H2 => ∃ v3 ds, σ = [some (vN n), some (.ref l), some (vN m), v3] ∧ Same H H2 ∧ H2 l = some (.lst (ds.map vN)) ∧ ds ++ ons m = ons n ∧ m < 2 ^ k, ⟨n, none, [], rfl, same_new0 hl, upd_same, rfl, hn⟩, ?_⟩
    rintro m σ H2 ⟨v3, ds, rfl, s2, h2, e, hm⟩
    have ld : ds.length ≤ k := by
      have := ons_len2 hn
      rw [← e, List.length_append] at this
      omega
    refine ⟨_, rfl, _, _, rfl, rfl, _, rfl, br (fun z => ?_) (fun z => ?_)⟩
    · have z0 : m ≠ 0 := by have := of_decide_eq_true z; omega
      refine ⟨fun σ' H' => ∃ v3 ds, σ' = [some (vN n), some (.ref l), some (vN (m ^^^ lwb m)), v3] ∧ Same H H' ∧ H' l = some (.lst (ds.map vN)) ∧ ds ++ ons (m ^^^ lwb m) = ons n ∧ (m ^^^ lwb m) < 2 ^ k, fun σ' H' hN => ⟨_, xor_lwb_lt z0, hN⟩, ?_⟩
      refine ⟨_, rfl, _, rfl, _, rfl, m, rfl, rfl, ?_⟩
      have bl : blen (lwb m) = low m + 1 := by rw [lwb_eq z0, ← Nat.one_shiftLeft]; exact blen_unit _
      refine ⟨_, rfl, .inl ⟨rfl, _, SqL.of h2⟩, _, rfl, lwb m, rfl, Builtin.Int.intBits (lwb m : Int), 1, rfl, rfl, (by rw [blen_bits]; omega), l, _, _, rfl, rfl, h2, (by rw [List.length_map, sizeLine_eq]; omega), ?_⟩
      refine ⟨_, rfl, _, rfl, m, lwb m, rfl, rfl, _, ds ++ [low m], rfl, same_put s2 hl, ?_, ?_, lwb_lt z0 hm⟩
      · rw [upd_same, List.map_append, blen_bits, bl, Nat.add_sub_cancel]; rfl
      · rw [List.append_assoc, ← e, ons_pos z0]; rfl
    · have z0 : m = 0 := by
        have := of_decide_eq_false z
        omega
      subst z0
      rw [ons_zero, List.append_nil] at e
      subst e
      exact ⟨_, rfl, l, _, rfl, h2, fun q' hq' => q _ _ (same_new s2 hq') (same_free s2 hq') upd_same⟩
theorem ok_image_of (F : FnP K "image_of" "image_of" s_image_of f fd) (D_ones : Dn P w K mg base 3 "ones" ["word"] sp_ones) : FnOk P w K mg base CX0 4 f fd ["columns", "word"] sp_image_of := by
  have nd := sc_image_of.nd
  refine fnok F sc_image_of (fun vs H Q E h => ?_) (fun cdv A outer s H vs Q E hr h => ?_)
  · obtain ⟨a, cs, n, rfl, _⟩ := h
    rfl
  · obtain ⟨a, cs, n, rfl, hS, hl, hn, k⟩ := h
    refine ⟨_, (pss_cons (ps_set (i := 2) nd rfl (Or.inl rfl) pe_int)
  (pss_cons (ps_for PassesOwn.never rfl (pi_seq (pe_d D_ones hr (pa_cons (pv 1) pa_nil))) (pg_name (i := 3) nd rfl (Or.inl rfl))
    (pss_one (ps_set (i := 2) nd rfl (Or.inl rfl) (pe_op on_xor (pv 2) (pe_ix ix_q (pv 0) (pv 3) (fun _ _ => rfl))))))
  (pss_one (ps_ret (pv 2))))), ?_⟩
    refine ⟨_, rfl, n, cs.length, rfl, hn, hl, fun H1 q s1 hq h1 => ?_⟩
    refine for_sq2 (K := K) (.inr h1) (fun i σ H2 => ∃ v3, σ = [some (.ref a), some (vN n), some (vN (ims cs ((ons n).take i))), v3] ∧ H2 = H1) ⟨none, rfl, rfl⟩ (fun i σ H2 hp o ho => by obtain ⟨_, _, rfl⟩ := hp; exact ho) ?_ ?_
    · rintro i y σ H2 hy ⟨v3, rfl, rfl⟩
      obtain ⟨d, hd, rfl⟩ := map_get hy
      have dl := ons_lt hn d (List.mem_of_getElem? hd)
      have hg : (cs.map vN)[d]? = some (vN (cs.getD d 0)) := by
        rw [List.getElem?_map, List.getElem?_eq_getElem dl, List.getD_eq_getElem?_getD, List.getElem?_eq_getElem dl]
        rfl
      refine ⟨_, rfl, _, rfl, _, rfl, a, _, d, _, rfl, rfl, same_tq s1 hS, hg, _, _, rfl, rfl, some (vN d), ?_, rfl⟩
      rw [take_succ hd]
      unfold ims
      rw [List.foldl_append]
      rfl
    · rintro σ H2 ⟨v3, rfl, rfl⟩
      rw [List.length_map, List.take_length, ims_ons cs hn]
      exact ⟨_, rfl, k _ s1⟩
theorem ok_solved (F : FnP K "solved" "solved" s_solved f fd) (D_cleared : Dn P w K mg base 1 "cleared" ["rows", "word"] sp_cleared) : FnOk P w K mg base CX0 2 f fd ["pairs", "source", "word"] sp_solved := by
  have nd := sc_solved.nd
  refine fnok F sc_solved (fun vs H Q E h => ?_) (fun cdv A outer s H vs Q E hr h => ?_)
  · obtain ⟨a, ss, b, g, rfl, _⟩ := h
    rfl
  · obtain ⟨a, ss, b, g, rfl, hS, hl, hg, hb, hs, k⟩ := h
    refine ⟨_, (pss_cons (ps_set (i := 3) nd rfl (Or.inl rfl) (pe_d D_cleared hr (pa_cons (pv 0) (pa_cons (pe_op on_shl (pv 2) (pv 1)) pa_nil))))
  (pss_cons (ps_if (pt_cmpR op_gt (pe_bits (pv 3)) (pv 1) (nomark _))
    (pss_one (ps_ret pe_non))
    pss_nil)
  (pss_one (ps_ret (pv 3))))), ?_⟩
    have R := spn_rws (prs ss)
    have bg : blen g ≤ b := blen_le.mpr hg
    obtain ⟨o1, o2⟩ := slv_ok hs
    have o3 : blen (slv ss g) ≤ ss.length := blen_le.mpr o1
    refine ⟨_, rfl, _, rfl, _, rfl, g, ss.length, rfl, rfl, shl_ok1 (by omega) (by omega), a, prd ss, g <<< ss.length, rfl, hS, R.nz, ?_⟩
    refine ⟨_, rfl, slv ss g, rfl, _, rfl, _, _, rfl, rfl, _, rfl, br (fun z => ?_) (fun _ => ⟨_, rfl, k⟩)⟩
    have e9 : slv ss g = clr (prd ss) (g <<< ss.length) := rfl
    rw [blen_bits] at z
    have := of_decide_eq_true z
    omega
end
end LaneX
set_option Elab.async false
set_option linter.all false
set_option maxRecDepth 100000
set_option maxHeartbeats 4000000
namespace LaneX
open PySem PySem.Spec PyProof.Rows L2
/-- two spreads -/
def spTwo (CR : Addr) (k : Nat → List Nat → List Nat → List Nat → List Nat → Hp → VK → Prop) : Sp := fun vs H Q _ => ∃ (p q : Addr) (b : Nat) (ss ls os ps : List Nat), vs = [.ref p, .ref q] ∧ SpreadAt CR H p b ss ls ∧ SpreadAt CR H q b os ps ∧ WfR b ss ls ∧ WfR b os ps ∧ ls.length = ps.length ∧ k b ss ls os ps H Q
def sp_need_fit (CR : Addr) : Sp := spTwo CR fun b ss ls os ps H Q => Q .non H
theorem pe_fldK {X : Cx} {K : PySem.W.Frag} {e : Expr} {ta : TE} {f : Str} {pos : Pos} (he : PE X e ta) (hb : attributeBase e f X.env (eval e X.env) = eval e X.env) (hK : X.K = K := by rfl) : PE X (.Attribute e f pos) (tFld K ta f) := by
  subst hK
  exact pe_fld he hb
/-! ### maps -/
structure MapT (K : PySem.W.Frag) (mg : Str → Option Value) (C : Addr) : Prop extends ObjT K C where
  gl : mg "Map" = some (.ref C)
  ng : NoAttr K C "goal"
  nc : NoAttr K C "columns"
  ns : NoAttr K C "source"
def mpf (b : Nat) (t : Addr) (d : Nat) : List (Str × V) := [("goal", vN b), ("columns", .ref t), ("source", vN d)]
def MapAt (C : Addr) (H : Hp) (p : Addr) (b : Nat) (cs : List Nat) : Prop := ∃ dx t, H p = some (.ins C dx (mpf b t cs.length)) ∧ H t = some (.tup (cs.map vN))
theorem MapAt.same {C : Addr} {H H' : Hp} {p : Addr} {b : Nat} {cs : List Nat} (h : MapAt C H p b cs) (s : Same H H') : MapAt C H' p b cs := by
  obtain ⟨dx, t, h1, h2⟩ := h
  exact ⟨dx, t, s _ _ h1, s _ _ h2⟩
def sp_Map (C : Addr) : Sp := fun vs H Q _ => ∃ (p dx : Addr) (b : Nat) (a : Addr) (cs : List Nat), vs = [.ref p, vN b, .ref a] ∧ H p = some (.ins C dx []) ∧ Tq H a (cs.map vN) ∧ (∀ x ∈ cs, blen x ≤ b) ∧
  ∀ H', MapAt C H' p b cs → (∀ c o, H c = some o → c ≠ p → H' c = some o) → Q .non H'
def sp_kernel (CS CM : Addr) : Sp := fun vs H Q _ => ∃ (p : Addr) (b : Nat) (cs : List Nat), vs = [.ref p] ∧ MapAt CM H p b cs ∧ b ≤ 1000000 ∧ (∀ x ∈ cs, blen x ≤ b) ∧ cs.length ≤ 1000000 ∧ spNewSpace CS cs.length (spn (ker cs)) H Q
def sp_placing (CM CR : Addr) : Sp := fun vs H Q _ => ∃ (p : Addr) (b : Nat) (ss ls : List Nat), vs = [.ref p] ∧ SpreadAt CR H p b ss ls ∧ WfR b ss ls ∧ ∀ H' q, Same H H' → H q = none → MapAt CM H' q b (ss ++ ls) → Q (.ref q) H'
def sp_copies (CS CR : Addr) : Sp := fun vs H Q _ => ∃ (p : Addr) (b : Nat) (ss ls : List Nat), vs = [.ref p] ∧ SpreadAt CR H p b ss ls ∧ WfR b ss ls ∧ spNewSpace CS (ss ++ ls).length (spn (ker (ss ++ ls))) H Q
theorem mk_Map {C : Addr} {H1 : Hp} {b : Nat} {a : Addr} {cs : List Nat} {Q : VK} {E : XK} (hS : Tq H1 a (cs.map vN)) (hb : ∀ x ∈ cs, blen x ≤ b) (k : ∀ H' p, Same H1 H' → H1 p = none → MapAt C H' p b cs → Q (.ref p) H') :
    ∀ x dx, H1 x = none → H1 dx = none → dx ≠ x → sp_Map C (.ref x :: ([vN b, .ref a] ++ [])) (upd (upd H1 dx (.own x)) x (.ins C dx [])) (fun v H2 => v = .non ∧ Q (.ref x) H2) E := by
  intro x dx nx ndx ne
  have nx' : upd H1 dx (.own x) x = none := (upd_ne ne.symm).trans nx
  refine ⟨x, dx, b, a, cs, rfl, upd_same, (hS.new ndx).new nx', hb, fun H' hA kp => ⟨rfl, k _ _ (made_same nx ndx kp) nx hA⟩⟩
section
variable {P : Program} {w : World} {K : PySem.W.Frag} {mg : Str → Option Value} {base : Heap} {f : Addr} {fd : FuncData} {CS CR CM : Addr} (T : Bt mg) (TS : SpaceT K mg CS) (TR : SpreadT K mg CR) (TM : MapT K mg CM)
include T
include TM in
theorem ok_Map (F : FnP K "__init__" "Map.__init__" s_Map_init f fd) (D_need_whole : Dn P w K mg base 2 "need_whole" ["value"] sp_need_whole) (D_need_words : Dn P w K mg base 3 "need_words" ["values", "bits"] sp_need_words) :
    FnOk P w K mg base CX0 4 f fd ["self", "goal", "columns"] (sp_Map CM) := by
  have nd := sc_Map_init.nd
  refine fnok F sc_Map_init (fun vs H Q E h => ?_) (fun cdv A outer s H vs Q E hr h => ?_)
  · obtain ⟨p, dx, b, a, cs, rfl, _⟩ := h
    rfl
  · obtain ⟨p, dx, b, a, cs, rfl, hp, hS, hb, k⟩ := h
    refine ⟨_, (pss_cons (ps_expr (pe_d D_need_whole hr (pa_cons (pv 1) pa_nil)))
  (pss_cons (ps_fld (pv 0) (pv 1) rfl)
  (pss_cons (ps_fld (pv 0) (pe_callTy call_tupleQ (by rfl) T.tuple (by decide +kernel) (pa_cons (pe_d D_need_words hr (pa_cons (pv 2) (pa_cons (pv 1) pa_nil))) pa_nil)) rfl)
  (pss_one (ps_fld (pv 0) (pe_callB call_lenQ (by rfl) T.len PySem.boot_len (pa_cons (pe_fld (pv 0) rfl) pa_nil)) rfl))))), ?_⟩
    have nap : a ≠ p := by
      rcases hS with h | h
      · exact ne_of h hp (by intro z; cases z)
      · exact ne_of h hp (by intro z; cases z)
    have hS1 : Tq (upd H p (.ins CM dx (putF "goal" (vN b) []))) a (cs.map vN) := hS.elim (fun h => .inl (upd_put h nap)) fun h => .inr (upd_put h nap)
    refine ⟨_, rfl, b, rfl, _, rfl, _, rfl, p, CM, dx, [], rfl, hp, TM.cl, TM.ng, (by decide), ?_⟩
    refine ⟨_, rfl, _, rfl, a, cs, b, rfl, hS1, hb, fun H1 q1 s1 hq1 h1 => ?_⟩
    refine ⟨q1, _, rfl, h1, fun t ht => ?_⟩
    have hpt : p ≠ t := ne_of_none (s1 _ _ upd_same) ht
    have hp3 : upd H1 t (.tup (cs.map vN)) p = some (.ins CM dx (putF "goal" (vN b) [])) := upd_put (s1 _ _ upd_same) hpt
    refine ⟨_, rfl, p, CM, dx, _, rfl, hp3, TM.cl, TM.nc, (by show 1 < 1000; decide), ?_⟩
    refine ⟨_, rfl, p, CM, dx, _, .ref t, rfl, upd_same, TM.cl, TM.nc, rfl, t, _, rfl, .inr (upd_put upd_same hpt.symm), ?_⟩
    refine ⟨_, rfl, p, CM, dx, _, rfl, upd_same, TM.cl, TM.ns, (by show 2 < 1000; decide), ?_⟩
    refine k _ ⟨dx, t, ?_, upd_put (upd_put upd_same hpt.symm) hpt.symm⟩ fun c o hc hcp => ?_
    · rw [upd_same, List.length_map]
      rfl
    · have e1 : upd H p (.ins CM dx (putF "goal" (vN b) [])) c = some o := upd_put hc hcp
      have e2 := s1 _ _ e1
      exact upd_put (upd_put (upd_put e2 (ne_of_none e2 ht)) hcp) hcp
omit T in
end
end LaneX
set_option Elab.async false
set_option linter.all false
set_option maxRecDepth 100000
set_option maxHeartbeats 4000000
namespace LaneX
open PySem PySem.Spec PyProof.Rows L2
/-! ### the tape -/
abbrev ka : Str := "cells"
abbrev kb : Str := "at"
abbrev kc : Str := "rest"
theorem kN : PenN ka kb kc := ⟨by decide +kernel, by decide +kernel, by decide +kernel⟩
/-- the most draws -/
abbrev TOP : Nat := 1099511627776
def Tp (H : Hp) (p lc : Addr) (N : Nat) : Prop := ∃ (cs : List Int) (n m : Nat), cs ≠ [] ∧ H p = some (.dK (pen ka kb kc lc n m)) ∧ H lc = some (.lst (cs.map V.int)) ∧ n ≤ N
section
variable {H H' : Hp} {p lc : Addr} {N M : Nat}
theorem Tp.mono (h : Tp H p lc N) (l : N ≤ M) : Tp H p lc M := by
  obtain ⟨cs, n, m, h0, h1, h2, h3⟩ := h
  exact ⟨cs, n, m, h0, h1, h2, Nat.le_trans h3 l⟩
theorem Tp.same (h : Tp H p lc N) (s : Same H H') : Tp H' p lc N := by
  obtain ⟨cs, n, m, h0, h1, h2, h3⟩ := h
  exact ⟨cs, n, m, h0, s _ _ h1, s _ _ h2, h3⟩
theorem Tp.ne (h : Tp H p lc N) {l : Addr} (hl : H l = none) : lc ≠ l ∧ p ≠ l := by
  obtain ⟨cs, n, m, h0, h1, h2, h3⟩ := h
  exact ⟨ne_of_none h2 hl, ne_of_none h1 hl⟩
theorem Tp.put {l : Addr} {o : HO} (h : Tp H p lc N) (h1 : lc ≠ l ∧ p ≠ l) : Tp (upd H l o) p lc N := by
  obtain ⟨cs, n, m, g0, g1, g2, g3⟩ := h
  exact ⟨cs, n, m, g0, (upd_ne h1.2).trans g1, (upd_ne h1.1).trans g2, g3⟩
end
theorem mo_lt {i : Int} {m : Nat} (h : 0 < m) (hm : m ≤ 2 ^ 64) : (i % (m : Int)).toNat < 2 ^ 64 := by
  have := Int.emod_lt_of_pos i (b := (m : Int)) (by omega)
  have h2 := Int.emod_nonneg i (b := (m : Int)) (by omega)
  have h3 : m ≤ 18446744073709551616 := hm
  show _ < 18446744073709551616
  omega
def sp_draw : Sp := fun vs H Q _ => ∃ (p lc : Addr) (N sp : Nat), vs = [.ref p, vN sp] ∧ Tp H p lc N ∧ 0 < sp ∧ sp < 2 ^ 8999 ∧ N + 1 ≤ TOP ∧ ∀ H' r, r < sp → Tp H' p lc (N + 1) → Kp H H' → Q (vN r) H'
def sp_begin (K : PySem.W.Frag) : Sp := fun vs H Q _ => ∃ (a : Addr) (ns : List Int), vs = [.ref a] ∧ SqL K H a (ns.map V.int) ∧ ns.length ≤ 1000000 ∧ ∀ H' p lc, Same H H' → H p = none → Tp H' p lc 0 → Q (.ref p) H'
section
variable {P : Program} {w : World} {K : PySem.W.Frag} {mg : Str → Option Value} {base : Heap} {f : Addr} {fd : FuncData} (T : Bt mg)
include T
theorem ok_draw (F : FnP K "_law_draw" "_law_draw" s_drawL f fd) : FnOk P w K mg base CX0 1 f fd ["_law_tape", "_law_limit"] sp_draw := by
  have nd := sc_drawL.nd
  refine fnok F sc_drawL (fun vs H Q E h => ?_) (fun cdv A outer s H vs Q E hr h => ?_)
  · obtain ⟨p, lc, N, sp, rfl, _⟩ := h
    rfl
  · obtain ⟨p, lc, N, sp, rfl, ⟨cs, n, m, hcs, hp, hlc, hn⟩, hs0, hs1, hN, k⟩ := h
    have hu := hu_of hr
    refine ⟨_, (pss_cons (ps_if (pt_cmpR op_lt (pe_dget hu (pv 0) pe_str (fun _ _ => rfl)) (pv 1) (nomark _))
    (pss_cons (ps_par (i := 2) (j := 3) (by rfl) nd rfl rfl (by decide) rfl rfl (pa_cons (pe_dget hu (pv 0) pe_str (fun _ _ => rfl)) (pa_cons (pe_callB call_lenQ (by rfl) T.len PySem.boot_len (pa_cons (pe_dget hu (pv 0) pe_str (fun _ _ => rfl)) pa_nil)) pa_nil)) (by rfl))
    (pss_cons (ps_asg (pe_tup (pa_cons (pe_ix ix_q (pe_dget hu (pv 0) pe_str (fun _ _ => rfl)) (pe_op on_mod (pe_callTy call_intQ (by rfl) T.int (by decide +kernel) (pa_cons (pv 2) pa_nil)) (pv 3)) (fun _ _ => rfl)) (pa_cons (pe_op on_add (pv 2) pe_int) pa_nil))) (pg_tup (by rfl) (pgs_cons (pg_name (i := 4) nd rfl (Or.inl rfl)) (pgs_cons (pg_sub (pv 0) pe_str (set_dict hu)) pgs_nil))))
    (pss_cons (ps_set (i := 5) nd rfl (Or.inl rfl) (pe_op on_addI (pe_op on_addI (pe_op on_mulI (pe_callTy call_intQ (by rfl) T.int (by decide +kernel) (pa_cons (pv 4) pa_nil)) pe_int) (pe_op on_mulR (pe_op on_mul pe_int (pv 2)) (pv 2))) pe_int))
    (pss_cons (ps_set (i := 5) nd rfl (Or.inl rfl) (pe_op on_modI (pe_callTy call_intQ (by rfl) T.int (by decide +kernel) (pa_cons (pv 5) pa_nil)) pe_int))
    (pss_cons (ps_dput hu (pv 0) pe_str (pe_op on_mod (pe_callTy call_intQ (by rfl) T.int (by decide +kernel) (pa_cons (pe_op on_add (pe_op on_pow (pv 5) pe_int) (pe_op on_mulR (pe_op on_mulR (pe_op on_mul pe_int (pv 2)) (pv 5)) (pv 5))) pa_nil)) (pe_op on_add (pe_op on_pow pe_int pe_int) pe_int)) rfl)
    (pss_one (ps_if (PW.pt (pw_and (pt_cmpR op_ge (pv 4) (pe_op on_pow pe_int pe_int) (nomark _)) (pw_and1 (pt_cmpR op_lt (pv 2) (pv 3) (nomark _)))))
      (pss_one (ps_dput hu (pv 0) pe_str (pe_op on_subD (pv 4) (pe_op on_pow pe_int pe_int)) rfl))
      pss_nil)))))))
    pss_nil)
  (pss_cons (ps_asg (pe_tup (pa_cons (pe_op on_mod (pe_callTy call_intQ (by rfl) T.int (by decide +kernel) (pa_cons (pe_dget hu (pv 0) pe_str (fun _ _ => rfl)) pa_nil)) (pv 1)) (pa_cons (pe_op on_fdivW (pe_dget hu (pv 0) pe_str (fun _ _ => rfl)) (pv 1)) pa_nil))) (pg_tup (by rfl) (pgs_cons (pg_name (i := 6) nd rfl (Or.inl rfl)) (pgs_cons (pg_sub (pv 0) pe_str (set_dict hu)) pgs_nil))))
  (pss_one (ps_ret (pv 6))))), ?_⟩
    have gA : ∀ (H0 : Hp) (n0 m0 : Nat), H0 p = some (.dK (pen ka kb kc lc n0 m0)) → DGet H0 p (.str ka) (some (.ref lc)) := fun H0 n0 m0 h => by have z := DGet.k (k := .inr ka) h; rw [pen_a] at z; exact z
    have gB : ∀ (H0 : Hp) (n0 m0 : Nat), H0 p = some (.dK (pen ka kb kc lc n0 m0)) → DGet H0 p (.str kb) (some (vN n0)) := fun H0 n0 m0 h => by have z := DGet.k (k := .inr kb) h; rw [pen_b kN] at z; exact z
    have gC : ∀ (H0 : Hp) (n0 m0 : Nat), H0 p = some (.dK (pen ka kb kc lc n0 m0)) → DGet H0 p (.str kc) (some (vN m0)) := fun H0 n0 m0 h => by have z := DGet.k (k := .inr kc) h; rw [pen_c kN] at z; exact z
    have pB : ∀ (H0 : Hp) (n0 m0 k0 : Nat), H0 p = some (.dK (pen ka kb kc lc n0 m0)) → DPut H0 p (.str kb) (vN k0) (upd H0 p (.dK (pen ka kb kc lc k0 m0))) := fun H0 n0 m0 k0 h => by have z := DPut.k (k := .inr kb) (v := vN k0) h (pen_len n0 m0); rw [pen_pb kN] at z; exact z
    have pC : ∀ (H0 : Hp) (n0 m0 k0 : Nat), H0 p = some (.dK (pen ka kb kc lc n0 m0)) → DPut H0 p (.str kc) (vN k0) (upd H0 p (.dK (pen ka kb kc lc n0 k0))) := fun H0 n0 m0 k0 h => by have z := DPut.k (k := .inr kc) (v := vN k0) h (pen_len n0 m0); rw [pen_pc kN] at z; exact z
    have hlp : lc ≠ p := ne_of hlc hp (by intro z; cases z)
    have kpU : ∀ (H0 : Hp) (n0 m0 n1 m1 : Nat), H0 p = some (.dK (pen ka kb kc lc n0 m0)) → Kp H0 (upd H0 p (.dK (pen ka kb kc lc n1 m1))) := fun H0 n0 m0 n1 m1 h => by
      refine ⟨fun b o hb ho => ?_, fun b hb => upd_free hb⟩
      refine (upd_ne fun z => ?_).trans hb
      rw [z, h] at hb
      cases hb
      cases ho
    have hN' : N + 1 ≤ 1099511627776 := hN
    have fin : ∀ (σ : L2.St) (H0 : Hp) (n0 m0 : Nat) (v2 v3 v4 v5 : Option V), σ = [some (.ref p), some (vN sp), v2, v3, v4, v5, none] → H0 p = some (.dK (pen ka kb kc lc n0 m0)) → H0 lc = some (.lst (cs.map V.int)) → n0 ≤ N + 1 → Kp H H0 →
        ∃ v, σ[0]? = some (some v) ∧ ∃ a u, v = .ref a ∧ DGet H0 a (.str kc) (some u) := fun σ H0 n0 m0 v2 v3 v4 v5 e h1 _ _ _ => ⟨.ref p, by rw [e]; rfl, p, _, rfl, gC _ _ _ h1⟩
    clear fin
    have last : ∀ (H0 : Hp) (n0 m0 : Nat), H0 p = some (.dK (pen ka kb kc lc n0 m0)) → H0 lc = some (.lst (cs.map V.int)) → n0 ≤ N + 1 → Kp H H0 → ∀ x, H0 x = none → Q (vN (m0 % sp)) (upd (upd H0 x (.tup [vN (m0 % sp), vN (m0 / sp)])) p (.dK (pen ka kb kc lc n0 (m0 / sp)))) := fun H0 n0 m0 h1 h2 h3 kp x hx => by
      have np : p ≠ x := ne_of_none h1 hx
      have e1 : upd H0 x (.tup [vN (m0 % sp), vN (m0 / sp)]) p = some (.dK (pen ka kb kc lc n0 m0)) := upd_put h1 np
      refine k _ _ (Nat.mod_lt _ hs0) ⟨cs, n0, m0 / sp, hcs, upd_same, (upd_ne hlp).trans (upd_new hx h2), h3⟩ ((kp_new kp hx).trans (kpU _ _ _ _ _ e1))
    refine ⟨_, rfl, p, vN m, rfl, gC _ _ _ hp, _, rfl, _, _, rfl, rfl, _, rfl, br (fun e => ?_) (fun e => ?_)⟩
    · refine ⟨_, rfl, p, vN n, rfl, gB _ _ _ hp, _, rfl, p, .ref lc, rfl, gA _ _ _ hp, lc, _, rfl, .inl hlc, _, _, rfl, ?_⟩
      have hne : 0 < cs.length := List.length_pos_iff.mpr hcs
      have hix : n % cs.length < cs.length := Nat.mod_lt _ hne
      refine ⟨_, rfl, p, .ref lc, rfl, gA _ _ _ hp, _, rfl, _, rfl, _, rfl, n, (cs.map V.int).length, rfl, rfl, (by rw [List.length_map]; exact hne), lc, _, n % (cs.map V.int).length, .int cs[n % cs.length], rfl, rfl, .inl hlc, ?_, ?_⟩
      · rw [List.length_map, List.getElem?_map, List.getElem?_eq_getElem hix]
        rfl
      generalize cs[n % cs.length] = ce
      refine ⟨_, rfl, n, 1, rfl, rfl, (by show 2 ≤ sizeLine; decide), fun x hx => ⟨x, _, rfl, SqT.of upd_same, rfl, _, _, rfl, _, _, rfl, _, rfl, p, _, rfl, pB _ _ _ _ (upd_new hx hp), rfl, ?_⟩⟩
      have np : p ≠ x := ne_of_none hp hx
      have kp1 : Kp H (upd (upd H x (.tup [.int ce, vN (n + 1)])) p (.dK (pen ka kb kc lc (n + 1) m))) := (kp_new (Kp.refl H) hx).trans (kpU _ _ _ _ _ (upd_new hx hp))
      have hp1 : upd (upd H x (.tup [.int ce, vN (n + 1)])) p (.dK (pen ka kb kc lc (n + 1) m)) p = some (.dK (pen ka kb kc lc (n + 1) m)) := upd_same
      generalize upd (upd H x (.tup [.int ce, vN (n + 1)])) p (.dK (pen ka kb kc lc (n + 1) m)) = H1 at *
      have hl1 := kp1 _ _ hlc rfl
      refine ⟨_, rfl, _, rfl, ce, 982451653, rfl, rfl, (by decide), _, rfl, 32452843, n, rfl, rfl, (by decide), _, rfl, _, n, rfl, rfl, (by show n < 18446744073709551616; omega), _, _, rfl, rfl, _, _, rfl, rfl, ?_⟩
      refine ⟨_, rfl, _, rfl, _, 2305843009213693907, rfl, rfl, (by decide), ?_⟩
      have mx := mo_lt (i := ce * ((982451653 : Nat) : Int) + ((32452843 * n * n : Nat) : Int) + 961748941) (m := 2305843009213693907) (by decide) (by decide)
      generalize ((ce * ((982451653 : Nat) : Int) + ((32452843 * n * n : Nat) : Int) + 961748941) % ((2305843009213693907 : Nat) : Int)).toNat = mm at *
      refine ⟨_, rfl, mm, 11, rfl, rfl, ⟨mx, by decide⟩, _, rfl, 15485863, n, rfl, rfl, (by decide), _, rfl, _, mm, rfl, rfl, mx, _, rfl, _, mm, rfl, rfl, mx, _, _, rfl, rfl, _, rfl, 10, 47, rfl, rfl, ⟨by decide, by decide⟩, _, 9, rfl, rfl, _, _, rfl, rfl, (by decide), _, rfl, p, _, rfl, pC _ _ _ _ hp1, ?_⟩
      generalize (mm ^ 11 + 15485863 * n * mm * mm) % (10 ^ 47 + 9) = rr
      have kp2 := kp1.trans (kpU _ _ _ (n + 1) rr hp1)
      have hp2 : upd H1 p (.dK (pen ka kb kc lc (n + 1) rr)) p = some (.dK (pen ka kb kc lc (n + 1) rr)) := upd_same
      generalize upd H1 p (.dK (pen ka kb kc lc (n + 1) rr)) = H2 at *
      have hl2 := kp2 _ _ hlc rfl
      refine ⟨_, rfl, 10, 18, rfl, rfl, ⟨by decide, by decide⟩, _, _, rfl, rfl, _, rfl, br (fun e1 => ?_) (fun e1 => ?_)⟩
      · refine ⟨_, rfl, _, rfl, _, _, rfl, rfl, _, rfl, br (fun e2 => ?_) (fun e2 => ?_)⟩
        · have e3 := of_decide_eq_true e1
          obtain ⟨d, hd⟩ : ∃ d : Nat, ce - ((10 ^ 18 : Nat) : Int) = (d : Int) := ⟨(ce - ((10 ^ 18 : Nat) : Int)).toNat, by
            have : ((10 ^ 18 : Nat) : Int) ≤ ce := e3
            omega⟩
          refine ⟨_, rfl, 10, 18, rfl, rfl, ⟨by decide, by decide⟩, _, _, d, rfl, rfl, hd, _, rfl, p, _, rfl, pC _ _ _ d hp2, ?_⟩
          have kp3 := kp2.trans (kpU _ _ _ (n + 1) d hp2)
          have hp3 : upd H2 p (.dK (pen ka kb kc lc (n + 1) d)) p = some (.dK (pen ka kb kc lc (n + 1) d)) := upd_same
          generalize upd H2 p (.dK (pen ka kb kc lc (n + 1) d)) = H3 at *
          refine ⟨_, rfl, p, vN d, rfl, gC _ _ _ hp3, _, rfl, _, rfl, d, sp, rfl, rfl, hs0, _, rfl, p, vN d, rfl, gC _ _ _ hp3, _, rfl, d, sp, rfl, rfl, ⟨hs0, hs1⟩, (by show 2 ≤ sizeLine; decide), fun y hy => ⟨y, _, rfl, SqT.of upd_same, rfl, _, _, rfl, _, _, rfl, _, rfl, p, _, rfl, pC _ _ _ _ (upd_new hy hp3), rfl, ?_⟩⟩
          exact ⟨_, rfl, last H3 _ _ hp3 (kp3 _ _ hlc rfl) (by omega) kp3 y hy⟩
        · refine ⟨_, rfl, p, vN rr, rfl, gC _ _ _ hp2, _, rfl, _, rfl, rr, sp, rfl, rfl, hs0, _, rfl, p, vN rr, rfl, gC _ _ _ hp2, _, rfl, rr, sp, rfl, rfl, ⟨hs0, hs1⟩, (by show 2 ≤ sizeLine; decide), fun y hy => ⟨y, _, rfl, SqT.of upd_same, rfl, _, _, rfl, _, _, rfl, _, rfl, p, _, rfl, pC _ _ _ _ (upd_new hy hp2), rfl, ?_⟩⟩
          exact ⟨_, rfl, last H2 _ _ hp2 hl2 (by omega) kp2 y hy⟩
      · refine ⟨_, rfl, p, vN rr, rfl, gC _ _ _ hp2, _, rfl, _, rfl, rr, sp, rfl, rfl, hs0, _, rfl, p, vN rr, rfl, gC _ _ _ hp2, _, rfl, rr, sp, rfl, rfl, ⟨hs0, hs1⟩, (by show 2 ≤ sizeLine; decide), fun y hy => ⟨y, _, rfl, SqT.of upd_same, rfl, _, _, rfl, _, _, rfl, _, rfl, p, _, rfl, pC _ _ _ _ (upd_new hy hp2), rfl, ?_⟩⟩
        exact ⟨_, rfl, last H2 _ _ hp2 hl2 (by omega) kp2 y hy⟩
    · refine ⟨_, rfl, p, vN m, rfl, gC _ _ _ hp, _, rfl, _, rfl, m, sp, rfl, rfl, hs0, _, rfl, p, vN m, rfl, gC _ _ _ hp, _, rfl, m, sp, rfl, rfl, ⟨hs0, hs1⟩, (by show 2 ≤ sizeLine; decide), fun y hy => ⟨y, _, rfl, SqT.of upd_same, rfl, _, _, rfl, _, _, rfl, _, rfl, p, _, rfl, pC _ _ _ _ (upd_new hy hp), rfl, ?_⟩⟩
      exact ⟨_, rfl, last H _ _ hp hlc (by omega) (Kp.refl H) y hy⟩
end
end LaneX
set_option Elab.async false
set_option linter.all false
set_option maxRecDepth 100000
set_option maxHeartbeats 4000000
namespace LaneX
open PySem PySem.Spec PyProof.Rows L2
def sp_pick : Sp := fun vs H Q _ => ∃ (p lc a : Addr) (N : Nat) (xs : List V), vs = [.ref p, .ref a] ∧ Tp H p lc N ∧ Tq H a xs ∧ 0 < xs.length ∧ xs.length ≤ 1000000 ∧ N + 1 ≤ TOP ∧ ∀ H' v, v ∈ xs → Tp H' p lc (N + 1) → Kp H H' → Q v H'
def sp_whole_is : Sp := fun vs H Q _ => ∃ n : Nat, vs = [vN n, vN n] ∧ Q (.bl true) H
def sp_less : Sp := fun vs H Q _ => ∃ (a : Addr) (rows : List Nat) (x : Nat), vs = [.ref a, vN x] ∧ Tq H a (rows.map vN) ∧ (∀ r ∈ rows, r ≠ 0) ∧ Q (vN (clr rows x)) H
def sp_rows : Sp := fun vs H Q _ => ∃ (a : Addr) (ws : List Nat), vs = [.ref a] ∧ Tq H a (ws.map vN) ∧ ws.length ≤ 1000000 ∧ ∀ H' q, Same H H' → H q = none → H' q = some (.lst ((rws ws).map vN)) → Q (.ref q) H'
def sp_sum : Sp := fun vs H Q _ => ∃ (a : Addr) (cs : List Nat) (x : Nat), vs = [.ref a, vN x] ∧ Tq H a (cs.map vN) ∧ cs.length ≤ 1000000 ∧ Q (vN (img cs x)) H
def sp_word : Sp := fun vs H Q _ => ∃ (p lc : Addr) (N b : Nat), vs = [.ref p, vN b] ∧ Tp H p lc N ∧ b ≤ 1000 ∧ N + 2 ≤ TOP ∧ ∀ H' x, x < 2 ^ b → Tp H' p lc (N + 2) → Kp H H' → Q (vN x) H'
def sp_order : Sp := fun vs H Q _ => ∃ (p lc : Addr) (N b : Nat), vs = [.ref p, vN b] ∧ Tp H p lc N ∧ b ≤ 1000 ∧ N + 1000 ≤ TOP ∧ ∀ (H' : Hp) (q : Addr) (o : List Nat), o.Perm (List.range b) → H q = none → H' q = some (.lst (o.map vN)) → Tp H' p lc (N + 1000) → Kp H H' → Q (.ref q) H'
def sp_several : Sp := fun vs H Q _ => ∃ (a : Addr) (ws : List Nat), vs = [.ref a] ∧ Tq H a (ws.map vN) ∧ ws.length ≤ 16 ∧ ∀ H' q, Same H H' → H q = none → H' q = some (.lst ((sev ws).map vN)) → Q (.ref q) H'
theorem cut63 (ns : List Int) : cutV (ns.map V.int) none (some 63) = (ns.take 63).map V.int := by
  unfold cutV
  rw [show (63 : Int) = ((63 : Nat) : Int) from rfl, HT.sIx_nat, HT.sIx_none, List.length_map, Nat.sub_zero, List.drop_zero, ← List.map_take]
  congr 1
  rcases Nat.le_total 63 ns.length with h | h
  · rw [Nat.min_eq_left h]
  · rw [Nat.min_eq_right h, List.take_length, List.take_of_length_le h]
theorem rep_zero (t : Nat) : (List.replicate t [V.int 0]).flatten = (List.replicate t (0 : Int)).map V.int := by
  induction t with
  | zero => rfl
  | succ t ih => rw [List.replicate_succ, List.flatten_cons, ih, List.replicate_succ]; rfl
theorem pow_big {b : Nat} (h : b ≤ 1000) : 1 <<< b < 2 ^ 8999 := by
  rw [Nat.one_shiftLeft]
  exact Nat.pow_lt_pow_right (by decide) (by omega)
theorem ins_perm' {α : Type} {l : List α} {i : Nat} {x : α} : (l.take i ++ [x] ++ l.drop i).Perm (x :: l) := by
  have : (l.take i ++ [x] ++ l.drop i).Perm (x :: (l.take i ++ l.drop i)) := by
    rw [List.append_assoc]
    exact List.perm_middle
  rwa [List.take_append_drop] at this
section
variable {P : Program} {w : World} {K : PySem.W.Frag} {mg : Str → Option Value} {base : Heap} {f : Addr} {fd : FuncData} (T : Bt mg)
include T
theorem ok_begin (F : FnP K "_law_begin" "_law_begin" s_beginL f fd) : FnOk P w K mg base CX0 1 f fd ["_law_script"] (sp_begin K) := by
  have nd := sc_beginL.nd
  refine fnok F sc_beginL (fun vs H Q E h => ?_) (fun cdv A outer s H vs Q E hr h => ?_)
  · obtain ⟨a, ns, rfl, _⟩ := h
    rfl
  · obtain ⟨a, ns, rfl, hS, hln, k⟩ := h
    refine ⟨_, (pss_one (ps_ret (pe_disp (pps_cons pe_str (pe_op op_cat (pe_callTy call_listQ (by rfl) T.list (by decide +kernel) (pa_cons (pe_slice sl_list (pv 0) po_none (po_some pe_int)) pa_nil)) (pe_op op_rep (pe_lst (pa_cons pe_int pa_nil)) (pe_callTy call_intB (by rfl) T.int (by decide +kernel) (pa_cons (pe_cmpR op_eq (pe_callB call_len (by rfl) T.len PySem.boot_len (pa_cons (pv 0) pa_nil)) pe_int (nomark _)) pa_nil)))) (pps_cons pe_str pe_int (pps_cons pe_str pe_int pps_nil))) (by rfl) (by rfl) (fun z => by cases z) (by decide)))), ?_⟩
    intro p hp
    have s0 := same_new0 (o := .dK []) hp
    refine ⟨_, rfl, _, rfl, a, _, rfl, Same.seq s0 hS, fun l1 hl1 => ?_⟩
    rw [cut63]
    have s1 := same_new (o := .lst ((ns.take 63).map V.int)) s0 hl1
    refine ⟨l1, _, rfl, .inl upd_same, fun l2 hl2 => ?_⟩
    have s2 := same_new (o := .lst ((ns.take 63).map V.int)) s1 hl2
    refine ⟨(by show 1 ≤ sizeLine; decide), fun l3 hl3 => ?_⟩
    have s3 := same_new (o := .lst [.int 0]) s2 hl3
    refine ⟨_, rfl, _, (ns.map V.int).length, rfl, Or.inl ⟨_, Same.seq s3 hS, rfl⟩, rfl, _, rfl, ?_⟩
    have l2' : upd (upd (upd (upd H p (.dK [])) l1 (.lst ((ns.take 63).map V.int))) l2 (.lst ((ns.take 63).map V.int))) l3 (.lst [.int 0]) l2 = some (.lst ((ns.take 63).map V.int)) := upd_new hl3 upd_same
    have p' : upd (upd (upd (upd H p (.dK [])) l1 (.lst ((ns.take 63).map V.int))) l2 (.lst ((ns.take 63).map V.int))) l3 (.lst [.int 0]) p = some (.dK []) := upd_new hl3 (upd_new hl2 (upd_new hl1 upd_same))
    have l3' : upd (upd (upd (upd H p (.dK [])) l1 (.lst ((ns.take 63).map V.int))) l2 (.lst ((ns.take 63).map V.int))) l3 (.lst [.int 0]) l3 = some (.lst [.int 0]) := upd_same
    generalize upd (upd (upd (upd H p (.dK [])) l1 (.lst ((ns.take 63).map V.int))) l2 (.lst ((ns.take 63).map V.int))) l3 (.lst [.int 0]) = H3 at *
    have hz : (if decide (V.int ((ns.map V.int).length : Int) = .int 0) = true then 1 else 0) = if ns.length = 0 then 1 else 0 := by
      rw [List.length_map]
      by_cases e : ns.length = 0
      · rw [if_pos e, e]; rfl
      · rw [if_neg e, decide_eq_false (fun z => e (by have := V.int.inj z; omega))]; rfl
    generalize ht : (if decide (V.int ((ns.map V.int).length : Int) = .int 0) = true then 1 else 0) = t
    rw [hz] at ht
    have t1 : t ≤ 1 := by rw [← ht]; split <;> omega
    refine ⟨l3, _, _, rfl, rfl, l3', (by omega), (by omega), (by rw [sizeLine_eq]; simp; omega), fun l4 hl4 => ?_⟩
    rw [Int.toNat_natCast, rep_zero]
    have tl : (ns.take 63).length ≤ 63 := by rw [List.length_take]; omega
    refine ⟨l2, l4, _, _, rfl, rfl, upd_new hl4 l2', upd_same, (by rw [List.length_map, List.length_map, List.length_replicate, sizeLine_eq]; omega), fun l5 hl5 => ?_⟩
    rw [← List.map_append]
    have np : p ≠ l4 := ne_of_none p' hl4
    have p4 : upd H3 l4 (.lst ((List.replicate t (0 : Int)).map V.int)) p = some (.dK []) := upd_put p' np
    have np5 : p ≠ l5 := ne_of_none p4 hl5
    refine ⟨upd_put p4 np5, [(.inr ka, .ref l5), (.inr kb, .int 0), (.inr kc, .int 0)], rfl, (by show 3 ≤ 15; decide), ?_⟩
    have em : mergeK [] [((.inr ka : Key), V.ref l5), (.inr kb, .int 0), (.inr kc, .int 0)] = pen ka kb kc l5 0 0 := by
      unfold mergeK pen putK
      simp [kN.ab, kN.ac, kN.bc]
    rw [em]
    refine k _ _ l5 (fun b o hb => ?_) hp ⟨ns.take 63 ++ List.replicate t 0, 0, 0, ?_, upd_same, upd_put upd_same np5.symm, Nat.le_refl _⟩
    · exact upd_put (upd_new hl5 (upd_new hl4 (s3 _ _ hb))) (ne_of_none hb hp)
    · intro z
      have := congrArg List.length z
      rw [List.length_append, List.length_take, List.length_replicate] at this
      rw [List.length_nil] at this
      by_cases e : ns.length = 0
      · rw [if_pos e] at ht; omega
      · omega
theorem ok_pick (F : FnP K "_law_pick" "_law_pick" s_pickL f fd) (D_drawL : Dn P w K mg base 1 "_law_draw" ["_law_tape", "_law_limit"] sp_draw) : FnOk P w K mg base CX0 2 f fd ["_law_tape", "_law_some"] sp_pick := by
  have nd := sc_pickL.nd
  refine fnok F sc_pickL (fun vs H Q E h => ?_) (fun cdv A outer s H vs Q E hr h => ?_)
  · obtain ⟨p, lc, a, N, xs, rfl, _⟩ := h
    rfl
  · obtain ⟨p, lc, a, N, xs, rfl, hp, hS, h0, h1, hN, k⟩ := h
    refine ⟨_, (pss_one (ps_ret (pe_ix ix_q (pv 1) (pe_d D_drawL hr (pa_cons (pv 0) (pa_cons (pe_callB call_lenQ (by rfl) T.len PySem.boot_len (pa_cons (pv 1) pa_nil)) pa_nil))) (fun _ _ => rfl)))), ?_⟩
    have big : xs.length < 2 ^ 8999 := Nat.lt_of_lt_of_le (show xs.length < 2 ^ 20 by have : (2 : Nat) ^ 20 = 1048576 := by decide
                                                                                      omega) (Nat.pow_le_pow_right (by decide) (by decide))
    refine ⟨_, rfl, _, rfl, _, rfl, a, xs, rfl, hS, p, lc, N, xs.length, rfl, hp, h0, big, hN, fun H' r hr' hp' kp => ?_⟩
    exact ⟨a, xs, r, _, rfl, rfl, kp_tq kp hS, List.getElem?_eq_getElem hr', k _ _ (List.getElem_mem hr') hp' kp⟩
theorem ok_whole_is (F : FnP K "_law_whole_is" "_law_whole_is" s_whole_isL f fd) : FnOk P w K mg base CX0 1 f fd ["_law_value", "_law_due"] sp_whole_is := by
  have nd := sc_whole_isL.nd
  refine fnok F sc_whole_isL (fun vs H Q E h => ?_) (fun cdv A outer s H vs Q E hr h => ?_)
  · obtain ⟨n, rfl, _⟩ := h
    rfl
  · obtain ⟨n, rfl, k⟩ := h
    refine ⟨_, (pss_one (ps_ret (pe_and (pe_callB call_isi (by rfl) T.isinstance (by decide +kernel) (pa_cons (pv 0) (pa_cons (pe_bltn (v := .ty "int") (by rfl) T.int (by decide +kernel) rfl) pa_nil))) (pe_and (pe_not (pe_callB call_isi (by rfl) T.isinstance (by decide +kernel) (pa_cons (pv 0) (pa_cons (pe_bltn (v := .ty "bool") (by rfl) T.bool (by decide +kernel) rfl) pa_nil)))) (pe_one (pe_cmpR op_eq (pv 0) (pv 1) (nomark _))))))), ?_⟩
    refine ⟨_, rfl, _, _, _, _, _, rfl, .ty _, .base (.int _), kit_ty (r := true) (by decide +kernel), _, rfl, iteT ?_⟩
    refine ⟨_, rfl, _, _, _, _, _, rfl, .ty _, .base (.int _), kit_ty (r := false) (by decide +kernel), _, rfl, _, rfl, iteT ?_⟩
    refine ⟨_, rfl, _, rfl, rfl, ?_⟩
    show Q (.bl (decide (vN n = vN n))) H
    rw [decide_eq_true rfl]
    exact k
theorem ok_less (F : FnP K "_law_less" "_law_less" s_lessL f fd) : FnOk P w K mg base CX0 1 f fd ["_law_rows_here", "_law_word_here"] sp_less := by
  have nd := sc_lessL.nd
  refine fnok F sc_lessL (fun vs H Q E h => ?_) (fun cdv A outer s H vs Q E hr h => ?_)
  · obtain ⟨a, rows, x, rfl, _⟩ := h
    rfl
  · obtain ⟨a, rows, x, rfl, hS, nz, k⟩ := h
    refine ⟨_, (pss_cons (ps_set (i := 2) nd rfl (Or.inl rfl) (pv 1))
  (pss_cons (ps_for PassesOwn.never rfl (pi_seq (pv 0)) (pg_name (i := 3) nd rfl (Or.inl rfl))
    (pss_one (ps_set (i := 2) nd rfl (Or.inl rfl) (pe_callB (call_minN rfl) (by rfl) T.min (by decide +kernel) (pa_cons (pv 2) (pa_cons (pe_op on_xor (pv 2) (pv 3)) pa_nil))))))
  (pss_one (ps_ret (pv 2))))), ?_⟩
    refine ⟨_, rfl, _, rfl, for_sq2 (K := K) hS (fun i σ H2 => ∃ v, σ = [some (.ref a), some (vN x), some (vN (les (rows.take i) x)), v] ∧ H2 = H) ⟨none, rfl, rfl⟩ (fun i σ H2 hp o ho => by obtain ⟨_, _, rfl⟩ := hp; exact ho) ?_ ?_⟩
    · rintro i y σ H2 hy ⟨v, rfl, rfl⟩
      obtain ⟨r, hr', rfl⟩ := map_get hy
      refine ⟨_, rfl, _, rfl, _, rfl, _, r, rfl, rfl, _, _, rfl, some (vN r), ?_, rfl⟩
      rw [take_succ hr']
      unfold les
      rw [List.foldl_append]
      rfl
    · rintro σ H2 ⟨v, rfl, rfl⟩
      rw [List.length_map, List.take_length, les_clr x nz]
      exact ⟨_, rfl, k⟩
theorem ok_rows (F : FnP K "_law_rows" "_law_rows" s_rowsL f fd) (D_lessL : Dn P w K mg base 1 "_law_less" ["_law_rows_here", "_law_word_here"] sp_less) : FnOk P w K mg base CX0 2 f fd ["_law_words"] sp_rows := by
  have nd := sc_rowsL.nd
  refine fnok F sc_rowsL (fun vs H Q E h => ?_) (fun cdv A outer s H vs Q E hr h => ?_)
  · obtain ⟨a, ws, rfl, _⟩ := h
    rfl
  · obtain ⟨a, ws, rfl, hS, hl, k⟩ := h
    refine ⟨_, (pss_cons (ps_set (i := 1) nd rfl (Or.inl rfl) (pe_lst pa_nil))
  (pss_cons (ps_for PassesOwn.never rfl (pi_seq (pv 0)) (pg_name (i := 2) nd rfl (Or.inl rfl))
    (pss_cons (ps_set (i := 3) nd rfl (Or.inl rfl) (pe_d D_lessL hr (pa_cons (pv 1) (pa_cons (pv 2) pa_nil))))
    (pss_one (ps_if (pt_cmpR op_ne (pv 3) pe_int (nomark _))
      (pss_one (ps_expr (pe_bm PySem.F.plainAttrs_list PySem.F.slot_list_append PySem.F.type_list_append mt_append (pv 1) (pa_cons (pv 3) pa_nil))))
      pss_nil))))
  (pss_one (ps_ret (pv 1))))), ?_⟩
    refine ⟨(by decide), fun l0 hl0 => ?_⟩
    have s0 : Same H (upd H l0 (.lst [])) := same_new0 hl0
    have an : a ≠ l0 := by
      rcases hS with h | h
      · exact ne_of_none h hl0
      · exact ne_of_none h hl0
    refine ⟨_, rfl, for_sq2 (K := K) (same_tq s0 hS) (fun i σ H2 => ∃ v v3, σ = [some (.ref a), some (.ref l0), v, v3] ∧ Same H H2 ∧ H2 l0 = some (.lst ((rws (ws.take i)).map vN))) ⟨none, none, rfl, s0, upd_same⟩ (fun i σ H2 hp o ho => ?_) ?_ ?_⟩
    · obtain ⟨_, _, _, s2, _⟩ := hp
      rw [upd_ne an] at ho
      exact s2 _ _ ho
    · rintro i y σ H2 hy ⟨v, v3, rfl, s2, h2⟩
      obtain ⟨r, hr', rfl⟩ := map_get hy
      refine ⟨_, rfl, _, rfl, l0, _, r, rfl, .inl h2, (rws_hws _).nz, ?_⟩
      refine ⟨_, rfl, rfl, _, rfl, ?_⟩
      rw [dec_ne0, take_succ hr', rws_snoc]
      unfold rwstep
      refine br (fun e => ?_) (fun e => ?_)
      · have e0 : clr (rws (ws.take i)) r ≠ 0 := by simpa using e
        rw [if_neg e0]
        have tl : (rws (ws.take i)).length ≤ 1000000 := Nat.le_trans (rws_len_le _) (Nat.le_trans (by rw [List.length_take]; omega) hl)
        refine ⟨_, rfl, .inl ⟨rfl, _, SqL.of h2⟩, _, rfl, l0, _, _, rfl, rfl, h2, (by rw [List.length_map]; exact size6 tl), ?_⟩
        refine ⟨_, _, rfl, same_put s2 hl0, ?_⟩
        rw [upd_same, List.map_append]
        rfl
      · have e0 : clr (rws (ws.take i)) r = 0 := by simpa using e
        rw [if_pos e0]
        exact ⟨_, _, rfl, s2, h2⟩
    · rintro σ H2 ⟨v, v3, rfl, s2, h2⟩
      rw [List.length_map, List.take_length] at h2
      exact ⟨_, rfl, k _ _ s2 hl0 h2⟩
theorem ok_sum (F : FnP K "_law_sum" "_law_sum" s_sumL f fd) : FnOk P w K mg base CX0 1 f fd ["_law_words", "_law_number_here"] sp_sum := by
  have nd := sc_sumL.nd
  refine fnok F sc_sumL (fun vs H Q E h => ?_) (fun cdv A outer s H vs Q E hr h => ?_)
  · obtain ⟨a, cs, x, rfl, _⟩ := h
    rfl
  · obtain ⟨a, cs, x, rfl, hS, hl, k⟩ := h
    refine ⟨_, (pss_cons (ps_set (i := 2) nd rfl (Or.inl rfl) pe_int)
  (pss_cons (ps_for PassesOwn.never rfl (pi_range1 (by rfl) T.range (pa_cons (pe_callB call_lenQ (by rfl) T.len PySem.boot_len (pa_cons (pv 0) pa_nil)) pa_nil)) (pg_name (i := 3) nd rfl (Or.inl rfl))
    (pss_one (ps_if (pt_cmpR op_eq (pe_op on_and (pe_op on_shr (pv 1) (pv 3)) pe_int) pe_int (nomark _))
      (pss_one (ps_set (i := 2) nd rfl (Or.inl rfl) (pe_op on_xor (pv 2) (pe_ix ix_q (pv 0) (pv 3) (fun _ _ => rfl)))))
      pss_nil)))
  (pss_one (ps_ret (pv 2))))), ?_⟩
    refine ⟨_, rfl, a, _, rfl, hS, _, rfl, (by omega), (by rw [List.length_map]; omega), for_range (n := (cs.map vN).length) (fun i σ H2 => ∃ v, σ = [some (.ref a), some (vN x), some (vN (imf cs x i)), v] ∧ H2 = H) ⟨none, rfl, rfl⟩ ?_ ?_⟩
    · rintro i σ H2 hi ⟨v, rfl, rfl⟩
      rw [List.length_map] at hi
      rw [show (0 : Int) + (i : Int) = (i : Int) by omega]
      have hg : (cs.map vN)[i]? = some (vN (cs.getD i 0)) := by
        rw [List.getElem?_map, List.getElem?_eq_getElem hi, List.getD_eq_getElem?_getD, List.getElem?_eq_getElem hi]
        rfl
      refine ⟨_, rfl, _, rfl, _, _, rfl, rfl, _, 1, rfl, rfl, rfl, _, rfl, ?_⟩
      rw [dec_bit, imf_succ]
      cases q : x.testBit i with
      | true => exact iteT ⟨_, rfl, _, rfl, _, rfl, a, _, i, _, rfl, rfl, hS, hg, _, _, rfl, rfl, _, rfl, rfl⟩
      | false => exact iteF ⟨_, rfl, rfl⟩
    · rintro σ H2 ⟨v, rfl, rfl⟩
      refine ⟨_, rfl, ?_⟩
      rw [List.length_map]
      exact k
theorem ok_word (F : FnP K "_law_word" "_law_word" s_wordL f fd) (D_drawL : Dn P w K mg base 1 "_law_draw" ["_law_tape", "_law_limit"] sp_draw) : FnOk P w K mg base CX0 2 f fd ["_law_tape", "_law_bits"] sp_word := by
  have nd := sc_wordL.nd
  refine fnok F sc_wordL (fun vs H Q E h => ?_) (fun cdv A outer s H vs Q E hr h => ?_)
  · obtain ⟨p, lc, N, b, rfl, _⟩ := h
    rfl
  · obtain ⟨p, lc, N, b, rfl, hp, hb, hN, k⟩ := h
    refine ⟨_, (pss_cons (ps_if (pt_cmpR op_eq (pv 1) pe_int (nomark _))
    (pss_one (ps_ret pe_int))
    pss_nil)
  (pss_cons (ps_set (i := 2) nd rfl (Or.inl rfl) (pe_d D_drawL hr (pa_cons (pv 0) (pa_cons pe_int pa_nil))))
  (pss_cons (ps_if (pt_cmpR op_eq (pv 2) pe_int (nomark _))
    (pss_one (ps_ret pe_int))
    pss_nil)
  (pss_cons (ps_if (pt_cmpR op_eq (pv 2) pe_int (nomark _))
    (pss_one (ps_ret (pe_op on_shl pe_int (pe_d D_drawL hr (pa_cons (pv 0) (pa_cons (pv 1) pa_nil))))))
    pss_nil)
  (pss_one (ps_ret (pe_ifExp (pt_cmpR op_eq (pv 2) pe_int (nomark _)) (pe_op on_sub (pe_op on_shl pe_int (pv 1)) pe_int) (pe_d D_drawL hr (pa_cons (pv 0) (pa_cons (pe_op on_shl pe_int (pv 1)) pa_nil)))))))))), ?_⟩
    have hN' : N + 2 ≤ 1099511627776 := hN
    have o1 : blen 1 ≤ 1000000 := by rw [blen_one]; decide
    refine ⟨_, rfl, rfl, _, rfl, br (fun e => k _ 0 (Nat.two_pow_pos _) (hp.mono (by omega)) (Kp.refl H)) (fun e => ?_)⟩
    have b0 : 0 < b := Nat.pos_of_ne_zero fun z => by subst z; cases e
    refine ⟨_, rfl, p, lc, N, 6, rfl, hp, (by decide), (by decide), (by show N + 1 ≤ 1099511627776; omega), fun H1 st hst hp1 kp1 => ?_⟩
    refine ⟨_, rfl, rfl, _, rfl, br (fun e => k _ 0 (Nat.two_pow_pos _) (hp1.mono (by omega)) kp1) (fun e1 => ?_)⟩
    refine ⟨_, rfl, rfl, _, rfl, br (fun e2 => ?_) (fun e2 => ?_)⟩
    · have bb : b < 2 ^ 8999 := Nat.lt_of_lt_of_le Nat.lt_two_pow_self (Nat.pow_le_pow_right (by decide) (by omega))
      refine ⟨_, rfl, _, rfl, p, lc, N + 1, b, rfl, hp1, b0, bb, (by show N + 1 + 1 ≤ 1099511627776; omega), fun H2 r hr' hp2 kp2 => ?_⟩
      refine ⟨1, r, rfl, rfl, shl_ok1 o1 (by omega), k _ _ ?_ hp2 (kp1.trans kp2)⟩
      rw [Nat.one_shiftLeft]
      exact Nat.pow_lt_pow_right (by decide) hr'
    · refine ⟨_, rfl, rfl, _, rfl, br (fun e3 => ?_) (fun e3 => ?_)⟩
      · have pp := Nat.two_pow_pos b
        refine ⟨_, rfl, 1, b, rfl, rfl, shl_ok1 o1 (by omega), _, 1, rfl, rfl, (by rw [Nat.one_shiftLeft]; omega), k _ _ ?_ (hp1.mono (by omega)) kp1⟩
        rw [Nat.one_shiftLeft]; omega
      · refine ⟨_, rfl, _, rfl, 1, b, rfl, rfl, shl_ok1 o1 (by omega), p, lc, N + 1, 1 <<< b, rfl, hp1, (by rw [Nat.one_shiftLeft]; exact Nat.two_pow_pos b), pow_big hb, (by show N + 1 + 1 ≤ 1099511627776; omega), fun H2 r hr' hp2 kp2 => ?_⟩
        exact k _ _ (by rw [← Nat.one_shiftLeft]; exact hr') hp2 (kp1.trans kp2)
theorem ok_order (F : FnP K "_law_order" "_law_order" s_orderL f fd) (D_drawL : Dn P w K mg base 1 "_law_draw" ["_law_tape", "_law_limit"] sp_draw) : FnOk P w K mg base CX0 2 f fd ["_law_tape", "_law_many"] sp_order := by
  have nd := sc_orderL.nd
  refine fnok F sc_orderL (fun vs H Q E h => ?_) (fun cdv A outer s H vs Q E hr h => ?_)
  · obtain ⟨p, lc, N, b, rfl, _⟩ := h
    rfl
  · obtain ⟨p, lc, N, b, rfl, hp, hb, hN, k⟩ := h
    refine ⟨_, (pss_cons (ps_set (i := 2) nd rfl (Or.inl rfl) (pe_lst pa_nil))
  (pss_cons (ps_for PassesOwn.never rfl (pi_range1 (by rfl) T.range (pa_cons (pv 1) pa_nil)) (pg_name (i := 3) nd rfl (Or.inl rfl))
    (pss_one (ps_expr (pe_bm PySem.F.plainAttrs_list PySem.F.slot_list_insert PySem.F.type_list_insert mt_insert (pv 2) (pa_cons (pe_d D_drawL hr (pa_cons (pv 0) (pa_cons (pe_op on_add (pv 3) pe_int) pa_nil))) (pa_cons (pv 3) pa_nil))))))
  (pss_one (ps_ret (pv 2))))), ?_⟩
    have hN' : N + 1000 ≤ 1099511627776 := hN
    refine ⟨(by decide), fun l hl => ?_⟩
    have np := hp.ne hl
    refine ⟨_, rfl, _, rfl, (by omega), (by omega), for_range (n := b) (fun i σ H2 => ∃ v o, σ = [some (.ref p), some (vN b), some (.ref l), v] ∧ Tp H2 p lc (N + i) ∧ Kp H H2 ∧ H2 l = some (.lst (o.map vN)) ∧ o.Perm (List.range i)) ⟨none, [], rfl, hp.put np, kp_new (Kp.refl H) hl, upd_same, .refl _⟩ ?_ ?_⟩
    · rintro i σ H2 hi ⟨v, o, rfl, hp2, kp2, h2, ho⟩
      rw [show (0 : Int) + (i : Int) = (i : Int) by omega]
      have ol : o.length = i := by rw [ho.length_eq, List.length_range]
      refine ⟨_, rfl, .inl ⟨rfl, _, SqL.of h2⟩, _, rfl, _, rfl, i, 1, rfl, rfl, p, lc, N + i, i + 1, rfl, hp2, (by omega), Nat.lt_of_lt_of_le Nat.lt_two_pow_self (Nat.pow_le_pow_right (by decide) (by omega)), (by show N + i + 1 ≤ 1099511627776; omega), fun H3 r hr' hp3 kp3 => ?_⟩
      refine ⟨_, rfl, l, _, r, _, rfl, rfl, kp3 _ _ h2 rfl, (by rw [List.length_map, sizeLine_eq]; omega), (by omega), (by omega), ?_⟩
      rw [Int.toNat_natCast]
      refine ⟨_, o.take r ++ [i] ++ o.drop r, rfl, hp3.put np, kp_put (kp2.trans kp3) hl, ?_, ?_⟩
      · rw [upd_same, List.map_append, List.map_append, List.map_take, List.map_drop]; rfl
      · rw [List.range_succ]
        exact (ins_perm'.trans (ho.cons i)).trans (List.perm_append_comm (l₁ := [i]))
    · rintro σ H2 ⟨v, o, rfl, hp2, kp2, h2, ho⟩
      exact ⟨_, rfl, k _ _ o ho hl h2 (hp2.mono (by omega)) kp2⟩
end
end LaneX
set_option Elab.async false
set_option linter.all false
set_option maxRecDepth 100000
set_option maxHeartbeats 4000000
namespace LaneX
open PySem PySem.Spec PyProof.Rows L2
def sp_mixture : Sp := fun vs H Q _ => ∃ (p lc : Addr) (N b : Nat), vs = [.ref p, vN b] ∧ Tp H p lc N ∧ b ≤ 1000 ∧ N + 10000 ≤ TOP ∧ ∀ (H' : Hp) (q : Addr) (M : List Nat), Mix b M → H q = none → H' q = some (.lst (M.map vN)) → Tp H' p lc (N + 10000) → Kp H H' → Q (.ref q) H'
def sp_blend : Sp := fun vs H Q _ => ∃ (p lc a : Addr) (N ex : Nat) (W : List Nat), vs = [.ref p, .ref a, vN ex] ∧ Tp H p lc N ∧ Tq H a (W.map vN) ∧ W.length ≤ 1000 ∧ ex ≤ 1000 ∧ N + 20000 ≤ TOP ∧
  ∀ (H' : Hp) (q : Addr) (F : List Nat), F.length = W.length + ex → (∀ x, Spn F x ↔ Spn W x) → H q = none → H' q = some (.lst (F.map vN)) → Tp H' p lc (N + 20000) → Kp H H' → Q (.ref q) H'
theorem map_upd {w : Nat → Nat} {x i : Nat} (g : Nat → Nat → Nat) : (List.range (i + 1)).map (fun j => g (if j = i then x else w j) j) = (List.range i).map (fun j => g (w j) j) ++ [g x i] := by
  rw [List.range_succ, List.map_append]
  congr 1
  · refine List.map_congr_left fun j hj => ?_
    have := List.mem_range.mp hj
    rw [if_neg (by omega)]
  · simp
theorem blen_lt' {w b : Nat} (h : w < 2 ^ b) (hb : b ≤ 1000) : blen w ≤ 1000 := Nat.le_trans (blen_le.mpr h) hb
theorem shr_blen (w i : Nat) : blen (w >>> i) ≤ blen w := by rw [blen_shr]; omega
section
variable {P : Program} {w : World} {K : PySem.W.Frag} {mg : Str → Option Value} {base : Heap} {f : Addr} {fd : FuncData} (T : Bt mg)
include T
theorem ok_mixture (F : FnP K "_law_mixture" "_law_mixture" s_mixtureL f fd) (D_drawL : Dn P w K mg base 1 "_law_draw" ["_law_tape", "_law_limit"] sp_draw) (D_orderL : Dn P w K mg base 2 "_law_order" ["_law_tape", "_law_many"] sp_order) (D_wordL : Dn P w K mg base 2 "_law_word" ["_law_tape", "_law_bits"] sp_word) (D_sumL : Dn P w K mg base 1 "_law_sum" ["_law_words", "_law_number_here"] sp_sum) : FnOk P w K mg base CX0 3 f fd ["_law_tape", "_law_bits"] sp_mixture := by
  have nd := sc_mixtureL.nd
  refine fnok F sc_mixtureL (fun vs H Q E h => ?_) (fun cdv A outer s H vs Q E hr h => ?_)
  · obtain ⟨p, lc, N, b, rfl, _⟩ := h
    rfl
  · obtain ⟨p, lc, N, b, rfl, hp, hb, hN, k⟩ := h
    refine ⟨_, (pss_cons (ps_par (i := 2) (j := 3) (by rfl) nd rfl rfl (by decide) rfl rfl (pa_cons (pe_d D_drawL hr (pa_cons (pv 0) (pa_cons pe_int pa_nil))) (pa_cons (pe_d D_orderL hr (pa_cons (pv 0) (pa_cons (pv 1) pa_nil))) pa_nil)) (by rfl))
  (pss_cons (ps_if (pt_cmpR op_eq (pv 2) pe_int (nomark _))
    (pss_one (ps_ret (pe_lc (own := [("_law_at", 6)]) (g := gName 6) (by rfl) nd (pi_seq (pv 3)) (blkOk_by (own := [("_law_at", 6)]) (N := ["_law_tape", "_law_bits", "_law_sort", "_law_order_here", "_law_high", "_law_low", "_law_at", "_law_word_here", "_law_mixed"]) (sc := defScope s_mixtureL) (by decide +kernel)) (fun _ _ _ _ _ => (pg_name (i := 6) nd rfl (Or.inl rfl))) (fun _ _ _ _ _ => pts_nil) (fun _ _ _ _ _ => (pe_op on_shl pe_int (pv 6))))))
    pss_nil)
  (pss_cons (ps_asg (pe_tup (pa_cons (pe_lst pa_nil) (pa_cons (pe_lst pa_nil) pa_nil))) (pg_tup (by rfl) (pgs_cons (pg_name (i := 4) nd rfl (Or.inr rfl)) (pgs_cons (pg_name (i := 5) nd rfl (Or.inl rfl)) pgs_nil))))
  (pss_cons (ps_for PassesOwn.never rfl (pi_range1 (by rfl) T.range (pa_cons (pv 1) pa_nil)) (pg_name (i := 6) nd rfl (Or.inl rfl))
    (pss_cons (ps_set (i := 7) nd rfl (Or.inl rfl) (pe_ifExp (pt_cmpR op_gt (pv 2) pe_int (nomark _)) (pe_d D_drawL hr (pa_cons (pv 0) (pa_cons (pe_op on_shl pe_int (pv 1)) pa_nil))) (pe_d D_wordL hr (pa_cons (pv 0) (pa_cons (pv 1) pa_nil)))))
    (pss_cons (ps_expr (pe_bm PySem.F.plainAttrs_list PySem.F.slot_list_append PySem.F.type_list_append mt_append (pv 4) (pa_cons (pe_op on_or (pe_op on_shl pe_int (pv 6)) (pe_op on_shl (pe_op on_shr (pv 7) (pe_op on_add (pv 6) pe_int)) (pe_op on_add (pv 6) pe_int))) pa_nil)))
    (pss_one (ps_expr (pe_bm PySem.F.plainAttrs_list PySem.F.slot_list_append PySem.F.type_list_append mt_append (pv 5) (pa_cons (pe_op on_or (pe_op on_shl pe_int (pv 6)) (pe_op on_and (pv 7) (pe_op on_sub (pe_op on_shl pe_int (pv 6)) pe_int))) pa_nil)))))))
  (pss_cons (ps_set (i := 8) nd rfl (Or.inr rfl) (pe_lc (own := [("_law_word_here", 7)]) (g := gName 7) (by rfl) nd (pi_seq (pv 5)) (blkOk_by (own := [("_law_word_here", 7)]) (N := ["_law_tape", "_law_bits", "_law_sort", "_law_order_here", "_law_high", "_law_low", "_law_at", "_law_word_here", "_law_mixed"]) (sc := defScope s_mixtureL) (by decide +kernel)) (fun _ _ _ _ _ => (pg_name (i := 7) nd rfl (Or.inl rfl))) (fun _ _ _ _ _ => pts_nil) (fun _ _ _ _ _ => (pe_d D_sumL hr (pa_cons (pv 4) (pa_cons (pv 7) pa_nil))))))
  (pss_one (ps_ret (pe_lc (own := [("_law_at", 6)]) (g := gName 6) (by rfl) nd (pi_seq (pv 3)) (blkOk_by (own := [("_law_at", 6)]) (N := ["_law_tape", "_law_bits", "_law_sort", "_law_order_here", "_law_high", "_law_low", "_law_at", "_law_word_here", "_law_mixed"]) (sc := defScope s_mixtureL) (by decide +kernel)) (fun _ _ _ _ _ => (pg_name (i := 6) nd rfl (Or.inl rfl))) (fun _ _ _ _ _ => pts_nil) (fun _ _ _ _ _ => (pe_ix ix_q (pv 8) (pv 6) (fun _ _ => rfl))))))))))), ?_⟩
    have hN' : N + 10000 ≤ 1099511627776 := hN
    have o1 : blen 1 ≤ 1000000 := by rw [blen_one]; decide
    refine ⟨_, rfl, p, lc, N, 4, rfl, hp, (by decide), (by decide), (by show N + 1 ≤ 1099511627776; omega), fun H1 st hst hp1 kp1 => ?_⟩
    refine ⟨_, rfl, _, rfl, p, lc, N + 1, b, rfl, hp1, hb, (by show N + 1 + 1000 ≤ 1099511627776; omega), fun H2 ro o ho hro h2 hp2 kp2 => ⟨_, _, rfl, ?_⟩⟩
    have ol : o.length = b := by rw [ho.length_eq, List.length_range]
    have olt : ∀ x ∈ o, x < b := fun x hx => List.mem_range.mp (ho.mem_iff.mp hx)
    have kp12 := kp1.trans kp2
    refine ⟨_, rfl, rfl, _, rfl, br (fun e => ?_) (fun e => ?_)⟩
    · refine ⟨_, rfl, lc_pure o vN (fun _ => true) (fun x => vN (1 <<< x)) (.inl h2) (by omega) (fun x H' hx s => ?_) (fun D H3 hD s3 h3 => ?_)⟩
      · intro Z Nx z1 z2
        have := olt x hx
        exact ⟨rfl, _, rfl, 1, x, rfl, rfl, shl_ok1 o1 (by omega), z1 rfl _ (Same.refl _)⟩
      · rw [filt_true] at h3
        refine k H3 D (o.map fun x => 1 <<< x) ((mix_units b).perm (ho.map _)) (kp12.free _ hD) (by rw [h3, List.map_map]; rfl) ((hp2.same s3).mono (by omega)) (kp12.trans (Kp.of s3))
    · refine ⟨(by decide), fun lh hlh => ⟨(by decide), fun ll hll => ⟨(by show 2 ≤ sizeLine; decide), fun x0 hx0 => ⟨x0, _, rfl, SqT.of upd_same, rfl, _, _, rfl, _, _, rfl, rfl, ?_⟩⟩⟩⟩
      have kp3 : Kp H (upd (upd (upd H2 lh (.lst [])) ll (.lst [])) x0 (.tup [.ref lh, .ref ll])) := kp_new (kp_new (kp_new kp12 hlh) hll) hx0
      have hh3 : upd (upd (upd H2 lh (.lst [])) ll (.lst [])) x0 (.tup [.ref lh, .ref ll]) lh = some (.lst []) := upd_new hx0 (upd_new hll upd_same)
      have hl3 : upd (upd (upd H2 lh (.lst [])) ll (.lst [])) x0 (.tup [.ref lh, .ref ll]) ll = some (.lst []) := upd_new hx0 upd_same
      have ho3 : upd (upd (upd H2 lh (.lst [])) ll (.lst [])) x0 (.tup [.ref lh, .ref ll]) ro = some (.lst (o.map vN)) := upd_new hx0 (upd_new hll (upd_new hlh h2))
      have hp3 : Tp (upd (upd (upd H2 lh (.lst [])) ll (.lst [])) x0 (.tup [.ref lh, .ref ll])) p lc (N + 1 + 1000) := hp2.same (same_new (same_new (same_new0 hlh) hll) hx0)
      have nhl : lh ≠ ll := ne_of_none upd_same hll
      have nro1 : ro ≠ lh := ne_of_none h2 hlh
      have nro2 : ro ≠ ll := ne_of_none (upd_new hlh h2) hll
      have hlh0 : H lh = none := kp12.free _ hlh
      have hll0 : H ll = none := kp12.free _ (upd_free hll)
      generalize upd (upd (upd H2 lh (.lst [])) ll (.lst [])) x0 (.tup [.ref lh, .ref ll]) = H3 at *
      have n1 := hp.ne hlh0
      have n2 := hp.ne hll0
      refine ⟨_, rfl, _, rfl, (by omega), (by omega), for_range (n := b) (fun i σ H4 => ∃ (v6 v7 : Option V) (ws : Nat → Nat), σ = [some (.ref p), some (vN b), some (vN st), some (.ref ro), some (.ref lh), some (.ref ll), v6, v7, none] ∧ Tp H4 p lc (N + 1001 + 2 * i) ∧ Kp H H4 ∧ H4 ro = some (.lst (o.map vN)) ∧ (∀ j, ws j < 2 ^ b) ∧ H4 lh = some (.lst (((List.range i).map fun j => hiw (ws j) j).map vN)) ∧ H4 ll = some (.lst (((List.range i).map fun j => low' (ws j) j).map vN)))
        ⟨none, none, fun _ => 0, rfl, hp3.mono (by omega), kp3, ho3, fun _ => Nat.two_pow_pos b, hh3, hl3⟩ ?_ ?_⟩
      · rintro i σ H4 hi ⟨v6, v7, ws, rfl, hp4, kp4, ho4, hws, hh4, hl4⟩
        rw [show (0 : Int) + (i : Int) = (i : Int) by omega]
        have body : ∀ (H5 : Hp) (x : Nat), x < 2 ^ b → Tp H5 p lc (N + 1001 + 2 * i + 2) → Kp H4 H5 → ∀ D : Ends, D.nx = (fun σ H4 => ∃ (v6 v7 : Option V) (ws : Nat → Nat), σ = [some (.ref p), some (vN b), some (vN st), some (.ref ro), some (.ref lh), some (.ref ll), v6, v7, none] ∧ Tp H4 p lc (N + 1001 + 2 * (i + 1)) ∧ Kp H H4 ∧ H4 ro = some (.lst (o.map vN)) ∧ (∀ j, ws j < 2 ^ b) ∧ H4 lh = some (.lst (((List.range (i + 1)).map fun j => hiw (ws j) j).map vN)) ∧ H4 ll = some (.lst (((List.range (i + 1)).map fun j => low' (ws j) j).map vN))) →
            D.nx [some (.ref p), some (vN b), some (vN st), some (.ref ro), some (.ref lh), some (.ref ll), some (vN i), some (vN x), none] (upd (upd H5 lh (.lst (((List.range i).map fun j => hiw (ws j) j).map vN ++ [vN (hiw x i)]))) ll (.lst (((List.range i).map fun j => low' (ws j) j).map vN ++ [vN (low' x i)]))) := fun H5 x hx hp5 kp5 D hD => by
          rw [hD]
          refine ⟨_, _, fun j => if j = i then x else ws j, rfl, ((hp5.put n1).put n2).mono (by omega), kp_put (kp_put (kp4.trans kp5) hlh0) hll0, ?_, fun j => ?_, ?_, ?_⟩
          · exact (upd_ne nro2).trans ((upd_ne nro1).trans (kp5 _ _ ho4 rfl))
          · show (if j = i then x else ws j) < 2 ^ b
            split
            · exact hx
            · exact hws j
          · rw [upd_ne nhl, upd_same, map_upd, List.map_append]; rfl
          · rw [upd_same, map_upd, List.map_append]; rfl
        have tail : ∀ (H5 : Hp) (x : Nat), x < 2 ^ b → Kp H4 H5 → blen (x >>> (i + 1)) ≤ 1000000 ∧ H5 lh = some (.lst (((List.range i).map fun j => hiw (ws j) j).map vN)) ∧ H5 ll = some (.lst (((List.range i).map fun j => low' (ws j) j).map vN)) := fun H5 x hx kp5 => ⟨Nat.le_trans (shr_blen _ _) (Nat.le_trans (blen_lt' hx hb) (by decide)), kp5 _ _ hh4 rfl, kp5 _ _ hl4 rfl⟩
        have p1 : 1 ≤ 1 <<< i := by rw [Nat.one_shiftLeft]; exact Nat.two_pow_pos i
        refine ⟨_, rfl, _, _, rfl, rfl, _, rfl, br (fun e1 => ?_) (fun e1 => ?_)⟩
        · refine ⟨_, rfl, _, rfl, 1, b, rfl, rfl, shl_ok1 o1 (by omega), p, lc, _, 1 <<< b, rfl, hp4, (by rw [Nat.one_shiftLeft]; exact Nat.two_pow_pos b), pow_big hb, (by show N + 1001 + 2 * i + 1 ≤ 1099511627776; omega), fun H5 x hx hp5 kp5 => ?_⟩
          rw [Nat.one_shiftLeft] at hx
          obtain ⟨b1, b2, b3⟩ := tail H5 x hx kp5
          refine ⟨_, rfl, .inl ⟨rfl, _, SqL.of b2⟩, _, rfl, 1, i, rfl, rfl, shl_ok1 o1 (by omega), _, rfl, _, rfl, i, 1, rfl, rfl, x, i + 1, rfl, rfl, _, rfl, i, 1, rfl, rfl, _, _, rfl, rfl, shl_ok1 b1 (by omega), _, _, rfl, rfl, lh, _, _, rfl, rfl, b2, (by rw [List.length_map, List.length_map, List.length_range, sizeLine_eq]; omega), ?_⟩
          refine ⟨_, rfl, .inl ⟨rfl, _, SqL.of ((upd_ne nhl.symm).trans b3)⟩, _, rfl, 1, i, rfl, rfl, shl_ok1 o1 (by omega), _, rfl, _, rfl, 1, i, rfl, rfl, shl_ok1 o1 (by omega), _, 1, rfl, rfl, p1, _, _, rfl, rfl, _, _, rfl, rfl, ll, _, _, rfl, rfl, (upd_ne nhl.symm).trans b3, (by rw [List.length_map, List.length_map, List.length_range, sizeLine_eq]; omega), ?_⟩
          exact body H5 x hx (hp5.mono (by omega)) kp5 _ rfl
        · refine ⟨_, rfl, _, rfl, p, lc, _, b, rfl, hp4, hb, (by show N + 1001 + 2 * i + 2 ≤ 1099511627776; omega), fun H5 x hx hp5 kp5 => ?_⟩
          obtain ⟨b1, b2, b3⟩ := tail H5 x hx kp5
          refine ⟨_, rfl, .inl ⟨rfl, _, SqL.of b2⟩, _, rfl, 1, i, rfl, rfl, shl_ok1 o1 (by omega), _, rfl, _, rfl, i, 1, rfl, rfl, x, i + 1, rfl, rfl, _, rfl, i, 1, rfl, rfl, _, _, rfl, rfl, shl_ok1 b1 (by omega), _, _, rfl, rfl, lh, _, _, rfl, rfl, b2, (by rw [List.length_map, List.length_map, List.length_range, sizeLine_eq]; omega), ?_⟩
          refine ⟨_, rfl, .inl ⟨rfl, _, SqL.of ((upd_ne nhl.symm).trans b3)⟩, _, rfl, 1, i, rfl, rfl, shl_ok1 o1 (by omega), _, rfl, _, rfl, 1, i, rfl, rfl, shl_ok1 o1 (by omega), _, 1, rfl, rfl, p1, _, _, rfl, rfl, _, _, rfl, rfl, ll, _, _, rfl, rfl, (upd_ne nhl.symm).trans b3, (by rw [List.length_map, List.length_map, List.length_range, sizeLine_eq]; omega), ?_⟩
          exact body H5 x hx hp5 kp5 _ rfl
      · rintro σ H4 ⟨v6, v7, ws, rfl, hp4, kp4, ho4, hws, hh4, hl4⟩
        have mH := mix_highs (b := b) fun i _ => hws i
        have mL := mix_lows (b := b) ws
        generalize ((List.range b).map fun j => hiw (ws j) j) = A at *
        generalize ((List.range b).map fun j => low' (ws j) j) = B at *
        have lA := mH.len
        have lB := mL.len
        refine ⟨_, rfl, lc_pure B vN (fun _ => true) (fun x => vN (img A x)) (.inl hl4) (by omega) (fun x H' hx s => ?_) (fun D H5 hD s5 h5 => ?_)⟩
        · intro Z Nx z1 z2
          exact ⟨rfl, _, rfl, _, rfl, lh, A, x, rfl, .inl (s _ _ hh4), by omega, z1 rfl _ (Same.refl _)⟩
        · rw [filt_true] at h5
          have mM := mix_comp mH mL
          have h5' : H5 D = some (.lst ((B.map (img A)).map vN)) := by rw [h5, List.map_map]; rfl
          have lM := mM.len
          generalize B.map (img A) = M at *
          refine ⟨_, rfl, lc_pure o vN (fun _ => true) (fun x => vN (M.getD x 0)) (.inl (s5 _ _ ho4)) (by omega) (fun x H' hx s => ?_) (fun D2 H6 hD2 s6 h6 => ?_)⟩
          · intro Z Nx z1 z2
            have xl := olt x hx
            have hg : (M.map vN)[x]? = some (vN (M.getD x 0)) := by
              rw [List.getElem?_map, List.getElem?_eq_getElem (by omega), List.getD_eq_getElem?_getD, List.getElem?_eq_getElem (by omega)]; rfl
            exact ⟨rfl, _, rfl, _, rfl, D, _, x, _, rfl, rfl, .inl (s _ _ h5'), hg, z1 rfl _ (Same.refl _)⟩
          · rw [filt_true] at h6
            have s46 := s5.trans s6
            refine k H6 D2 (o.map fun x => M.getD x 0) (mM.perm (perm_order ho lM)) (kp4.free _ (same_free s5 hD2)) (by rw [h6, List.map_map]; rfl) ((hp4.same s46).mono (by omega)) (kp4.trans (Kp.of s46))
theorem ok_blend (F : FnP K "_law_blend" "_law_blend" s_blendL f fd) (D_drawL : Dn P w K mg base 1 "_law_draw" ["_law_tape", "_law_limit"] sp_draw) (D_mixtureL : Dn P w K mg base 3 "_law_mixture" ["_law_tape", "_law_bits"] sp_mixture) (D_wordL : Dn P w K mg base 2 "_law_word" ["_law_tape", "_law_bits"] sp_word) (D_sumL : Dn P w K mg base 1 "_law_sum" ["_law_words", "_law_number_here"] sp_sum) : FnOk P w K mg base CX0 4 f fd ["_law_tape", "_law_words", "_law_extra"] sp_blend := by
  have nd := sc_blendL.nd
  refine fnok F sc_blendL (fun vs H Q E h => ?_) (fun cdv A outer s H vs Q E hr h => ?_)
  · obtain ⟨p, lc, a, N, ex, W, rfl, _⟩ := h
    rfl
  · obtain ⟨p, lc, a, N, ex, W, rfl, hp, hS, hW, hex, hN, k⟩ := h
    refine ⟨_, (pss_cons (ps_set (i := 3) nd rfl (Or.inl rfl) (pe_d D_mixtureL hr (pa_cons (pv 0) (pa_cons (pe_callB call_lenQ (by rfl) T.len PySem.boot_len (pa_cons (pv 1) pa_nil)) pa_nil))))
  (pss_cons (ps_setLc (i := 4) (own := [("_law_number_here", 6)]) (g := gName 6) (by rfl) nd rfl rfl (sw_true rfl rfl rfl (by decide +kernel)) (pi_seq (pv 3)) (blkOk_by (own := [("_law_number_here", 6)]) (N := ["_law_tape", "_law_words", "_law_extra", "_law_mixture_here", "_law_found", "_law_k", "_law_number_here"]) (sc := defScope s_blendL) (by decide +kernel)) (fun _ _ _ _ _ => (pg_name (i := 6) nd rfl (Or.inl rfl))) (fun _ _ _ _ _ => pts_nil) (fun _ _ _ _ _ => (pe_d D_sumL hr (pa_cons (pv 1) (pa_cons (pv 6) pa_nil)))))
  (pss_cons (ps_for PassesOwn.never rfl (pi_range1 (by rfl) T.range (pa_cons (pv 2) pa_nil)) (pg_name (i := 5) nd rfl (Or.inl rfl))
    (pss_one (ps_expr (pe_bm PySem.F.plainAttrs_list PySem.F.slot_list_insert PySem.F.type_list_insert mt_insert (pv 4) (pa_cons (pe_d D_drawL hr (pa_cons (pv 0) (pa_cons (pe_op on_add (pe_callB call_lenQ (by rfl) T.len PySem.boot_len (pa_cons (pv 4) pa_nil)) pe_int) pa_nil))) (pa_cons (pe_d D_sumL hr (pa_cons (pv 1) (pa_cons (pe_d D_wordL hr (pa_cons (pv 0) (pa_cons (pe_callB call_lenQ (by rfl) T.len PySem.boot_len (pa_cons (pv 1) pa_nil)) pa_nil))) pa_nil))) pa_nil))))))
  (pss_one (ps_ret (pv 4)))))), ?_⟩
    have hN' : N + 20000 ≤ 1099511627776 := hN
    refine ⟨_, rfl, _, rfl, a, _, rfl, hS, p, lc, N, (W.map vN).length, rfl, hp, (by rw [List.length_map]; exact hW), (by show N + 10000 ≤ 1099511627776; omega), fun H1 q M mM hq h1 hp1 kp1 => ?_⟩
    rw [List.length_map] at mM
    have lM := mM.len
    refine ⟨_, rfl, lc_pure M vN (fun _ => true) (fun x => vN (img W x)) (.inl h1) (by omega) (fun x H' hx s => ?_) (fun D H2 hD s2 h2 => ?_)⟩
    · intro Z Nx z1 z2
      exact ⟨rfl, _, rfl, _, rfl, a, W, x, rfl, same_tq s (kp_tq kp1 hS), by omega, z1 rfl _ (Same.refl _)⟩
    · rw [filt_true] at h2
      have h2' : H2 D = some (.lst ((M.map (img W)).map vN)) := by rw [h2, List.map_map]; rfl
      have kp2 := kp1.trans (Kp.of s2)
      have hD0 : H D = none := kp1.free _ hD
      have np := hp.ne hD0
      have nqa : ∀ u, H a = some u → a ≠ D := fun u h => ne_of_none h hD0
      refine ⟨_, rfl, _, rfl, (by omega), (by omega), for_range (n := ex) (fun i σ H3 => ∃ v G, σ = [some (.ref p), some (.ref a), some (vN ex), some (.ref q), some (.ref D), v, none] ∧ Tp H3 p lc (N + 10000 + 3 * i) ∧ Kp H H3 ∧ H3 D = some (.lst (G.map vN)) ∧ G.length = W.length + i ∧ ∀ x, Spn G x ↔ Spn W x) ⟨none, M.map (img W), rfl, (hp1.same s2).mono (by omega), kp2, h2', (by rw [List.length_map]; omega), fun x => mM.span rfl x⟩ ?_ ?_⟩
      · rintro i σ H3 hi ⟨v, G, rfl, hp3, kp3, h3, lG, sG⟩
        refine ⟨_, rfl, .inl ⟨rfl, _, SqL.of h3⟩, _, rfl, _, rfl, D, _, rfl, .inl h3, (G.map vN).length, 1, rfl, rfl, p, lc, _, (G.map vN).length + 1, rfl, hp3, (by omega), Nat.lt_of_lt_of_le Nat.lt_two_pow_self (Nat.pow_le_pow_right (by decide) (by rw [List.length_map]; omega)), (by show N + 10000 + 3 * i + 1 ≤ 1099511627776; omega), fun H4 r hr' hp4 kp4 => ?_⟩
        rw [List.length_map] at hr'
        refine ⟨_, rfl, _, rfl, _, rfl, a, _, rfl, kp_tq (kp3.trans kp4) hS, p, lc, _, (W.map vN).length, rfl, hp4, (by rw [List.length_map]; exact hW), (by show N + 10000 + 3 * i + 1 + 2 ≤ 1099511627776; omega), fun H5 x hx hp5 kp5 => ?_⟩
        rw [List.length_map] at hx
        have kp35 := kp4.trans kp5
        refine ⟨a, W, x, rfl, kp_tq (kp3.trans kp35) hS, by omega, D, _, r, _, rfl, rfl, kp35 _ _ h3 rfl, (by rw [List.length_map, sizeLine_eq]; omega), (by omega), (by omega), ?_⟩
        rw [Int.toNat_natCast]
        have pm := ins_perm' (l := G) (i := r) (x := img W x)
        refine ⟨_, G.take r ++ [img W x] ++ G.drop r, rfl, (hp5.put np).mono (by omega), kp_put (kp3.trans kp35) hD0, ?_, ?_, fun y => ?_⟩
        · rw [upd_same, List.map_append, List.map_append, List.map_take, List.map_drop]; rfl
        · rw [pm.length_eq]; simp; omega
        · rw [span_more pm ((sG _).mpr (img_in W hx)), sG]
      · rintro σ H3 ⟨v, G, rfl, hp3, kp3, h3, lG, sG⟩
        exact ⟨_, rfl, k _ _ G lG sG hD0 h3 (hp3.mono (by omega)) kp3⟩
end
end LaneX
set_option Elab.async false
set_option linter.all false
set_option maxRecDepth 100000
set_option maxHeartbeats 4000000
namespace LaneX
open PySem PySem.Spec PyProof.Rows L2
/-! ### maps -/
/-- a new map -/
def spNewMap (C : Addr) (b : Nat) (cs : List Nat) (H : Hp) (Q : VK) : Prop := ∀ H' p, Same H H' → H p = none → MapAt C H' p b cs → Q (.ref p) H'
def sp_mcall (C : Addr) : Sp := fun vs H Q _ => ∃ (p : Addr) (b x : Nat) (cs : List Nat), vs = [.ref p, vN x] ∧ MapAt C H p b cs ∧ cs.length ≤ 100000 ∧ x < 2 ^ cs.length ∧ ∀ H', Same H H' → Q (vN (img cs x)) H'
def sp_mul (C : Addr) : Sp := fun vs H Q _ => ∃ (p q : Addr) (g b : Nat) (M N : List Nat), vs = [.ref p, .ref q] ∧ MapAt C H p g M ∧ MapAt C H q b N ∧ M.length = b ∧ (∀ x ∈ M, x < 2 ^ g) ∧ (∀ x ∈ N, x < 2 ^ b) ∧ N.length ≤ 1000 ∧ b ≤ 1000 ∧ g ≤ 1000 ∧ spNewMap C g (N.map (img M)) H Q
/-- one map that can be undone -/
def spMap (C : Addr) (k : Nat → List Nat → Hp → VK → Prop) : Sp := fun vs H Q _ => ∃ (p : Addr) (b : Nat) (M : List Nat), vs = [.ref p] ∧ MapAt C H p b M ∧ Mix b M ∧ b ≤ 1000 ∧ k b M H Q
def sp_invert (C : Addr) : Sp := spMap C fun b M H Q => spNewMap C b (inv b M) H Q
def sp_need_map1 (C : Addr) : Sp := spMap C fun _ _ H Q => ∀ H', Same H H' → Q .non H'
def sp_unit_map (C : Addr) : Sp := fun vs H Q _ => ∃ b : Nat, vs = [vN b] ∧ b ≤ 1000 ∧ spNewMap C b (units b) H Q
/-- a map that can be undone, and a number of slots -/
def spMove (C : Addr) (k : Nat → Nat → List Nat → Hp → VK → Prop) : Sp := fun vs H Q _ => ∃ (p : Addr) (b s : Nat) (M : List Nat), vs = [.ref p, vN s] ∧ MapAt C H p b M ∧ Mix b M ∧ s ≤ b ∧ b ≤ 1000 ∧ k b s M H Q
def sp_need_move (C : Addr) : Sp := spMove C fun _ _ _ H Q => ∀ H' q, Same H H' → Q (.ref q) H'
theorem MapAt.kp {C : Addr} {H H' : Hp} {p : Addr} {b : Nat} {cs : List Nat} (h : MapAt C H p b cs) (s : Kp H H') : MapAt C H' p b cs := by
  obtain ⟨dx, t, h1, h2⟩ := h
  exact ⟨dx, t, s _ _ h1 rfl, s _ _ h2 rfl⟩
theorem mix_blen {b : Nat} {M : List Nat} (h : Mix b M) : ∀ x ∈ M, blen x ≤ b := fun x hx => blen_le.mpr (h.lt x hx)
section
variable {P : Program} {w : World} {K : PySem.W.Frag} {mg : Str → Option Value} {base : Heap} {f : Addr} {fd : FuncData} {CS CR CM : Addr} (T : Bt mg) (TS : SpaceT K mg CS) (TR : SpreadT K mg CR) (TM : MapT K mg CM)
include T
include TM in
theorem ok_mul (F : FnP K "__mul__" "Map.__mul__" s_Map_mul f fd) (D_image_of : Dn P w K mg base 4 "image_of" ["columns", "word"] sp_image_of) (K_Map : Kn P w K mg base 4 CM "Map" ["self", "goal", "columns"] (sp_Map CM)) : FnOk P w K mg base CX0 6 f fd ["self", "other"] (sp_mul CM) := by
  have nd := sc_Map_mul.nd
  refine fnok F sc_Map_mul (fun vs H Q E h => ?_) (fun cdv A outer s H vs Q E hr h => ?_)
  · obtain ⟨p, q, g, b, M, N, rfl, _⟩ := h
    rfl
  · obtain ⟨p, q, g, b, M, N, rfl, hp, hq, lM, bM, bN, lN, hb, hg, k⟩ := h
    refine ⟨_, (pss_cons (ps_if (PW.pt (pw_or (pt_not (pt_val (pe_callB call_isi (by rfl) T.isinstance (by decide +kernel) (pa_cons (pv 1) (pa_cons (pe_glob (v := .ref CM) (by rfl) TM.gl rfl) pa_nil))))) (pw_or1 (pt_cmpR op_ne (pe_fld (pv 1) rfl) (pe_fld (pv 0) rfl) (nomark _)))))
    (pss_one ps_never)
    pss_nil)
  (pss_one (ps_ret (pe_k K_Map hr (pa_cons (pe_fld (pv 0) rfl) (pa_cons (pe_lc (own := [("column", 2)]) (g := gName 2) (by rfl) nd (pi_seq (pe_fld (pv 1) rfl)) (blkOk_by (own := [("column", 2)]) (N := ["self", "other", "column"]) (sc := defScope s_Map_mul) (by decide +kernel)) (fun _ _ _ _ _ => (pg_name (i := 2) nd rfl (Or.inl rfl))) (fun _ _ _ _ _ => pts_nil) (fun _ _ _ _ _ => (pe_d D_image_of hr (pa_cons (pe_fldK (K := K) (pv 0) rfl) (pa_cons (pv 2) pa_nil))))) pa_nil)))))), ?_⟩
    obtain ⟨dx, t, h1, h2⟩ := hp
    obtain ⟨dy, u, g1, g2⟩ := hq
    refine ⟨_, rfl, _, _, _, _, _, rfl, .own _, TM.ty g1, TM.me, _, rfl, iteF ?_⟩
    refine ⟨_, rfl, q, CM, dy, _, vN b, rfl, g1, TM.cl, TM.ng, rfl, _, rfl, p, CM, dx, _, vN M.length, rfl, h1, TM.cl, TM.ns, rfl, rfl, _, rfl, ?_⟩
    rw [lM, show (!decide (vN b = vN b)) = false by simp]
    refine iteF ?_
    refine ⟨_, rfl, p, CM, dx, _, vN g, rfl, h1, TM.cl, TM.ng, rfl, ?_⟩
    refine ⟨_, rfl, q, CM, dy, _, .ref u, rfl, g1, TM.cl, TM.nc, rfl, lc_pure N vN (fun _ => true) (fun x => vN (img M x)) (.inr g2) (by omega) (fun x H' hx s => ?_) (fun D H2 hD s2 e2 => ?_)⟩
    · intro Z Nx z1 z2
      refine ⟨rfl, _, rfl, p, CM, dx, _, .ref t, rfl, s _ _ h1, TM.cl, TM.nc, rfl, _, rfl, t, M, x, rfl, .inr (s _ _ h2), (by omega), (by rw [lM]; exact bN x hx), fun H3 s3 => ?_⟩
      exact z1 rfl _ s3
    · rw [filt_true] at e2
      exact mk_Map (cs := N.map (img M)) (.inl (by rw [e2, List.map_map]; rfl)) (fun x hx => by
        obtain ⟨y, _, rfl⟩ := List.mem_map.mp hx
        exact blen_le.mpr (imf_lt bM _ _)) (fun H' p s3 hp hA => k _ _ (s2.trans s3) (same_free s2 hp) hA)
include TM in
theorem ok_need_one (F : FnP K "need_one_to_one" "need_one_to_one" s_need_one_to_one f fd) (D_kernel_rows : Dn P w K mg base 5 "kernel_rows" ["columns"] sp_kernel_rows) : FnOk P w K mg base CX0 6 f fd ["change"] (sp_need_map1 CM) := by
  have nd := sc_need_one_to_one.nd
  refine fnok F sc_need_one_to_one (fun vs H Q E h => ?_) (fun cdv A outer s H vs Q E hr h => ?_)
  · obtain ⟨p, b, M, rfl, _⟩ := h
    rfl
  · obtain ⟨p, b, M, rfl, ⟨dx, t, h1, h2⟩, mM, hb, k⟩ := h
    refine ⟨_, (pss_cons (ps_set (i := 1) nd rfl (Or.inl rfl) (pe_d D_kernel_rows hr (pa_cons (pe_fld (pv 0) rfl) pa_nil)))
  (pss_one (ps_if (pt_cmpR (op_neE hr.units) (pv 1) (pe_lst pa_nil) (nomark _))
    (pss_one ps_never)
    pss_nil))), ?_⟩
    have lM := mM.len
    have bl := mix_blen mM
    have kl := ker_len_eq M
    rw [mM.rk, lM] at kl
    have k0 : ker M = [] := List.length_eq_zero_iff.mp (by omega)
    refine ⟨_, rfl, p, CM, dx, _, .ref t, rfl, h1, TM.cl, TM.nc, rfl, t, M, rfl, .inr h2, (by omega), fun c hc => Nat.le_trans (bl c hc) (by omega), fun H1 q s1 hq e1 => ?_⟩
    refine ⟨_, rfl, (by decide), fun z hz => ⟨q, z, ker M, rfl, rfl, upd_new hz e1, upd_same, _, rfl, ?_⟩⟩
    rw [k0]
    exact iteF (k _ (same_new s1 hz))
include TM in
theorem ok_need_onto (F : FnP K "need_onto" "need_onto" s_need_onto f fd) (D_spanned : Dn P w K mg base 3 "spanned" ["words"] sp_spanned) : FnOk P w K mg base CX0 4 f fd ["change"] (sp_need_map1 CM) := by
  have nd := sc_need_onto.nd
  refine fnok F sc_need_onto (fun vs H Q E h => ?_) (fun cdv A outer s H vs Q E hr h => ?_)
  · obtain ⟨p, b, M, rfl, _⟩ := h
    rfl
  · obtain ⟨p, b, M, rfl, ⟨dx, t, h1, h2⟩, mM, hb, k⟩ := h
    refine ⟨_, (pss_cons (ps_set (i := 1) nd rfl (Or.inl rfl) (pe_d D_spanned hr (pa_cons (pe_fld (pv 0) rfl) pa_nil)))
  (pss_one (ps_if (pt_cmpR op_lt (pe_callB call_lenQ (by rfl) T.len PySem.boot_len (pa_cons (pv 1) pa_nil)) (pe_fld (pv 0) rfl) (nomark _))
    (pss_one ps_never)
    pss_nil))), ?_⟩
    have lM := mM.len
    have rM : (spn M).length = b := mM.rk
    refine ⟨_, rfl, p, CM, dx, _, .ref t, rfl, h1, TM.cl, TM.nc, rfl, t, M, rfl, .inr h2, (by omega), fun H1 q s1 hq e1 => ?_⟩
    refine ⟨_, rfl, q, _, rfl, .inl e1, _, rfl, p, CM, dx, _, vN b, rfl, s1 _ _ h1, TM.cl, TM.ng, rfl, _, _, rfl, rfl, _, rfl, br (fun z => ?_) (fun _ => k _ s1)⟩
    have := of_decide_eq_true z
    rw [List.length_map, rM] at this
    omega
include TM in
theorem ok_invert (F : FnP K "__invert__" "Map.__invert__" s_Map_invert f fd) (D_need_one_to_one : Dn P w K mg base 6 "need_one_to_one" ["change"] (sp_need_map1 CM)) (D_need_onto : Dn P w K mg base 4 "need_onto" ["change"] (sp_need_map1 CM)) (D_paired : Dn P w K mg base 4 "paired" ["columns"] sp_paired) (D_solved : Dn P w K mg base 2 "solved" ["pairs", "source", "word"] sp_solved) (K_Map : Kn P w K mg base 4 CM "Map" ["self", "goal", "columns"] (sp_Map CM)) : FnOk P w K mg base CX0 7 f fd ["self"] (sp_invert CM) := by
  have nd := sc_Map_invert.nd
  refine fnok F sc_Map_invert (fun vs H Q E h => ?_) (fun cdv A outer s H vs Q E hr h => ?_)
  · obtain ⟨p, b, M, rfl, _⟩ := h
    rfl
  · obtain ⟨p, b, M, rfl, hp, mM, hb, k⟩ := h
    refine ⟨_, (pss_cons (ps_expr (pe_d D_need_one_to_one hr (pa_cons (pv 0) pa_nil)))
  (pss_cons (ps_expr (pe_d D_need_onto hr (pa_cons (pv 0) pa_nil)))
  (pss_cons (ps_set (i := 1) nd rfl (Or.inr rfl) (pe_d D_paired hr (pa_cons (pe_fld (pv 0) rfl) pa_nil)))
  (pss_one (ps_ret (pe_k K_Map hr (pa_cons (pe_fld (pv 0) rfl) (pa_cons (pe_lc (own := [("bit", 2)]) (g := gName 2) (by rfl) nd (pi_range1 (by rfl) T.range (pa_cons (pe_fld (pv 0) rfl) pa_nil)) (blkOk_by (own := [("bit", 2)]) (N := ["self", "pairs", "bit"]) (sc := defScope s_Map_invert) (by decide +kernel)) (fun _ _ _ _ _ => (pg_name (i := 2) nd rfl (Or.inl rfl))) (fun _ _ _ _ _ => pts_nil) (fun _ _ _ _ _ => (pe_d D_solved hr (pa_cons (pv 1) (pa_cons (pe_fldK (K := K) (pv 0) rfl) (pa_cons (pe_op on_shl pe_int (pv 2)) pa_nil)))))) pa_nil)))))))), ?_⟩
    have lM := mM.len
    have bl := mix_blen mM
    refine ⟨_, rfl, p, b, M, rfl, hp, mM, hb, fun H1 s1 => ?_⟩
    refine ⟨_, rfl, p, b, M, rfl, hp.same s1, mM, hb, fun H2 s2 => ?_⟩
    obtain ⟨dx, t, h1, h2⟩ := (hp.same s1).same s2
    refine ⟨_, rfl, p, CM, dx, _, .ref t, rfl, h1, TM.cl, TM.nc, rfl, t, M, rfl, .inr h2, (by omega), fun c hc => Nat.le_trans (bl c hc) (by omega), fun H3 q s3 hq e3 => ?_⟩
    refine ⟨_, rfl, p, CM, dx, _, vN M.length, rfl, s3 _ _ h1, TM.cl, TM.ns, rfl, ?_⟩
    refine ⟨_, rfl, p, CM, dx, _, vN b, rfl, s3 _ _ h1, TM.cl, TM.ng, rfl, b, rfl, (by omega), (by omega), lc_pureR (n := b) (fun _ => true) (fun i => vN (slv M (1 <<< i))) (by omega) (fun i H' hi s => ?_) (fun D H4 hD s4 e4 => ?_)⟩
    · intro Z Nx z1 z2
      have ul : (1 <<< i) < 2 ^ b := by rw [Nat.one_shiftLeft]; exact Nat.pow_lt_pow_right (by decide) hi
      refine ⟨rfl, _, rfl, _, rfl, p, CM, dx, _, vN M.length, rfl, s _ _ (s3 _ _ h1), TM.cl, TM.ns, rfl, _, rfl, 1, i, rfl, rfl, shl_ok1 (by rw [blen_one]; decide) (by omega), ?_⟩
      exact ⟨q, M, b, 1 <<< i, rfl, .inl (s _ _ e3), (by omega), ul, (by omega), mM.all ul, z1 rfl _ (Same.refl _)⟩
    · rw [filt_true] at e4
      have s04 := ((s1.trans s2).trans s3).trans s4
      rw [lM]
      exact mk_Map (cs := inv b M) (.inl (by rw [e4]; unfold inv; rw [List.map_map]; rfl)) (mix_blen (inv_mix mM)) (fun H' p s5 hp hA => k _ _ (s04.trans s5) (same_free s04 hp) hA)
end
end LaneX
set_option Elab.async false
set_option linter.all false
set_option maxRecDepth 100000
set_option maxHeartbeats 4000000
namespace LaneX
open PySem PySem.Spec PyProof.Rows L2
def sp_rank : Sp := fun vs H Q _ => ∃ (a : Addr) (ws : List Nat), vs = [.ref a] ∧ Tq H a (ws.map vN) ∧ ws.length ≤ 1000000 ∧ ∀ H', Same H H' → Q (vN (rk ws)) H'
def sp_number : Sp := fun vs H Q _ => ∃ n m : Nat, vs = [vN n, vN m] ∧ n < m ∧ Q (.bl true) H
section
variable {P : Program} {w : World} {K : PySem.W.Frag} {mg : Str → Option Value} {base : Heap} {f : Addr} {fd : FuncData} (T : Bt mg)
include T
theorem ok_rank (F : FnP K "_law_rank" "_law_rank" s_rankL f fd) (D_rowsL : Dn P w K mg base 2 "_law_rows" ["_law_words"] sp_rows) : FnOk P w K mg base CX0 3 f fd ["_law_words"] sp_rank := by
  have nd := sc_rankL.nd
  refine fnok F sc_rankL (fun vs H Q E h => ?_) (fun cdv A outer s H vs Q E hr h => ?_)
  · obtain ⟨a, ws, rfl, _⟩ := h
    rfl
  · obtain ⟨a, ws, rfl, hS, hl, k⟩ := h
    refine ⟨_, (pss_one (ps_ret (pe_callB call_lenQ (by rfl) T.len PySem.boot_len (pa_cons (pe_d D_rowsL hr (pa_cons (pv 0) pa_nil)) pa_nil)))), ?_⟩
    refine ⟨_, rfl, a, ws, rfl, hS, hl, fun H' q s hq h' => ⟨q, _, rfl, .inl h', ?_⟩⟩
    rw [List.length_map, rws_len]
    exact k _ s
theorem ok_number (F : FnP K "_law_number" "_law_number" s_numberL f fd) : FnOk P w K mg base CX0 1 f fd ["_law_value", "_law_limit"] sp_number := by
  have nd := sc_numberL.nd
  refine fnok F sc_numberL (fun vs H Q E h => ?_) (fun cdv A outer s H vs Q E hr h => ?_)
  · obtain ⟨n, m, rfl, _⟩ := h
    rfl
  · obtain ⟨n, m, rfl, hn, k⟩ := h
    refine ⟨_, (pss_one (ps_ret (pe_and (pe_callB call_isi (by rfl) T.isinstance (by decide +kernel) (pa_cons (pv 0) (pa_cons (pe_bltn (v := .ty "int") (by rfl) T.int (by decide +kernel) rfl) pa_nil))) (pe_and (pe_not (pe_callB call_isi (by rfl) T.isinstance (by decide +kernel) (pa_cons (pv 0) (pa_cons (pe_bltn (v := .ty "bool") (by rfl) T.bool (by decide +kernel) rfl) pa_nil)))) (pe_one (pe_chain op_le op_lt pe_int (pv 0) (pv 1))))))), ?_⟩
    refine ⟨_, rfl, _, _, _, _, _, rfl, .ty _, .base (.int _), kit_ty (r := true) (by decide +kernel), _, rfl, iteT ?_⟩
    refine ⟨_, rfl, _, _, _, _, _, rfl, .ty _, .base (.int _), kit_ty (r := false) (by decide +kernel), _, rfl, _, rfl, iteT ?_⟩
    refine ⟨_, rfl, _, _, rfl, rfl, _, rfl, ?_⟩
    rw [decide_eq_true (show (0 : Int) ≤ (n : Int) by omega)]
    refine iteT ⟨_, rfl, _, _, rfl, rfl, ?_⟩
    show Q (.bl (decide ((n : Int) < (m : Int)))) H
    rw [decide_eq_true (show (n : Int) < (m : Int) by omega)]
    exact k
end
end LaneX
set_option Elab.async false
set_option linter.all false
set_option maxRecDepth 100000
set_option maxHeartbeats 4000000
namespace LaneX
open PySem PySem.Spec PyProof.Rows L2
/-! ### the law's own questions -/
def sp_is_map (C : Addr) : Sp := fun vs H Q _ => ∃ (p : Addr) (b : Nat) (cs : List Nat), vs = [.ref p, vN b, vN cs.length] ∧ MapAt C H p b cs ∧ Q (.bl true) H
/-- columns in a list, and a number of slots -/
def spCols (k : Nat → Nat → List Nat → Hp → VK → Prop) : Sp := fun vs H Q _ => ∃ (a : Addr) (s : Nat) (M : List Nat), vs = [.ref a, vN s] ∧ Tq H a (M.map vN) ∧ s ≤ M.length ∧ M.length ≤ 1000 ∧ k M.length s M H Q
def sp_keeps_lanesL : Sp := spCols fun b s M H Q => ∀ H', Same H H' → Q (.bl (klb b s M)) H'
def sp_keeps_slotsL : Sp := spCols fun b s M H Q => ∀ H', Same H H' → Q (.bl (ksb b s M)) H'
def sp_evenL : Sp := spCols fun b s M H Q => ∀ H', Same H H' → Q (.bl (evb s M)) H'
def sp_uneven_dueL : Sp := spCols fun b s M H Q => ∀ H', Same H H' → Q (vN (unv b s M)) H'
/-- a move, its columns, and a number of slots -/
def spAsk (C : Addr) : Sp := fun vs H Q _ => ∃ (p a : Addr) (b s : Nat) (M : List Nat), vs = [.ref p, .ref a, vN s] ∧ MapAt C H p b M ∧ H a = some (.lst (M.map vN)) ∧ Mix b M ∧ s ≤ b ∧ b ≤ 1000 ∧ ∀ H', Same H H' → Q (.bl true) H'
theorem all_range (b : Nat) (p : Nat → Bool) : ((List.range b).map p).all id = (List.range b).all p := by
  rw [List.all_map]
  rfl
theorem all_list {ws : List Nat} (p : Nat → Bool) : (ws.map p).all id = ws.all p := by
  rw [List.all_map]
  rfl
theorem dec0 (n : Nat) : decide (V.int (n : Int) = V.int 0) = decide (n = 0) := by
  rw [show (V.int 0 : V) = V.int ((0 : Nat) : Int) from rfl, dec_nat]
section
variable {P : Program} {w : World} {K : PySem.W.Frag} {mg : Str → Option Value} {base : Heap} {f : Addr} {fd : FuncData} {CS CR CM : Addr} (T : Bt mg) (TS : SpaceT K mg CS) (TR : SpreadT K mg CR) (TM : MapT K mg CM)
include T
include TM in
theorem ok_is_map (F : FnP K "_law_is_map" "_law_is_map" s_is_mapL f fd) (D_whole_isL : Dn P w K mg base 1 "_law_whole_is" ["_law_value", "_law_due"] sp_whole_is) : FnOk P w K mg base CX0 2 f fd ["_law_value", "_law_goal", "_law_source"] (sp_is_map CM) := by
  have nd := sc_is_mapL.nd
  refine fnok F sc_is_mapL (fun vs H Q E h => ?_) (fun cdv A outer s H vs Q E hr h => ?_)
  · obtain ⟨p, b, cs, rfl, _⟩ := h
    rfl
  · obtain ⟨p, b, cs, rfl, ⟨dx, t, h1, h2⟩, k⟩ := h
    refine ⟨_, (pss_cons (ps_if (PW.pt (pw_or (pt_not (pt_val (pe_callB call_isi (by rfl) T.isinstance (by decide +kernel) (pa_cons (pv 0) (pa_cons (pe_glob (v := .ref CM) (by rfl) TM.gl rfl) pa_nil))))) (pw_or (pt_not (pt_val (pe_d D_whole_isL hr (pa_cons (pe_fld (pv 0) rfl) (pa_cons (pv 1) pa_nil))))) (pw_or1 (pt_not (pt_val (pe_d D_whole_isL hr (pa_cons (pe_fld (pv 0) rfl) (pa_cons (pv 2) pa_nil)))))))))
    (pss_one (ps_ret pe_bl))
    pss_nil)
  (pss_one (ps_ret (pe_and (pe_callB call_isi (by rfl) T.isinstance (by decide +kernel) (pa_cons (pe_fld (pv 0) rfl) (pa_cons (pe_bltn (v := .ty "tuple") (by rfl) T.tuple (by decide +kernel) rfl) pa_nil))) (pe_one (pe_cmpR op_eq (pe_callB call_lenQ (by rfl) T.len PySem.boot_len (pa_cons (pe_fld (pv 0) rfl) pa_nil)) (pv 2) (nomark _))))))), ?_⟩
    refine ⟨_, rfl, _, _, _, _, _, rfl, .own _, TM.ty h1, TM.me, _, rfl, iteF ?_⟩
    refine ⟨_, rfl, p, CM, dx, _, vN b, rfl, h1, TM.cl, TM.ng, rfl, _, rfl, b, rfl, _, rfl, iteF ?_⟩
    refine ⟨_, rfl, p, CM, dx, _, vN cs.length, rfl, h1, TM.cl, TM.ns, rfl, _, rfl, cs.length, rfl, _, rfl, iteF ?_⟩
    refine ⟨_, rfl, p, CM, dx, _, .ref t, rfl, h1, TM.cl, TM.nc, rfl, _, _, _, _, _, rfl, .ty _, .base (.tup h2), kit_ty (r := true) (by decide +kernel), _, rfl, iteT ?_⟩
    refine ⟨_, rfl, p, CM, dx, _, .ref t, rfl, h1, TM.cl, TM.nc, rfl, t, _, rfl, .inr h2, _, rfl, rfl, ?_⟩
    rw [List.length_map, dec_nat, decide_eq_true rfl]
    exact k
omit T in
end
end LaneX
set_option Elab.async false
set_option linter.all false
set_option maxRecDepth 100000
set_option maxHeartbeats 4000000
namespace LaneX
open PySem PySem.Spec PyProof.Rows L2
def sp_any_space (C : Addr) : Sp := fun vs H Q _ => ∃ (p : Addr) (b : Nat) (rows : List Nat), vs = [.ref p] ∧ SpaceAt C H p b rows ∧ Q .non H
def sp_add (C : Addr) : Sp := fun vs H Q _ => ∃ (p q : Addr) (b : Nat) (rs os : List Nat), vs = [.ref p, .ref q] ∧ SpaceAt C H p b rs ∧ SpaceAt C H q b os ∧ WfS b rs ∧ WfS b os ∧ spNewSpace C b (sm rs os) H Q
/-- spaces at addresses -/
structure Sps (C : Addr) (H : Hp) (b : Nat) (as : List Addr) (Rs : List (List Nat)) : Prop where
  l : as.length = Rs.length
  a : ∀ i (a : Addr), as[i]? = some a → SpaceAt C H a b (Rs.getD i [])
  w : ∀ i, i < Rs.length → WfS b (Rs.getD i [])
theorem Sps.same {C : Addr} {H H' : Hp} {b : Nat} {as : List Addr} {Rs : List (List Nat)} (h : Sps C H b as Rs) (s : Same H H') : Sps C H' b as Rs := ⟨h.l, fun i a e => (h.a i a e).same s, h.w⟩
def sp_own_words (C : Addr) : Sp := fun vs H Q _ => ∃ (t c : Addr) (as : List Addr) (Rs : List (List Nat)) (b : Nat) (ch : List Nat), vs = [.ref t, .ref c] ∧ H t = some (.tup (as.map V.ref)) ∧ Tq H c (ch.map vN) ∧ Sps C H b as Rs ∧ 0 < Rs.length ∧ b ≤ 1000 ∧ ∀ H' q, Same H H' → H q = none → H' q = some (.tup ((own b Rs ch).map vN)) → Q (.ref q) H'
theorem wf_lt {b : Nat} {R : List Nat} (h : WfS b R) : ∀ x ∈ R, x < 2 ^ b := fun x hx => blen_le.mp (h.b x hx)
theorem wf_of {b : Nat} {R : List Nat} (hb : b ≤ 1000) (r : Rws R) (l : ∀ x ∈ R, x < 2 ^ b) : WfS b R := ⟨by omega, r, fun x hx => blen_le.mpr (l x hx)⟩
theorem wf_mt {b : Nat} {A B : List Nat} (hb : b ≤ 1000) (h : WfS b A) : WfS b (mt b A B) := wf_of hb (mt_rws ..) (mt_lt (wf_lt h))
theorem wf_sm {b : Nat} {A B : List Nat} (hb : b ≤ 1000) (h : WfS b A) (g : WfS b B) : WfS b (sm A B) := wf_of hb (sm_rws ..) (sm_lt (wf_lt h) (wf_lt g))
theorem wf_evr {b : Nat} (hb : b ≤ 1000) : WfS b (evr b) := wf_of hb (spn_rws _) (evr_lt b)
theorem wf_shp {b : Nat} {Rs : List (List Nat)} {ch : List Nat} (hb : b ≤ 1000) : ∀ i, WfS b (shp b Rs ch i)
  | 0 => wf_evr hb
  | i + 1 => by
    unfold shp
    split
    · exact wf_mt hb (wf_shp hb i)
    · exact wf_shp hb i
theorem wf_nil {b : Nat} (hb : b ≤ 1000) : WfS b (spn []) := wf_of hb (spn_rws _) (fun x hx => by cases hx)
theorem wf_otp {b : Nat} {Rs : List (List Nat)} {ch : List Nat} (hb : b ≤ 1000) (hR : ∀ i, i < Rs.length → WfS b (Rs.getD i [])) : ∀ i, i ≤ Rs.length → WfS b (otp Rs ch i)
  | 0, _ => wf_nil hb
  | i + 1, h => by
    unfold otp
    split
    · exact wf_otp hb hR i (by omega)
    · exact wf_sm hb (wf_otp hb hR i (by omega)) (hR i (by omega))
theorem mk_SpaceR {C : Addr} {H1 : Hp} {b : Nat} {a : Addr} {ws : List Nat} {R : Addr → VK} {E : XK} (hS : Tq H1 a (ws.map vN)) (hb : ∀ x ∈ ws, blen x ≤ b) (hl : ws.length ≤ 1000000) (k : ∀ H' p, Same H1 H' → H1 p = none → SpaceAt C H' p b (spn ws) → R p .non H') :
    ∀ x dx, H1 x = none → H1 dx = none → dx ≠ x → sp_Space C (.ref x :: ([vN b, .ref a] ++ [])) (upd (upd H1 dx (.own x)) x (.ins C dx [])) (R x) E := by
  intro x dx nx ndx ne
  have nx' : upd H1 dx (.own x) x = none := (upd_ne ne.symm).trans nx
  have st : ∀ c o, H1 c = some o → upd (upd H1 dx (.own x)) x (.ins C dx []) c = some o ∧ c ≠ x := fun c o hc => ⟨upd_new nx' (upd_new ndx hc), ne_of_none hc nx⟩
  refine ⟨x, dx, b, a, ws, rfl, upd_same, ?_, hb, hl, fun H' hA hk => k H' x (fun c o hc => hk c o (st c o hc).1 (st c o hc).2) nx hA⟩
  rcases hS with h | h
  · exact .inl (st _ _ h).1
  · exact .inr (st _ _ h).1
section
variable {P : Program} {w : World} {K : PySem.W.Frag} {mg : Str → Option Value} {base : Heap} {f : Addr} {fd : FuncData} {CS CR CM CH : Addr} (T : Bt mg) (TS : SpaceT K mg CS)
include T
include TS in
theorem ok_any_space (F : FnP K "any_space" "any_space" s_any_space f fd) : FnOk P w K mg base CX0 1 f fd ["value"] (sp_any_space CS) := by
  have nd := sc_any_space.nd
  refine fnok F sc_any_space (fun vs H Q E h => ?_) (fun cdv A outer s H vs Q E hr h => ?_)
  · obtain ⟨p, b, rows, rfl, _⟩ := h
    rfl
  · obtain ⟨p, b, rows, rfl, ⟨dx, t, h1, h2⟩, k⟩ := h
    refine ⟨_, (pss_one (ps_if (pt_not (pt_val (pe_callB call_isi (by rfl) T.isinstance (by decide +kernel) (pa_cons (pv 0) (pa_cons (pe_glob (v := .ref CS) (by rfl) TS.gl rfl) pa_nil)))))
    (pss_one ps_never)
    pss_nil)), ?_⟩
    exact ⟨_, rfl, _, _, _, _, _, rfl, .own _, TS.ty h1, TS.me, _, rfl, iteF k⟩
include TS in
theorem ok_add (F : FnP K "__add__" "Space.__add__" s_Space_add f fd) (D_need_space : Dn P w K mg base 1 "need_space" ["value", "bits"] (sp_need_space CS)) (K_Space : Kn P w K mg base 4 CS "Space" ["self", "bits", "words"] (sp_Space CS)) : FnOk P w K mg base CX0 6 f fd ["self", "other"] (sp_add CS) := by
  have nd := sc_Space_add.nd
  refine fnok F sc_Space_add (fun vs H Q E h => ?_) (fun cdv A outer s H vs Q E hr h => ?_)
  · obtain ⟨p, q, b, rs, os, rfl, _⟩ := h
    rfl
  · obtain ⟨p, q, b, rs, os, rfl, hp, hq, w1, w2, k⟩ := h
    refine ⟨_, (pss_cons (ps_expr (pe_d D_need_space hr (pa_cons (pv 1) (pa_cons (pe_fld (pv 0) rfl) pa_nil))))
  (pss_one (ps_ret (pe_k K_Space hr (pa_cons (pe_fld (pv 0) rfl) (pa_cons (pe_op op_cat (pe_callTy call_listQ (by rfl) T.list (by decide +kernel) (pa_cons (pe_fld (pv 0) rfl) pa_nil)) (pe_callTy call_listQ (by rfl) T.list (by decide +kernel) (pa_cons (pe_fld (pv 1) rfl) pa_nil))) pa_nil)))))), ?_⟩
    obtain ⟨dx, t, h1, h2⟩ := hp
    have hq' := hq
    obtain ⟨dy, u, g1, g2⟩ := hq
    refine ⟨_, rfl, _, rfl, p, CS, dx, _, vN b, rfl, h1, TS.cl, TS.nb, rfl, q, b, os, rfl, hq', ?_⟩
    refine ⟨_, rfl, p, CS, dx, _, vN b, rfl, h1, TS.cl, TS.nb, rfl, _, rfl, p, CS, dx, _, .ref t, rfl, h1, TS.cl, TS.nr, rfl, t, _, rfl, .inr h2, fun a3 ha3 => ?_⟩
    have s3 := same_new0 (o := .lst (rs.map vN)) ha3
    refine ⟨_, rfl, q, CS, dy, _, .ref u, rfl, s3 _ _ g1, TS.cl, TS.nr, rfl, u, _, rfl, .inr (s3 _ _ g2), fun a4 ha4 => ?_⟩
    have s4 := same_new0 (o := .lst (os.map vN)) ha4
    have l1 := w1.len
    have l2 := w2.len
    refine ⟨a3, a4, _, _, rfl, rfl, s4 _ _ upd_same, upd_same, (by rw [List.length_map, List.length_map, sizeLine_eq]; omega), fun a5 ha5 => ?_⟩
    have s5 := same_new0 (o := .lst (rs.map vN ++ os.map vN)) ha5
    have s35 := s3.trans (s4.trans s5)
    refine mk_Space (ws := rs ++ os) (.inl (by rw [upd_same, List.map_append])) (fun x hx => (List.mem_append.mp hx).elim (w1.b x) (w2.b x)) (by rw [List.length_append]; omega) (fun H' p s2 hp hA => k _ _ (s35.trans s2) (s35.free hp) hA)
include TS in
theorem ok_own_words (F : FnP K "own_words" "own_words" s_own_words f fd) (D_every : Dn P w K mg base 6 "every" ["bits"] (sp_every CS)) (K_Space : Kn P w K mg base 4 CS "Space" ["self", "bits", "words"] (sp_Space CS)) (M_Space_and : Mn P w K mg base 6 CS "__and__" ["self", "other"] (sp_and CS)) (M_Space_add : Mn P w K mg base 6 CS "__add__" ["self", "other"] (sp_add CS)) (hsf : PySem.W.selfFirst K CS = true) (M_Space_completing : Mn P w K mg base 3 CS "completing" ["self", "other"] (sp_completing CS)) : FnOk P w K mg base CX0 7 f fd ["spaces", "chosen"] (sp_own_words CS) := by
  have nd := sc_own_words.nd
  refine fnok F sc_own_words (fun vs H Q E h => ?_) (fun cdv A outer s H vs Q E hr h => ?_)
  · obtain ⟨t, c, as, Rs, b, ch, rfl, _⟩ := h
    rfl
  · obtain ⟨t, c, as, Rs, b, ch, rfl, ht, hc, hS, h0, hb, k⟩ := h
    refine ⟨_, (pss_cons (ps_par (i := 2) (j := 3) (by rfl) nd rfl rfl (by decide) rfl rfl (pa_cons (pe_d D_every hr (pa_cons (pe_fld (pe_ix ix_q (pv 0) pe_int (fun _ _ => rfl)) rfl) pa_nil)) (pa_cons (pe_k K_Space hr (pa_cons (pe_fld (pe_ix ix_q (pv 0) pe_int (fun _ _ => rfl)) rfl) (pa_cons (pe_lst pa_nil) pa_nil))) pa_nil)) (by rfl))
  (pss_cons (ps_for PassesOwn.never rfl (pi_enumT (by rfl) T.enumerate (pa_cons (pv 0) pa_nil)) (pg_tup (by rfl) (pgs_cons (pg_name (i := 4) nd rfl (Or.inl rfl)) (pgs_cons (pg_name (i := 5) nd rfl (Or.inl rfl)) pgs_nil)))
    (pss_one (ps_if (pt_cmpR on_in (pv 4) (pv 1) (by rfl))
      (pss_one (ps_set (i := 2) nd rfl (Or.inl rfl) (pe_op (op_own (by rfl) M_Space_and hsf hr) (pv 2) (pv 5))))
      (pss_one (ps_set (i := 3) nd rfl (Or.inl rfl) (pe_op (op_own (by rfl) M_Space_add hsf hr) (pv 3) (pv 5)))))))
  (pss_one (ps_ret (pe_m (pe_op (op_own (by rfl) M_Space_and hsf hr) (pv 2) (pv 3)) M_Space_completing hr (pa_cons (pv 2) pa_nil)))))), ?_⟩
    have la := hS.l
    obtain ⟨a0, ha0⟩ : ∃ a0, as[0]? = some a0 := ⟨as[0], List.getElem?_eq_getElem (by omega)⟩
    have hm0 : (as.map V.ref)[0]? = some (V.ref a0) := by rw [List.getElem?_map, ha0]; rfl
    obtain ⟨d0, t0, f1, f2⟩ := hS.a 0 a0 ha0
    refine ⟨_, rfl, t, _, 0, _, rfl, rfl, .inr ht, hm0, a0, CS, d0, _, vN b, rfl, f1, TS.cl, TS.nb, rfl, b, rfl, (by omega), fun H1 sp s1 hsp e1 => ?_⟩
    refine ⟨_, rfl, t, _, 0, _, rfl, rfl, .inr (s1 _ _ ht), hm0, a0, CS, d0, _, vN b, rfl, s1 _ _ f1, TS.cl, TS.nb, rfl, (by decide), fun l2 hl2 => ?_⟩
    have s2 := same_new0 (o := .lst []) hl2
    refine mk_SpaceR (ws := []) (.inl upd_same) (fun x hx => by cases hx) (by decide) (fun H3 op s3 hop e3 => ⟨rfl, _, _, rfl, ?_⟩)
    have s23 := s2.trans s3
    have s13 := s1.trans s23
    have e1 : SpaceAt CS H3 sp b (evr b) := e1.same s23
    refine ⟨_, rfl, t, _, rfl, SqT.of (s13 _ _ ht), for_it walk_enumT (fun i σ Hi => ∃ v4 v5 p3 q3, σ = [some (.ref t), some (.ref c), some (.ref p3), some (.ref q3), v4, v5] ∧ Same H Hi ∧ SpaceAt CS Hi p3 b (shp b Rs ch i) ∧ SpaceAt CS Hi q3 b (otp Rs ch i))
      ⟨none, none, sp, op, rfl, s13, e1, e3⟩ (fun i σ Hi _ hp => by obtain ⟨_, _, _, _, _, z, _⟩ := hp; exact SqT.of (z _ _ ht)) ?_ ?_⟩
    · rintro i x σ Hi Hj hi ⟨v4, v5, p3, q3, rfl, si, ep, eq⟩ ⟨T', u, z, rfl, hT, rfl, q1, q2⟩
      rw [List.length_map] at hi
      cases q1
      obtain ⟨ai, hai, rfl⟩ := map_get (show (as.map V.ref)[i]? = some z from q2)
      have sj := same_new0 (o := .tup [.int (i : Nat), V.ref ai]) hT
      have eT : upd Hi T' (.tup [.int (i : Nat), V.ref ai]) T' = some (.tup [.int (i : Nat), V.ref ai]) := upd_same
      generalize upd Hi T' (.tup [.int (i : Nat), V.ref ai]) = Hj at *
      have sij := si.trans sj
      have ep := ep.same sj
      have eq := eq.same sj
      have ea := (hS.a i ai hai).same sij
      have wa := hS.w i (by omega)
      refine ⟨T', _, rfl, SqT.of eT, rfl, _, _, rfl, _, _, rfl, rfl, ?_⟩
      refine ⟨_, rfl, _, rfl, i, c, ch, rfl, rfl, same_tq sij hc, _, rfl, br (fun m => ?_) (fun m => ?_)⟩
      · have m := of_decide_eq_true m
        obtain ⟨d1, t1, g1, g2⟩ := id ep
        obtain ⟨d2, t2, g3, g4⟩ := id ea
        refine ⟨_, rfl, _, rfl, p3, ai, d1, d2, _, _, rfl, rfl, g1, g3, p3, ai, b, _, _, rfl, ep, ea, wf_shp hb i, wa, fun H6 p6 s6 hp6 e6 => ?_⟩
        refine ⟨_, _, p6, q3, rfl, sij.trans s6, ?_, ?_⟩
        · unfold shp
          rw [if_pos m]
          exact e6
        · unfold otp
          rw [if_pos m]
          exact eq.same s6
      · have m := of_decide_eq_false m
        obtain ⟨d1, t1, g1, g2⟩ := id eq
        obtain ⟨d2, t2, g3, g4⟩ := id ea
        refine ⟨_, rfl, _, rfl, q3, ai, d1, d2, _, _, rfl, rfl, g1, g3, q3, ai, b, _, _, rfl, eq, ea, wf_otp hb hS.w i (by omega), wa, fun H6 p6 s6 hp6 e6 => ?_⟩
        refine ⟨_, _, p3, p6, rfl, sij.trans s6, ?_, ?_⟩
        · unfold shp
          rw [if_neg m]
          exact ep.same s6
        · unfold otp
          rw [if_neg m]
          exact e6
    · rintro σ Hi ⟨v4, v5, p3, q3, rfl, si, ep, eq⟩
      rw [List.length_map, la] at ep eq
      obtain ⟨d1, t1, g1, g2⟩ := id ep
      obtain ⟨d2, t2, g3, g4⟩ := id eq
      have ws := wf_shp (b := b) (Rs := Rs) (ch := ch) hb Rs.length
      have wo := wf_otp (ch := ch) hb hS.w Rs.length (Nat.le_refl _)
      refine ⟨_, rfl, _, rfl, p3, q3, d1, d2, _, _, rfl, rfl, g1, g3, p3, q3, b, _, _, rfl, ep, eq, ws, wo, fun H6 p6 s6 hp6 e6 => ?_⟩
      have ep6 := ep.same s6
      obtain ⟨d3, t3, g5, g6⟩ := id e6
      refine ⟨p6, d3, _, rfl, g5, rfl, _, rfl, p6, p3, b, _, _, rfl, e6, ep6, wf_mt hb ws, ws, fun H7 q7 s7 hq7 e7 => ?_⟩
      exact k _ _ (si.trans (s6.trans s7)) (si.free (s6.free hq7)) e7
end
end LaneX
set_option Elab.async false
set_option linter.all false
set_option maxRecDepth 100000
set_option maxHeartbeats 4000000
namespace LaneX
open PySem PySem.Spec PyProof.Rows L2
abbrev Pls := List (Addr × Nat × Nat)
def prf (e : Addr × Nat × Nat) : V := .ref e.1
def PlA (H : Hp) (es : Pls) : Prop := ∀ e ∈ es, H e.1 = some (.tup [vN e.2.1, vN e.2.2])
theorem PlA.same {H H' : Hp} {es : Pls} (h : PlA H es) (s : Same H H') : PlA H' es := fun e he => s _ _ (h e he)
theorem PlA.put {H : Hp} {es : Pls} {D : Addr} {xs ys : List V} (h : PlA H es) (n : H D = some (.lst xs)) : PlA (upd H D (.lst ys)) es := fun e he => by
  have z := h e he
  rw [upd_ne (fun q => by rw [q, n] at z; cases z)]
  exact z
def sp_found_planes (C : Addr) : Sp := fun vs H Q _ => ∃ (t a1 a2 a3 : Addr) (b : Nat) (A B D : List Nat), vs = [.ref t] ∧ H t = some (.tup [.ref a1, .ref a2, .ref a3]) ∧ SpaceAt C H a1 b A ∧ SpaceAt C H a2 b B ∧ SpaceAt C H a3 b D ∧ WfS b A ∧ WfS b B ∧ WfS b D ∧ b ≤ 1000 ∧
  ∀ (H' : Hp) (q : Addr) (es : Pls), Same H H' → H q = none → H' q = some (.tup (es.map prf)) → PlA H' es → es.map (·.2) = fpl b A B D → Q (.ref q) H'
section
variable {P : Program} {w : World} {K : PySem.W.Frag} {mg : Str → Option Value} {base : Heap} {f : Addr} {fd : FuncData} {CS CR CM CH : Addr} (T : Bt mg) (TS : SpaceT K mg CS)
include T
include TS in
theorem ok_found_planes (F : FnP K "found_planes" "found_planes" s_found_planes f fd) (M_Space_and : Mn P w K mg base 6 CS "__and__" ["self", "other"] (sp_and CS)) (M_Space_add : Mn P w K mg base 6 CS "__add__" ["self", "other"] (sp_add CS)) (hsf : PySem.W.selfFirst K CS = true) (M_Space_completing : Mn P w K mg base 3 CS "completing" ["self", "other"] (sp_completing CS)) (D_paired : Dn P w K mg base 4 "paired" ["columns"] sp_paired) (D_image_of : Dn P w K mg base 4 "image_of" ["columns", "word"] sp_image_of) (D_solved : Dn P w K mg base 2 "solved" ["pairs", "source", "word"] sp_solved) : FnOk P w K mg base CX0 7 f fd ["spaces"] (sp_found_planes CS) := by
  have nd := sc_found_planes.nd
  refine fnok F sc_found_planes (fun vs H Q E h => ?_) (fun cdv A outer s H vs Q E hr h => ?_)
  · obtain ⟨t, a1, a2, a3, b, A1, A2, A3, rfl, _⟩ := h
    rfl
  · obtain ⟨t, a1, a2, a3, b, A1, A2, A3, rfl, ht, h1, h2, h3, w1, w2, w3, hb, k⟩ := h
    refine ⟨_, (pss_cons (ps_asg (pv 0) (pg_tup (by rfl) (pgs_cons (pg_name (i := 1) nd rfl (Or.inl rfl)) (pgs_cons (pg_name (i := 2) nd rfl (Or.inr rfl)) (pgs_cons (pg_name (i := 3) nd rfl (Or.inl rfl)) pgs_nil)))))
  (pss_cons (ps_par (i := 4) (j := 5) (by rfl) nd rfl rfl (by decide) rfl rfl (pa_cons (pe_op (op_own (by rfl) M_Space_add hsf hr) (pe_op (op_own (by rfl) M_Space_and hsf hr) (pv 1) (pv 2)) (pe_op (op_own (by rfl) M_Space_and hsf hr) (pv 1) (pv 3))) (pa_cons (pe_op (op_own (by rfl) M_Space_and hsf hr) (pv 1) (pe_op (op_own (by rfl) M_Space_add hsf hr) (pv 2) (pv 3))) pa_nil)) (by rfl))
  (pss_cons (ps_set (i := 6) nd rfl (Or.inr rfl) (pe_op op_cat (pe_callTy call_listQ (by rfl) T.list (by decide +kernel) (pa_cons (pe_fld (pv 2) rfl) pa_nil)) (pe_callTy call_listQ (by rfl) T.list (by decide +kernel) (pa_cons (pe_fld (pv 3) rfl) pa_nil))))
  (pss_cons (ps_asg (pe_tup (pa_cons (pe_d D_paired hr (pa_cons (pv 6) pa_nil)) (pa_cons (pe_op on_sub (pe_op on_shl pe_int (pe_fld (pv 2) rfl)) pe_int) pa_nil))) (pg_tup (by rfl) (pgs_cons (pg_name (i := 7) nd rfl (Or.inr rfl)) (pgs_cons (pg_name (i := 8) nd rfl (Or.inr rfl)) pgs_nil))))
  (pss_cons (ps_set (i := 9) nd rfl (Or.inl rfl) (pe_m (pv 4) M_Space_completing hr (pa_cons (pv 5) pa_nil)))
  (pss_one (ps_ret (pe_callTy call_tupleQ (by rfl) T.tuple (by decide +kernel) (pa_cons (pe_lc (own := [("word", 10)]) (g := gName 10) (by rfl) nd (pi_seq (pv 9)) (blkOk_by (own := [("word", 10)]) (N := ["spaces", "first", "second", "third", "near", "seen", "columns", "pairs", "low", "words", "word"]) (sc := defScope s_found_planes) (by decide +kernel)) (fun _ _ _ _ _ => (pg_name (i := 10) nd rfl (Or.inl rfl))) (fun _ _ _ _ _ => pts_nil) (fun _ _ _ _ _ => (pe_tup (pa_cons (pv 10) (pa_cons (pe_d D_image_of hr (pa_cons (pe_fldK (K := K) (pv 2) rfl) (pa_cons (pe_op on_and (pe_d D_solved hr (pa_cons (pv 7) (pa_cons (pe_callB call_lenQ (by rfl) T.len PySem.boot_len (pa_cons (pv 6) pa_nil)) (pa_cons (pv 10) pa_nil)))) (pv 8)) pa_nil))) pa_nil))))) pa_nil))))))))), ?_⟩
    have o1 : blen 1 ≤ 1000000 := by rw [blen_one]; decide
    obtain ⟨d1, t1, f1, g1⟩ := id h1
    obtain ⟨d2, t2, f2, g2⟩ := id h2
    obtain ⟨d3, t3, f3, g3⟩ := id h3
    refine ⟨_, rfl, t, _, rfl, SqT.of ht, rfl, _, _, rfl, _, _, rfl, _, _, rfl, rfl, ?_⟩
    -- near
    refine ⟨_, rfl, _, rfl, a1, a2, d1, d2, _, _, rfl, rfl, f1, f2, a1, a2, b, _, _, rfl, h1, h2, w1, w2, fun H4 p4 s4 hp4 e4 => ?_⟩
    refine ⟨_, rfl, _, rfl, a1, a3, d1, d3, _, _, rfl, rfl, s4 _ _ f1, s4 _ _ f3, a1, a3, b, _, _, rfl, h1.same s4, h3.same s4, w1, w3, fun H5 p5 s5 hp5 e5 => ?_⟩
    have e4 : SpaceAt CS H5 p4 b (mt b A1 A2) := e4.same s5
    have e5 : SpaceAt CS H5 p5 b (mt b A1 A3) := e5
    obtain ⟨d4, t4, f4, g4⟩ := id e4
    obtain ⟨d5, t5, f5, g5⟩ := id e5
    have s45 := s4.trans s5
    refine ⟨p4, p5, d4, d5, _, _, rfl, rfl, f4, f5, p4, p5, b, _, _, rfl, e4, e5, wf_mt hb w1, wf_mt hb w1, fun H6 p6 s6 hp6 e6 => ?_⟩
    have s46 := s45.trans s6
    -- seen
    refine ⟨_, rfl, _, rfl, _, rfl, a2, a3, d2, d3, _, _, rfl, rfl, s46 _ _ f2, s46 _ _ f3, a2, a3, b, _, _, rfl, h2.same s46, h3.same s46, w2, w3, fun H7 p7 s7 hp7 e7 => ?_⟩
    have s47 := s46.trans s7
    obtain ⟨d7, t7, f7, g7⟩ := id e7
    refine ⟨a1, p7, d1, d7, _, _, rfl, rfl, s47 _ _ f1, f7, a1, p7, b, _, _, rfl, h1.same s47, e7, w1, wf_sm hb w2 w3, fun H8 p8 s8 hp8 e8 => ⟨_, _, rfl, ?_⟩⟩
    have e8 : SpaceAt CS H8 p8 b (mt b A1 (sm A2 A3)) := e8
    have s48 := s47.trans s8
    have e6 : SpaceAt CS H8 p6 b (sm (mt b A1 A2) (mt b A1 A3)) := e6.same (s7.trans s8)
    have l2 : A2.length ≤ 1000 := by have := w2.r.len_le w2.b; omega
    have l3 : A3.length ≤ 1000 := by have := w3.r.len_le w3.b; omega
    -- columns
    refine ⟨_, rfl, a2, CS, d2, _, .ref t2, rfl, s48 _ _ f2, TS.cl, TS.nr, rfl, t2, _, rfl, .inr (s48 _ _ g2), fun q9 hq9 => ?_⟩
    have s9 := same_new0 (o := .lst (A2.map vN)) hq9
    refine ⟨_, rfl, a3, CS, d3, _, .ref t3, rfl, s9 _ _ (s48 _ _ f3), TS.cl, TS.nr, rfl, t3, _, rfl, .inr (s9 _ _ (s48 _ _ g3)), fun q10 hq10 => ?_⟩
    have s10 := same_new0 (o := .lst (A3.map vN)) hq10
    refine ⟨q9, q10, _, _, rfl, rfl, s10 _ _ upd_same, upd_same, (by rw [List.length_map, List.length_map, sizeLine_eq]; omega), fun q11 hq11 => ?_⟩
    have s11 := same_new0 (o := .lst (A2.map vN ++ A3.map vN)) hq11
    have e11 : upd (upd (upd H8 q9 (.lst (A2.map vN))) q10 (.lst (A3.map vN))) q11 (.lst (A2.map vN ++ A3.map vN)) q11 = some (.lst ((A2 ++ A3).map vN)) := by rw [upd_same, List.map_append]
    have s811 := s9.trans (s10.trans s11)
    generalize upd (upd (upd H8 q9 (.lst (A2.map vN))) q10 (.lst (A3.map vN))) q11 (.lst (A2.map vN ++ A3.map vN)) = H11 at *
    have lc : (A2 ++ A3).length ≤ 2000 := by rw [List.length_append]; omega
    -- pairs, low
    refine ⟨_, rfl, q11, A2 ++ A3, rfl, .inl e11, (by omega), (fun x hx => Nat.le_trans ((List.mem_append.mp hx).elim (w2.b x) (w3.b x)) (by omega)), fun H12 q12 s12 hq12 e12 => ?_⟩
    have s412 := (s48.trans s811).trans s12
    refine ⟨_, rfl, a2, CS, d2, _, _, rfl, s412 _ _ f2, TS.cl, TS.nd, rfl, 1, A2.length, rfl, rfl, shl_ok1 o1 (by omega), _, 1, rfl, rfl, (by rw [Nat.one_shiftLeft]; exact Nat.two_pow_pos _), ?_⟩
    refine ⟨(by show 2 ≤ sizeLine; decide), fun y hy => ⟨y, _, rfl, SqT.of upd_same, rfl, _, _, rfl, _, _, rfl, rfl, ?_⟩⟩
    have s13 := same_new0 (o := .tup [.ref q12, vN (1 <<< A2.length - 1)]) hy
    have e12 := s13 _ _ e12
    have e11 := s13 _ _ (s12 _ _ e11)
    have s413 := s412.trans s13
    have s813 := (s811.trans s12).trans s13
    generalize upd H12 y _ = H13 at *
    -- words
    have e6 := e6.same s813
    have e8 := e8.same s813
    obtain ⟨d6, t6, f6, g6⟩ := id e6
    refine ⟨_, rfl, p6, d6, _, rfl, f6, rfl, _, rfl, p6, p8, b, _, _, rfl, e6, e8, wf_sm hb (wf_mt hb w1) (wf_mt hb w1), wf_mt hb w1, fun H14 q14 s14 hq14 e14 => ?_⟩
    have s414 := s413.trans s14
    have e12 := s14 _ _ e12
    have e11 := s14 _ _ e11
    have e14 : H14 q14 = some (.tup ((fpw b A1 A2 A3).map vN)) := e14
    have T3 := thr_of (wf_lt w1) (wf_lt w2) (wf_lt w3)
    have wm : ∀ x ∈ fpw b A1 A2 A3, Spn (A2 ++ A3) x ∧ x < 2 ^ b := fun x hx => by
      have z := T3.w1.mem (x := x) (List.mem_map.mpr ⟨(x, img A2 (slv (A2 ++ A3) x &&& (1 <<< A2.length - 1))), List.mem_map.mpr ⟨x, hx, rfl⟩, rfl⟩)
      exact ⟨z.2, z.1.lt (wf_lt w1)⟩
    have lw : (fpw b A1 A2 A3).length ≤ 1000 := by
      have := (cmpl_len (sm_rws (mt b A1 A2) (mt b A1 A3)) (mt b A1 (sm A2 A3)))
      have r1 := rk_le_bits (ws := sm (mt b A1 A2) (mt b A1 A3) ++ mt b A1 (sm A2 A3)) (b := b) fun x hx => (List.mem_append.mp hx).elim (wf_lt (wf_sm hb (wf_mt hb w1) (wf_mt hb w1)) x) (wf_lt (wf_mt hb w1) x)
      have r2 : (fpw b A1 A2 A3).length = (cmpl (sm (mt b A1 A2) (mt b A1 A3)) (mt b A1 (sm A2 A3))).length := rfl
      omega
    have fe : fpl b A1 A2 A3 = (fpw b A1 A2 A3).map fun w => (w, img A2 (slv (A2 ++ A3) w &&& (1 <<< A2.length - 1))) := rfl
    generalize fpw b A1 A2 A3 = Ws at *
    refine ⟨_, rfl, lc_seq (Sq.t e14) (fun D i H' => Same H14 H' ∧ ∃ gs : Pls, H' D = some (.lst (gs.map prf)) ∧ PlA H' gs ∧ gs.map (·.2) = (Ws.take i).map fun w => (w, img A2 (slv (A2 ++ A3) w &&& (1 <<< A2.length - 1)))) (fun D hD => ⟨same_new0 hD, [], upd_same, (fun e he => by cases he), rfl⟩) (fun D i H' hD hp => Kp.of hp.1) (fun D i x H' hD hx hp => ?_) (fun D H15 hD hp => ?_)⟩
    · obtain ⟨s15, gs, h15, p15, e15⟩ := hp
      obtain ⟨u, hu, rfl⟩ := map_get hx
      have um := wm u (List.mem_of_getElem? hu)
      have lg : gs.length ≤ 1000 := by
        have q := congrArg List.length e15
        rw [List.length_map, List.length_map, List.length_take] at q
        omega
      have sx := s414.trans s15
      refine ⟨rfl, _, rfl, _, rfl, a2, CS, d2, _, .ref t2, rfl, sx _ _ f2, TS.cl, TS.nr, rfl, _, rfl, _, rfl, q11, _, rfl, .inl (s15 _ _ e11), _, rfl, q12, A2 ++ A3, b, u, (by rw [List.length_map]; rfl), .inl (s15 _ _ e12), (by omega), um.2, (by omega), um.1, _, rfl, _, _, rfl, rfl, t2, A2, _, rfl, .inr (sx _ _ g2), (by omega), lo_lt _ _, fun H16 s16 => ?_⟩
      refine ⟨(by show 2 ≤ sizeLine; decide), fun x hx => ?_⟩
      have s17 := same_new0 (o := .tup [vN u, vN (img A2 (slv (A2 ++ A3) u &&& (1 <<< A2.length - 1)))]) hx
      have s1617 := s16.trans s17
      refine ⟨_, s1617 _ _ h15, (by rw [List.length_map, sizeLine_eq]; omega), same_put (s15.trans s1617) hD, gs ++ [(x, u, img A2 (slv (A2 ++ A3) u &&& (1 <<< A2.length - 1)))], ?_, ?_, ?_⟩
      · rw [upd_same, List.map_append]
        rfl
      · refine PlA.put (xs := gs.map prf) ?_ (s1617 _ _ h15)
        intro g hg
        rcases List.mem_append.mp hg with hg | hg
        · exact (p15.same s1617) g hg
        · rw [List.mem_singleton.mp hg]
          exact upd_same
      · rw [List.map_append, e15, take_succ hu, List.map_append]
        rfl
    obtain ⟨s15, gs, h15, p15, e15⟩ := hp
    rw [List.length_map, List.take_length] at e15
    refine ⟨D, _, rfl, h15, fun l hl => ?_⟩
    have s16 := same_new0 (o := .tup (gs.map prf)) hl
    have sH := s414.trans (s15.trans s16)
    exact k _ _ gs sH (s414.free (s15.free hl)) upd_same (p15.same s16) (by rw [e15, fe])
end
end LaneX
set_option Elab.async false
set_option linter.all false
set_option maxRecDepth 100000
set_option maxHeartbeats 4000000
namespace LaneX
open PySem PySem.Spec PyProof.Rows L2
structure ThreeT (K : PySem.W.Frag) (mg : Str → Option Value) (C : Addr) : Prop extends ObjT K C where
  gl : mg "Three" = some (.ref C)
  nb : NoAttr K C "bits"
  ns : NoAttr K C "spaces"
  nh : NoAttr K C "shared"
  np : NoAttr K C "pairs"
  nl : NoAttr K C "planes"
  na : NoAttr K C "alone"
  no : NoAttr K C "outside"
def thf (b : Nat) (ts t1 t2 t3 t4 t5 : Addr) : List (Str × V) := [("bits", vN b), ("spaces", .ref ts), ("shared", .ref t1), ("pairs", .ref t2), ("planes", .ref t3), ("alone", .ref t4), ("outside", .ref t5)]
structure ThC (C : Addr) (H : Hp) (p dx ts t1 t2 t3 t4 t5 a1 a2 a3 n1 n2 n3 : Addr) (b : Nat) (t : ThW) (es : Pls) : Prop where
  o : H p = some (.ins C dx (thf b ts t1 t2 t3 t4 t5))
  s : H t1 = some (.tup (t.S.map vN))
  q : H t2 = some (.tup [.ref a1, .ref a2, .ref a3])
  q1 : H a1 = some (.tup (t.P1.map vN))
  q2 : H a2 = some (.tup (t.P2.map vN))
  q3 : H a3 = some (.tup (t.P3.map vN))
  w : H t3 = some (.tup (es.map prf))
  wa : PlA H es
  we : es.map (·.2) = t.W
  n : H t4 = some (.tup [.ref n1, .ref n2, .ref n3])
  m1 : H n1 = some (.tup (t.N1.map vN))
  m2 : H n2 = some (.tup (t.N2.map vN))
  m3 : H n3 = some (.tup (t.N3.map vN))
  u : H t5 = some (.tup (t.O.map vN))
def ThAt (C : Addr) (H : Hp) (p : Addr) (b : Nat) (t : ThW) : Prop := ∃ dx ts t1 t2 t3 t4 t5 a1 a2 a3 n1 n2 n3 es, ThC C H p dx ts t1 t2 t3 t4 t5 a1 a2 a3 n1 n2 n3 b t es
theorem ThAt.same {C : Addr} {H H' : Hp} {p : Addr} {b : Nat} {t : ThW} (h : ThAt C H p b t) (z : Same H H') : ThAt C H' p b t := by
  obtain ⟨dx, ts, t1, t2, t3, t4, t5, a1, a2, a3, n1, n2, n3, es, h⟩ := h
  exact ⟨dx, ts, t1, t2, t3, t4, t5, a1, a2, a3, n1, n2, n3, es, z _ _ h.o, z _ _ h.s, z _ _ h.q, z _ _ h.q1, z _ _ h.q2, z _ _ h.q3, z _ _ h.w, h.wa.same z, h.we, z _ _ h.n, z _ _ h.m1, z _ _ h.m2, z _ _ h.m3, z _ _ h.u⟩
theorem ThAt.kp {C : Addr} {H H' : Hp} {p : Addr} {b : Nat} {t : ThW} (h : ThAt C H p b t) (z : Kp H H') : ThAt C H' p b t := by
  obtain ⟨dx, ts, t1, t2, t3, t4, t5, a1, a2, a3, n1, n2, n3, es, h⟩ := h
  exact ⟨dx, ts, t1, t2, t3, t4, t5, a1, a2, a3, n1, n2, n3, es, z _ _ h.o rfl, z _ _ h.s rfl, z _ _ h.q rfl, z _ _ h.q1 rfl, z _ _ h.q2 rfl, z _ _ h.q3 rfl, z _ _ h.w rfl, (fun e he => z _ _ (h.wa e he) rfl), h.we, z _ _ h.n rfl, z _ _ h.m1 rfl, z _ _ h.m2 rfl, z _ _ h.m3 rfl, z _ _ h.u rfl⟩
/-- .. and its spaces -/
def Th3 (CS C : Addr) (H : Hp) (p : Addr) (b : Nat) (A B D : List Nat) (t : ThW) : Prop := ∃ dx ts t1 t2 t3 t4 t5 a1 a2 a3 n1 n2 n3 es x1 x2 x3, ThC C H p dx ts t1 t2 t3 t4 t5 a1 a2 a3 n1 n2 n3 b t es ∧ H ts = some (.tup [.ref x1, .ref x2, .ref x3]) ∧ SpaceAt CS H x1 b A ∧ SpaceAt CS H x2 b B ∧ SpaceAt CS H x3 b D
theorem Th3.at_ {CS C : Addr} {H : Hp} {p : Addr} {b : Nat} {A B D : List Nat} {t : ThW} (h : Th3 CS C H p b A B D t) : ThAt C H p b t := by
  obtain ⟨dx, ts, t1, t2, t3, t4, t5, a1, a2, a3, n1, n2, n3, es, x1, x2, x3, h, _⟩ := h
  exact ⟨dx, ts, t1, t2, t3, t4, t5, a1, a2, a3, n1, n2, n3, es, h⟩
theorem Th3.kp {CS C : Addr} {H H' : Hp} {p : Addr} {b : Nat} {A B D : List Nat} {t : ThW} (h : Th3 CS C H p b A B D t) (z : Kp H H') : Th3 CS C H' p b A B D t := by
  obtain ⟨dx, ts, t1, t2, t3, t4, t5, a1, a2, a3, n1, n2, n3, es, x1, x2, x3, h, g, g1, g2, g3⟩ := h
  exact ⟨dx, ts, t1, t2, t3, t4, t5, a1, a2, a3, n1, n2, n3, es, x1, x2, x3, ⟨z _ _ h.o rfl, z _ _ h.s rfl, z _ _ h.q rfl, z _ _ h.q1 rfl, z _ _ h.q2 rfl, z _ _ h.q3 rfl, z _ _ h.w rfl, (fun e he => z _ _ (h.wa e he) rfl), h.we, z _ _ h.n rfl, z _ _ h.m1 rfl, z _ _ h.m2 rfl, z _ _ h.m3 rfl, z _ _ h.u rfl⟩, z _ _ g rfl, g1.kp z, g2.kp z, g3.kp z⟩
theorem Th3.same {CS C : Addr} {H H' : Hp} {p : Addr} {b : Nat} {A B D : List Nat} {t : ThW} (h : Th3 CS C H p b A B D t) (z : Same H H') : Th3 CS C H' p b A B D t := h.kp (Kp.of z)
def sp_Three (CS C : Addr) : Sp := fun vs H Q _ => ∃ (p dx a1 a2 a3 : Addr) (b : Nat) (A B D : List Nat), vs = [.ref p, .ref a1, .ref a2, .ref a3] ∧ H p = some (.ins C dx []) ∧ SpaceAt CS H a1 b A ∧ SpaceAt CS H a2 b B ∧ SpaceAt CS H a3 b D ∧ WfS b A ∧ WfS b B ∧ WfS b D ∧ b ≤ 1000 ∧
  ∀ H', Th3 CS C H' p b A B D (thw b A B D) → (∀ c o, H c = some o → c ≠ p → H' c = some o) → Q .non H'
def nms (t : ThW) : List Nat := [t.S.length, t.P1.length, t.P2.length, t.P3.length, t.W.length, t.N1.length, t.N2.length, t.N3.length, t.O.length]
structure Smal (t : ThW) : Prop where
  s : t.S.length ≤ 1000
  p1 : t.P1.length ≤ 1000
  p2 : t.P2.length ≤ 1000
  p3 : t.P3.length ≤ 1000
  w : t.W.length ≤ 1000
  n1 : t.N1.length ≤ 1000
  n2 : t.N2.length ≤ 1000
  n3 : t.N3.length ≤ 1000
  o : t.O.length ≤ 1000
/-- all but one stays -/
def Ex (p : Addr) (H H' : Hp) : Prop := ∀ c o, H c = some o → c ≠ p → H' c = some o
theorem Ex.of {p : Addr} {H H' : Hp} (s : Same H H') : Ex p H H' := fun c o h _ => s c o h
theorem Ex.put {p : Addr} {H : Hp} {o : HO} : Ex p H (upd H p o) := fun c u h n => upd_put h n
theorem Ex.trans {p : Addr} {H H1 H2 : Hp} (a : Ex p H H1) (b : Ex p H1 H2) : Ex p H H2 := fun c o h n => b c o (a c o h n) n
theorem sps_ex {C CH p dx : Addr} {H H' : Hp} {b : Nat} {as : List Addr} {Rs : List (List Nat)} (h : Sps C H b as Rs) (hp : H p = some (.ins CH dx [])) (e : Ex p H H') : Sps C H' b as Rs := by
  refine ⟨h.l, fun i a ha => ?_, h.w⟩
  obtain ⟨d, t, f, g⟩ := h.a i a ha
  refine ⟨d, t, e _ _ f fun z => ?_, e _ _ g fun z => ?_⟩
  · rw [z, hp] at f
    cases f
  · rw [z, hp] at g
    cases g
theorem three_of {α : Type} {l : List α} (h : l.length = 3) : ∃ a b c, l = [a, b, c] := by
  match l, h with
  | [a, b, c], _ => exact ⟨a, b, c, rfl⟩
section
variable {P : Program} {w : World} {K : PySem.W.Frag} {mg : Str → Option Value} {base : Heap} {f : Addr} {fd : FuncData} {CS CR CM CH : Addr} (T : Bt mg) (TS : SpaceT K mg CS) (TM : MapT K mg CM) (TH : ThreeT K mg CH)
include T
include TS TH in
theorem ok_Three (F : FnP K "__init__" "Three.__init__" s_Three_init f fd) (D_any_space : Dn P w K mg base 1 "any_space" ["value"] (sp_any_space CS)) (D_need_space : Dn P w K mg base 1 "need_space" ["value", "bits"] (sp_need_space CS)) (D_own_words : Dn P w K mg base 7 "own_words" ["spaces", "chosen"] (sp_own_words CS)) (D_found_planes : Dn P w K mg base 7 "found_planes" ["spaces"] (sp_found_planes CS)) : FnOk P w K mg base CX0 8 f fd ["self", "one", "two", "three"] (sp_Three CS CH) := by
  have nd := sc_Three_init.nd
  refine fnok F sc_Three_init (fun vs H Q E h => ?_) (fun cdv A outer s H vs Q E hr h => ?_)
  · obtain ⟨p, dx, a1, a2, a3, b, A1, A2, A3, rfl, _⟩ := h
    rfl
  · obtain ⟨p, dx, a1, a2, a3, b, A1, A2, A3, rfl, hp, h1, h2, h3, w1, w2, w3, hb, k⟩ := h
    refine ⟨_, (pss_cons (ps_expr (pe_d D_any_space hr (pa_cons (pv 1) pa_nil)))
  (pss_cons (ps_expr (pe_d D_need_space hr (pa_cons (pv 2) (pa_cons (pe_fld (pv 1) rfl) pa_nil))))
  (pss_cons (ps_expr (pe_d D_need_space hr (pa_cons (pv 3) (pa_cons (pe_fld (pv 1) rfl) pa_nil))))
  (pss_cons (ps_set (i := 4) nd rfl (Or.inr rfl) (pe_tup (pa_cons (pv 1) (pa_cons (pv 2) (pa_cons (pv 3) pa_nil)))))
  (pss_cons (ps_fld (pv 0) (pe_fld (pv 1) rfl) rfl)
  (pss_cons (ps_fld (pv 0) (pv 4) rfl)
  (pss_cons (ps_fld (pv 0) (pe_d D_own_words hr (pa_cons (pv 4) (pa_cons (pe_tup (pa_cons pe_int (pa_cons pe_int (pa_cons pe_int pa_nil)))) pa_nil))) rfl)
  (pss_cons (ps_fld (pv 0) (pe_callTy call_tupleQ (by rfl) T.tuple (by decide +kernel) (pa_cons (pe_lc (own := [("pair", 5)]) (g := gName 5) (by rfl) nd (pi_seq (pe_tup (pa_cons (pe_tup (pa_cons pe_int (pa_cons pe_int pa_nil))) (pa_cons (pe_tup (pa_cons pe_int (pa_cons pe_int pa_nil))) (pa_cons (pe_tup (pa_cons pe_int (pa_cons pe_int pa_nil))) pa_nil))))) (blkOk_by (own := [("pair", 5)]) (N := ["self", "one", "two", "three", "spaces", "pair", "at"]) (sc := defScope s_Three_init) (by decide +kernel)) (fun _ _ _ _ _ => (pg_name (i := 5) nd rfl (Or.inl rfl))) (fun _ _ _ _ _ => pts_nil) (fun _ _ _ _ _ => (pe_d D_own_words hr (pa_cons (pv 4) (pa_cons (pv 5) pa_nil))))) pa_nil)) rfl)
  (pss_cons (ps_fld (pv 0) (pe_d D_found_planes hr (pa_cons (pv 4) pa_nil)) rfl)
  (pss_cons (ps_fld (pv 0) (pe_callTy call_tupleQ (by rfl) T.tuple (by decide +kernel) (pa_cons (pe_lc (own := [("at", 6)]) (g := gName 6) (by rfl) nd (pi_range1 (by rfl) T.range (pa_cons pe_int pa_nil)) (blkOk_by (own := [("at", 6)]) (N := ["self", "one", "two", "three", "spaces", "pair", "at"]) (sc := defScope s_Three_init) (by decide +kernel)) (fun _ _ _ _ _ => (pg_name (i := 6) nd rfl (Or.inl rfl))) (fun _ _ _ _ _ => pts_nil) (fun _ _ _ _ _ => (pe_d D_own_words hr (pa_cons (pv 4) (pa_cons (pe_tup (pa_cons (pv 6) pa_nil)) pa_nil))))) pa_nil)) rfl)
  (pss_one (ps_fld (pv 0) (pe_d D_own_words hr (pa_cons (pv 4) (pa_cons (pe_tup pa_nil) pa_nil))) rfl)))))))))))), ?_⟩
    have sps : Sps CS H b [a1, a2, a3] [A1, A2, A3] := ⟨rfl, fun i a ha => by
      match i, ha with
      | 0, ha => cases ha; exact h1
      | 1, ha => cases ha; exact h2
      | 2, ha => cases ha; exact h3, fun i hi => by
      match i, hi with
      | 0, _ => exact w1
      | 1, _ => exact w2
      | 2, _ => exact w3⟩
    obtain ⟨d1, u1, f1, g1⟩ := id h1
    obtain ⟨d2, u2, f2, g2⟩ := id h2
    obtain ⟨d3, u3, f3, g3⟩ := id h3
    have n1p : a1 ≠ p := fun z => by rw [z, hp] at f1; cases f1
    refine ⟨_, rfl, a1, b, A1, rfl, h1, ?_⟩
    refine ⟨_, rfl, _, rfl, a1, CS, d1, _, vN b, rfl, f1, TS.cl, TS.nb, rfl, a2, b, A2, rfl, h2, ?_⟩
    refine ⟨_, rfl, _, rfl, a1, CS, d1, _, vN b, rfl, f1, TS.cl, TS.nb, rfl, a3, b, A3, rfl, h3, ?_⟩
    refine ⟨_, rfl, _, rfl, _, rfl, (by show 3 ≤ sizeLine; decide), fun ts hts => ?_⟩
    have s0 := same_new0 (o := .tup [.ref a1, .ref a2, .ref a3]) hts
    have x0 : Ex p H _ := Ex.of s0
    have et : upd H ts (.tup [.ref a1, .ref a2, .ref a3]) ts = some (.tup [.ref a1, .ref a2, .ref a3]) := upd_same
    have ntp : ts ≠ p := (ne_of_none hp hts).symm
    have hp0 := s0 _ _ hp
    generalize upd H ts _ = H0 at *
    -- bits, spaces
    refine ⟨_, rfl, a1, CS, d1, _, vN b, rfl, s0 _ _ f1, TS.cl, TS.nb, rfl, _, rfl, p, CH, dx, [], rfl, hp0, TH.cl, TH.nb, (by decide), ?_⟩
    refine ⟨_, rfl, _, rfl, p, CH, dx, _, rfl, upd_same, TH.cl, TH.ns, (by show 1 < 1000; decide), ?_⟩
    have x1 := (x0.trans (Ex.put (o := .ins CH dx (putF "bits" (vN b) [])))).trans (Ex.put (o := .ins CH dx (putF "spaces" (.ref ts) (putF "bits" (vN b) []))))
    have et := upd_put (o := .ins CH dx (putF "spaces" (.ref ts) (putF "bits" (vN b) []))) (upd_put (o := .ins CH dx (putF "bits" (vN b) [])) et ntp) ntp
    have hp1 : upd (upd H0 p (.ins CH dx (putF "bits" (vN b) []))) p (.ins CH dx (putF "spaces" (.ref ts) (putF "bits" (vN b) []))) p = some (.ins CH dx [("bits", vN b), ("spaces", .ref ts)]) := upd_same
    generalize upd (upd H0 p _) p _ = H1 at *
    -- shared
    refine ⟨_, rfl, (by show 3 ≤ sizeLine; decide), fun c2 hc2 => ?_⟩
    have s2 := same_new0 (o := .tup [.int 0, .int 1, .int 2]) hc2
    have x2 := x1.trans (Ex.of s2)
    refine ⟨ts, c2, [a1, a2, a3], [A1, A2, A3], b, [0, 1, 2], rfl, s2 _ _ et, .inr upd_same, sps_ex sps hp x2, (by show 0 < 3; decide), hb, fun H3 t1 s3 ht1 e1 => ?_⟩
    have s23 := s2.trans s3
    have nt1 : t1 ≠ p := (ne_of_none (s2 _ _ hp1) ht1).symm
    refine ⟨_, rfl, p, CH, dx, _, rfl, s23 _ _ hp1, TH.cl, TH.nh, (by show 2 < 1000; decide), ?_⟩
    have x3 := (x1.trans (Ex.of s23)).trans (Ex.put (o := .ins CH dx (putF "shared" (.ref t1) [("bits", vN b), ("spaces", .ref ts)])))
    have et := upd_put (o := .ins CH dx (putF "shared" (.ref t1) [("bits", vN b), ("spaces", .ref ts)])) (s23 _ _ et) ntp
    have e1 := upd_put (o := .ins CH dx (putF "shared" (.ref t1) [("bits", vN b), ("spaces", .ref ts)])) e1 nt1
    have hp3 : upd H3 p (.ins CH dx (putF "shared" (.ref t1) [("bits", vN b), ("spaces", .ref ts)])) p = some (.ins CH dx [("bits", vN b), ("spaces", .ref ts), ("shared", .ref t1)]) := upd_same
    generalize upd H3 p _ = H4 at *
    clear s3 s2 x2 hc2 ht1
    -- pairs
    refine ⟨(by show 2 ≤ sizeLine; decide), fun c5 hc5 => ⟨(by show 2 ≤ sizeLine; decide), fun c6 hc6 => ⟨(by show 2 ≤ sizeLine; decide), fun c7 hc7 => ⟨(by show 3 ≤ sizeLine; decide), fun c8 hc8 => ?_⟩⟩⟩⟩
    have s5 := same_new0 (o := .tup [.int 0, .int 1]) hc5
    have s6 := same_new0 (o := .tup [.int 0, .int 2]) hc6
    have s7 := same_new0 (o := .tup [.int 1, .int 2]) hc7
    have s8 := same_new0 (o := .tup [.ref c5, .ref c6, .ref c7]) hc8
    have e8 : upd (upd (upd (upd H4 c5 (.tup [.int 0, .int 1])) c6 (.tup [.int 0, .int 2])) c7 (.tup [.int 1, .int 2])) c8 (.tup [.ref c5, .ref c6, .ref c7]) c8 = some (.tup ([c5, c6, c7].map V.ref)) := upd_same
    have e5 := s8 _ _ (s7 _ _ (s6 _ _ (upd_same (H := H4) (a := c5) (o := .tup [.int 0, .int 1]))))
    have e6 := s8 _ _ (s7 _ _ (upd_same (H := upd H4 c5 (.tup [.int 0, .int 1])) (a := c6) (o := .tup [.int 0, .int 2])))
    have e7 := s8 _ _ (upd_same (H := upd (upd H4 c5 (.tup [.int 0, .int 1])) c6 (.tup [.int 0, .int 2])) (a := c7) (o := .tup [.int 1, .int 2]))
    have s48 := s5.trans (s6.trans (s7.trans s8))
    generalize upd (upd (upd (upd H4 c5 _) c6 _) c7 _) c8 _ = H8 at *
    have cs : ∀ i (c : Addr), [c5, c6, c7][i]? = some c → H8 c = some (.tup ((([[0, 1], [0, 2], [1, 2]] : List (List Nat)).getD i []).map vN)) := fun i c hc => by
      match i, hc with
      | 0, hc => cases hc; exact e5
      | 1, hc => cases hc; exact e6
      | 2, hc => cases hc; exact e7
    have x8 := x3.trans (Ex.of s48)
    have et8 := s48 _ _ et
    refine lc_seq (Sq.t e8) (fun D i H' => Same H8 H' ∧ ∃ gs : List Addr, H' D = some (.lst (gs.map V.ref)) ∧ gs.length = i ∧ ∀ j g, gs[j]? = some g → H' g = some (.tup ((own b [A1, A2, A3] (([[0, 1], [0, 2], [1, 2]] : List (List Nat)).getD j [])).map vN))) (fun D hD => ⟨same_new0 hD, [], upd_same, rfl, (fun j g hj => by cases hj)⟩) (fun D i H' hD hp => Kp.of hp.1) (fun D i x H' hD hx hp => ?_) (fun D H9 hD hp => ?_)
    · obtain ⟨s9, gs, h9, l9, g9⟩ := hp
      have il : i < 3 := by
        have := (List.getElem?_eq_some_iff.mp hx).1
        simpa using this
      obtain ⟨c, hc, rfl⟩ := map_get hx
      refine ⟨rfl, _, rfl, _, rfl, ts, c, [a1, a2, a3], [A1, A2, A3], b, _, rfl, s9 _ _ et8, .inr (s9 _ _ (cs i c hc)), sps_ex sps hp (x8.trans (Ex.of s9)), (by show 0 < 3; decide), hb, fun H10 q10 s10 hq10 e10 => ?_⟩
      refine ⟨_, s10 _ _ h9, (by rw [List.length_map, sizeLine_eq]; omega), same_put (s9.trans s10) hD, gs ++ [q10], ?_, (by rw [List.length_append, l9]; rfl), fun j g hj => ?_⟩
      · rw [upd_same, List.map_append]
        rfl
      · have key : ∀ g' : Addr, ∀ xs, H10 g' = some (.tup xs) → upd H10 D (.lst (gs.map V.ref ++ [V.ref q10])) g' = some (.tup xs) := fun g' xs hg => upd_put hg fun z => by rw [z, s10 _ _ h9] at hg; cases hg
        by_cases z : j < gs.length
        · rw [List.getElem?_append_left z] at hj
          exact key _ _ (s10 _ _ (g9 j g hj))
        · have jl := (List.getElem?_eq_some_iff.mp hj).1
          rw [List.length_append, List.length_singleton] at jl
          have : j = gs.length := by omega
          subst this
          rw [List.getElem?_append_right (Nat.le_refl _), Nat.sub_self] at hj
          cases hj
          rw [l9]
          exact key _ _ e10
    obtain ⟨s9, gs, h9, l9, g9⟩ := hp
    obtain ⟨b1, b2, b3, rfl⟩ := three_of l9
    have h9 : H9 D = some (.lst [.ref b1, .ref b2, .ref b3]) := h9
    refine ⟨D, _, rfl, h9, fun t2 ht2 => ?_⟩
    have s10 := same_new0 (o := .tup [.ref b1, .ref b2, .ref b3]) ht2
    have s410 := s48.trans (s9.trans s10)
    have r1 := s10 _ _ (g9 0 b1 rfl)
    have r2 := s10 _ _ (g9 1 b2 rfl)
    have r3 := s10 _ _ (g9 2 b3 rfl)
    have e2 : upd H9 t2 (.tup [.ref b1, .ref b2, .ref b3]) t2 = some (.tup [.ref b1, .ref b2, .ref b3]) := upd_same
    have hp10 := s410 _ _ hp3
    refine ⟨_, rfl, p, CH, dx, _, rfl, hp10, TH.cl, TH.np, (by show 3 < 1000; decide), ?_⟩
    have np : ∀ {a : Addr} {xs : List V}, upd H9 t2 (.tup [.ref b1, .ref b2, .ref b3]) a = some (.tup xs) → a ≠ p := fun {a xs} ha z => by
      rw [z] at ha
      rw [show upd H9 t2 (.tup [.ref b1, .ref b2, .ref b3]) p = some _ from hp10] at ha
      cases ha
    have x10 := (x3.trans (Ex.of s410)).trans (Ex.put (o := .ins CH dx (putF "pairs" (.ref t2) [("bits", vN b), ("spaces", .ref ts), ("shared", .ref t1)])))
    have xp := Ex.put (p := p) (H := upd H9 t2 (.tup [.ref b1, .ref b2, .ref b3])) (o := .ins CH dx (putF "pairs" (.ref t2) [("bits", vN b), ("spaces", .ref ts), ("shared", .ref t1)]))
    have et := xp _ _ (s410 _ _ et) ntp
    have e1 := xp _ _ (s410 _ _ e1) nt1
    have e2 := xp _ _ e2 (np e2)
    have r1 := xp _ _ r1 (np r1)
    have r2 := xp _ _ r2 (np r2)
    have r3 := xp _ _ r3 (np r3)
    have hp11 : upd (upd H9 t2 (.tup [.ref b1, .ref b2, .ref b3])) p (.ins CH dx (putF "pairs" (.ref t2) [("bits", vN b), ("spaces", .ref ts), ("shared", .ref t1)])) p = some (.ins CH dx [("bits", vN b), ("spaces", .ref ts), ("shared", .ref t1), ("pairs", .ref t2)]) := upd_same
    generalize upd (upd H9 t2 _) p _ = H11 at *
    clear np xp hp10 s410 s10 ht2 s9 h9 g9 hD et8 x8 cs e8 e5 e6 e7 s48 s5 s6 s7 s8 hc5 hc6 hc7 hc8
    -- planes
    have sp11 := sps_ex sps hp x10
    refine ⟨_, rfl, ts, a1, a2, a3, b, A1, A2, A3, rfl, et, sp11.a 0 a1 rfl, sp11.a 1 a2 rfl, sp11.a 2 a3 rfl, w1, w2, w3, hb, fun H12 t3 es s12 ht3 e3 pl3 we => ?_⟩
    have nt3 : t3 ≠ p := (ne_of_none hp11 ht3).symm
    have hp12 := s12 _ _ hp11
    refine ⟨_, rfl, p, CH, dx, _, rfl, hp12, TH.cl, TH.nl, (by show 4 < 1000; decide), ?_⟩
    have np : ∀ {a : Addr} {xs : List V}, H12 a = some (.tup xs) → a ≠ p := fun {a xs} ha z => by
      rw [z, hp12] at ha
      cases ha
    have xp := Ex.put (p := p) (H := H12) (o := .ins CH dx (putF "planes" (.ref t3) [("bits", vN b), ("spaces", .ref ts), ("shared", .ref t1), ("pairs", .ref t2)]))
    have x13 := (x10.trans (Ex.of s12)).trans xp
    have et := xp _ _ (s12 _ _ et) ntp
    have e1 := xp _ _ (s12 _ _ e1) nt1
    have e2 := xp _ _ (s12 _ _ e2) (np (s12 _ _ e2))
    have r1 := xp _ _ (s12 _ _ r1) (np (s12 _ _ r1))
    have r2 := xp _ _ (s12 _ _ r2) (np (s12 _ _ r2))
    have r3 := xp _ _ (s12 _ _ r3) (np (s12 _ _ r3))
    have e3 := xp _ _ e3 nt3
    have pl3 : PlA _ es := fun e he => xp _ _ (pl3 e he) (np (pl3 e he))
    have hp13 : upd H12 p (.ins CH dx (putF "planes" (.ref t3) [("bits", vN b), ("spaces", .ref ts), ("shared", .ref t1), ("pairs", .ref t2)])) p = some (.ins CH dx [("bits", vN b), ("spaces", .ref ts), ("shared", .ref t1), ("pairs", .ref t2), ("planes", .ref t3)]) := upd_same
    generalize upd H12 p _ = H13 at *
    clear np xp
    -- alone
    refine ⟨3, rfl, (by decide), (by decide), fun D hD => lc_range (n := 3) (fun i H' => Same H13 H' ∧ ∃ gs : List Addr, H' D = some (.lst (gs.map V.ref)) ∧ gs.length = i ∧ ∀ j g, gs[j]? = some g → H' g = some (.tup ((own b [A1, A2, A3] [j]).map vN))) ⟨same_new0 hD, [], upd_same, rfl, (fun j g hj => by cases hj)⟩ (fun i H' hi hP => ?_) (fun H9 hP => ?_)⟩
    · obtain ⟨s9, gs, h9, l9, g9⟩ := hP
      refine ⟨rfl, _, rfl, _, rfl, (by show 1 ≤ sizeLine; decide), fun c hc => ?_⟩
      have sc := same_new0 (o := .tup [.int ((0 : Int) + (i : Int))]) hc
      have ec : upd H' c (.tup [.int ((0 : Int) + (i : Int))]) c = some (.tup ([i].map vN)) := by
        rw [upd_same, show (0 : Int) + (i : Int) = (i : Int) by omega]
        rfl
      generalize upd H' c _ = Hc at *
      have s9c := s9.trans sc
      refine ⟨ts, c, [a1, a2, a3], [A1, A2, A3], b, [i], rfl, s9c _ _ et, .inr ec, sps_ex sps hp (x13.trans (Ex.of s9c)), (by show 0 < 3; decide), hb, fun H10 q10 s10 hq10 e10 => ?_⟩
      have h9c := s10 _ _ (sc _ _ h9)
      refine ⟨_, h9c, (by rw [List.length_map, sizeLine_eq]; omega), same_put (s9c.trans s10) hD, gs ++ [q10], ?_, (by rw [List.length_append, l9]; rfl), fun j g hj => ?_⟩
      · rw [upd_same, List.map_append]
        rfl
      · have key : ∀ g' : Addr, ∀ xs, H10 g' = some (.tup xs) → upd H10 D (.lst (gs.map V.ref ++ [V.ref q10])) g' = some (.tup xs) := fun g' xs hg => upd_put hg fun z => by rw [z, h9c] at hg; cases hg
        by_cases z : j < gs.length
        · rw [List.getElem?_append_left z] at hj
          exact key _ _ (s10 _ _ (sc _ _ (g9 j g hj)))
        · have jl := (List.getElem?_eq_some_iff.mp hj).1
          rw [List.length_append, List.length_singleton] at jl
          have : j = gs.length := by omega
          subst this
          rw [List.getElem?_append_right (Nat.le_refl _), Nat.sub_self] at hj
          cases hj
          rw [l9]
          exact key _ _ e10
    obtain ⟨s9, gs, h9, l9, g9⟩ := hP
    obtain ⟨m1, m2, m3, rfl⟩ := three_of l9
    have h9 : H9 D = some (.lst [.ref m1, .ref m2, .ref m3]) := h9
    refine ⟨D, _, rfl, h9, fun t4 ht4 => ?_⟩
    have s10 := same_new0 (o := .tup [.ref m1, .ref m2, .ref m3]) ht4
    have s1310 := s9.trans s10
    have k1 := s10 _ _ (g9 0 m1 rfl)
    have k2 := s10 _ _ (g9 1 m2 rfl)
    have k3 := s10 _ _ (g9 2 m3 rfl)
    have e4 : upd H9 t4 (.tup [.ref m1, .ref m2, .ref m3]) t4 = some (.tup [.ref m1, .ref m2, .ref m3]) := upd_same
    have hp10 := s1310 _ _ hp13
    refine ⟨_, rfl, p, CH, dx, _, rfl, hp10, TH.cl, TH.na, (by show 5 < 1000; decide), ?_⟩
    have np : ∀ {a : Addr} {xs : List V}, upd H9 t4 (.tup [.ref m1, .ref m2, .ref m3]) a = some (.tup xs) → a ≠ p := fun {a xs} ha z => by
      rw [z] at ha
      rw [show upd H9 t4 (.tup [.ref m1, .ref m2, .ref m3]) p = some _ from hp10] at ha
      cases ha
    have xp := Ex.put (p := p) (H := upd H9 t4 (.tup [.ref m1, .ref m2, .ref m3])) (o := .ins CH dx (putF "alone" (.ref t4) [("bits", vN b), ("spaces", .ref ts), ("shared", .ref t1), ("pairs", .ref t2), ("planes", .ref t3)]))
    have x14 := (x13.trans (Ex.of s1310)).trans xp
    have mv : ∀ {a : Addr} {xs : List V}, H13 a = some (.tup xs) → upd (upd H9 t4 (.tup [.ref m1, .ref m2, .ref m3])) p (.ins CH dx (putF "alone" (.ref t4) [("bits", vN b), ("spaces", .ref ts), ("shared", .ref t1), ("pairs", .ref t2), ("planes", .ref t3)])) a = some (.tup xs) := fun {a xs} ha => xp _ _ (s1310 _ _ ha) (np (s1310 _ _ ha))
    have et := mv et
    have e1 := mv e1
    have e2 := mv e2
    have r1 := mv r1
    have r2 := mv r2
    have r3 := mv r3
    have e3 := mv e3
    have pl3 : PlA _ es := fun e he => mv (pl3 e he)
    have e4 := xp _ _ e4 (np e4)
    have k1 := xp _ _ k1 (np k1)
    have k2 := xp _ _ k2 (np k2)
    have k3 := xp _ _ k3 (np k3)
    have hp14 : upd (upd H9 t4 (.tup [.ref m1, .ref m2, .ref m3])) p (.ins CH dx (putF "alone" (.ref t4) [("bits", vN b), ("spaces", .ref ts), ("shared", .ref t1), ("pairs", .ref t2), ("planes", .ref t3)])) p = some (.ins CH dx [("bits", vN b), ("spaces", .ref ts), ("shared", .ref t1), ("pairs", .ref t2), ("planes", .ref t3), ("alone", .ref t4)]) := upd_same
    generalize upd (upd H9 t4 _) p _ = H14 at *
    clear np xp mv hp10
    -- outside
    refine ⟨_, rfl, (by show 0 ≤ sizeLine; decide), fun c hc => ?_⟩
    have sc := same_new0 (o := .tup []) hc
    refine ⟨ts, c, [a1, a2, a3], [A1, A2, A3], b, [], rfl, sc _ _ et, .inr upd_same, sps_ex sps hp (x14.trans (Ex.of sc)), (by show 0 < 3; decide), hb, fun H15 t5 s15 ht5 e5 => ?_⟩
    have sc15 := sc.trans s15
    have hp15 := sc15 _ _ hp14
    refine ⟨_, rfl, p, CH, dx, _, rfl, hp15, TH.cl, TH.no, (by show 6 < 1000; decide), ?_⟩
    have np : ∀ {a : Addr} {xs : List V}, H15 a = some (.tup xs) → a ≠ p := fun {a xs} ha z => by
      rw [z, hp15] at ha
      cases ha
    have xp := Ex.put (p := p) (H := H15) (o := .ins CH dx (putF "outside" (.ref t5) [("bits", vN b), ("spaces", .ref ts), ("shared", .ref t1), ("pairs", .ref t2), ("planes", .ref t3), ("alone", .ref t4)]))
    have x16 := (x14.trans (Ex.of sc15)).trans xp
    have mv : ∀ {a : Addr} {xs : List V}, H14 a = some (.tup xs) → upd H15 p (.ins CH dx (putF "outside" (.ref t5) [("bits", vN b), ("spaces", .ref ts), ("shared", .ref t1), ("pairs", .ref t2), ("planes", .ref t3), ("alone", .ref t4)])) a = some (.tup xs) := fun {a xs} ha => xp _ _ (sc15 _ _ ha) (np (sc15 _ _ ha))
    have sp16 := sps_ex sps hp x16
    refine k _ ⟨dx, ts, t1, t2, t3, t4, t5, b1, b2, b3, m1, m2, m3, es, a1, a2, a3, ⟨upd_same, mv e1, mv e2, mv r1, mv r2, mv r3, mv e3, (fun e he => mv (pl3 e he)), we, mv e4, mv k1, mv k2, mv k3, xp _ _ e5 (np e5)⟩, mv et, sp16.a 0 a1 rfl, sp16.a 1 a2 rfl, sp16.a 2 a3 rfl⟩ x16
end
end LaneX
set_option Elab.async false
set_option linter.all false
set_option maxRecDepth 100000
set_option maxHeartbeats 4000000
namespace LaneX
open PySem PySem.Spec PyProof.Rows L2
def sp_numbers (C : Addr) : Sp := fun vs H Q _ => ∃ (p : Addr) (b : Nat) (t : ThW), vs = [.ref p] ∧ ThAt C H p b t ∧ ∀ H' q, Same H H' → H q = none → H' q = some (.tup ((nms t).map vN)) → Q (.ref q) H'
def sp_all_words (C : Addr) : Sp := fun vs H Q _ => ∃ (p : Addr) (b : Nat) (t : ThW), vs = [.ref p] ∧ ThAt C H p b t ∧ Smal t ∧ ∀ H' q, Same H H' → H q = none → H' q = some (.lst ((fall t).map vN)) → Q (.ref q) H'
def sp_leading (C CM : Addr) : Sp := fun vs H Q _ => ∃ (p q : Addr) (b : Nat) (t t' : ThW), vs = [.ref p, .ref q] ∧ ThAt C H p b t ∧ ThAt C H q b t' ∧ Smal t ∧ Smal t' ∧ b ≤ 1000 ∧ (nms t = nms t' → Mix b (fall t) ∧ Mix b (fall t') ∧ spNewMap CM b (ldm b t t') H Q) ∧ (nms t ≠ nms t' → ∀ H', Same H H' → Q .non H')
theorem mk_MapR {C : Addr} {H1 : Hp} {b : Nat} {a : Addr} {cs : List Nat} {R : Addr → VK} {E : XK} (hS : Tq H1 a (cs.map vN)) (hb : ∀ x ∈ cs, blen x ≤ b) (k : ∀ H' p, Same H1 H' → H1 p = none → MapAt C H' p b cs → R p .non H') :
    ∀ x dx, H1 x = none → H1 dx = none → dx ≠ x → sp_Map C (.ref x :: ([vN b, .ref a] ++ [])) (upd (upd H1 dx (.own x)) x (.ins C dx [])) (R x) E := by
  intro x dx nx ndx ne
  have nx' : upd H1 dx (.own x) x = none := (upd_ne ne.symm).trans nx
  refine ⟨x, dx, b, a, cs, rfl, upd_same, (hS.new ndx).new nx', hb, fun H' hA kp => k _ _ (made_same nx ndx kp) nx hA⟩
theorem fl_le {α : Type} {f : α → List Nat} {k : Nat} : ∀ (l : List α), (∀ e ∈ l, (f e).length ≤ k) → (l.flatMap f).length ≤ k * l.length
  | [], _ => by simp
  | e :: l, h => by
    rw [List.flatMap_cons, List.length_append, List.length_cons, Nat.mul_succ]
    have h1 := h e (List.mem_cons_self ..)
    have h2 := fl_le l fun x hx => h x (List.mem_cons_of_mem _ hx)
    omega
section
variable {P : Program} {w : World} {K : PySem.W.Frag} {mg : Str → Option Value} {base : Heap} {f : Addr} {fd : FuncData} {CS CR CM CH : Addr} (T : Bt mg) (TS : SpaceT K mg CS) (TM : MapT K mg CM) (TH : ThreeT K mg CH)
include T
include TH in
theorem ok_numbers (F : FnP K "numbers" "Three.numbers" s_Three_numbers f fd) : FnOk P w K mg base CX0 1 f fd ["self"] (sp_numbers CH) := by
  have nd := sc_Three_numbers.nd
  refine fnok F sc_Three_numbers (fun vs H Q E h => ?_) (fun cdv A outer s H vs Q E hr h => ?_)
  · obtain ⟨p, b, t, rfl, _⟩ := h
    rfl
  · obtain ⟨p, b, t, rfl, ⟨dx, ts, t1, t2, t3, t4, t5, a1, a2, a3, n1, n2, n3, es, c⟩, k⟩ := h
    refine ⟨_, (pss_cons (ps_setLc (i := 1) (own := [("words", 3)]) (g := gName 3) (by rfl) nd rfl rfl (sw_true rfl rfl rfl (by decide +kernel)) (pi_seq (pe_fld (pv 0) rfl)) (blkOk_by (own := [("words", 3)]) (N := ["self", "pairs", "alone", "words"]) (sc := defScope s_Three_numbers) (by decide +kernel)) (fun _ _ _ _ _ => (pg_name (i := 3) nd rfl (Or.inl rfl))) (fun _ _ _ _ _ => pts_nil) (fun _ _ _ _ _ => (pe_callB call_lenQ (by rfl) T.len PySem.boot_len (pa_cons (pv 3) pa_nil))))
  (pss_cons (ps_setLc (i := 2) (own := [("words", 3)]) (g := gName 3) (by rfl) nd rfl rfl (sw_true rfl rfl rfl (by decide +kernel)) (pi_seq (pe_fld (pv 0) rfl)) (blkOk_by (own := [("words", 3)]) (N := ["self", "pairs", "alone", "words"]) (sc := defScope s_Three_numbers) (by decide +kernel)) (fun _ _ _ _ _ => (pg_name (i := 3) nd rfl (Or.inl rfl))) (fun _ _ _ _ _ => pts_nil) (fun _ _ _ _ _ => (pe_callB call_lenQ (by rfl) T.len PySem.boot_len (pa_cons (pv 3) pa_nil))))
  (pss_one (ps_ret (pe_callTy call_tupleQ (by rfl) T.tuple (by decide +kernel) (pa_cons (pe_op op_cat (pe_op op_cat (pe_op op_cat (pe_op op_cat (pe_lst (pa_cons (pe_callB call_lenQ (by rfl) T.len PySem.boot_len (pa_cons (pe_fld (pv 0) rfl) pa_nil)) pa_nil)) (pv 1)) (pe_lst (pa_cons (pe_callB call_lenQ (by rfl) T.len PySem.boot_len (pa_cons (pe_fld (pv 0) rfl) pa_nil)) pa_nil))) (pv 2)) (pe_lst (pa_cons (pe_callB call_lenQ (by rfl) T.len PySem.boot_len (pa_cons (pe_fld (pv 0) rfl) pa_nil)) pa_nil))) pa_nil)))))), ?_⟩
    refine ⟨_, rfl, p, CH, dx, _, .ref t2, rfl, c.o, TH.cl, TH.np, rfl, lc_pure [(a1, t.P1), (a2, t.P2), (a3, t.P3)] (fun e => V.ref e.1) (fun _ => true) (fun e => vN e.2.length) (.inr c.q) (by show 3 ≤ 1000000; decide) (fun e H' he s => ?_) (fun D1 H1 hD1 s1 e1 => ?_)⟩
    · intro Z Nx z1 z2
      have q : H e.1 = some (.tup (e.2.map vN)) := by
        simp only [List.mem_cons, List.not_mem_nil, or_false] at he
        rcases he with rfl | rfl | rfl
        · exact c.q1
        · exact c.q2
        · exact c.q3
      refine ⟨rfl, _, rfl, e.1, _, rfl, .inr (s _ _ q), ?_⟩
      rw [List.length_map]
      exact z1 rfl _ (Same.refl _)
    rw [filt_true] at e1
    have e1 : H1 D1 = some (.lst [vN t.P1.length, vN t.P2.length, vN t.P3.length]) := e1
    refine ⟨_, rfl, p, CH, dx, _, .ref t4, rfl, s1 _ _ c.o, TH.cl, TH.na, rfl, lc_pure [(n1, t.N1), (n2, t.N2), (n3, t.N3)] (fun e => V.ref e.1) (fun _ => true) (fun e => vN e.2.length) (.inr (s1 _ _ c.n)) (by show 3 ≤ 1000000; decide) (fun e H' he s => ?_) (fun D2 H2 hD2 s2 e2 => ?_)⟩
    · intro Z Nx z1 z2
      have q : H1 e.1 = some (.tup (e.2.map vN)) := by
        simp only [List.mem_cons, List.not_mem_nil, or_false] at he
        rcases he with rfl | rfl | rfl
        · exact s1 _ _ c.m1
        · exact s1 _ _ c.m2
        · exact s1 _ _ c.m3
      refine ⟨rfl, _, rfl, e.1, _, rfl, .inr (s _ _ q), ?_⟩
      rw [List.length_map]
      exact z1 rfl _ (Same.refl _)
    rw [filt_true] at e2
    have e2 : H2 D2 = some (.lst [vN t.N1.length, vN t.N2.length, vN t.N3.length]) := e2
    have s12 := s1.trans s2
    have e1 := s2 _ _ e1
    refine ⟨_, rfl, p, CH, dx, _, .ref t1, rfl, s12 _ _ c.o, TH.cl, TH.nh, rfl, t1, _, rfl, .inr (s12 _ _ c.s), (by show 1 ≤ sizeLine; decide), fun l1 hl1 => ?_⟩
    rw [List.length_map]
    have z1 := same_new0 (o := .lst [vN t.S.length]) hl1
    refine ⟨_, rfl, l1, D1, _, _, rfl, rfl, upd_same, z1 _ _ e1, (by show 4 ≤ sizeLine; decide), fun l2 hl2 => ?_⟩
    have z2 := z1.trans (same_new0 (o := .lst ([vN t.S.length] ++ [vN t.P1.length, vN t.P2.length, vN t.P3.length])) hl2)
    refine ⟨_, rfl, p, CH, dx, _, .ref t3, rfl, z2 _ _ (s12 _ _ c.o), TH.cl, TH.nl, rfl, t3, _, rfl, .inr (z2 _ _ (s12 _ _ c.w)), (by show 1 ≤ sizeLine; decide), fun l3 hl3 => ?_⟩
    rw [List.length_map]
    have z3 := z2.trans (same_new0 (o := .lst [vN es.length]) hl3)
    refine ⟨l2, l3, _, _, rfl, rfl, upd_new hl3 upd_same, upd_same, (by show 5 ≤ sizeLine; decide), fun l4 hl4 => ?_⟩
    have z4 := z3.trans (same_new0 (o := .lst ([vN t.S.length] ++ [vN t.P1.length, vN t.P2.length, vN t.P3.length] ++ [vN es.length])) hl4)
    refine ⟨_, rfl, l4, D2, _, _, rfl, rfl, upd_same, z4 _ _ e2, (by show 8 ≤ sizeLine; decide), fun l5 hl5 => ?_⟩
    have z5 := z4.trans (same_new0 (o := .lst ([vN t.S.length] ++ [vN t.P1.length, vN t.P2.length, vN t.P3.length] ++ [vN es.length] ++ [vN t.N1.length, vN t.N2.length, vN t.N3.length])) hl5)
    refine ⟨_, rfl, p, CH, dx, _, .ref t5, rfl, z5 _ _ (s12 _ _ c.o), TH.cl, TH.no, rfl, t5, _, rfl, .inr (z5 _ _ (s12 _ _ c.u)), (by show 1 ≤ sizeLine; decide), fun l6 hl6 => ?_⟩
    rw [List.length_map]
    have z6 := z5.trans (same_new0 (o := .lst [vN t.O.length]) hl6)
    refine ⟨l5, l6, _, _, rfl, rfl, upd_new hl6 upd_same, upd_same, (by show 9 ≤ sizeLine; decide), fun l7 hl7 => ?_⟩
    have z7 := z6.trans (same_new0 (o := .lst ([vN t.S.length] ++ [vN t.P1.length, vN t.P2.length, vN t.P3.length] ++ [vN es.length] ++ [vN t.N1.length, vN t.N2.length, vN t.N3.length] ++ [vN t.O.length])) hl7)
    refine ⟨l7, _, rfl, upd_same, fun l8 hl8 => ?_⟩
    have z8 := z7.trans (same_new0 (o := .tup ([vN t.S.length] ++ [vN t.P1.length, vN t.P2.length, vN t.P3.length] ++ [vN es.length] ++ [vN t.N1.length, vN t.N2.length, vN t.N3.length] ++ [vN t.O.length])) hl8)
    refine k _ _ (s12.trans z8) (s12.free (z7.free hl8)) ?_
    rw [upd_same]
    have we : es.length = t.W.length := by rw [← c.we, List.length_map]
    rw [we]
    rfl
include TH in
theorem ok_all_words (F : FnP K "all_words" "all_words" s_all_words f fd) : FnOk P w K mg base CX0 1 f fd ["three"] (sp_all_words CH) := by
  have nd := sc_all_words.nd
  refine fnok F sc_all_words (fun vs H Q E h => ?_) (fun cdv A outer s H vs Q E hr h => ?_)
  · obtain ⟨p, b, t, rfl, _⟩ := h
    rfl
  · obtain ⟨p, b, t, rfl, ⟨dx, ts, t1, t2, t3, t4, t5, a1, a2, a3, n1, n2, n3, es, c⟩, m, k⟩ := h
    refine ⟨_, (pss_cons (ps_set (i := 1) nd rfl (Or.inl rfl) (pe_callTy call_listQ (by rfl) T.list (by decide +kernel) (pa_cons (pe_fld (pv 0) rfl) pa_nil)))
  (pss_cons (ps_for PassesOwn.never rfl (pi_seq (pe_fld (pv 0) rfl)) (pg_name (i := 2) nd rfl (Or.inl rfl))
    (pss_one (ps_set (i := 1) nd rfl (Or.inl rfl) (pe_op op_cat (pv 1) (pe_callTy call_listQ (by rfl) T.list (by decide +kernel) (pa_cons (pv 2) pa_nil))))))
  (pss_cons (ps_for PassesOwn.never rfl (pi_seq (pe_fld (pv 0) rfl)) (pg_tup (by rfl) (pgs_cons (pg_name (i := 3) nd rfl (Or.inl rfl)) (pgs_cons (pg_name (i := 4) nd rfl (Or.inl rfl)) pgs_nil)))
    (pss_one (ps_set (i := 1) nd rfl (Or.inl rfl) (pe_op op_cat (pv 1) (pe_lst (pa_cons (pv 3) (pa_cons (pv 4) pa_nil)))))))
  (pss_cons (ps_for PassesOwn.never rfl (pi_seq (pe_fld (pv 0) rfl)) (pg_name (i := 2) nd rfl (Or.inl rfl))
    (pss_one (ps_set (i := 1) nd rfl (Or.inl rfl) (pe_op op_cat (pv 1) (pe_callTy call_listQ (by rfl) T.list (by decide +kernel) (pa_cons (pv 2) pa_nil))))))
  (pss_one (ps_ret (pe_op op_cat (pv 1) (pe_callTy call_listQ (by rfl) T.list (by decide +kernel) (pa_cons (pe_fld (pv 0) rfl) pa_nil))))))))), ?_⟩
    have m0 := m.s
    have we : es.length ≤ 1000 := by rw [← List.length_map (f := (·.2)), c.we]; exact m.w
    have lp : ∀ e ∈ [(a1, t.P1), (a2, t.P2), (a3, t.P3)], e.2.length ≤ 1000 ∧ H e.1 = some (.tup (e.2.map vN)) := fun e he => by
      simp only [List.mem_cons, List.not_mem_nil, or_false] at he
      rcases he with rfl | rfl | rfl
      · exact ⟨m.p1, c.q1⟩
      · exact ⟨m.p2, c.q2⟩
      · exact ⟨m.p3, c.q3⟩
    have ln : ∀ e ∈ [(n1, t.N1), (n2, t.N2), (n3, t.N3)], e.2.length ≤ 1000 ∧ H e.1 = some (.tup (e.2.map vN)) := fun e he => by
      simp only [List.mem_cons, List.not_mem_nil, or_false] at he
      rcases he with rfl | rfl | rfl
      · exact ⟨m.n1, c.m1⟩
      · exact ⟨m.n2, c.m2⟩
      · exact ⟨m.n3, c.m3⟩
    have cq : H t2 = some (.tup ([(a1, t.P1), (a2, t.P2), (a3, t.P3)].map fun e => V.ref e.1)) := c.q
    have cn : H t4 = some (.tup ([(n1, t.N1), (n2, t.N2), (n3, t.N3)].map fun e => V.ref e.1)) := c.n
    have fe : fall t = (t.S ++ [(a1, t.P1), (a2, t.P2), (a3, t.P3)].flatMap (·.2)) ++ es.flatMap (fun e => [e.2.1, e.2.2]) ++ [(n1, t.N1), (n2, t.N2), (n3, t.N3)].flatMap (·.2) ++ t.O := by
      unfold fall
      rw [← c.we, List.flatMap_map]
      simp [List.append_assoc]
    have p3 : [(a1, t.P1), (a2, t.P2), (a3, t.P3)].length = 3 := rfl
    have n3' : [(n1, t.N1), (n2, t.N2), (n3, t.N3)].length = 3 := rfl
    generalize [(a1, t.P1), (a2, t.P2), (a3, t.P3)] = Lp at *
    generalize [(n1, t.N1), (n2, t.N2), (n3, t.N3)] = Ln at *
    have fp : ∀ i, ((Lp.take i).flatMap (·.2)).length ≤ 3000 := fun i => by
      have := fl_le (f := fun e : Addr × List Nat => e.2) (k := 1000) (Lp.take i) fun e he => (lp e (List.mem_of_mem_take he)).1
      have := List.length_take_le' i Lp
      omega
    have fn : ∀ i, ((Ln.take i).flatMap (·.2)).length ≤ 3000 := fun i => by
      have := fl_le (f := fun e : Addr × List Nat => e.2) (k := 1000) (Ln.take i) fun e he => (ln e (List.mem_of_mem_take he)).1
      have := List.length_take_le' i Ln
      omega
    have fw : ∀ i, ((es.take i).flatMap fun e => [e.2.1, e.2.2]).length ≤ 2000 := fun i => by
      have := fl_le (f := fun e : Addr × Nat × Nat => [e.2.1, e.2.2]) (k := 2) (es.take i) fun e he => Nat.le_refl _
      have := List.length_take_le' i es
      omega
    refine ⟨_, rfl, p, CH, dx, _, .ref t1, rfl, c.o, TH.cl, TH.nh, rfl, t1, _, rfl, .inr c.s, fun q0 hq0 => ?_⟩
    have s0 := same_new0 (o := .lst (t.S.map vN)) hq0
    have e0 : upd H q0 (.lst (t.S.map vN)) q0 = some (.lst (t.S.map vN)) := upd_same
    generalize upd H q0 _ = H0 at *
    refine ⟨_, rfl, p, CH, dx, _, .ref t2, rfl, s0 _ _ c.o, TH.cl, TH.np, rfl, for_seq (K := K) (Sq.t (s0 _ _ cq)) (fun i σ Hi => ∃ q v, σ = [some (.ref p), some (.ref q), v, none, none] ∧ Same H0 Hi ∧ H q = none ∧ Hi q = some (.lst ((t.S ++ (Lp.take i).flatMap (·.2)).map vN))) ⟨q0, none, rfl, Same.refl _, hq0, (by rw [List.take_zero, List.flatMap_nil, List.append_nil]; exact e0)⟩ (fun i σ Hi hP => by obtain ⟨_, _, _, z, _⟩ := hP; exact Kp.of z) ?_ ?_⟩
    · rintro i x σ Hi hx ⟨q, v, rfl, si, hq, hi⟩
      obtain ⟨e, he, rfl⟩ := map_get hx
      have le := lp e (List.mem_of_getElem? he)
      have l1 := fp i
      refine ⟨_, rfl, _, rfl, e.1, _, rfl, .inr (si _ _ (s0 _ _ le.2)), fun l hl => ?_⟩
      refine ⟨q, l, _, _, rfl, rfl, upd_new hl hi, upd_same, (by rw [List.length_map, List.length_map, List.length_append, sizeLine_eq]; omega), fun l2 hl2 => ?_⟩
      have sx := si.trans (same_new (same_new0 (o := .lst (e.2.map vN)) hl) (o := .lst ((t.S ++ (Lp.take i).flatMap (·.2)).map vN ++ e.2.map vN)) hl2)
      refine ⟨l2, _, rfl, sx, s0.free (si.free ((same_new0 hl).free hl2)), ?_⟩
      rw [upd_same, ← List.map_append, take_succ he, List.flatMap_append, List.append_assoc]
      simp
    · rintro σ H1 ⟨q, v, rfl, s1, hq, h1⟩
      rw [List.length_map, List.take_length] at h1
      have s01 := s0.trans s1
      have lP := fp Lp.length
      rw [List.take_length] at lP
      generalize Lp.flatMap (·.2) = Fp at *
      refine ⟨_, rfl, p, CH, dx, _, .ref t3, rfl, s01 _ _ c.o, TH.cl, TH.nl, rfl, for_seq (K := K) (Sq.t (s01 _ _ c.w)) (fun i σ Hi => ∃ q v3 v4, σ = [some (.ref p), some (.ref q), v, v3, v4] ∧ Same H1 Hi ∧ H q = none ∧ Hi q = some (.lst ((t.S ++ Fp ++ (es.take i).flatMap fun e => [e.2.1, e.2.2]).map vN))) ⟨q, none, none, rfl, Same.refl _, hq, (by rw [List.take_zero, List.flatMap_nil, List.append_nil]; exact h1)⟩ (fun i σ Hi hP => by obtain ⟨_, _, _, _, z, _⟩ := hP; exact Kp.of z) ?_ ?_⟩
      · rintro i x σ Hi hx ⟨q, v3, v4, rfl, si, hq, hi⟩
        obtain ⟨e, he, rfl⟩ := map_get hx
        have le := c.wa e (List.mem_of_getElem? he)
        have l1 := fw i
        refine ⟨e.1, _, rfl, SqT.of (si _ _ (s01 _ _ le)), rfl, _, _, rfl, _, _, rfl, rfl, ?_⟩
        refine ⟨_, rfl, _, rfl, _, rfl, (by show 2 ≤ sizeLine; decide), fun l hl => ?_⟩
        refine ⟨q, l, _, _, rfl, rfl, upd_new hl hi, upd_same, (by rw [List.length_map, List.length_append, List.length_append, sizeLine_eq]; show _ + 2 ≤ _; omega), fun l2 hl2 => ?_⟩
        have sx := si.trans (same_new (same_new0 (o := .lst [vN e.2.1, vN e.2.2]) hl) (o := .lst ((t.S ++ Fp ++ (es.take i).flatMap fun e => [e.2.1, e.2.2]).map vN ++ [vN e.2.1, vN e.2.2])) hl2)
        refine ⟨l2, _, _, rfl, sx, s01.free (si.free ((same_new0 hl).free hl2)), ?_⟩
        rw [upd_same, take_succ he, List.flatMap_append]
        simp [List.append_assoc]
      · rintro σ H2 ⟨q, v3, v4, rfl, s2, hq, h2⟩
        rw [List.length_map, List.take_length] at h2
        have s02 := s01.trans s2
        have lW := fw es.length
        rw [List.take_length] at lW
        generalize es.flatMap (fun e => [e.2.1, e.2.2]) = Fw at *
        refine ⟨_, rfl, p, CH, dx, _, .ref t4, rfl, s02 _ _ c.o, TH.cl, TH.na, rfl, for_seq (K := K) (Sq.t (s02 _ _ cn)) (fun i σ Hi => ∃ q v2, σ = [some (.ref p), some (.ref q), v2, v3, v4] ∧ Same H2 Hi ∧ H q = none ∧ Hi q = some (.lst ((t.S ++ Fp ++ Fw ++ (Ln.take i).flatMap (·.2)).map vN))) ⟨q, v, rfl, Same.refl _, hq, (by rw [List.take_zero, List.flatMap_nil, List.append_nil]; exact h2)⟩ (fun i σ Hi hP => by obtain ⟨_, _, _, z, _⟩ := hP; exact Kp.of z) ?_ ?_⟩
        · rintro i x σ Hi hx ⟨q, v2, rfl, si, hq, hi⟩
          obtain ⟨e, he, rfl⟩ := map_get hx
          have le := ln e (List.mem_of_getElem? he)
          have l1 := fn i
          refine ⟨_, rfl, _, rfl, e.1, _, rfl, .inr (si _ _ (s02 _ _ le.2)), fun l hl => ?_⟩
          refine ⟨q, l, _, _, rfl, rfl, upd_new hl hi, upd_same, (by rw [List.length_map, List.length_map, List.length_append, List.length_append, List.length_append, sizeLine_eq]; omega), fun l2 hl2 => ?_⟩
          have sx := si.trans (same_new (same_new0 (o := .lst (e.2.map vN)) hl) (o := .lst ((t.S ++ Fp ++ Fw ++ (Ln.take i).flatMap (·.2)).map vN ++ e.2.map vN)) hl2)
          refine ⟨l2, _, rfl, sx, s02.free (si.free ((same_new0 hl).free hl2)), ?_⟩
          rw [upd_same, ← List.map_append, take_succ he, List.flatMap_append, ← List.append_assoc]
          simp
        · rintro σ H3 ⟨q, v2, rfl, s3, hq, h3⟩
          rw [List.length_map, List.take_length] at h3
          have s03 := s02.trans s3
          have lN := fn Ln.length
          rw [List.take_length] at lN
          have mo := m.o
          generalize Ln.flatMap (·.2) = Fn at *
          refine ⟨_, rfl, _, rfl, p, CH, dx, _, .ref t5, rfl, s03 _ _ c.o, TH.cl, TH.no, rfl, t5, _, rfl, .inr (s03 _ _ c.u), fun l hl => ?_⟩
          refine ⟨q, l, _, _, rfl, rfl, upd_new hl h3, upd_same, (by rw [List.length_map, List.length_map, List.length_append, List.length_append, List.length_append, sizeLine_eq]; omega), fun l2 hl2 => ?_⟩
          have sx := s03.trans (same_new (same_new0 (o := .lst (t.O.map vN)) hl) (o := .lst ((t.S ++ Fp ++ Fw ++ Fn).map vN ++ t.O.map vN)) hl2)
          refine k _ _ sx (s03.free ((same_new0 hl).free hl2)) ?_
          rw [upd_same, ← List.map_append, fe]
end
end LaneX
set_option Elab.async false
set_option linter.all false
set_option maxRecDepth 100000
set_option maxHeartbeats 4000000
namespace LaneX
open PySem PySem.Spec PyProof.Rows L2
structure NSm (n : Nums) : Prop where
  s : n.s ≤ 8
  p1 : n.p1 ≤ 8
  p2 : n.p2 ≤ 8
  p3 : n.p3 ≤ 8
  w : n.w ≤ 8
  n1 : n.n1 ≤ 8
  n2 : n.n2 ≤ 8
  n3 : n.n3 ≤ 8
  o : n.o ≤ 8
theorem nums_of {l : List Nat} (h : l.length = 9) : ∃ n : Nums, n.l = l := by
  match l, h with
  | [a, b, c, d, e, f, g, h, i], _ => exact ⟨⟨a, b, c, d, e, f, g, h, i⟩, rfl⟩
theorem nsm_of {n : Nums} (h : ∀ x ∈ n.l, x ≤ 8) : NSm n := by
  unfold Nums.l at h
  refine ⟨h _ (by simp), h _ (by simp), h _ (by simp), h _ (by simp), h _ (by simp), h _ (by simp), h _ (by simp), h _ (by simp), h _ (by simp)⟩
theorem cut_two (xs : List Nat) {i j : Nat} (h : i ≤ j) (hj : j ≤ xs.length) : cutV (xs.map vN) (some (i : Int)) (some (j : Int)) = ((xs.drop i).take (j - i)).map vN := by
  unfold cutV
  rw [HT.sIx_nat, HT.sIx_nat, List.length_map, Nat.min_eq_left hj, Nat.min_eq_left (Nat.le_trans h hj), List.map_take, List.map_drop]
def sp_numbersL : Sp := fun vs H Q _ => ∃ (p lc : Addr) (N m : Nat), vs = [.ref p, vN m] ∧ Tp H p lc N ∧ m ≤ 5 ∧ N + 1000 ≤ TOP ∧ ∀ (H' : Hp) (q : Addr) (n : Nums), NSm n → H q = none → H' q = some (.lst (n.l.map vN)) → Tp H' p lc (N + 1000) → Kp H H' → Q (.ref q) H'
/-- lists planted for numbers -/
structure TriW (n : Nums) (L1 L2 L3 : List Nat) : Prop where
  ex : ∃ seg : Nat → List Nat, Plt n.bits seg ∧ ((seg 0).length = n.s ∧ (seg 1).length = n.p1 ∧ (seg 2).length = n.p2 ∧ (seg 3).length = n.p3 ∧ (seg 4).length = n.w ∧ (seg 6).length = n.n1 ∧ (seg 7).length = n.n2 ∧ (seg 8).length = n.n3 ∧ (seg 9).length = n.o) ∧
    (∀ x, Spn L1 x ↔ Spn (cat seg [0, 1, 2, 4, 6]) x) ∧ (∀ x, Spn L2 x ↔ Spn (cat seg [0, 1, 3, 5, 7]) x) ∧ (∀ x, Spn L3 x ↔ Spn (cat seg [0, 2, 3, 10, 8]) x)
  l1 : L1.length ≤ 1000
  l2 : L2.length ≤ 1000
  l3 : L3.length ≤ 1000
structure TriAt (H : Hp) (q : Addr) (L1 L2 L3 : List Nat) : Prop where
  ex : ∃ c1 c2 c3 : Addr, H q = some (.lst [.ref c1, .ref c2, .ref c3]) ∧ H c1 = some (.lst (L1.map vN)) ∧ H c2 = some (.lst (L2.map vN)) ∧ H c3 = some (.lst (L3.map vN))
theorem TriAt.kp {H H' : Hp} {q : Addr} {L1 L2 L3 : List Nat} (h : TriAt H q L1 L2 L3) (z : Kp H H') : TriAt H' q L1 L2 L3 := by
  obtain ⟨⟨c1, c2, c3, h0, h1, h2, h3⟩⟩ := h
  exact ⟨c1, c2, c3, z _ _ h0 rfl, z _ _ h1 rfl, z _ _ h2 rfl, z _ _ h3 rfl⟩
theorem TriAt.same {H H' : Hp} {q : Addr} {L1 L2 L3 : List Nat} (h : TriAt H q L1 L2 L3) (z : Same H H') : TriAt H' q L1 L2 L3 := h.kp (Kp.of z)
def sp_triple : Sp := fun vs H Q _ => ∃ (p lc a : Addr) (N : Nat) (n : Nums), vs = [.ref p, .ref a, vN n.o] ∧ Tp H p lc N ∧ H a = some (.lst (n.l.map vN)) ∧ (∀ x ∈ n.l, x ≤ 20) ∧ N + 100000 ≤ TOP ∧
  ∀ (H' : Hp) (q : Addr) (L1 L2 L3 : List Nat), TriW n L1 L2 L3 → TriAt H' q L1 L2 L3 → Tp H' p lc (N + 100000) → Kp H H' → Q (.ref q) H'
def sp_three_of (CS CH : Addr) : Sp := fun vs H Q _ => ∃ (a : Addr) (b : Nat) (L1 L2 L3 : List Nat), vs = [vN b, .ref a] ∧ TriAt H a L1 L2 L3 ∧ (∀ x ∈ L1, x < 2 ^ b) ∧ (∀ x ∈ L2, x < 2 ^ b) ∧ (∀ x ∈ L3, x < 2 ^ b) ∧ L1.length ≤ 1000 ∧ L2.length ≤ 1000 ∧ L3.length ≤ 1000 ∧ b ≤ 1000 ∧
  ∀ H' p, Same H H' → H p = none → Th3 CS CH H' p b (spn L1) (spn L2) (spn L3) (thw b (spn L1) (spn L2) (spn L3)) → Q (.ref p) H'
theorem Tp.ex {H H' : Hp} {p lc x : Addr} {N : Nat} (h : Tp H p lc N) (e : Ex x H H') (n1 : lc ≠ x) (n2 : p ≠ x) : Tp H' p lc N := by
  obtain ⟨cs, n, m, h0, h1, h2, h3⟩ := h
  exact ⟨cs, n, m, h0, e _ _ h1 n2, e _ _ h2 n1, h3⟩
section
variable {P : Program} {w : World} {K : PySem.W.Frag} {mg : Str → Option Value} {base : Heap} {f : Addr} {fd : FuncData} {CS CR CM CH : Addr} (T : Bt mg) (TS : SpaceT K mg CS) (TM : MapT K mg CM) (TH : ThreeT K mg CH)
include T
theorem ok_numbersL (F : FnP K "_law_numbers" "_law_numbers" s_numbersL f fd) (D_drawL : Dn P w K mg base 1 "_law_draw" ["_law_tape", "_law_limit"] sp_draw) : FnOk P w K mg base CX0 2 f fd ["_law_tape", "_law_most"] sp_numbersL := by
  have nd := sc_numbersL.nd
  refine fnok F sc_numbersL (fun vs H Q E h => ?_) (fun cdv A outer s H vs Q E hr h => ?_)
  · obtain ⟨p, lc, N, m, rfl, _⟩ := h
    rfl
  · obtain ⟨p, lc, N, m, rfl, hp, hm, hN, k⟩ := h
    refine ⟨_, (pss_cons (ps_set (i := 2) nd rfl (Or.inl rfl) (pe_d D_drawL hr (pa_cons (pv 0) (pa_cons pe_int pa_nil))))
  (pss_cons (ps_if (pt_cmpR op_eq (pv 2) pe_int (nomark _))
    (pss_one (ps_ret (pe_lst (pa_cons (pe_d D_drawL hr (pa_cons (pv 0) (pa_cons (pe_op on_add (pv 1) pe_int) pa_nil))) (pa_cons pe_int (pa_cons pe_int (pa_cons pe_int (pa_cons pe_int (pa_cons pe_int (pa_cons pe_int (pa_cons pe_int (pa_cons (pe_d D_drawL hr (pa_cons (pv 0) (pa_cons pe_int pa_nil))) pa_nil))))))))))))
    pss_nil)
  (pss_cons (ps_if (pt_cmpR op_gt (pv 2) pe_int (nomark _))
    (pss_one (ps_ret (pe_lc (own := [("_law_k", 4)]) (g := gName 4) (by rfl) nd (pi_range1 (by rfl) T.range (pa_cons pe_int pa_nil)) (blkOk_by (own := [("_law_k", 4)]) (N := ["_law_tape", "_law_most", "_law_sort", "_law_found", "_law_k"]) (sc := defScope s_numbersL) (by decide +kernel)) (fun _ _ _ _ _ => (pg_name (i := 4) nd rfl (Or.inl rfl))) (fun _ _ _ _ _ => pts_nil) (fun _ _ _ _ _ => (pe_d D_drawL hr (pa_cons (pv 0) (pa_cons (pe_op on_add (pv 1) pe_int) pa_nil)))))))
    pss_nil)
  (pss_cons (ps_setLc (i := 3) (own := [("_law_k", 4)]) (g := gName 4) (by rfl) nd rfl rfl (sw_true rfl rfl rfl (by decide +kernel)) (pi_range1 (by rfl) T.range (pa_cons pe_int pa_nil)) (blkOk_by (own := [("_law_k", 4)]) (N := ["_law_tape", "_law_most", "_law_sort", "_law_found", "_law_k"]) (sc := defScope s_numbersL) (by decide +kernel)) (fun _ _ _ _ _ => (pg_name (i := 4) nd rfl (Or.inl rfl))) (fun _ _ _ _ _ => pts_nil) (fun _ _ _ _ _ => (pe_d D_drawL hr (pa_cons (pv 0) (pa_cons pe_int pa_nil)))))
  (pss_cons (ps_if (pt_cmpR op_eq (pv 2) pe_int (nomark _))
    (pss_one (ps_asg (pe_op on_add pe_int (pe_d D_drawL hr (pa_cons (pv 0) (pa_cons pe_int pa_nil)))) (pg_sub (pv 3) pe_int set_list)))
    pss_nil)
  (pss_one (ps_ret (pv 3)))))))), ?_⟩
    have hN' : N + 1000 ≤ 1099511627776 := hN
    have big : ∀ {x : Nat}, x ≤ 20 → x < 2 ^ 8999 := fun {x} hx => Nat.lt_of_le_of_lt hx (Nat.lt_of_lt_of_le (show 20 < 2 ^ 5 by decide) (Nat.pow_le_pow_right (by decide) (by decide)))
    refine ⟨_, rfl, p, lc, N, 5, rfl, hp, (by decide), big (by decide), (by show N + 1 ≤ 1099511627776; omega), fun H1 st hst hp1 kp1 => ?_⟩
    have nine : ∀ (lim : Nat), lim ≤ 7 → 0 < lim → True := fun _ _ _ => trivial
    refine ⟨_, rfl, rfl, _, rfl, br (fun e => ?_) (fun e => ?_)⟩
    · refine ⟨_, rfl, _, rfl, m, 2, rfl, rfl, p, lc, N + 1, m + 2, rfl, hp1, (by omega), big (by omega), (by show N + 1 + 1 ≤ 1099511627776; omega), fun H2 r2 hr2 hp2 kp2 => ?_⟩
      refine ⟨_, rfl, p, lc, N + 2, 3, rfl, hp2, (by decide), big (by decide), (by show N + 2 + 1 ≤ 1099511627776; omega), fun H3 r3 hr3 hp3 kp3 => ?_⟩
      refine ⟨(by show 9 ≤ sizeLine; decide), fun l hl => ?_⟩
      refine k _ l ⟨r2, 0, 0, 0, 1, 0, 0, 0, r3⟩ ⟨by show r2 ≤ 8; omega, Nat.zero_le _, Nat.zero_le _, Nat.zero_le _, (by show 1 ≤ 8; decide), Nat.zero_le _, Nat.zero_le _, Nat.zero_le _, by show r3 ≤ 8; omega⟩ (kp1.free _ (kp2.free _ (kp3.free _ hl))) upd_same ((hp3.put (hp3.ne hl)).mono (by omega)) (kp_new ((kp1.trans kp2).trans kp3) hl)
    refine ⟨_, rfl, _, _, rfl, rfl, _, rfl, br (fun e2 => ?_) (fun e2 => ?_)⟩
    · refine ⟨9, rfl, (by decide), (by decide), fun B hB => lc_range (fun i Hi => Tp Hi p lc (N + 1 + i) ∧ Kp H1 Hi ∧ ∃ g : List Nat, Hi B = some (.lst (g.map vN)) ∧ g.length = i ∧ ∀ x ∈ g, x ≤ 8) ⟨hp1.put (hp1.ne hB), kp_new (Kp.refl H1) hB, [], upd_same, rfl, fun x hx => by cases hx⟩ (fun i Hi hi hP => ?_) (fun H2 hP => ?_)⟩
      · obtain ⟨hpi, kpi, g, hg, lg, ag⟩ := hP
        refine ⟨rfl, ?_⟩
        refine ⟨_, rfl, _, rfl, m, 1, rfl, rfl, p, lc, _, m + 1, rfl, hpi, (by omega), big (by omega), (by show N + 1 + i + 1 ≤ 1099511627776; omega), fun H2 x hx hp2 kp2 => ?_⟩
        refine ⟨_, kp2 _ _ hg rfl, (by rw [List.length_map, sizeLine_eq]; omega), (hp2.put (hp1.ne hB)).mono (by omega), kp_put (kpi.trans kp2) hB, g ++ [x], ?_, ?_, fun y hy => ?_⟩
        · rw [upd_same, List.map_append]; rfl
        · rw [List.length_append, lg]; rfl
        · rcases List.mem_append.mp hy with hy | hy
          · exact ag y hy
          · rw [List.mem_singleton.mp hy]; omega
      obtain ⟨hp2, kp2, g, hg, lg, ag⟩ := hP
      obtain ⟨n, rfl⟩ := nums_of lg
      exact k _ _ n (nsm_of ag) (kp1.free _ hB) hg (hp2.mono (by omega)) (kp1.trans kp2)
    · refine ⟨9, rfl, (by decide), (by decide), fun B hB => lc_range (fun i Hi => Tp Hi p lc (N + 1 + i) ∧ Kp H1 Hi ∧ ∃ g : List Nat, Hi B = some (.lst (g.map vN)) ∧ g.length = i ∧ ∀ x ∈ g, x ≤ 8) ⟨hp1.put (hp1.ne hB), kp_new (Kp.refl H1) hB, [], upd_same, rfl, fun x hx => by cases hx⟩ (fun i Hi hi hP => ?_) (fun H2 hP => ?_)⟩
      · obtain ⟨hpi, kpi, g, hg, lg, ag⟩ := hP
        refine ⟨rfl, ?_⟩
        refine ⟨_, rfl, p, lc, _, 2, rfl, hpi, (by decide), big (by decide), (by show N + 1 + i + 1 ≤ 1099511627776; omega), fun H2 x hx hp2 kp2 => ?_⟩
        refine ⟨_, kp2 _ _ hg rfl, (by rw [List.length_map, sizeLine_eq]; omega), (hp2.put (hp1.ne hB)).mono (by omega), kp_put (kpi.trans kp2) hB, g ++ [x], ?_, ?_, fun y hy => ?_⟩
        · rw [upd_same, List.map_append]; rfl
        · rw [List.length_append, lg]; rfl
        · rcases List.mem_append.mp hy with hy | hy
          · exact ag y hy
          · rw [List.mem_singleton.mp hy]; omega
      obtain ⟨hp2, kp2, g, hg, lg, ag⟩ := hP
      have kp12 := kp1.trans kp2
      have nB : H B = none := kp1.free _ hB
      refine ⟨_, rfl, rfl, _, rfl, br (fun e3 => ?_) (fun e3 => ?_)⟩
      · refine ⟨_, rfl, p, lc, _, 5, rfl, hp2, (by decide), big (by decide), (by show N + 1 + 9 + 1 ≤ 1099511627776; omega), fun H3 r3 hr3 hp3 kp3 => ?_⟩
        have h3 := kp3 _ _ hg rfl
        refine ⟨4, r3, rfl, rfl, _, rfl, B, _, 4, 4, rfl, rfl, h3, (by rw [List.length_map, lg]; rfl), ?_⟩
        have ls : (g.set 4 (4 + r3)).length = 9 := by rw [List.length_set, lg]; rfl
        have es : (g.map vN).set 4 (.int ((4 + r3 : Nat) : Int)) = (g.set 4 (4 + r3)).map vN := List.map_set.symm
        rw [es]
        have al : ∀ x ∈ g.set 4 (4 + r3), x ≤ 8 := fun x hx => by
          rcases List.mem_or_eq_of_mem_set hx with hx | rfl
          · exact ag x hx
          · omega
        obtain ⟨n, en⟩ := nums_of ls
        rw [← en] at al ⊢
        refine ⟨_, rfl, k _ _ n (nsm_of al) nB upd_same ((hp3.put (hp1.ne hB)).mono (by omega)) (kp_put (kp12.trans kp3) nB)⟩
      · obtain ⟨n, rfl⟩ := nums_of lg
        exact ⟨_, rfl, k _ _ n (nsm_of ag) nB hg (hp2.mono (by omega)) kp12⟩
end
end LaneX
set_option Elab.async false
set_option linter.all false
set_option maxRecDepth 100000
set_option maxHeartbeats 4000000
namespace LaneX
open PySem PySem.Spec PyProof.Rows L2
theorem sum_nat : ∀ l : List Nat, (l.map Int.ofNat).sum = ((l.sum : Nat) : Int)
  | [] => rfl
  | a :: l => by
    rw [List.map_cons, List.sum_cons, List.sum_cons, sum_nat l]
    show (a : Int) + _ = _
    omega
theorem nums_sum (n : Nums) : n.l.sum + n.w = n.bits := by
  unfold Nums.bits Nums.l
  simp only [List.sum_cons, List.sum_nil]
  omega
/-- the lots of a list of numbers -/
def ksn (n : Nums) : List Nat := [n.s, n.p1, n.p2, n.p3, n.w, n.w, n.n1, n.n2, n.n3, n.o]
def off (ks : List Nat) (j : Nat) : Nat := (ks.take j).sum
def lot0 (M ks : List Nat) (j : Nat) : List Nat := (M.drop (off ks j)).take (ks.getD j 0)
theorem off_succ {ks : List Nat} {j k : Nat} (h : ks[j]? = some k) : off ks (j + 1) = off ks j + k := by
  unfold off
  rw [take_succ h, List.sum_append, List.sum_cons, List.sum_nil]
  omega
theorem off_le (ks : List Nat) (j : Nat) : off ks j ≤ ks.sum := by
  unfold off
  have : ks.sum = (ks.take j).sum + (ks.drop j).sum := by rw [← List.sum_append, List.take_append_drop]
  omega
theorem lot0_len {M ks : List Nat} {j k : Nat} (h : ks[j]? = some k) (hM : ks.sum ≤ M.length) : (lot0 M ks j).length = k := by
  have a := off_succ h
  have b := off_le ks (j + 1)
  have e : ks.getD j 0 = k := by rw [List.getD_eq_getElem?_getD, h]; rfl
  unfold lot0
  rw [List.length_take, List.length_drop, e]
  omega
theorem lots_all {M ks : List Nat} : ∀ i, i ≤ ks.length → (List.range i).flatMap (lot0 M ks) = M.take (off ks i)
  | 0, _ => by simp [off]
  | i + 1, h => by
    have hk : ks[i]? = some (ks.getD i 0) := by rw [List.getD_eq_getElem?_getD, List.getElem?_eq_getElem (by omega)]; rfl
    rw [List.range_succ, List.flatMap_append, lots_all i (by omega), List.flatMap_cons, List.flatMap_nil, List.append_nil, off_succ hk, List.take_add]
    rfl
/-- the lots, and the sums of the two lots of planes -/
def segs (M : List Nat) (n : Nums) (i : Nat) : List Nat := if i = 10 then (List.range n.w).map fun k => (lot0 M (ksn n) 4).getD k 0 ^^^ (lot0 M (ksn n) 5).getD k 0 else lot0 M (ksn n) i
theorem segs_plt {M : List Nat} {n : Nums} (h : Mix n.bits M) : Plt n.bits (segs M n) := by
  have lM := h.len
  have sk : (ksn n).sum = n.bits := by unfold ksn Nums.bits; simp only [List.sum_cons, List.sum_nil]; omega
  have l4 : (lot0 M (ksn n) 4).length = n.w := lot0_len rfl (by omega)
  have l5 : (lot0 M (ksn n) 5).length = n.w := lot0_len rfl (by omega)
  refine ⟨?_, l5.trans l4.symm, ?_⟩
  · have e : cat (segs M n) [0, 1, 2, 3, 4, 5, 6, 7, 8, 9] = M := by
      have a := lots_all (M := M) (ks := ksn n) 10 (Nat.le_refl _)
      have o : off (ksn n) 10 = n.bits := sk
      rw [o, List.take_of_length_le (by omega)] at a
      exact a
    rw [e]
    exact h
  · show (List.range n.w).map _ = (List.range (lot0 M (ksn n) 4).length).map _
    rw [l4]
    rfl
section
variable {P : Program} {w : World} {K : PySem.W.Frag} {mg : Str → Option Value} {base : Heap} {f : Addr} {fd : FuncData} {CS CR CM CH : Addr} (T : Bt mg) (TS : SpaceT K mg CS) (TM : MapT K mg CM) (TH : ThreeT K mg CH)
include T
theorem ok_triple (F : FnP K "_law_triple" "_law_triple" s_tripleL f fd) (D_mixtureL : Dn P w K mg base 3 "_law_mixture" ["_law_tape", "_law_bits"] sp_mixture) (D_blendL : Dn P w K mg base 4 "_law_blend" ["_law_tape", "_law_words", "_law_extra"] sp_blend) (D_pickL : Dn P w K mg base 2 "_law_pick" ["_law_tape", "_law_some"] sp_pick) : FnOk P w K mg base CX0 5 f fd ["_law_tape", "_law_numbers_here", "_law_outside"] sp_triple := by
  have nd := sc_tripleL.nd
  refine fnok F sc_tripleL (fun vs H Q E h => ?_) (fun cdv A outer s H vs Q E hr h => ?_)
  · obtain ⟨p, lc, a, N, n, rfl, _⟩ := h
    rfl
  · obtain ⟨p, lc, a, N, n, rfl, hp, ha, hs, hN, k⟩ := h
    refine ⟨_, (pss_cons (ps_asg (pe_tup (pa_cons (pe_ix ix_q (pv 1) pe_int (fun _ _ => rfl)) (pa_cons (pe_lst pa_nil) (pa_cons pe_int pa_nil)))) (pg_tup (by rfl) (pgs_cons (pg_name (i := 3) nd rfl (Or.inl rfl)) (pgs_cons (pg_name (i := 4) nd rfl (Or.inr rfl)) (pgs_cons (pg_name (i := 5) nd rfl (Or.inl rfl)) pgs_nil)))))
  (pss_cons (ps_set (i := 6) nd rfl (Or.inl rfl) (pe_d D_mixtureL hr (pa_cons (pv 0) (pa_cons (pe_op on_add (pe_callB (cr_sum rfl) (by rfl) T.sum (by decide +kernel) (pa_cons (pv 1) pa_nil)) (pv 3)) pa_nil))))
  (pss_cons (ps_for PassesOwn.never rfl (pi_seq (pe_op op_cat (pe_op op_cat (pe_op op_cat (pe_slice sl_list (pv 1) po_none (po_some pe_int)) (pe_lst (pa_cons (pv 3) pa_nil))) (pe_slice sl_list (pv 1) (po_some pe_int) (po_some pe_int))) (pe_lst (pa_cons (pv 2) pa_nil)))) (pg_name (i := 7) nd rfl (Or.inl rfl))
    (pss_cons (ps_expr (pe_bm PySem.F.plainAttrs_list PySem.F.slot_list_append PySem.F.type_list_append mt_append (pv 4) (pa_cons (pe_slice sl_list (pv 6) (po_some (pv 5)) (po_some (pe_op on_add (pv 5) (pv 7)))) pa_nil)))
    (pss_one (ps_set (i := 5) nd rfl (Or.inl rfl) (pe_op on_add (pv 5) (pv 7))))))
  (pss_cons (ps_setLc (i := 8) (own := [("_law_k", 10)]) (g := gName 10) (by rfl) nd rfl rfl (sw_true rfl rfl rfl (by decide +kernel)) (pi_range1 (by rfl) T.range (pa_cons (pv 3) pa_nil)) (blkOk_by (own := [("_law_k", 10)]) (N := ["_law_tape", "_law_numbers_here", "_law_outside", "_law_planes", "_law_sorts", "_law_at", "_law_units", "_law_many", "_law_thirds", "_law_lists", "_law_k", "_law_words"]) (sc := defScope s_tripleL) (by decide +kernel)) (fun _ _ _ _ _ => (pg_name (i := 10) nd rfl (Or.inl rfl))) (fun _ _ _ _ _ => pts_nil) (fun _ _ _ _ _ => (pe_op on_xor (pe_ix ix_q (pe_ix ix_q (pv 4) pe_int (fun _ _ => rfl)) (pv 10) (fun _ _ => rfl)) (pe_ix ix_q (pe_ix ix_q (pv 4) pe_int (fun _ _ => rfl)) (pv 10) (fun _ _ => rfl)))))
  (pss_cons (ps_set (i := 9) nd rfl (Or.inl rfl) (pe_lst (pa_cons (pe_op op_cat (pe_op op_cat (pe_op op_cat (pe_op op_cat (pe_ix ix_q (pv 4) pe_int (fun _ _ => rfl)) (pe_ix ix_q (pv 4) pe_int (fun _ _ => rfl))) (pe_ix ix_q (pv 4) pe_int (fun _ _ => rfl))) (pe_ix ix_q (pv 4) pe_int (fun _ _ => rfl))) (pe_ix ix_q (pv 4) pe_int (fun _ _ => rfl))) (pa_cons (pe_op op_cat (pe_op op_cat (pe_op op_cat (pe_op op_cat (pe_ix ix_q (pv 4) pe_int (fun _ _ => rfl)) (pe_ix ix_q (pv 4) pe_int (fun _ _ => rfl))) (pe_ix ix_q (pv 4) pe_int (fun _ _ => rfl))) (pe_ix ix_q (pv 4) pe_int (fun _ _ => rfl))) (pe_ix ix_q (pv 4) pe_int (fun _ _ => rfl))) (pa_cons (pe_op op_cat (pe_op op_cat (pe_op op_cat (pe_op op_cat (pe_ix ix_q (pv 4) pe_int (fun _ _ => rfl)) (pe_ix ix_q (pv 4) pe_int (fun _ _ => rfl))) (pe_ix ix_q (pv 4) pe_int (fun _ _ => rfl))) (pv 8)) (pe_ix ix_q (pv 4) pe_int (fun _ _ => rfl))) pa_nil)))))
  (pss_one (ps_ret (pe_lc (own := [("_law_words", 11)]) (g := gName 11) (by rfl) nd (pi_seq (pv 9)) (blkOk_by (own := [("_law_words", 11)]) (N := ["_law_tape", "_law_numbers_here", "_law_outside", "_law_planes", "_law_sorts", "_law_at", "_law_units", "_law_many", "_law_thirds", "_law_lists", "_law_k", "_law_words"]) (sc := defScope s_tripleL) (by decide +kernel)) (fun _ _ _ _ _ => (pg_name (i := 11) nd rfl (Or.inl rfl))) (fun _ _ _ _ _ => pts_nil) (fun _ _ _ _ _ => (pe_d D_blendL hr (pa_cons (pv 0) (pa_cons (pv 11) (pa_cons (pe_d D_pickL hr (pa_cons (pv 0) (pa_cons (pe_lst (pa_cons pe_int (pa_cons pe_int (pa_cons pe_int (pa_cons pe_int pa_nil))))) pa_nil))) pa_nil))))))))))))), ?_⟩
    have hN' : N + 100000 ≤ 1099511627776 := hN
    have ns : n.s ≤ 20 ∧ n.p1 ≤ 20 ∧ n.p2 ≤ 20 ∧ n.p3 ≤ 20 ∧ n.w ≤ 20 ∧ n.n1 ≤ 20 ∧ n.n2 ≤ 20 ∧ n.n3 ≤ 20 ∧ n.o ≤ 20 := by
      unfold Nums.l at hs
      exact ⟨hs _ (by simp), hs _ (by simp), hs _ (by simp), hs _ (by simp), hs _ (by simp), hs _ (by simp), hs _ (by simp), hs _ (by simp), hs _ (by simp)⟩
    obtain ⟨q0, q1, q2, q3, q4, q5, q6, q7, q8⟩ := ns
    have nb : n.bits ≤ 200 := by unfold Nums.bits; omega
    -- planes, sorts, at
    refine ⟨_, rfl, a, _, 4, vN n.w, rfl, rfl, .inl ha, rfl, (by show 0 ≤ sizeLine; decide), fun so hso => ⟨(by show 3 ≤ sizeLine; decide), fun y hy => ⟨y, _, rfl, SqT.of upd_same, rfl, _, _, rfl, _, _, rfl, _, _, rfl, rfl, ?_⟩⟩⟩
    have s1 := same_new (o := .tup [vN n.w, .ref so, .int 0]) (same_new0 (o := .lst []) hso) hy
    have e1 : upd (upd H so (.lst [])) y (.tup [vN n.w, .ref so, .int 0]) so = some (.lst []) := upd_new hy upd_same
    have hp1 := hp.same s1
    have ha1 := s1 _ _ ha
    have hpn := hp.ne hso
    have han : a ≠ so := ne_of_none ha hso
    generalize upd (upd H so _) y _ = H1 at *
    -- units
    refine ⟨_, rfl, _, rfl, a, n.l.map Int.ofNat, rfl, SqL.of (by rw [ha1, vN_ints]), _, rfl, n.l.sum, n.w, (by rw [sum_nat]), rfl, p, lc, N, n.bits, (by rw [nums_sum]; rfl), hp1, (by omega), (by show N + 10000 ≤ 1099511627776; omega), fun H2 q M mM hq e2 hp2 kp2 => ?_⟩
    have lM := mM.len
    have ha2 := kp2 _ _ ha1 rfl
    have so2 := kp2 _ _ e1 rfl
    have nq : q ≠ so := (ne_of_none e1 hq).symm
    have kp02 : Kp H H2 := (Kp.of s1).trans kp2
    -- the numbers in turn
    refine ⟨_, rfl, _, rfl, a, _, rfl, SqL.of ha2, fun x0 hx0 => ?_⟩
    rw [show cutV (n.l.map vN) none (some 5) = [vN n.s, vN n.p1, vN n.p2, vN n.p3, vN n.w] from rfl]
    have z0 := same_new0 (o := .lst [vN n.s, vN n.p1, vN n.p2, vN n.p3, vN n.w]) hx0
    refine ⟨_, rfl, (by show 1 ≤ sizeLine; decide), fun x1 hx1 => ?_⟩
    have z1 := z0.trans (same_new0 (o := .lst [vN n.w]) hx1)
    refine ⟨x0, x1, _, _, rfl, rfl, upd_new hx1 upd_same, upd_same, (by show 6 ≤ sizeLine; decide), fun x2 hx2 => ?_⟩
    have z2 := z1.trans (same_new0 (o := .lst ([vN n.s, vN n.p1, vN n.p2, vN n.p3, vN n.w] ++ [vN n.w])) hx2)
    refine ⟨_, rfl, _, rfl, _, rfl, a, _, rfl, SqL.of (z2 _ _ ha2), fun x3 hx3 => ?_⟩
    rw [show cutV (n.l.map vN) (some 5) (some 8) = [vN n.n1, vN n.n2, vN n.n3] from rfl]
    have z3 := z2.trans (same_new0 (o := .lst [vN n.n1, vN n.n2, vN n.n3]) hx3)
    refine ⟨x2, x3, _, _, rfl, rfl, upd_new hx3 upd_same, upd_same, (by show 9 ≤ sizeLine; decide), fun x4 hx4 => ?_⟩
    have z4 := z3.trans (same_new0 (o := .lst ([vN n.s, vN n.p1, vN n.p2, vN n.p3, vN n.w] ++ [vN n.w] ++ [vN n.n1, vN n.n2, vN n.n3])) hx4)
    refine ⟨_, rfl, (by show 1 ≤ sizeLine; decide), fun x5 hx5 => ?_⟩
    have z5 := z4.trans (same_new0 (o := .lst [vN n.o]) hx5)
    refine ⟨x4, x5, _, _, rfl, rfl, upd_new hx5 upd_same, upd_same, (by show 10 ≤ sizeLine; decide), fun lq hlq => ?_⟩
    have z6 := z5.trans (same_new0 (o := .lst ([vN n.s, vN n.p1, vN n.p2, vN n.p3, vN n.w] ++ [vN n.w] ++ [vN n.n1, vN n.n2, vN n.n3] ++ [vN n.o])) hlq)
    have e6 := upd_same (H := upd (upd (upd (upd (upd (upd H2 x0 (.lst [vN n.s, vN n.p1, vN n.p2, vN n.p3, vN n.w])) x1 (.lst [vN n.w])) x2 (.lst ([vN n.s, vN n.p1, vN n.p2, vN n.p3, vN n.w] ++ [vN n.w]))) x3 (.lst [vN n.n1, vN n.n2, vN n.n3])) x4 (.lst ([vN n.s, vN n.p1, vN n.p2, vN n.p3, vN n.w] ++ [vN n.w] ++ [vN n.n1, vN n.n2, vN n.n3]))) x5 (.lst [vN n.o])) (a := lq) (o := .lst ([vN n.s, vN n.p1, vN n.p2, vN n.p3, vN n.w] ++ [vN n.w] ++ [vN n.n1, vN n.n2, vN n.n3] ++ [vN n.o]))
    generalize upd (upd (upd (upd (upd (upd (upd H2 x0 _) x1 _) x2 _) x3 _) x4 _) x5 _) lq _ = H3 at *
    have e6 : H3 lq = some (.lst ((ksn n).map vN)) := e6
    have nlq : lq ≠ so := (ne_of_none (z5 _ _ so2) hlq).symm
    have so3 := z6 _ _ so2
    have hq3 := z6 _ _ e2
    have hp3 := hp2.same z6
    have kp03 := kp02.trans (Kp.of z6)
    have sk : (ksn n).sum = n.bits := by unfold ksn Nums.bits; simp only [List.sum_cons, List.sum_nil]; omega
    have kg : ∀ i, (ksn n).getD i 0 ≤ 20 := fun i => by
      unfold ksn
      match i with
      | 0 => exact q0
      | 1 => exact q1
      | 2 => exact q2
      | 3 => exact q3
      | 4 => exact q4
      | 5 => exact q4
      | 6 => exact q5
      | 7 => exact q6
      | 8 => exact q7
      | 9 => exact q8
      | i + 10 => exact Nat.zero_le _
    have sgl : ∀ i, (segs M n i).length ≤ 20 := fun i => by
      have kgi := kg i
      unfold segs
      split
      · rw [List.length_map, List.length_range]; omega
      · unfold lot0
        rw [List.length_take, List.length_drop]
        omega
    refine for_sq2 (K := K) (.inl e6) (fun i σ Hi => ∃ (v7 : Option V) (gs : List Addr), σ = [some (.ref p), some (.ref a), some (vN n.o), some (vN n.w), some (.ref so), some (vN (off (ksn n) i)), some (.ref q), v7, none, none, none, none] ∧ Ex so H3 Hi ∧ Hi so = some (.lst (gs.map V.ref)) ∧ gs.length = i ∧ ∀ j g, gs[j]? = some g → g ≠ so ∧ Hi g = some (.lst ((lot0 M (ksn n) j).map vN))) ⟨none, [], rfl, Ex.of (Same.refl _), so3, rfl, fun j g hj => by cases hj⟩ (fun i σ Hi hP o ho => ?_) (fun i x σ Hi hx hP => ?_) (fun σ H4 hP => ?_)
    · obtain ⟨v7, gs, rfl, ex, _⟩ := hP
      exact ex _ _ ho nlq
    · obtain ⟨v7, gs, rfl, ex, hso', lg, hg⟩ := hP
      obtain ⟨kk, hk, rfl⟩ := map_get hx
      have os := off_succ hk
      have ol := off_le (ksn n) (i + 1)
      have il := (List.getElem?_eq_some_iff.mp hk).1
      have il' : i < 10 := il
      refine ⟨_, rfl, .inl ⟨rfl, _, SqL.of hso'⟩, _, rfl, _, rfl, _, rfl, _, rfl, _, rfl, _, kk, rfl, rfl, _, rfl, q, _, rfl, SqL.of (ex _ _ hq3 nq), fun l hl => ?_⟩
      rw [cut_two _ (by omega) (by omega), show off (ksn n) i + kk - off (ksn n) i = ((ksn n).getD i 0) by rw [List.getD_eq_getElem?_getD, hk]; show _ = kk; omega]
      have nl : l ≠ so := (ne_of_none hso' hl).symm
      have zl := same_new0 (o := .lst (((M.drop (off (ksn n) i)).take ((ksn n).getD i 0)).map vN)) hl
      refine ⟨so, _, _, rfl, rfl, zl _ _ hso', (by rw [List.length_map, sizeLine_eq]; omega), ?_⟩
      refine ⟨_, rfl, _, rfl, _, kk, rfl, rfl, ?_⟩
      refine ⟨_, gs ++ [l], (by rw [os]; rfl), (ex.trans (Ex.of zl)).trans Ex.put, (by rw [upd_same, List.map_append]; rfl), (by rw [List.length_append, lg]; rfl), fun j g hj => ?_⟩
      by_cases z : j < gs.length
      · rw [List.getElem?_append_left z] at hj
        obtain ⟨g1, g2⟩ := hg j g hj
        exact ⟨g1, upd_put (zl _ _ g2) g1⟩
      · have jl := (List.getElem?_eq_some_iff.mp hj).1
        rw [List.length_append, List.length_singleton] at jl
        have : j = gs.length := by omega
        subst this
        rw [List.getElem?_append_right (Nat.le_refl _), Nat.sub_self] at hj
        cases hj
        rw [lg]
        exact ⟨nl, upd_put upd_same nl⟩
    obtain ⟨v7, gs, rfl, ex4, so4, lg, hg⟩ := hP
    rw [show ((ksn n).map vN).length = 10 from rfl] at *
    have kp04 : Kp H H4 := by
      refine ⟨fun b o hb nb => ?_, fun b hb => ?_⟩
      · exact ex4 _ _ (kp03 _ _ hb nb) (ne_of_none hb hso)
      · by_cases z : b = so
        · rw [z]; exact hso
        · cases h : H3 b with
          | none => exact kp03.free _ h
          | some o => rw [ex4 _ _ h z] at hb; cases hb
    have hp4 := hp3.ex ex4 hpn.1 hpn.2
    have hgs : ∀ i, i < 10 → ∃ g, gs[i]? = some g ∧ H4 g = some (.lst ((segs M n i).map vN)) := fun i hi => by
      have e : gs[i]? = some gs[i] := List.getElem?_eq_getElem (by omega)
      have ne10 : ¬ i = 10 := by omega
      refine ⟨_, e, ?_⟩
      have := (hg i _ e).2
      unfold segs
      rw [if_neg ne10]
      exact this
    have pl := segs_plt mM
    have sl : (segs M n 4).length = n.w := lot0_len rfl (by omega)
    have sl5 : (segs M n 5).length = n.w := lot0_len rfl (by omega)
    have at4 : ∀ i, i < 10 → ∃ g, (gs.map V.ref)[i]? = some (.ref g) ∧ H4 g = some (.lst ((segs M n i).map vN)) := fun i hi => by
      obtain ⟨g, h1, h2⟩ := hgs i hi
      exact ⟨g, by rw [List.getElem?_map, h1]; rfl, h2⟩
    obtain ⟨g0, i0, h0⟩ := at4 0 (by decide)
    obtain ⟨g1, i1, h1⟩ := at4 1 (by decide)
    obtain ⟨g2, i2, h2⟩ := at4 2 (by decide)
    obtain ⟨g3, i3, h3⟩ := at4 3 (by decide)
    obtain ⟨g4, i4, h4⟩ := at4 4 (by decide)
    obtain ⟨g5, i5, h5⟩ := at4 5 (by decide)
    obtain ⟨g6, i6, h6⟩ := at4 6 (by decide)
    obtain ⟨g7, i7, h7⟩ := at4 7 (by decide)
    obtain ⟨g8, i8, h8⟩ := at4 8 (by decide)
    have hlen : ∀ i, (segs M n i).length ≤ 20 := sgl
    have tw : TriW n ((segs M n 0 ++ segs M n 1 ++ segs M n 2 ++ segs M n 4 ++ segs M n 6)) ((segs M n 0 ++ segs M n 1 ++ segs M n 3 ++ segs M n 5 ++ segs M n 7)) ((segs M n 0 ++ segs M n 2 ++ segs M n 3 ++ segs M n 10 ++ segs M n 8)) := by
      refine ⟨⟨segs M n, pl, ⟨lot0_len rfl (by omega), lot0_len rfl (by omega), lot0_len rfl (by omega), lot0_len rfl (by omega), sl, lot0_len rfl (by omega), lot0_len rfl (by omega), lot0_len rfl (by omega), lot0_len rfl (by omega)⟩, fun x => ?_, fun x => ?_, fun x => ?_⟩, ?_, ?_, ?_⟩
      · rw [show cat (segs M n) [0, 1, 2, 4, 6] = segs M n 0 ++ segs M n 1 ++ segs M n 2 ++ segs M n 4 ++ segs M n 6 by simp [cat]]
      · rw [show cat (segs M n) [0, 1, 3, 5, 7] = segs M n 0 ++ segs M n 1 ++ segs M n 3 ++ segs M n 5 ++ segs M n 7 by simp [cat]]
      · rw [show cat (segs M n) [0, 2, 3, 10, 8] = segs M n 0 ++ segs M n 2 ++ segs M n 3 ++ segs M n 10 ++ segs M n 8 by simp [cat]]
      · have a := sgl 0; have b := sgl 1; have c := sgl 2; have d := sgl 4; have e := sgl 6
        simp only [List.length_append]; omega
      · have a := sgl 0; have b := sgl 1; have c := sgl 3; have d := sgl 5; have e := sgl 7
        simp only [List.length_append]; omega
      · have a := sgl 0; have b := sgl 2; have c := sgl 3; have d := sgl 10; have e := sgl 8
        simp only [List.length_append]; omega
    have seg10 : segs M n 10 = (List.range n.w).map fun k => (segs M n 4).getD k 0 ^^^ (segs M n 5).getD k 0 := rfl
    clear hg hgs at4 pl mM
    generalize hsg : segs M n = sg at *
    -- thirds
    refine ⟨_, rfl, _, rfl, (by omega), (by omega), lc_pureR (n := n.w) (fun _ => true) (fun k => vN ((sg 4).getD k 0 ^^^ (sg 5).getD k 0)) (by omega) (fun i H' hi s => ?_) (fun D H5 hD s5 e5 => ?_)⟩
    · intro Z Nx z1 z2
      have a4 : ((sg 4).map vN)[i]? = some (vN ((sg 4).getD i 0)) := by rw [List.getElem?_map, List.getD_eq_getElem?_getD, List.getElem?_eq_getElem (by omega)]; rfl
      have a5 : ((sg 5).map vN)[i]? = some (vN ((sg 5).getD i 0)) := by rw [List.getElem?_map, List.getD_eq_getElem?_getD, List.getElem?_eq_getElem (by omega)]; rfl
      refine ⟨rfl, _, rfl, so, _, 4, .ref g4, rfl, rfl, .inl (s _ _ so4), i4, _, rfl, g4, _, i, _, rfl, rfl, .inl (s _ _ h4), a4, ?_⟩
      exact ⟨_, rfl, so, _, 5, .ref g5, rfl, rfl, .inl (s _ _ so4), i5, _, rfl, g5, _, i, _, rfl, rfl, .inl (s _ _ h5), a5, _, _, rfl, rfl, z1 rfl _ (Same.refl _)⟩
    rw [filt_true] at e5
    have e5 : H5 D = some (.lst ((sg 10).map vN)) := by rw [e5, seg10, List.map_map]; rfl
    have so5 := s5 _ _ so4
    have t0 := Same.refl H5
    have hp5 := hp4.same s5
    have kp05 := kp04.trans (Kp.of s5)
    have h0 := s5 _ _ h0
    have h1 := s5 _ _ h1
    have h2 := s5 _ _ h2
    have h3 := s5 _ _ h3
    have h4 := s5 _ _ h4
    have h5 := s5 _ _ h5
    have h6 := s5 _ _ h6
    have h7 := s5 _ _ h7
    have h8 := s5 _ _ h8
    clear t0
    generalize hH5 : H5 = HB at *
    have t0 : Same HB HB := Same.refl HB
    refine ⟨_, rfl, so, _, 0, .ref g0, rfl, rfl, .inl (t0 _ _ so5), i0, _, rfl, so, _, 1, .ref g1, rfl, rfl, .inl (t0 _ _ so5), i1, g0, g1, _, _, rfl, rfl, (t0 _ _ h0), (t0 _ _ h1), (by have a := sgl 0; have b := sgl 1; have c := sgl 2; have d := sgl 4; have e := sgl 6; simp only [List.length_map, List.length_append, sizeLine_eq]; omega), fun c1 hc1 => ?_⟩
    have u0 := same_new0 (o := .lst ((sg 0).map vN ++ (sg 1).map vN)) hc1
    have ec1 := upd_same (H := HB) (a := c1) (o := .lst ((sg 0).map vN ++ (sg 1).map vN))
    rw [← List.map_append] at ec1 u0
    have t0 := t0.trans u0
    rw [← List.map_append]
    generalize upd HB c1 _ = Hx1 at *
    clear u0 hc1
    refine ⟨_, rfl, so, _, 2, .ref g2, rfl, rfl, .inl (t0 _ _ so5), i2, c1, g2, _, _, rfl, rfl, ec1, (t0 _ _ h2), (by have a := sgl 0; have b := sgl 1; have c := sgl 2; have d := sgl 4; have e := sgl 6; simp only [List.length_map, List.length_append, sizeLine_eq]; omega), fun c2 hc2 => ?_⟩
    have u0 := same_new0 (o := .lst ((sg 0 ++ sg 1).map vN ++ (sg 2).map vN)) hc2
    have ec2 := upd_same (H := Hx1) (a := c2) (o := .lst ((sg 0 ++ sg 1).map vN ++ (sg 2).map vN))
    rw [← List.map_append] at ec2 u0
    have t0 := t0.trans u0
    rw [← List.map_append]
    generalize upd Hx1 c2 _ = Hx2 at *
    clear u0 hc2
    refine ⟨_, rfl, so, _, 4, .ref g4, rfl, rfl, .inl (t0 _ _ so5), i4, c2, g4, _, _, rfl, rfl, ec2, (t0 _ _ h4), (by have a := sgl 0; have b := sgl 1; have c := sgl 2; have d := sgl 4; have e := sgl 6; simp only [List.length_map, List.length_append, sizeLine_eq]; omega), fun c3 hc3 => ?_⟩
    have u0 := same_new0 (o := .lst ((sg 0 ++ sg 1 ++ sg 2).map vN ++ (sg 4).map vN)) hc3
    have ec3 := upd_same (H := Hx2) (a := c3) (o := .lst ((sg 0 ++ sg 1 ++ sg 2).map vN ++ (sg 4).map vN))
    rw [← List.map_append] at ec3 u0
    have t0 := t0.trans u0
    rw [← List.map_append]
    generalize upd Hx2 c3 _ = Hx3 at *
    clear u0 hc3
    refine ⟨_, rfl, so, _, 6, .ref g6, rfl, rfl, .inl (t0 _ _ so5), i6, c3, g6, _, _, rfl, rfl, ec3, (t0 _ _ h6), (by have a := sgl 0; have b := sgl 1; have c := sgl 2; have d := sgl 4; have e := sgl 6; simp only [List.length_map, List.length_append, sizeLine_eq]; omega), fun c4 hc4 => ?_⟩
    have u0 := same_new0 (o := .lst ((sg 0 ++ sg 1 ++ sg 2 ++ sg 4).map vN ++ (sg 6).map vN)) hc4
    have ec4 := upd_same (H := Hx3) (a := c4) (o := .lst ((sg 0 ++ sg 1 ++ sg 2 ++ sg 4).map vN ++ (sg 6).map vN))
    rw [← List.map_append] at ec4 u0
    have t0 := t0.trans u0
    rw [← List.map_append]
    generalize upd Hx3 c4 _ = Hx4 at *
    clear u0 hc4
    refine ⟨_, rfl, so, _, 0, .ref g0, rfl, rfl, .inl (t0 _ _ so5), i0, _, rfl, so, _, 1, .ref g1, rfl, rfl, .inl (t0 _ _ so5), i1, g0, g1, _, _, rfl, rfl, (t0 _ _ h0), (t0 _ _ h1), (by have a := sgl 0; have b := sgl 1; have c := sgl 3; have d := sgl 5; have e := sgl 7; simp only [List.length_map, List.length_append, sizeLine_eq]; omega), fun c5 hc5 => ?_⟩
    have u0 := same_new0 (o := .lst ((sg 0).map vN ++ (sg 1).map vN)) hc5
    have ec5 := upd_same (H := Hx4) (a := c5) (o := .lst ((sg 0).map vN ++ (sg 1).map vN))
    rw [← List.map_append] at ec5 u0
    have ec4 := u0 _ _ ec4
    have t0 := t0.trans u0
    rw [← List.map_append]
    generalize upd Hx4 c5 _ = Hx5 at *
    clear u0 hc5
    refine ⟨_, rfl, so, _, 3, .ref g3, rfl, rfl, .inl (t0 _ _ so5), i3, c5, g3, _, _, rfl, rfl, ec5, (t0 _ _ h3), (by have a := sgl 0; have b := sgl 1; have c := sgl 3; have d := sgl 5; have e := sgl 7; simp only [List.length_map, List.length_append, sizeLine_eq]; omega), fun c6 hc6 => ?_⟩
    have u0 := same_new0 (o := .lst ((sg 0 ++ sg 1).map vN ++ (sg 3).map vN)) hc6
    have ec6 := upd_same (H := Hx5) (a := c6) (o := .lst ((sg 0 ++ sg 1).map vN ++ (sg 3).map vN))
    rw [← List.map_append] at ec6 u0
    have ec4 := u0 _ _ ec4
    have t0 := t0.trans u0
    rw [← List.map_append]
    generalize upd Hx5 c6 _ = Hx6 at *
    clear u0 hc6
    refine ⟨_, rfl, so, _, 5, .ref g5, rfl, rfl, .inl (t0 _ _ so5), i5, c6, g5, _, _, rfl, rfl, ec6, (t0 _ _ h5), (by have a := sgl 0; have b := sgl 1; have c := sgl 3; have d := sgl 5; have e := sgl 7; simp only [List.length_map, List.length_append, sizeLine_eq]; omega), fun c7 hc7 => ?_⟩
    have u0 := same_new0 (o := .lst ((sg 0 ++ sg 1 ++ sg 3).map vN ++ (sg 5).map vN)) hc7
    have ec7 := upd_same (H := Hx6) (a := c7) (o := .lst ((sg 0 ++ sg 1 ++ sg 3).map vN ++ (sg 5).map vN))
    rw [← List.map_append] at ec7 u0
    have ec4 := u0 _ _ ec4
    have t0 := t0.trans u0
    rw [← List.map_append]
    generalize upd Hx6 c7 _ = Hx7 at *
    clear u0 hc7
    refine ⟨_, rfl, so, _, 7, .ref g7, rfl, rfl, .inl (t0 _ _ so5), i7, c7, g7, _, _, rfl, rfl, ec7, (t0 _ _ h7), (by have a := sgl 0; have b := sgl 1; have c := sgl 3; have d := sgl 5; have e := sgl 7; simp only [List.length_map, List.length_append, sizeLine_eq]; omega), fun c8 hc8 => ?_⟩
    have u0 := same_new0 (o := .lst ((sg 0 ++ sg 1 ++ sg 3 ++ sg 5).map vN ++ (sg 7).map vN)) hc8
    have ec8 := upd_same (H := Hx7) (a := c8) (o := .lst ((sg 0 ++ sg 1 ++ sg 3 ++ sg 5).map vN ++ (sg 7).map vN))
    rw [← List.map_append] at ec8 u0
    have ec4 := u0 _ _ ec4
    have t0 := t0.trans u0
    rw [← List.map_append]
    generalize upd Hx7 c8 _ = Hx8 at *
    clear u0 hc8
    refine ⟨_, rfl, so, _, 0, .ref g0, rfl, rfl, .inl (t0 _ _ so5), i0, _, rfl, so, _, 2, .ref g2, rfl, rfl, .inl (t0 _ _ so5), i2, g0, g2, _, _, rfl, rfl, (t0 _ _ h0), (t0 _ _ h2), (by have a := sgl 0; have b := sgl 2; have c := sgl 3; have d := sgl 10; have e := sgl 8; simp only [List.length_map, List.length_append, sizeLine_eq]; omega), fun c9 hc9 => ?_⟩
    have u0 := same_new0 (o := .lst ((sg 0).map vN ++ (sg 2).map vN)) hc9
    have ec9 := upd_same (H := Hx8) (a := c9) (o := .lst ((sg 0).map vN ++ (sg 2).map vN))
    rw [← List.map_append] at ec9 u0
    have ec4 := u0 _ _ ec4
    have ec8 := u0 _ _ ec8
    have t0 := t0.trans u0
    rw [← List.map_append]
    generalize upd Hx8 c9 _ = Hx9 at *
    clear u0 hc9
    refine ⟨_, rfl, so, _, 3, .ref g3, rfl, rfl, .inl (t0 _ _ so5), i3, c9, g3, _, _, rfl, rfl, ec9, (t0 _ _ h3), (by have a := sgl 0; have b := sgl 2; have c := sgl 3; have d := sgl 10; have e := sgl 8; simp only [List.length_map, List.length_append, sizeLine_eq]; omega), fun c10 hc10 => ?_⟩
    have u0 := same_new0 (o := .lst ((sg 0 ++ sg 2).map vN ++ (sg 3).map vN)) hc10
    have ec10 := upd_same (H := Hx9) (a := c10) (o := .lst ((sg 0 ++ sg 2).map vN ++ (sg 3).map vN))
    rw [← List.map_append] at ec10 u0
    have ec4 := u0 _ _ ec4
    have ec8 := u0 _ _ ec8
    have t0 := t0.trans u0
    rw [← List.map_append]
    generalize upd Hx9 c10 _ = Hx10 at *
    clear u0 hc10
    refine ⟨_, rfl, c10, D, _, _, rfl, rfl, ec10, (t0 _ _ e5), (by have a := sgl 0; have b := sgl 2; have c := sgl 3; have d := sgl 10; have e := sgl 8; simp only [List.length_map, List.length_append, sizeLine_eq]; omega), fun c11 hc11 => ?_⟩
    have u0 := same_new0 (o := .lst ((sg 0 ++ sg 2 ++ sg 3).map vN ++ (sg 10).map vN)) hc11
    have ec11 := upd_same (H := Hx10) (a := c11) (o := .lst ((sg 0 ++ sg 2 ++ sg 3).map vN ++ (sg 10).map vN))
    rw [← List.map_append] at ec11 u0
    have ec4 := u0 _ _ ec4
    have ec8 := u0 _ _ ec8
    have t0 := t0.trans u0
    rw [← List.map_append]
    generalize upd Hx10 c11 _ = Hx11 at *
    clear u0 hc11
    refine ⟨_, rfl, so, _, 8, .ref g8, rfl, rfl, .inl (t0 _ _ so5), i8, c11, g8, _, _, rfl, rfl, ec11, (t0 _ _ h8), (by have a := sgl 0; have b := sgl 2; have c := sgl 3; have d := sgl 10; have e := sgl 8; simp only [List.length_map, List.length_append, sizeLine_eq]; omega), fun c12 hc12 => ?_⟩
    have u0 := same_new0 (o := .lst ((sg 0 ++ sg 2 ++ sg 3 ++ sg 10).map vN ++ (sg 8).map vN)) hc12
    have ec12 := upd_same (H := Hx11) (a := c12) (o := .lst ((sg 0 ++ sg 2 ++ sg 3 ++ sg 10).map vN ++ (sg 8).map vN))
    rw [← List.map_append] at ec12 u0
    have ec4 := u0 _ _ ec4
    have ec8 := u0 _ _ ec8
    have t0 := t0.trans u0
    rw [← List.map_append]
    generalize upd Hx11 c12 _ = Hx12 at *
    clear u0 hc12
    refine ⟨(by show 3 ≤ sizeLine; decide), fun lz hlz => ?_⟩
    have zl := same_new0 (o := .lst [.ref c4, .ref c8, .ref c12]) hlz
    have ez : upd Hx12 lz (.lst [.ref c4, .ref c8, .ref c12]) lz = some (.lst ([(c4, sg 0 ++ sg 1 ++ sg 2 ++ sg 4 ++ sg 6), (c8, sg 0 ++ sg 1 ++ sg 3 ++ sg 5 ++ sg 7), (c12, sg 0 ++ sg 2 ++ sg 3 ++ sg 10 ++ sg 8)].map fun e : Addr × List Nat => V.ref e.1)) := upd_same
    have ec4 := zl _ _ ec4
    have ec8 := zl _ _ ec8
    have ec12 := zl _ _ ec12
    have hp6 := (hp5.same t0).same zl
    have kp06 := (kp05.trans (Kp.of t0)).trans (Kp.of zl)
    generalize upd Hx12 lz _ = H6 at *
    have le : ∀ e ∈ [(c4, sg 0 ++ sg 1 ++ sg 2 ++ sg 4 ++ sg 6), (c8, sg 0 ++ sg 1 ++ sg 3 ++ sg 5 ++ sg 7), (c12, sg 0 ++ sg 2 ++ sg 3 ++ sg 10 ++ sg 8)], H6 e.1 = some (.lst (e.2.map vN)) ∧ e.2.length ≤ 1000 := fun e he => by
      simp only [List.mem_cons, List.not_mem_nil, or_false] at he
      rcases he with rfl | rfl | rfl
      · exact ⟨ec4, tw.l1⟩
      · exact ⟨ec8, tw.l2⟩
      · exact ⟨ec12, tw.l3⟩
    have pk : ∀ v : V, v ∈ [V.int 0, V.int 0, V.int 1, V.int 3] → ∃ ex : Nat, v = vN ex ∧ ex ≤ 3 := fun v hv => by
      simp only [List.mem_cons, List.not_mem_nil, or_false] at hv
      rcases hv with rfl | rfl | rfl | rfl
      · exact ⟨0, rfl, by decide⟩
      · exact ⟨0, rfl, by decide⟩
      · exact ⟨1, rfl, by decide⟩
      · exact ⟨3, rfl, by decide⟩
    refine ⟨_, rfl, lc_seq (Sq.l ez) (fun Dd i Hi => Tp Hi p lc (N + 10000 + 20001 * i) ∧ Kp H6 Hi ∧ ∃ rs : List (Addr × List Nat), Hi Dd = some (.lst (rs.map fun e => V.ref e.1)) ∧ rs.length = i ∧ (∀ e ∈ rs, Hi e.1 = some (.lst (e.2.map vN)) ∧ e.1 ≠ Dd) ∧ ∀ (j : Nat) (e g : Addr × List Nat), rs[j]? = some e → [(c4, sg 0 ++ sg 1 ++ sg 2 ++ sg 4 ++ sg 6), (c8, sg 0 ++ sg 1 ++ sg 3 ++ sg 5 ++ sg 7), (c12, sg 0 ++ sg 2 ++ sg 3 ++ sg 10 ++ sg 8)][j]? = some g → e.2.length ≤ g.2.length + 3 ∧ ∀ x, Spn e.2 x ↔ Spn g.2 x) (fun Dd hDd => ⟨(hp6.put (hp6.ne hDd)).mono (by omega), kp_new (Kp.refl H6) hDd, [], upd_same, rfl, (fun e he => by cases he), fun j e g hj => by cases hj⟩) (fun Dd i Hi hDd hP => hP.2.1) (fun Dd i x Hi hDd hx hP => ?_) (fun Dd H7 hDd hP => ?_)⟩
    · obtain ⟨hpi, kpi, rs, hDi, lr, hrs, hsp⟩ := hP
      obtain ⟨e, he, rfl⟩ := map_get hx
      obtain ⟨le1, le2⟩ := le e (List.mem_of_getElem? he)
      have il := (List.getElem?_eq_some_iff.mp he).1
      have il' : i < 3 := il
      refine ⟨rfl, ?_⟩
      refine ⟨_, rfl, _, rfl, _, rfl, (by show 4 ≤ sizeLine; decide), fun pl hpl => ?_⟩
      have zp := same_new0 (o := .lst [.int 0, .int 0, .int 1, .int 3]) hpl
      refine ⟨p, lc, pl, _, _, rfl, hpi.same zp, .inl upd_same, (by decide), (by decide), (by show N + 10000 + 20001 * i + 1 ≤ 1099511627776; omega), fun H8 v hv hp8 kp8 => ?_⟩
      obtain ⟨ex, rfl, hex⟩ := pk v hv
      have kpx := (kpi.trans (Kp.of zp)).trans kp8
      refine ⟨p, lc, e.1, _, ex, e.2, rfl, hp8, .inl (kpx _ _ le1 rfl), le2, (by omega), (by show N + 10000 + 20001 * i + 1 + 20000 ≤ 1099511627776; omega), fun H9 qf G lG sG hqf e9 hp9 kp9 => ?_⟩
      have kpD := ((Kp.of zp).trans kp8).trans kp9
      have hD9 := kpD _ _ hDi rfl
      have nf : qf ≠ Dd := (ne_of_none (((Kp.of zp).trans kp8) _ _ hDi rfl) hqf).symm
      refine ⟨_, hD9, (by rw [List.length_map, sizeLine_eq]; omega), (hp9.put (hp6.ne hDd)).mono (by omega), kp_put (kpx.trans kp9) hDd, rs ++ [(qf, G)], ?_, ?_, fun g hg => ?_, fun j g t hj ht => ?_⟩
      · rw [upd_same, List.map_append]; rfl
      · rw [List.length_append, lr]; rfl
      · rcases List.mem_append.mp hg with hg | hg
        · obtain ⟨b1, b2⟩ := hrs g hg
          exact ⟨upd_put (kpD _ _ b1 rfl) b2, b2⟩
        · rw [List.mem_singleton.mp hg]
          exact ⟨upd_put e9 nf, nf⟩
      · by_cases z : j < rs.length
        · rw [List.getElem?_append_left z] at hj
          exact hsp j g t hj ht
        · have jl := (List.getElem?_eq_some_iff.mp hj).1
          rw [List.length_append, List.length_singleton] at jl
          have : j = i := by omega
          subst this
          rw [he] at ht
          cases ht
          rw [List.getElem?_append_right (by omega), lr, Nat.sub_self] at hj
          cases hj
          exact ⟨by show G.length ≤ _; omega, sG⟩
    obtain ⟨hp7, kp7, rs, hD7, lr, hrs, hsp⟩ := hP
    obtain ⟨r1, r2, r3, rfl⟩ := three_of lr
    obtain ⟨b1, x1⟩ := hsp 0 r1 _ rfl rfl
    obtain ⟨b2, x2⟩ := hsp 1 r2 _ rfl rfl
    obtain ⟨b3, x3⟩ := hsp 2 r3 _ rfl rfl
    obtain ⟨⟨seg, p1, p2, p3, p4, p5⟩, l1, l2, l3⟩ := tw
    refine k _ Dd r1.2 r2.2 r3.2 ⟨⟨seg, p1, p2, fun x => (x1 x).trans (p3 x), fun x => (x2 x).trans (p4 x), fun x => (x3 x).trans (p5 x)⟩, ?_, ?_, ?_⟩ ⟨⟨r1.1, r2.1, r3.1, hD7, (hrs r1 (by simp)).1, (hrs r2 (by simp)).1, (hrs r3 (by simp)).1⟩⟩ (hp7.mono (by show N + 10000 + 20001 * 3 ≤ N + 100000; omega)) (kp06.trans kp7)
    · have a := sgl 0; have b := sgl 1; have c := sgl 2; have d := sgl 4; have e := sgl 6
      simp only [List.length_append] at b1; omega
    · have a := sgl 0; have b := sgl 1; have c := sgl 3; have d := sgl 5; have e := sgl 7
      simp only [List.length_append] at b2; omega
    · have a := sgl 0; have b := sgl 2; have c := sgl 3; have d := sgl 10; have e := sgl 8
      simp only [List.length_append] at b3; omega
include TS TH in
theorem ok_three_of (F : FnP K "_law_three_of" "_law_three_of" s_three_ofL f fd) (K_Space : Kn P w K mg base 4 CS "Space" ["self", "bits", "words"] (sp_Space CS)) (K_Three : Kn P w K mg base 8 CH "Three" ["self", "one", "two", "three"] (sp_Three CS CH)) : FnOk P w K mg base CX0 10 f fd ["_law_bits", "_law_lists"] (sp_three_of CS CH) := by
  have nd := sc_three_ofL.nd
  refine fnok F sc_three_ofL (fun vs H Q E h => ?_) (fun cdv A outer s H vs Q E hr h => ?_)
  · obtain ⟨a, b, L1, L2, L3, rfl, _⟩ := h
    rfl
  · obtain ⟨a, b, L1, L2, L3, rfl, ⟨c1, c2, c3, h0, h1, h2, h3⟩, x1, x2, x3, l1, l2, l3, hb, k⟩ := h
    refine ⟨_, (pss_one (ps_ret (pe_k K_Three hr (pa_cons (pe_k K_Space hr (pa_cons (pv 0) (pa_cons (pe_callTy call_listQ (by rfl) T.list (by decide +kernel) (pa_cons (pe_ix ix_q (pv 1) pe_int (fun _ _ => rfl)) pa_nil)) pa_nil))) (pa_cons (pe_k K_Space hr (pa_cons (pv 0) (pa_cons (pe_callTy call_tupleQ (by rfl) T.tuple (by decide +kernel) (pa_cons (pe_ix ix_q (pv 1) pe_int (fun _ _ => rfl)) pa_nil)) pa_nil))) (pa_cons (pe_k K_Space hr (pa_cons (pv 0) (pa_cons (pe_callTy call_listQ (by rfl) T.list (by decide +kernel) (pa_cons (pe_ix ix_q (pv 1) pe_int (fun _ _ => rfl)) pa_nil)) pa_nil))) pa_nil)))))), ?_⟩
    have wf : ∀ {L : List Nat}, (∀ x ∈ L, x < 2 ^ b) → WfS b (spn L) := fun {L} hL => wf_of hb (spn_rws _) (spn_ltb hL)
    have bl : ∀ {L : List Nat}, (∀ x ∈ L, x < 2 ^ b) → ∀ x ∈ L, blen x ≤ b := fun {L} hL x hx => blen_le.mpr (hL x hx)
    refine ⟨_, rfl, _, rfl, a, _, 0, .ref c1, rfl, rfl, .inl h0, rfl, c1, _, rfl, .inl h1, fun q1 hq1 => ?_⟩
    have s1 := same_new0 (o := .lst (L1.map vN)) hq1
    refine mk_SpaceR (ws := L1) (.inl upd_same) (bl x1) (by omega) (fun H2 p1 s2 hp1 e1 => ⟨rfl, ?_⟩)
    have t2 := s1.trans s2
    refine ⟨_, rfl, _, rfl, a, _, 1, .ref c2, rfl, rfl, .inl (t2 _ _ h0), rfl, c2, _, rfl, t2 _ _ h2, fun q2 hq2 => ?_⟩
    have s3 := same_new0 (o := .tup (L2.map vN)) hq2
    refine mk_SpaceR (ws := L2) (.inr upd_same) (bl x2) (by omega) (fun H4 p2 s4 hp2 e2 => ⟨rfl, ?_⟩)
    have t4 := (t2.trans s3).trans s4
    refine ⟨_, rfl, _, rfl, a, _, 2, .ref c3, rfl, rfl, .inl (t4 _ _ h0), rfl, c3, _, rfl, .inl (t4 _ _ h3), fun q3 hq3 => ?_⟩
    have s5 := same_new0 (o := .lst (L3.map vN)) hq3
    refine mk_SpaceR (ws := L3) (.inl upd_same) (bl x3) (by omega) (fun H6 p3 s6 hp3 e3 => ⟨rfl, ?_⟩)
    have e1 := e1.same ((s3.trans s4).trans (s5.trans s6))
    have e2 := e2.same (s5.trans s6)
    have t6 := (t4.trans s5).trans s6
    intro x dx nx ndx ne
    have nx' : upd H6 dx (.own x) x = none := (upd_ne ne.symm).trans nx
    have su := same_new (o := .ins CH dx []) (same_new0 (o := .own x) ndx) nx'
    exact ⟨x, dx, p1, p2, p3, b, _, _, _, rfl, upd_same, e1.same su, e2.same su, e3.same su, wf x1, wf x2, wf x3, hb, fun H' hA kp => ⟨rfl, k _ _ (t6.trans (made_same nx ndx kp)) (t6.free nx) hA⟩⟩
end
end LaneX
set_option Elab.async false
set_option linter.all false
set_option maxRecDepth 100000
set_option maxHeartbeats 4000000
namespace LaneX
open PySem PySem.Spec PyProof.Rows L2
def tps (rows : List Nat) : List Nat := rows.map fun r => blen r - 1
def sp_tops_of : Sp := fun vs H Q _ => ∃ (a : Addr) (rows : List Nat), vs = [.ref a] ∧ Tq H a (rows.map vN) ∧ (∀ r ∈ rows, r ≠ 0) ∧ rows.length ≤ 1000000 ∧ ∀ H' q, Same H H' → H q = none → H' q = some (.lst ((tps rows).map vN)) → Q (.ref q) H'
def sp_missing : Sp := fun vs H Q _ => ∃ (a : Addr) (rows : List Nat), vs = [.ref a] ∧ Tq H a (rows.map vN) ∧ (∀ r ∈ rows, r ≠ 0) ∧ rows.length ≤ 1000000 ∧ ∀ H' j, Same H H' → Mis rows j → Q (vN (1 <<< j)) H'
def sp_outside : Sp := fun vs H Q _ => ∃ (a c : Addr) (R S : List Nat), vs = [.ref a, .ref c] ∧ Tq H a (R.map vN) ∧ Tq H c (S.map vN) ∧ Rws R ∧ Rws S ∧ R.length ≤ 1000000 ∧ S.length ≤ 1000000 ∧
  ∀ H' v, Same H H' → ¬ Spn R v → ¬ Spn S v → (∀ k, R.length < k → S.length < k → v < 2 ^ k) → Q (vN v) H'
def sp_need_three (CH : Addr) : Sp := fun vs H Q _ => ∃ (p : Addr) (b : Nat) (t : ThW), vs = [.ref p] ∧ ThAt CH H p b t ∧ Q .non H
def sp_filled (CS CH : Addr) : Sp := fun vs H Q _ => ∃ (p : Addr) (b : Nat) (A B D : List Nat) (t : ThW), vs = [.ref p] ∧ Th3 CS CH H p b A B D t ∧ WfS b A ∧ WfS b B ∧ WfS b D ∧ b ≤ 1000 ∧ (Fld3 t → ∀ H' q, Same H H' → H q = none → SpaceAt CS H' q b (sm (sm A B) D) → Q (.ref q) H') ∧ (¬ Fld3 t → ∀ H', Same H H' → Q .non H')
theorem itf {b : Bool} {A B : Prop} (e : b = false) (h : B) : if b = true then A else B := by
  subst e
  exact iteF h
theorem itt {b : Bool} {A B : Prop} (e : b = true) (h : A) : if b = true then A else B := by
  subst e
  exact iteT h
theorem ne_self (v : V) : (!decide (v = v)) = false := by simp
theorem all_trues {α : Type} (l : List α) : (l.map fun _ => true).all id = true := by
  rw [List.all_map, List.all_eq_true]
  exact fun _ _ => rfl
theorem getD_get {l : List Nat} {i : Nat} (h : i < l.length) : (l.map vN)[i]? = some (vN (l.getD i 0)) := by rw [List.getElem?_map, List.getD_eq_getElem?_getD, List.getElem?_eq_getElem h]; rfl
theorem rws_pow {R : List Nat} (h : Rws R) {j : Nat} (m : Mis R j) : ¬ Spn R (1 <<< j) := by
  rw [Nat.one_shiftLeft]
  exact m.at_ h
theorem mis_lt {R : List Nat} {j k : Nat} (m : Mis R j) (h : R.length < k) : 1 <<< j < 2 ^ k := by
  rw [Nat.one_shiftLeft]
  exact Nat.pow_lt_pow_right (by decide) (Nat.lt_of_le_of_lt (mis_le m.1) h)
theorem clr_iff {R : List Nat} (h : Rws R) {x : Nat} : (clr R x ≠ 0) ↔ ¬ Spn R x := by rw [h.span]
/-- the seven numbers of the middle -/
theorem fld_iff (t : ThW) : ([t.P1.length, t.P2.length, t.P3.length, t.W.length, t.N1.length, t.N2.length, t.N3.length] = [0, 0, 0, 1, 0, 0, 0]) ↔ Fld3 t := by
  simp only [List.cons.injEq, and_true]
  exact ⟨fun ⟨a, b, c, d, e, f, g⟩ => ⟨a, b, c, d, e, f, g⟩, fun h => ⟨h.p1, h.p2, h.p3, h.w, h.n1, h.n2, h.n3⟩⟩
section
variable {P : Program} {w : World} {K : PySem.W.Frag} {mg : Str → Option Value} {base : Heap} {f : Addr} {fd : FuncData} {CS CR CM CH : Addr} (T : Bt mg) (TS : SpaceT K mg CS) (TM : MapT K mg CM) (TH : ThreeT K mg CH)
theorem ok_tops_of (F : FnP K "tops_of" "tops_of" s_tops_of f fd) : FnOk P w K mg base CX0 1 f fd ["rows"] sp_tops_of := by
  have nd := sc_tops_of.nd
  refine fnok F sc_tops_of (fun vs H Q E h => ?_) (fun cdv A outer s H vs Q E hr h => ?_)
  · obtain ⟨a, rows, rfl, _⟩ := h
    rfl
  · obtain ⟨a, rows, rfl, hS, nz, hl, k⟩ := h
    refine ⟨_, (pss_one (ps_ret (pe_lc (own := [("row", 1)]) (g := gName 1) (by rfl) nd (pi_seq (pv 0)) (blkOk_by (own := [("row", 1)]) (N := ["rows", "row"]) (sc := defScope s_tops_of) (by decide +kernel)) (fun _ _ _ _ _ => (pg_name (i := 1) nd rfl (Or.inl rfl))) (fun _ _ _ _ _ => pts_nil) (fun _ _ _ _ _ => (pe_op on_sub (pe_bits (pv 1)) pe_int))))), ?_⟩
    refine ⟨_, rfl, lc_pure rows vN (fun _ => true) (fun r => vN (blen r - 1)) hS hl (fun r H' hr' s => ?_) (fun D H' hD s h' => ?_)⟩
    · intro Z Nx z1 z2
      refine ⟨rfl, _, rfl, r, rfl, blen r, 1, ?_, rfl, blen_pos (nz r hr'), z1 rfl _ (Same.refl _)⟩
      rw [← blen_bits]
    · rw [filt_true] at h'
      exact k _ _ s hD (by rw [h']; simp [tps])
include T
theorem ok_missing (F : FnP K "missing" "missing" s_missing f fd) (D_tops_of : Dn P w K mg base 1 "tops_of" ["rows"] sp_tops_of) : FnOk P w K mg base CX0 2 f fd ["rows"] sp_missing := by
  have nd := sc_missing.nd
  refine fnok F sc_missing (fun vs H Q E h => ?_) (fun cdv A outer s H vs Q E hr h => ?_)
  · obtain ⟨a, rows, rfl, _⟩ := h
    rfl
  · obtain ⟨a, rows, rfl, hS, nz, hl, k⟩ := h
    refine ⟨_, (pss_cons (ps_set (i := 1) nd rfl (Or.inl rfl) (pe_d D_tops_of hr (pa_cons (pv 0) pa_nil)))
  (pss_cons (ps_set (i := 2) nd rfl (Or.inl rfl) pe_int)
  (pss_cons (ps_while PassesOwn.never (pt_cmpR on_in (pv 2) (pv 1) (by rfl))
    (pss_one (ps_aug (i := 2) nd rfl (.inl rfl) pe_int iop_addN)))
  (pss_one (ps_ret (pe_op on_shl pe_int (pv 2))))))), ?_⟩
    refine ⟨_, rfl, a, rows, rfl, hS, nz, hl, fun H1 q s1 hq h1 => ?_⟩
    refine ⟨fun m σ H2 => ∃ j, m = rows.length + 1 - j ∧ σ = [some (.ref a), some (.ref q), some (vN j)] ∧ H2 = H1 ∧ ∀ i, i < j → ∃ r ∈ rows, blen r - 1 = i, ⟨_, 0, rfl, rfl, rfl, fun i hi => absurd hi (Nat.not_lt_zero _)⟩, ?_⟩
    rintro m σ H2 ⟨j, rfl, rfl, rfl, hj⟩
    have jl := mis_le hj
    refine ⟨_, rfl, _, rfl, j, q, _, rfl, rfl, .inl h1, _, rfl, ?_⟩
    refine br (fun e => ?_) (fun e => ?_)
    · have e := of_decide_eq_true e
      refine ⟨fun σ' H' => ∃ j', j' = j + 1 ∧ σ' = [some (.ref a), some (.ref q), some (vN j')] ∧ H' = H2 ∧ ∀ i, i < j' → ∃ r ∈ rows, blen r - 1 = i, fun σ' H' hN => ?_, ?_⟩
      · obtain ⟨j', rfl, h2, h3, h4⟩ := hN
        exact ⟨_, by omega, j + 1, rfl, h2, h3, h4⟩
      · refine ⟨_, rfl, j, 1, rfl, rfl, _, rfl, rfl, rfl, fun i hi => ?_⟩
        by_cases z : i < j
        · exact hj i z
        · have : i = j := by omega
          subst this
          obtain ⟨r, hr', e'⟩ := List.mem_map.mp e
          exact ⟨r, hr', e'⟩
    · have e := of_decide_eq_false e
      refine ⟨_, rfl, 1, j, rfl, rfl, shl_ok1 (by rw [blen_one]; decide) (by omega), k _ _ s1 ⟨hj, fun r hr' z => e (List.mem_map.mpr ⟨r, hr', z⟩)⟩⟩

theorem ok_outside (F : FnP K "outside" "outside" s_outside f fd) (D_missing : Dn P w K mg base 2 "missing" ["rows"] sp_missing) (D_cleared : Dn P w K mg base 1 "cleared" ["rows", "word"] sp_cleared) : FnOk P w K mg base CX0 3 f fd ["rows", "others"] sp_outside := by
  have nd := sc_outside.nd
  refine fnok F sc_outside (fun vs H Q E h => ?_) (fun cdv A outer s H vs Q E hr h => ?_)
  · obtain ⟨a, c, R, S, rfl, _⟩ := h
    rfl
  · obtain ⟨a, c, R, S, rfl, hR, hS, rR, rS, lR, lS, k⟩ := h
    refine ⟨_, (pss_cons (ps_par (i := 2) (j := 3) (by rfl) nd rfl rfl (by decide) rfl rfl (pa_cons (pe_d D_missing hr (pa_cons (pv 0) pa_nil)) (pa_cons (pe_d D_missing hr (pa_cons (pv 1) pa_nil)) pa_nil)) (by rfl))
  (pss_cons (ps_if (pt_cmpR op_ne (pe_d D_cleared hr (pa_cons (pv 1) (pa_cons (pv 2) pa_nil))) pe_int (nomark _))
    (pss_one (ps_ret (pv 2)))
    pss_nil)
  (pss_cons (ps_if (pt_cmpR op_ne (pe_d D_cleared hr (pa_cons (pv 0) (pa_cons (pv 3) pa_nil))) pe_int (nomark _))
    (pss_one (ps_ret (pv 3)))
    pss_nil)
  (pss_one (ps_ret (pe_op on_xor (pv 2) (pv 3))))))), ?_⟩
    refine ⟨_, rfl, a, R, rfl, hR, rR.nz, lR, fun H1 i s1 mi => ?_⟩
    refine ⟨_, rfl, c, S, rfl, same_tq s1 hS, rS.nz, lS, fun H2 j s2 mj => ⟨_, _, rfl, ?_⟩⟩
    have s12 := s1.trans s2
    have oi := rws_pow rR mi
    have oj := rws_pow rS mj
    have bi := fun k (h : R.length < k) => mis_lt mi h
    have bj := fun k (h : S.length < k) => mis_lt mj h
    generalize 1 <<< i = x at *
    generalize 1 <<< j = y at *
    refine ⟨_, rfl, _, rfl, c, S, x, rfl, same_tq s12 hS, rS.nz, rfl, _, rfl, ?_⟩
    rw [dec_ne0]
    refine br (fun e => ?_) (fun e => ?_)
    · have e0 : clr S x ≠ 0 := by simpa using e
      exact ⟨_, rfl, k _ x s12 oi ((clr_iff rS).mp e0) fun k h _ => bi k h⟩
    have ex : Spn S x := rS.span.mpr (by simpa using e)
    refine ⟨_, rfl, _, rfl, a, R, y, rfl, same_tq s12 hR, rR.nz, rfl, _, rfl, ?_⟩
    rw [dec_ne0]
    refine br (fun e => ?_) (fun e => ?_)
    · have e0 : clr R y ≠ 0 := by simpa using e
      exact ⟨_, rfl, k _ y s12 ((clr_iff rR).mp e0) oj fun k _ h => bj k h⟩
    have ey : Spn R y := rR.span.mpr (by simpa using e)
    refine ⟨_, rfl, _, rfl, x, y, rfl, rfl, k _ _ s12 (fun z => oi ?_) (fun z => oj ?_) fun k h1 h2 => Nat.xor_lt_two_pow (bi k h1) (bj k h2)⟩
    · have := z.xor ey
      rwa [xor_cancel_right] at this
    · have := ex.xor z
      rwa [xor_cancel] at this
include TH in
theorem ok_need_three (F : FnP K "need_three" "need_three" s_need_three f fd) : FnOk P w K mg base CX0 1 f fd ["value"] (sp_need_three CH) := by
  have nd := sc_need_three.nd
  refine fnok F sc_need_three (fun vs H Q E h => ?_) (fun cdv A outer s H vs Q E hr h => ?_)
  · obtain ⟨p, b, t, rfl, _⟩ := h
    rfl
  · obtain ⟨p, b, t, rfl, ⟨dx, ts, t1, t2, t3, t4, t5, a1, a2, a3, n1, n2, n3, es, c⟩, k⟩ := h
    refine ⟨_, (pss_one (ps_if (pt_not (pt_val (pe_callB call_isi (by rfl) T.isinstance (by decide +kernel) (pa_cons (pv 0) (pa_cons (pe_glob (v := .ref CH) (by rfl) TH.gl rfl) pa_nil)))))
    (pss_one ps_never)
    pss_nil)), ?_⟩
    exact ⟨_, rfl, _, _, _, _, _, rfl, .own _, TH.ty c.o, TH.me, _, rfl, iteF k⟩
include TS TH in
theorem ok_filled (F : FnP K "filled" "filled" s_filled f fd) (D_need_three : Dn P w K mg base 1 "need_three" ["value"] (sp_need_three CH)) (M_Three_numbers : Mn P w K mg base 1 CH "numbers" ["self"] (sp_numbers CH)) (M_Space_add : Mn P w K mg base 6 CS "__add__" ["self", "other"] (sp_add CS)) (hsf : PySem.W.selfFirst K CS = true) : FnOk P w K mg base CX0 7 f fd ["three"] (sp_filled CS CH) := by
  have nd := sc_filled.nd
  refine fnok F sc_filled (fun vs H Q E h => ?_) (fun cdv A outer s H vs Q E hr h => ?_)
  · obtain ⟨p, b, A1, A2, A3, t, rfl, _⟩ := h
    rfl
  · obtain ⟨p, b, A1, A2, A3, t, rfl, hT, w1, w2, w3, hb, ky, kn⟩ := h
    refine ⟨_, (pss_cons (ps_expr (pe_d D_need_three hr (pa_cons (pv 0) pa_nil)))
  (pss_cons (ps_asg (pe_fld (pv 0) rfl) (pg_tup (by rfl) (pgs_cons (pg_name (i := 1) nd rfl (Or.inl rfl)) (pgs_cons (pg_name (i := 2) nd rfl (Or.inl rfl)) (pgs_cons (pg_name (i := 3) nd rfl (Or.inl rfl)) pgs_nil)))))
  (pss_cons (ps_if (pt_cmpR (op_eqT hr.units) (pe_slice sl_tup (pe_m0 (pv 0) M_Three_numbers hr) (po_some pe_int) (po_some pe_int)) (pe_tup (pa_cons pe_int (pa_cons pe_int (pa_cons pe_int (pa_cons pe_int (pa_cons pe_int (pa_cons pe_int (pa_cons pe_int pa_nil)))))))) (nomark _))
    (pss_one (ps_ret (pe_op (op_own (by rfl) M_Space_add hsf hr) (pe_op (op_own (by rfl) M_Space_add hsf hr) (pv 1) (pv 2)) (pv 3))))
    pss_nil)
  (pss_one (ps_ret pe_non))))), ?_⟩
    have hT' := hT
    obtain ⟨dx, ts, t1, t2, t3, t4, t5, a1, a2, a3, n1, n2, n3, es, x1, x2, x3, c, g, g1, g2, g3⟩ := hT'
    refine ⟨_, rfl, p, b, t, rfl, hT.at_, ?_⟩
    refine ⟨_, rfl, p, CH, dx, _, .ref ts, rfl, c.o, TH.cl, TH.ns, rfl, ts, _, rfl, SqT.of g, rfl, _, _, rfl, _, _, rfl, _, _, rfl, rfl, ?_⟩
    refine ⟨_, rfl, p, dx, _, rfl, c.o, rfl, p, b, t, rfl, hT.at_, fun H1 q s1 hq e1 => ?_⟩
    refine ⟨_, rfl, _, rfl, q, _, rfl, SqT.of e1, (by show ¬ (1 = 0 ∧ _); omega), fun l hl => ?_⟩
    rw [show cutV ((nms t).map vN) (some 1) (some 8) = ([t.P1.length, t.P2.length, t.P3.length, t.W.length, t.N1.length, t.N2.length, t.N3.length] : List Nat).map vN from rfl]
    have s2 := same_new0 (o := .tup (([t.P1.length, t.P2.length, t.P3.length, t.W.length, t.N1.length, t.N2.length, t.N3.length] : List Nat).map vN)) hl
    refine ⟨(by show 7 ≤ sizeLine; decide), fun m hm => ?_⟩
    have s3 := same_new0 (o := .tup [.int 0, .int 0, .int 0, .int 1, .int 0, .int 0, .int 0]) hm
    refine ⟨l, m, _, [0, 0, 0, 1, 0, 0, 0], rfl, rfl, s3 _ _ upd_same, upd_same, _, rfl, ?_⟩
    have s13 := (s1.trans s2).trans s3
    by_cases z : Fld3 t
    · refine itt (decide_eq_true ((fld_iff t).mpr z)) ?_
      have h1 := g1.same s13
      have h2 := g2.same s13
      obtain ⟨d1, u1, f1, _⟩ := id h1
      obtain ⟨d2, u2, f2, _⟩ := id h2
      refine ⟨_, rfl, _, rfl, x1, x2, d1, d2, _, _, rfl, rfl, f1, f2, x1, x2, b, A1, A2, rfl, h1, h2, w1, w2, fun H4 r s4 hr4 e4 => ?_⟩
      have h3 := (g3.same s13).same s4
      obtain ⟨d3, u3, f3, _⟩ := id h3
      obtain ⟨d4, u4, f4, _⟩ := id e4
      refine ⟨_, rfl, r, x3, d4, d3, _, _, rfl, rfl, f4, f3, r, x3, b, _, A3, rfl, e4, h3, wf_sm hb w1 w2, w3, fun H5 v s5 hv e5 => ?_⟩
      exact ky z _ _ (s13.trans (s4.trans s5)) (s13.free (s4.free hv)) e5
    · refine itf (decide_eq_false fun e => z ((fld_iff t).mp e)) ?_
      exact kn z _ s13
end
end LaneX
set_option Elab.async false
set_option linter.all false
set_option maxRecDepth 100000
set_option maxHeartbeats 4000000
namespace LaneX
open PySem PySem.Spec PyProof.Rows L2
def sp_plane_images : Sp := fun vs H Q _ => ∃ m s : Nat, vs = [vN m, vN s] ∧ m ≤ 1000 ∧ s ≤ 1000 ∧ ∀ H' q es, Same H H' → H q = none → H' q = some (.lst (es.map prf)) → PlA H' es → es.map (·.2) = pli m s → Q (.ref q) H'
theorem rgc2 {a m : Nat} (h : a ≤ m) (hm : m ≤ 1000) (e : (m - a) % 2 = 0) : RgC (a : Int) (m : Int) 2 ((m - a) / 2) := by
  have sz : Builtin.Range.rangeSize (a : Int) (m : Int) 2 = (((m - a) / 2 : Nat) : Int) := by
    unfold Builtin.Range.rangeSize
    rw [if_pos (by decide)]
    split <;> omega
  refine ⟨by decide, by decide, ?_, sz⟩
  unfold Builtin.Range.small
  rw [sz]
  have h3 : ∀ z : Int, -(2 ^ 62) ≤ z → z < 2 ^ 62 → Builtin.Range.rangeFitsLong z = true := fun z a b => by
    unfold Builtin.Range.rangeFitsLong
    rw [Bool.and_eq_true]
    exact ⟨decide_eq_true (by omega), decide_eq_true (by omega)⟩
  have g1 := h3 (a : Int) (by omega) (by omega)
  have g2 := h3 (m : Int) (by omega) (by omega)
  have g3 := h3 (2 : Int) (by omega) (by omega)
  have g4 := h3 (((m - a) / 2 : Nat) : Int) (by omega) (by omega)
  have g5 := h3 ((m : Int) + (2 - 1)) (by omega) (by omega)
  rw [if_pos (by decide), g1, g2, g3, g4, g5, Bool.or_true]
  rfl
theorem pst_even {m : Nat} (h : m ≠ 1) : pst m ≤ m ∨ m = 0 := by
  unfold pst
  split <;> omega
theorem and_one_odd (m : Nat) : (decide (V.int ((m &&& 1 : Nat) : Int) = V.int 1)) = decide (m % 2 = 1) := by
  rw [show (V.int 1 : V) = V.int ((1 : Nat) : Int) from rfl, dec_nat, Nat.and_one_is_mod]
section
variable {P : Program} {w : World} {K : PySem.W.Frag} {mg : Str → Option Value} {base : Heap} {f : Addr} {fd : FuncData} {CS CR CM CH : Addr} (T : Bt mg) (TS : SpaceT K mg CS) (TM : MapT K mg CM) (TH : ThreeT K mg CH)
include T
theorem plane_tail {cdv : Value} {A : Around} {outer : List Env} {s : Shared} {H0 : Hp} {Q : VK} {E : XK} (hr : Room 0 (A.deeper (envOfC "plane_images" (defScope s_plane_images) s.heap.objs.size f cdv))) :
    ∃ tt, PSs (cxOf CX0 P w K mg base ["many", "first", "units", "found", "start", "at"] "plane_images" (defScope s_plane_images) f cdv A outer s H0 E).nox ((defBody s_plane_images).drop 3) tt ∧
      ∀ (H H1 : Hp) (m s : Nat) (u fo : Addr) (es : Pls), m ≠ 1 → m ≤ 1000 → s ≤ 1000 → Same H H1 → H fo = none → u ≠ fo → H1 u = some (.lst (((List.range m).map (vv s)).map vN)) → H1 fo = some (.lst (es.map prf)) → PlA H1 es → es.map (·.2) = pl0 m s → (∀ H' q es, Same H H' → H q = none → H' q = some (.lst (es.map prf)) → PlA H' es → es.map (·.2) = pli m s → Q (.ref q) H') →
        tt { nx := fun _ H' => Q .non H', rt := Q } [some (vN m), some (vN s), some (.ref u), some (.ref fo), some (vN (pst m)), none] H1 := by
  have nd := sc_plane_images.nd
  refine ⟨_, (pss_cons (ps_for PassesOwn.never rfl (pi_range3 (by rfl) T.range (pa_cons (pv 4) (pa_cons (pv 0) (pa_cons pe_int pa_nil)))) (pg_name (i := 5) nd rfl (Or.inl rfl))
    (pss_cons (ps_expr (pe_bm PySem.F.plainAttrs_list PySem.F.slot_list_append PySem.F.type_list_append mt_append (pv 3) (pa_cons (pe_tup (pa_cons (pe_ix ix_q (pv 2) (pv 5) (fun _ _ => rfl)) (pa_cons (pe_ix ix_q (pv 2) (pe_op on_add (pv 5) pe_int) (fun _ _ => rfl)) pa_nil))) pa_nil)))
    (pss_one (ps_expr (pe_bm PySem.F.plainAttrs_list PySem.F.slot_list_append PySem.F.type_list_append mt_append (pv 3) (pa_cons (pe_tup (pa_cons (pe_ix ix_q (pv 2) (pe_op on_add (pv 5) pe_int) (fun _ _ => rfl)) (pa_cons (pe_op on_xor (pe_ix ix_q (pv 2) (pv 5) (fun _ _ => rfl)) (pe_ix ix_q (pv 2) (pe_op on_add (pv 5) pe_int) (fun _ _ => rfl))) pa_nil))) pa_nil))))))
  (pss_one (ps_ret (pv 3)))), ?_⟩
  intro H H1 m s u fo es m1 hm hs s1 hfo nu hu hf pa ee k
  have pm : pst m ≤ m := by unfold pst; split <;> omega
  have pe : (m - pst m) % 2 = 0 := by unfold pst; split <;> omega
  have le0 : es.length ≤ 3 := by
    have := congrArg List.length ee
    rw [List.length_map] at this
    rw [this]
    unfold pl0
    split <;> simp
  have gv : ∀ j, j < m → (((List.range m).map (vv s)).map vN)[j]? = some (vN (vv s j)) := fun j hj => by
    rw [List.getElem?_map, List.getElem?_map, List.getElem?_range hj]; rfl
  refine ⟨_, rfl, _, rfl, (pst m : Int), (m : Int), 2, (m - pst m) / 2, rfl, rgc2 pm hm pe, for_it walk_rangeC (fun i σ Hi => ∃ v es, σ = [some (vN m), some (vN s), some (.ref u), some (.ref fo), some (vN (pst m)), v] ∧ Same H Hi ∧ Hi u = some (.lst (((List.range m).map (vv s)).map vN)) ∧ Hi fo = some (.lst (es.map prf)) ∧ PlA Hi es ∧ es.length ≤ 3 + 2 * i ∧ es.map (·.2) = pl0 m s ++ (List.range i).flatMap (plr m s)) ⟨none, es, rfl, s1, hu, hf, pa, by omega, by rw [ee]; simp⟩ (fun _ _ _ _ _ => trivial) (fun i x σ Hz Hi hi hP hy => ?_) (fun σ Hi hP => ?_)⟩
  · obtain ⟨rfl, rfl⟩ := hy
    obtain ⟨v, es, rfl, si, hui, hfi, pai, li, eei⟩ := hP
    have ix : (pst m : Int) + (i : Nat) * 2 = ((pst m + 2 * i : Nat) : Int) := by omega
    show gName 5 (V.int ((pst m : Int) + (i : Nat) * 2)) _ _ _
    rw [ix]
    have j0 : pst m + 2 * i < m := by omega
    have j1 : pst m + 2 * i + 1 < m := by omega
    have er : plr m s i = [(vv s (pst m + 2 * i), vv s (pst m + 2 * i + 1)), (vv s (pst m + 2 * i + 1), vv s (pst m + 2 * i) ^^^ vv s (pst m + 2 * i + 1))] := rfl
    generalize pst m + 2 * i = j at *
    have a0 := gv j j0
    have a1 := gv (j + 1) j1
    refine ⟨_, rfl, .inl ⟨rfl, _, SqL.of hfi⟩, _, rfl, _, rfl, u, _, j, _, rfl, rfl, .inl hui, a0, _, rfl, _, rfl, j, 1, rfl, rfl, u, _, j + 1, _, rfl, rfl, .inl hui, a1, (by show 2 ≤ sizeLine; decide), fun y hy => ?_⟩
    have z1 := same_new0 (o := .tup [vN (vv s j), vN (vv s (j + 1))]) hy
    have e1 : upd Hi y (.tup [vN (vv s j), vN (vv s (j + 1))]) y = some (.tup [vN (vv s j), vN (vv s (j + 1))]) := upd_same
    have ny : y ≠ fo := (ne_of_none hfi hy).symm
    refine ⟨fo, _, _, rfl, rfl, z1 _ _ hfi, (by rw [List.length_map]; exact size6 (by omega)), ?_⟩
    have h1 : upd (upd Hi y (.tup [vN (vv s j), vN (vv s (j + 1))])) fo (.lst (es.map prf ++ [.ref y])) fo = some (.lst ((es ++ [(y, vv s j, vv s (j + 1))]).map prf)) := by rw [upd_same, List.map_append]; rfl
    have hu1 := upd_put (o := .lst (es.map prf ++ [.ref y])) (z1 _ _ hui) nu
    have pa1 : PlA (upd (upd Hi y (.tup [vN (vv s j), vN (vv s (j + 1))])) fo (.lst (es.map prf ++ [.ref y]))) (es ++ [(y, vv s j, vv s (j + 1))]) := fun g hg => by
      rcases List.mem_append.mp hg with hg | hg
      · have q := z1 _ _ (pai g hg)
        exact upd_put q fun z => by rw [z, z1 _ _ hfi] at q; cases q
      · rw [List.mem_singleton.mp hg]
        exact upd_put e1 ny
    have s2 := same_put (o := .lst (es.map prf ++ [.ref y])) (si.trans z1) hfo
    generalize upd (upd Hi y _) fo _ = H2 at *
    refine ⟨_, rfl, .inl ⟨rfl, _, SqL.of h1⟩, _, rfl, _, rfl, j, 1, rfl, rfl, u, _, j + 1, _, rfl, rfl, .inl hu1, a1, _, rfl, _, rfl, u, _, j, _, rfl, rfl, .inl hu1, a0, _, rfl, _, rfl, j, 1, rfl, rfl, u, _, j + 1, _, rfl, rfl, .inl hu1, a1, _, _, rfl, rfl, (by show 2 ≤ sizeLine; decide), fun y2 hy2 => ?_⟩
    have z2 := same_new0 (o := .tup [vN (vv s (j + 1)), vN (vv s j ^^^ vv s (j + 1))]) hy2
    have e2 : upd H2 y2 (.tup [vN (vv s (j + 1)), vN (vv s j ^^^ vv s (j + 1))]) y2 = some (.tup [vN (vv s (j + 1)), vN (vv s j ^^^ vv s (j + 1))]) := upd_same
    have ny2 : y2 ≠ fo := (ne_of_none h1 hy2).symm
    refine ⟨fo, _, _, rfl, rfl, z2 _ _ h1, (by rw [List.length_map, List.length_append]; exact size6 (by show es.length + 1 ≤ _; omega)), ?_⟩
    refine ⟨_, es ++ [(y, vv s j, vv s (j + 1))] ++ [(y2, vv s (j + 1), vv s j ^^^ vv s (j + 1))], rfl, same_put (s2.trans z2) hfo, upd_put (z2 _ _ hu1) nu, (by rw [upd_same]; simp [List.map_append, prf]), fun g hg => ?_, (by simp only [List.length_append, List.length_cons, List.length_nil]; omega), ?_⟩
    · rcases List.mem_append.mp hg with hg | hg
      · have q := z2 _ _ (pa1 g hg)
        exact upd_put q fun z => by rw [z, z2 _ _ h1] at q; cases q
      · rw [List.mem_singleton.mp hg]
        exact upd_put e2 ny2
    · rw [List.map_append, List.map_append, eei, List.range_succ, List.flatMap_append, List.flatMap_cons, List.flatMap_nil, er]
      simp [List.append_assoc]
  · obtain ⟨v, es, rfl, si, hui, hfi, pai, li, eei⟩ := hP
    exact ⟨_, rfl, k _ _ es si hfo hfi pai (by rw [eei]; unfold pli; rw [if_neg m1]; rfl)⟩
theorem ok_plane_images (F : FnP K "plane_images" "plane_images" s_plane_images f fd) : FnOk P w K mg base CX0 1 f fd ["many", "first"] sp_plane_images := by
  have nd := sc_plane_images.nd
  refine fnok F sc_plane_images (fun vs H Q E h => ?_) (fun cdv A outer s H vs Q E hr h => ?_)
  · obtain ⟨m, s, rfl, _⟩ := h
    rfl
  · obtain ⟨m, s', rfl, hm, hs, k⟩ := h
    obtain ⟨tt, hP, hT⟩ := plane_tail (H0 := H) (Q := Q) (E := E) T hr
    refine ⟨_, (pss_cons (ps_if (pt_cmpR op_eq (pv 0) pe_int (nomark _))
    (pss_one (ps_ret (pe_lst (pa_cons (pe_tup (pa_cons (pe_op on_shl pe_int (pv 1)) (pa_cons (pe_op on_shl pe_int (pv 1)) pa_nil))) pa_nil))))
    pss_nil)
  (pss_cons (ps_par3 (i := 2) (j := 3) (l := 4) (by rfl) nd rfl rfl rfl (by decide) (by decide) (by decide) rfl rfl rfl (pa_cons (pe_lc (own := [("at", 5)]) (g := gName 5) (by rfl) nd (pi_range1 (by rfl) T.range (pa_cons (pv 0) pa_nil)) (blkOk_by (own := [("at", 5)]) (N := ["many", "first", "units", "found", "start", "at"]) (sc := defScope s_plane_images) (by decide +kernel)) (fun _ _ _ _ _ => (pg_name (i := 5) nd rfl (Or.inl rfl))) (fun _ _ _ _ _ => pts_nil) (fun _ _ _ _ _ => (pe_op on_shl pe_int (pe_op on_add (pv 1) (pv 5))))) (pa_cons (pe_lst pa_nil) (pa_cons pe_int pa_nil))) (by rfl))
  (pss_cons (ps_if (pt_cmpR op_eq (pe_op on_and (pv 0) pe_int) pe_int (nomark _))
    (pss_cons (ps_set (i := 3) nd rfl (Or.inl rfl) (pe_lst (pa_cons (pe_tup (pa_cons (pe_ix ix_q (pv 2) pe_int (fun _ _ => rfl)) (pa_cons (pe_ix ix_q (pv 2) pe_int (fun _ _ => rfl)) pa_nil))) (pa_cons (pe_tup (pa_cons (pe_ix ix_q (pv 2) pe_int (fun _ _ => rfl)) (pa_cons (pe_ix ix_q (pv 2) pe_int (fun _ _ => rfl)) pa_nil))) (pa_cons (pe_tup (pa_cons (pe_ix ix_q (pv 2) pe_int (fun _ _ => rfl)) (pa_cons (pe_op on_xor (pe_ix ix_q (pv 2) pe_int (fun _ _ => rfl)) (pe_ix ix_q (pv 2) pe_int (fun _ _ => rfl))) pa_nil))) pa_nil)))))
    (pss_one (ps_set (i := 4) nd rfl (Or.inl rfl) pe_int)))
    pss_nil)
  hP))), ?_⟩
    have o1 : blen 1 ≤ 1000000 := by rw [blen_one]; decide
    have o2 : blen 2 ≤ 1000000 := by rw [show blen 2 = 2 by decide]; decide
    refine ⟨_, rfl, rfl, _, rfl, ?_⟩
    have em1 : decide (vN m = V.int 1) = decide (m = 1) := dec_nat (b := 1)
    rw [em1]
    refine br (fun e => ?_) (fun e => ?_)
    · have e := of_decide_eq_true e
      subst e
      refine ⟨_, rfl, 1, s', rfl, rfl, shl_ok1 o1 (by omega), _, rfl, 2, s', rfl, rfl, shl_ok1 o2 (by omega), (by show 2 ≤ sizeLine; decide), fun y hy => ⟨(by show 1 ≤ sizeLine; decide), fun l hl => ?_⟩⟩
      have z1 := same_new0 (o := .tup [vN (1 <<< s'), vN (2 <<< s')]) hy
      have z2 := same_new0 (o := .lst [.ref y]) hl
      refine k _ _ [(y, 1 <<< s', 2 <<< s')] (z1.trans z2) (z1.free hl) upd_same (fun e he => ?_) rfl
      rw [List.mem_singleton.mp he]
      exact z2 _ _ upd_same
    · have m1 := of_decide_eq_false e
      refine ⟨_, rfl, _, rfl, (by omega), (by omega), lc_pureR (n := m) (fun _ => true) (fun i => vN (vv s' i)) (by omega) (fun i H' hi s => ?_) (fun D H1 hD s1 e1 => ?_)⟩
      · intro Z Nx z1 z2
        exact ⟨rfl, _, rfl, _, rfl, s', i, rfl, rfl, 1, s' + i, rfl, rfl, shl_ok1 o1 (by omega), z1 rfl _ (Same.refl _)⟩
      rw [filt_true] at e1
      refine ⟨(by show 0 ≤ sizeLine; decide), fun fo hfo => ⟨_, _, _, rfl, ?_⟩⟩
      have z1 := same_new0 (o := .lst []) hfo
      have ef : upd H1 fo (.lst []) fo = some (.lst ([].map prf)) := upd_same
      have nD : D ≠ fo := ne_of_none e1 hfo
      have e1 : upd H1 fo (.lst []) D = some (.lst (((List.range m).map (vv s')).map vN)) := by rw [z1 _ _ e1, List.map_map]; rfl
      have s2 := s1.trans z1
      have nf : H fo = none := s1.free hfo
      generalize upd H1 fo _ = H2 at *
      refine ⟨_, rfl, m, 1, rfl, rfl, rfl, _, rfl, ?_⟩
      rw [and_one_odd]
      refine br (fun o => ?_) (fun o => ?_)
      · have o := of_decide_eq_true o
        have m3 : 3 ≤ m := by omega
        have gv : ∀ j, j < m → (((List.range m).map (vv s')).map vN)[j]? = some (vN (vv s' j)) := fun j hj => by
          rw [List.getElem?_map, List.getElem?_map, List.getElem?_range hj]; rfl
        have a0 := gv 0 (by omega)
        have a1 := gv 1 (by omega)
        have a2 := gv 2 (by omega)
        refine ⟨_, rfl, D, _, 0, _, rfl, rfl, .inl e1, a0, _, rfl, D, _, 1, _, rfl, rfl, .inl e1, a1, (by show 2 ≤ sizeLine; decide), fun y0 hy0 => ?_⟩
        have w0 := same_new0 (o := .tup [vN (vv s' 0), vN (vv s' 1)]) hy0
        refine ⟨_, rfl, D, _, 1, _, rfl, rfl, .inl (w0 _ _ e1), a1, _, rfl, D, _, 2, _, rfl, rfl, .inl (w0 _ _ e1), a2, (by show 2 ≤ sizeLine; decide), fun y1 hy1 => ?_⟩
        have w1 := w0.trans (same_new0 (o := .tup [vN (vv s' 1), vN (vv s' 2)]) hy1)
        refine ⟨_, rfl, D, _, 2, _, rfl, rfl, .inl (w1 _ _ e1), a2, _, rfl, D, _, 0, _, rfl, rfl, .inl (w1 _ _ e1), a0, _, rfl, D, _, 1, _, rfl, rfl, .inl (w1 _ _ e1), a1, _, _, rfl, rfl, (by show 2 ≤ sizeLine; decide), fun y2 hy2 => ?_⟩
        have w2 := w1.trans (same_new0 (o := .tup [vN (vv s' 2), vN (vv s' 0 ^^^ vv s' 1)]) hy2)
        refine ⟨(by show 3 ≤ sizeLine; decide), fun l hl => ?_⟩
        have w3 := w2.trans (same_new0 (o := .lst [.ref y0, .ref y1, .ref y2]) hl)
        have nl : D ≠ l := ne_of_none (w2 _ _ e1) hl
        have hP3 : pst m = 3 := by unfold pst; rw [if_pos o]
        have := hT H _ m s' D l [(y0, vv s' 0, vv s' 1), (y1, vv s' 1, vv s' 2), (y2, vv s' 2, vv s' 0 ^^^ vv s' 1)] m1 hm hs (s2.trans w3) (s2.free (w2.free hl)) nl (w3 _ _ e1) upd_same (fun g hg => ?_) (by unfold pl0; rw [if_pos o]; rfl) k
        · rw [hP3] at this
          exact this
        · simp only [List.mem_cons, List.not_mem_nil, or_false] at hg
          rcases hg with rfl | rfl | rfl
          · exact upd_new hl (upd_new hy2 (upd_new hy1 upd_same))
          · exact upd_new hl (upd_new hy2 upd_same)
          · exact upd_new hl upd_same
      · have o := of_decide_eq_false o
        have hP0 : pst m = 0 := by unfold pst; rw [if_neg o]
        have := hT H _ m s' D fo [] m1 hm hs s2 nf nD e1 ef (fun e he => by cases he) (by unfold pl0; rw [if_neg o]; rfl) k
        rw [hP0] at this
        exact this
end
end LaneX
set_option Elab.async false
set_option linter.all false
set_option maxRecDepth 100000
set_option maxHeartbeats 4000000
namespace LaneX
open PySem PySem.Spec PyProof.Rows L2
def sp_laid (CH : Addr) : Sp := fun vs H Q _ => ∃ (p : Addr) (b k : Nat) (t : ThW), vs = [.ref p] ∧ ThAt CH H p b t ∧ Smal t ∧ k ≤ 1000 ∧ (fd1 t).length ≤ k ∧ (fd2 t).length ≤ k ∧ (fd3 t).length ≤ k ∧ (t.W.length = 1 → t.S.length + 2 ≤ k) ∧
  ∀ H' q u, Same H H' → H q = none → Laid k t u → H' q = some (.lst ((fall u).map vN)) → Q (.ref q) H'
def Ex2 (a c : Addr) (H H' : Hp) : Prop := ∀ b o, H b = some o → b ≠ a → b ≠ c → H' b = some o
theorem Ex2.of {a c : Addr} {H H' : Hp} (s : Same H H') : Ex2 a c H H' := fun b o h _ _ => s b o h
theorem Ex2.trans {a c : Addr} {H H1 H2 : Hp} (x : Ex2 a c H H1) (y : Ex2 a c H1 H2) : Ex2 a c H H2 := fun b o h n m => y b o (x b o h n m) n m
theorem Ex2.put1 {a c : Addr} {H : Hp} {o : HO} : Ex2 a c H (upd H a o) := fun b u h n _ => upd_put h n
theorem Ex2.put2 {a c : Addr} {H : Hp} {o : HO} : Ex2 a c H (upd H c o) := fun b u h _ m => upd_put h m
/-- three lists of rows in a list -/
def SpAt (H : Hp) (sp ia : Addr) (R : List (List Nat)) : Prop := ∃ rs : List Addr, rs.length = 3 ∧ H sp = some (.lst (rs.map V.ref)) ∧ ∀ c, c < 3 → ∃ r, rs[c]? = some r ∧ r ≠ sp ∧ r ≠ ia ∧ H r = some (.lst ((R.getD c []).map vN))
theorem SpAt.same {H H' : Hp} {sp ia : Addr} {R : List (List Nat)} (h : SpAt H sp ia R) (s : Same H H') : SpAt H' sp ia R := by
  obtain ⟨rs, l, h0, h1⟩ := h
  refine ⟨rs, l, s _ _ h0, fun c hc => ?_⟩
  obtain ⟨r, a, b, d, e⟩ := h1 c hc
  exact ⟨r, a, b, d, s _ _ e⟩
theorem SpAt.puti {H : Hp} {sp ia : Addr} {R : List (List Nat)} {o : HO} (h : SpAt H sp ia R) (n : sp ≠ ia) : SpAt (upd H ia o) sp ia R := by
  obtain ⟨rs, l, h0, h1⟩ := h
  refine ⟨rs, l, upd_put h0 n, fun c hc => ?_⟩
  obtain ⟨r, a, b, d, e⟩ := h1 c hc
  exact ⟨r, a, b, d, upd_put e d⟩
theorem getD_set3 {R : List (List Nat)} {c d : Nat} {x : List Nat} (h : c < R.length) : (R.set c x).getD d [] = if d = c then x else R.getD d [] := by
  rw [List.getD_eq_getElem?_getD, List.getD_eq_getElem?_getD, List.getElem?_set]
  by_cases e : c = d
  · subst e
    rw [if_pos rfl, if_pos h, if_pos rfl]; rfl
  · rw [if_neg e, if_neg (fun z => e z.symm)]
theorem SpAt.item {H : Hp} {sp ia : Addr} {R : List (List Nat)} (h : SpAt H sp ia R) {c : Nat} (hc : c < 3) : ∃ (rs : List V) (r : Addr), H sp = some (.lst rs) ∧ rs.length = 3 ∧ rs[c]? = some (.ref r) ∧ H r = some (.lst ((R.getD c []).map vN)) := by
  obtain ⟨rs, l, h0, h1⟩ := h
  obtain ⟨r, a, b, d, e⟩ := h1 c hc
  exact ⟨_, r, h0, by rw [List.length_map, l], by rw [List.getElem?_map, a]; rfl, e⟩
theorem SpAt.set {H : Hp} {sp ia : Addr} {R : List (List Nat)} {c : Nat} {g : Addr} {x : List Nat} {rs : List V} (h : SpAt H sp ia R) (hc : c < 3) (l : R.length = 3) (hs : H sp = some (.lst rs)) (hg : H g = some (.lst (x.map vN))) (n1 : g ≠ sp) (n2 : g ≠ ia) : SpAt (upd H sp (.lst (rs.set c (.ref g)))) sp ia (R.set c x) := by
  obtain ⟨as, la, h0, h1⟩ := h
  rw [hs] at h0
  cases h0
  refine ⟨as.set c g, by rw [List.length_set, la], by rw [upd_same, List.map_set], fun d hd => ?_⟩
  rw [getD_set3 (by omega)]
  by_cases e : d = c
  · subst e
    rw [if_pos rfl]
    exact ⟨g, by rw [List.getElem?_set, if_pos rfl, if_pos (by omega)], n1, n2, upd_put hg n1⟩
  · rw [if_neg e]
    obtain ⟨r, a, b, d', e'⟩ := h1 d hd
    exact ⟨r, by rw [List.getElem?_set, if_neg (fun z => e z.symm)]; exact a, b, d', upd_put e' b⟩
theorem ixn3 {xs : List V} (l : xs.length = 3) {c : Nat} (hc : c < 3) : ixN xs.length ((c : Nat) : Int) = some c := by
  rw [l]
  unfold ixN
  rw [if_pos (by omega), if_pos (by omega), Int.toNat_natCast]
theorem atI_last (xs : List V) (v : V) : atI (xs ++ [v]) (-1) = some v := by
  unfold atI ixN
  rw [if_neg (by decide), if_pos (by rw [List.length_append]; simp; omega)]
  have e : (-1 + ((xs ++ [v]).length : Int)).toNat = xs.length := by rw [List.length_append]; simp only [List.length_cons, List.length_nil]; omega
  rw [e]
  simp
theorem StN.ilen {k : Nat} {t u : ThW} {R : List (List Nat)} {I : List Nat} {a i : Nat} (S : StN k t a i u R I) (m : Smal t) (hi : a < 3 → i ≤ (t.q a).length) : I.length ≤ 10000 := by
  obtain ⟨h, s, w, im, p, q, o⟩ := S
  have lw : u.W.length = t.W.length := by rw [w, pli_len]
  have p0 : u.P1.length = t.P1.length := p 0 (by decide)
  have p1 : u.P2.length = t.P2.length := p 1 (by decide)
  have p2 : u.P3.length = t.P3.length := p 2 (by decide)
  have qb : ∀ c, c < 3 → (u.q c).length ≤ (t.q c).length := fun c hc => by
    rw [q c hc]
    split
    · exact Nat.le_refl _
    · split
      · rename_i e
        subst e
        exact hi hc
      · exact Nat.zero_le _
  have q0 : u.N1.length ≤ t.N1.length := qb 0 (by decide)
  have q1 : u.N2.length ≤ t.N2.length := qb 1 (by decide)
  have q2 : u.N3.length ≤ t.N3.length := qb 2 (by decide)
  have m1 := m.s; have m2 := m.p1; have m3 := m.p2; have m4 := m.p3; have m5 := m.w; have m6 := m.n1; have m7 := m.n2; have m8 := m.n3
  rw [im]
  unfold fall
  simp only [List.length_append, flat_len, o, List.length_nil]
  omega
theorem StP.ilen {k : Nat} {t u : ThW} {R : List (List Nat)} {I : List Nat} {a i : Nat} (S : StP k t a i u R I) (m : Smal t) (hi : a < 3 → i ≤ (t.p a).length) : I.length ≤ 10000 := by
  obtain ⟨h, s, w, im, p, n1, n2, n3, o⟩ := S
  have qb : ∀ c, c < 3 → (u.p c).length ≤ (t.p c).length := fun c hc => by
    rw [p c hc]
    split
    · exact Nat.le_refl _
    · split
      · rename_i e
        subst e
        exact hi hc
      · exact Nat.zero_le _
  have q0 : u.P1.length ≤ t.P1.length := qb 0 (by decide)
  have q1 : u.P2.length ≤ t.P2.length := qb 1 (by decide)
  have q2 : u.P3.length ≤ t.P3.length := qb 2 (by decide)
  have m1 := m.s; have m2 := m.p1; have m3 := m.p2; have m4 := m.p3
  rw [im]
  simp only [List.length_append]
  omega
section
variable {P : Program} {w : World} {K : PySem.W.Frag} {mg : Str → Option Value} {base : Heap} {f : Addr} {fd : FuncData} {CS CR CM CH : Addr} (T : Bt mg) (TS : SpaceT K mg CS) (TM : MapT K mg CM) (TH : ThreeT K mg CH)
include T
include TH in
theorem laid_tail3 {cdv : Value} {A : Around} {outer : List Env} {s : Shared} {H0 : Hp} {Q : VK} {E : XK} (D_missing : Dn P w K mg base 2 "missing" ["rows"] sp_missing) (D_grown : Dn P w K mg base 2 "grown" ["rows", "word"] sp_grown)
    (hr : Room 3 (A.deeper (envOfC "laid_images" (defScope s_laid_images) s.heap.objs.size f cdv))) :
    ∃ tt, PSs (cxOf CX0 P w K mg base ["three", "images", "spans", "planes", "one", "other", "at", "word", "image"] "laid_images" (defScope s_laid_images) f cdv A outer s H0 E).nox ((defBody s_laid_images).drop 6) tt ∧
      ∀ (H H1 : Hp) (p ia sp pl : Addr) (b k : Nat) (t u : ThW) (R : List (List Nat)) (I : List Nat) (v4 v5 v6 v7 v8 : Option V), Same H H1 → H ia = none → H sp = none → sp ≠ ia → ThAt CH H p b t → Smal t → k ≤ 1000 → (fd1 t).length ≤ k → (fd2 t).length ≤ k → (fd3 t).length ≤ k → StN k t 0 0 u R I → H1 ia = some (.lst (I.map vN)) → SpAt H1 sp ia R →
        (∀ H' q u, Same H H' → H q = none → Laid k t u → H' q = some (.lst ((fall u).map vN)) → Q (.ref q) H') →
        tt { nx := fun _ H' => Q .non H', rt := Q } [some (.ref p), some (.ref ia), some (.ref sp), some (.ref pl), v4, v5, v6, v7, v8] H1 := by
  have nd := sc_laid_images.nd
  refine ⟨_, (pss_cons (ps_for PassesOwn.never rfl (pi_range1 (by rfl) T.range (pa_cons pe_int pa_nil)) (pg_name (i := 6) nd rfl (Or.inl rfl))
    (pss_one (ps_for PassesOwn.never rfl (pi_seq (pe_ix ix_q (pe_fld (pv 0) rfl) (pv 6) (fun _ _ => rfl))) (pg_name (i := 7) nd rfl (Or.inl rfl))
      (pss_cons (ps_expr (pe_bm PySem.F.plainAttrs_list PySem.F.slot_list_append PySem.F.type_list_append mt_append (pv 1) (pa_cons (pe_d D_missing hr (pa_cons (pe_ix ix_q (pv 2) (pv 6) (fun _ _ => rfl)) pa_nil)) pa_nil)))
      (pss_one (ps_asg (pe_d D_grown hr (pa_cons (pe_ix ix_q (pv 2) (pv 6) (fun _ _ => rfl)) (pa_cons (pe_ix ix_list (pv 1) (pe_un un_neg pe_int) (fun _ _ => rfl)) pa_nil))) (pg_sub (pv 2) (pv 6) set_list)))))))
  (pss_one (ps_ret (pe_op op_cat (pv 1) (pe_lc (own := [("word", 7)]) (g := gName 7) (by rfl) nd (pi_seq (pe_fld (pv 0) rfl)) (blkOk_by (own := [("word", 7)]) (N := ["three", "images", "spans", "planes", "one", "other", "at", "word", "image"]) (sc := defScope s_laid_images) (by decide +kernel)) (fun _ _ _ _ _ => (pg_name (i := 7) nd rfl (Or.inl rfl))) (fun _ _ _ _ _ => pts_nil) (fun _ _ _ _ _ => pe_int)))))), ?_⟩
  intro H H1 p ia sp pl b k t u R I v4 v5 v6 v7 v8 s1 hia hsp ne hT m hk k1 k2 k3 S hI hS kk
  obtain ⟨dx, ts, t1, t2, t3, t4, t5, a1, a2, a3, n1, n2, n3, es, c⟩ := hT
  have old : ∀ {b o}, H b = some o → ∀ {Hi : Hp}, Ex2 ia sp H1 Hi → Hi b = some o := fun {b o} h {Hi} x => x _ _ (s1 _ _ h) (ne_of_none h hia) (ne_of_none h hsp)
  have al : ∀ a, a < 3 → ∃ g, ([V.ref n1, .ref n2, .ref n3] : List V)[a]? = some (.ref g) ∧ H g = some (.tup ((t.q a).map vN)) := fun a ha => by
    match a, ha with
    | 0, _ => exact ⟨n1, rfl, c.m1⟩
    | 1, _ => exact ⟨n2, rfl, c.m2⟩
    | 2, _ => exact ⟨n3, rfl, c.m3⟩
  refine ⟨3, rfl, (by decide), (by decide), for_range (n := 3) (fun a σ Hi => ∃ v6 v7 u R I, σ = [some (.ref p), some (.ref ia), some (.ref sp), some (.ref pl), v4, v5, v6, v7, v8] ∧ Ex2 ia sp H1 Hi ∧ StN k t a 0 u R I ∧ Hi ia = some (.lst (I.map vN)) ∧ SpAt Hi sp ia R) ⟨v6, v7, u, R, I, rfl, Ex2.of (Same.refl _), S, hI, hS⟩ ?_ ?_⟩
  · rintro a σ Hi ha ⟨w6, w7, u, R, I, rfl, xi, Sa, hIa, hSa⟩
    rw [show (0 : Int) + (a : Int) = (a : Int) by omega]
    obtain ⟨g, x1, x2⟩ := al a ha
    have hg := old x2 xi
    refine ⟨_, rfl, p, CH, dx, _, .ref t4, rfl, old c.o xi, TH.cl, TH.na, rfl, _, rfl, t4, _, a, _, rfl, rfl, .inr (old c.n xi), x1, for_sq2 (K := K) (.inr hg) (fun i σ Hj => ∃ v7 u R I, σ = [some (.ref p), some (.ref ia), some (.ref sp), some (.ref pl), v4, v5, some (vN a), v7, v8] ∧ Ex2 ia sp H1 Hj ∧ StN k t a i u R I ∧ Hj ia = some (.lst (I.map vN)) ∧ SpAt Hj sp ia R) ⟨w7, u, R, I, rfl, xi, Sa, hIa, hSa⟩ (fun i σ Hj hP o ho => ?_) ?_ ?_⟩
    · obtain ⟨_, _, _, _, _, z, _⟩ := hP
      rw [hg] at ho
      cases ho
      exact old x2 z
    · rintro i y σ Hj hy ⟨v7', u, R, I, rfl, xj, Sj, hIj, hSj⟩
      obtain ⟨yy, hyy, rfl⟩ := map_get hy
      have il := (List.getElem?_eq_some_iff.mp hyy).1
      have room := Sj.room ha il k1 k2 k3
      have len := Sj.ilen m (fun _ => Nat.le_of_lt il)
      obtain ⟨rs, r, i1, i2, i3, i4⟩ := hSj.item ha
      have rw' := Sj.h.r a ha
      have l3 := Sj.h.l
      refine ⟨_, rfl, .inl ⟨rfl, _, SqL.of hIj⟩, _, rfl, _, rfl, sp, _, a, _, rfl, rfl, .inl i1, i3, r, _, rfl, .inl i4, rw'.nz, (by omega), fun H2 j s2 mj => ?_⟩
      refine ⟨ia, _, _, rfl, rfl, s2 _ _ hIj, (by rw [List.length_map]; exact size6 (by omega)), ?_⟩
      have nx := rws_pow rw' mj
      have bx := mis_lt mj room
      generalize 1 <<< j = x at *
      have hS2 := (hSj.same s2).puti (o := .lst (I.map vN ++ [vN x])) ne
      have hI2 : upd H2 ia (.lst (I.map vN ++ [vN x])) ia = some (.lst ((I ++ [x]).map vN)) := by rw [upd_same, List.map_append]; rfl
      have hI2' : upd H2 ia (.lst (I.map vN ++ [vN x])) ia = some (.lst (I.map vN ++ [vN x])) := upd_same
      have xx : Ex2 ia sp H1 (upd H2 ia (.lst (I.map vN ++ [vN x]))) := (xj.trans (Ex2.of s2)).trans Ex2.put1
      generalize upd H2 ia (.lst (I.map vN ++ [vN x])) = H3 at *
      obtain ⟨rs3, r3, j1, j2, j3, j4⟩ := hS2.item ha
      refine ⟨_, rfl, _, rfl, sp, _, a, _, rfl, rfl, .inl j1, j3, _, rfl, _, rfl, ia, _, -1, vN x, rfl, rfl, SqL.of hI2', atI_last _ _, r3, _, x, rfl, .inl j4, rw'.nz, (by omega), fun H4 g4 s4 hg4 e4 => ?_⟩
      have ng1 : g4 ≠ sp := (ne_of_none j1 hg4).symm
      have ng2 : g4 ≠ ia := (ne_of_none hI2 hg4).symm
      refine ⟨_, rfl, _, rfl, sp, rs3, a, a, rfl, rfl, s4 _ _ j1, ixn3 j2 ha, ?_⟩
      refine ⟨_, _, _, _, rfl, (xx.trans (Ex2.of s4)).trans Ex2.put2, Sj.step ha il nx bx, upd_put (s4 _ _ hI2) ne.symm, (hS2.same s4).set ha l3 (s4 _ _ j1) e4 ng1 ng2⟩
    · rintro σ Hj ⟨v7', u, R, I, rfl, xj, Sj, hIj, hSj⟩
      rw [List.length_map] at Sj
      exact ⟨_, _, u, R, I, rfl, xj, Sj.next, hIj, hSj⟩
  · rintro σ Hi ⟨w6, w7, u, R, I, rfl, xi, Sa, hIa, hSa⟩
    have len := Sa.ilen m (fun h => absurd h (by decide))
    obtain ⟨u', L, e⟩ := Sa.laid
    have mo := m.o
    have S0 : Same H Hi := fun b o h => old h xi
    refine ⟨_, rfl, _, rfl, p, CH, dx, _, .ref t5, rfl, old c.o xi, TH.cl, TH.no, rfl, lc_pure t.O vN (fun _ => true) (fun _ => vN 0) (.inr (old c.u xi)) (by omega) (fun x H' hx s => ?_) (fun D H2 hD s2 e2 => ?_)⟩
    · intro Z Nx z1 z2
      exact ⟨rfl, z1 rfl _ (Same.refl _)⟩
    rw [filt_true] at e2
    have e2 : H2 D = some (.lst ((List.replicate t.O.length 0).map vN)) := by rw [e2, List.map_const', List.map_replicate]
    refine ⟨ia, D, _, _, rfl, rfl, s2 _ _ hIa, e2, (by rw [List.length_map, List.length_map, List.length_replicate, sizeLine_eq]; omega), fun q hq => ?_⟩
    have z := same_new0 (o := .lst (I.map vN ++ (List.replicate t.O.length 0).map vN)) hq
    exact kk _ q u' (S0.trans (s2.trans z)) (S0.free (s2.free hq)) L (by rw [upd_same, ← List.map_append, e])
include TH in
theorem laid_tail2 {cdv : Value} {A : Around} {outer : List Env} {s : Shared} {H0 : Hp} {Q : VK} {E : XK} (D_outside : Dn P w K mg base 3 "outside" ["rows", "others"] sp_outside) (D_missing : Dn P w K mg base 2 "missing" ["rows"] sp_missing) (D_grown : Dn P w K mg base 2 "grown" ["rows", "word"] sp_grown)
    (hr : Room 3 (A.deeper (envOfC "laid_images" (defScope s_laid_images) s.heap.objs.size f cdv))) :
    ∃ tt, PSs (cxOf CX0 P w K mg base ["three", "images", "spans", "planes", "one", "other", "at", "word", "image"] "laid_images" (defScope s_laid_images) f cdv A outer s H0 E).nox ((defBody s_laid_images).drop 4) tt ∧
      ∀ (H H1 : Hp) (p ia sp pl : Addr) (b k : Nat) (t u : ThW) (R : List (List Nat)) (I : List Nat) (es : Pls) (v4 v5 v6 v7 v8 : Option V), Same H H1 → H ia = none → H sp = none → sp ≠ ia → pl ≠ ia → pl ≠ sp → ThAt CH H p b t → Smal t → k ≤ 1000 → (fd1 t).length ≤ k → (fd2 t).length ≤ k → (fd3 t).length ≤ k → StP k t 0 0 u R I → es.map (·.2) = pli t.W.length t.S.length → H1 pl = some (.lst (es.map prf)) → PlA H1 es → H1 ia = some (.lst (I.map vN)) → SpAt H1 sp ia R →
        (∀ H' q u, Same H H' → H q = none → Laid k t u → H' q = some (.lst ((fall u).map vN)) → Q (.ref q) H') →
        tt { nx := fun _ H' => Q .non H', rt := Q } [some (.ref p), some (.ref ia), some (.ref sp), some (.ref pl), v4, v5, v6, v7, v8] H1 := by
  have nd := sc_laid_images.nd
  obtain ⟨tt, hP, hT3⟩ := laid_tail3 (H0 := H0) (Q := Q) (E := E) T TH D_missing D_grown hr
  refine ⟨_, (pss_cons (ps_for PassesOwn.never rfl (pi_enumT (by rfl) T.enumerate (pa_cons (pe_tup (pa_cons (pe_tup (pa_cons pe_int (pa_cons pe_int pa_nil))) (pa_cons (pe_tup (pa_cons pe_int (pa_cons pe_int pa_nil))) (pa_cons (pe_tup (pa_cons pe_int (pa_cons pe_int pa_nil))) pa_nil)))) pa_nil)) (pg_tup (by rfl) (pgs_cons (pg_name (i := 6) nd rfl (Or.inl rfl)) (pgs_cons (pg_tup (by rfl) (pgs_cons (pg_name (i := 4) nd rfl (Or.inl rfl)) (pgs_cons (pg_name (i := 5) nd rfl (Or.inl rfl)) pgs_nil))) pgs_nil)))
    (pss_one (ps_for PassesOwn.never rfl (pi_seq (pe_ix ix_q (pe_fld (pv 0) rfl) (pv 6) (fun _ _ => rfl))) (pg_name (i := 7) nd rfl (Or.inl rfl))
      (pss_cons (ps_set (i := 8) nd rfl (Or.inl rfl) (pe_d D_outside hr (pa_cons (pe_ix ix_q (pv 2) (pv 4) (fun _ _ => rfl)) (pa_cons (pe_ix ix_q (pv 2) (pv 5) (fun _ _ => rfl)) pa_nil))))
      (pss_cons (ps_expr (pe_bm PySem.F.plainAttrs_list PySem.F.slot_list_append PySem.F.type_list_append mt_append (pv 1) (pa_cons (pv 8) pa_nil)))
      (pss_one (ps_asg (pe_tup (pa_cons (pe_d D_grown hr (pa_cons (pe_ix ix_q (pv 2) (pv 4) (fun _ _ => rfl)) (pa_cons (pv 8) pa_nil))) (pa_cons (pe_d D_grown hr (pa_cons (pe_ix ix_q (pv 2) (pv 5) (fun _ _ => rfl)) (pa_cons (pv 8) pa_nil))) pa_nil))) (pg_tup (by rfl) (pgs_cons (pg_sub (pv 2) (pv 4) set_list) (pgs_cons (pg_sub (pv 2) (pv 5) set_list) pgs_nil))))))))))
  (pss_cons (ps_for PassesOwn.never rfl (pi_seq (pv 3)) (pg_tup (by rfl) (pgs_cons (pg_name (i := 4) nd rfl (Or.inl rfl)) (pgs_cons (pg_name (i := 5) nd rfl (Or.inl rfl)) pgs_nil)))
    (pss_one (ps_set (i := 1) nd rfl (Or.inl rfl) (pe_op op_cat (pv 1) (pe_lst (pa_cons (pv 4) (pa_cons (pv 5) pa_nil)))))))
  hP)), ?_⟩
  intro H H1 p ia sp pl b k t u R I es0 v4 v5 v6 v7 v8 s1 hia hsp ne npi nps hT m hk k1 k2 k3 S ep hpl pa hI hS kk
  have hT' := hT
  obtain ⟨dx, ts, t1, t2, t3, t4, t5, a1, a2, a3, n1, n2, n3, es, c⟩ := hT'
  have old : ∀ {b o}, H b = some o → ∀ {Hi : Hp}, Ex2 ia sp H1 Hi → Hi b = some o := fun {b o} h {Hi} x => x _ _ (s1 _ _ h) (ne_of_none h hia) (ne_of_none h hsp)
  have al : ∀ a, a < 3 → ∃ g, ([V.ref a1, .ref a2, .ref a3] : List V)[a]? = some (.ref g) ∧ H g = some (.tup ((t.p a).map vN)) := fun a ha => by
    match a, ha with
    | 0, _ => exact ⟨a1, rfl, c.q1⟩
    | 1, _ => exact ⟨a2, rfl, c.q2⟩
    | 2, _ => exact ⟨a3, rfl, c.q3⟩
  -- the numbers of spaces
  refine ⟨(by show 2 ≤ sizeLine; decide), fun c0 hc0 => ⟨(by show 2 ≤ sizeLine; decide), fun c1 hc1 => ⟨(by show 2 ≤ sizeLine; decide), fun c2 hc2 => ⟨(by show 3 ≤ sizeLine; decide), fun ct hct => ?_⟩⟩⟩⟩
  have z0 := same_new0 (o := .tup [.int 0, .int 1]) hc0
  have z1 := z0.trans (same_new0 (o := .tup [.int 0, .int 2]) hc1)
  have z2 := z1.trans (same_new0 (o := .tup [.int 1, .int 2]) hc2)
  have z3 := z2.trans (same_new0 (o := .tup [.ref c0, .ref c1, .ref c2]) hct)
  have f0 := upd_new (o := .tup [.ref c0, .ref c1, .ref c2]) hct (upd_new (o := .tup [.int 1, .int 2]) hc2 (upd_new (o := .tup [.int 0, .int 2]) hc1 (upd_same (H := H1) (a := c0) (o := .tup [.int 0, .int 1]))))
  have f1 := upd_new (o := .tup [.ref c0, .ref c1, .ref c2]) hct (upd_new (o := .tup [.int 1, .int 2]) hc2 (upd_same (H := upd H1 c0 (.tup [.int 0, .int 1])) (a := c1) (o := .tup [.int 0, .int 2])))
  have f2 := upd_new (o := .tup [.ref c0, .ref c1, .ref c2]) hct (upd_same (H := upd (upd H1 c0 (.tup [.int 0, .int 1])) c1 (.tup [.int 0, .int 2])) (a := c2) (o := .tup [.int 1, .int 2]))
  have ft := upd_same (H := upd (upd (upd H1 c0 (.tup [.int 0, .int 1])) c1 (.tup [.int 0, .int 2])) c2 (.tup [.int 1, .int 2])) (a := ct) (o := .tup [.ref c0, .ref c1, .ref c2])
  generalize upd (upd (upd (upd H1 c0 _) c1 _) c2 _) ct _ = HB at *
  have x1B : Ex2 ia sp H1 HB := Ex2.of z3
  have nt : ∀ {a : Addr} {xs : List V}, HB a = some (.tup xs) → ∀ {Hi : Hp}, Ex2 ia sp HB Hi → Hi a = some (.tup xs) := fun {a xs} h {Hi} x => x _ _ h (fun e => by rw [e, z3 _ _ hI] at h; cases h) (fun e => by
    obtain ⟨rs, _, q, _⟩ := hS
    rw [e, z3 _ _ q] at h; cases h)
  have ol : ∀ i, i < 3 → ∃ cc, ([V.ref c0, .ref c1, .ref c2] : List V)[i]? = some (.ref cc) ∧ HB cc = some (.tup [vN (pone i), vN (poth i)]) := fun i hi => by
    match i, hi with
    | 0, _ => exact ⟨c0, rfl, f0⟩
    | 1, _ => exact ⟨c1, rfl, f1⟩
    | 2, _ => exact ⟨c2, rfl, f2⟩
  have hpB := z3 _ _ hpl
  have paB : PlA HB es0 := pa.same z3
  refine ⟨ct, [.ref c0, .ref c1, .ref c2], rfl, SqT.of ft, for_it (walk_enumT (xs := [.ref c0, .ref c1, .ref c2])) (fun a σ Hi => ∃ v4 v5 v6 v7 v8 u R I, σ = [some (.ref p), some (.ref ia), some (.ref sp), some (.ref pl), v4, v5, v6, v7, v8] ∧ Ex2 ia sp HB Hi ∧ StP k t a 0 u R I ∧ Hi ia = some (.lst (I.map vN)) ∧ SpAt Hi sp ia R) ⟨v4, v5, v6, v7, v8, u, R, I, rfl, Ex2.of (Same.refl _), S, z3 _ _ hI, hS.same z3⟩ (fun a σ Hi _ hP => ?_) (fun a x σ Hz Hi ha hP hy => ?_) (fun σ Hi hP => ?_)⟩
  · obtain ⟨_, _, _, _, _, _, _, _, _, z, _⟩ := hP
    exact SqT.of (nt ft z)
  · obtain ⟨v4, v5, v6, v7, v8, u, R, I, rfl, xi, Sa, hIa, hSa⟩ := hP
    obtain ⟨T', u', z, rfl, hT', rfl, q1, q2⟩ := hy
    have ha : a < 3 := ha
    cases q1
    obtain ⟨cc, o1, o2⟩ := ol a ha
    have q2 : ([V.ref c0, V.ref c1, V.ref c2] : List V)[a]? = some z := q2
    rw [o1] at q2
    cases q2
    have sT := same_new0 (o := .tup [.int (a : Nat), V.ref cc]) hT'
    have eT : upd Hz T' (.tup [.int (a : Nat), V.ref cc]) T' = some (.tup [.int (a : Nat), V.ref cc]) := upd_same
    have xT : Ex2 ia sp HB (upd Hz T' (.tup [.int (a : Nat), V.ref cc])) := xi.trans (Ex2.of sT)
    have hIa := sT _ _ hIa
    have hSa := hSa.same sT
    generalize upd Hz T' (.tup [.int (a : Nat), V.ref cc]) = Hi at *
    obtain ⟨g, x1, x2⟩ := al a ha
    have x1T : Ex2 ia sp H1 Hi := x1B.trans xT
    have hg := old x2 x1T
    refine ⟨T', _, rfl, SqT.of eT, rfl, _, _, rfl, _, _, rfl, cc, _, rfl, SqT.of (nt o2 xT), rfl, _, _, rfl, _, _, rfl, rfl, rfl, ?_⟩
    refine ⟨_, rfl, p, CH, dx, _, .ref t2, rfl, old c.o x1T, TH.cl, TH.np, rfl, _, rfl, t2, _, a, _, rfl, rfl, .inr (old c.q x1T), x1, for_sq2 (K := K) (.inr hg) (fun i σ Hj => ∃ v7 v8 u R I, σ = [some (.ref p), some (.ref ia), some (.ref sp), some (.ref pl), some (vN (pone a)), some (vN (poth a)), some (vN a), v7, v8] ∧ Ex2 ia sp HB Hj ∧ StP k t a i u R I ∧ Hj ia = some (.lst (I.map vN)) ∧ SpAt Hj sp ia R) ⟨v7, v8, u, R, I, rfl, xT, Sa, hIa, hSa⟩ (fun i σ Hj hP o ho => ?_) ?_ ?_⟩
    · obtain ⟨_, _, _, _, _, _, z, _⟩ := hP
      rw [hg] at ho
      cases ho
      exact old x2 (x1B.trans z)
    · rintro i y σ Hj hy ⟨v7', v8', u, R, I, rfl, xj, Sj, hIj, hSj⟩
      obtain ⟨yy, hyy, rfl⟩ := map_get hy
      have il := (List.getElem?_eq_some_iff.mp hyy).1
      obtain ⟨m1, m2⟩ := Sj.room ha il k1 k2 k3
      have len := Sj.ilen m (fun _ => Nat.le_of_lt il)
      have b1 : pone a < 3 := by unfold pone; split <;> omega
      have b2 : poth a < 3 := by unfold poth; split <;> omega
      have l3 := Sj.h.l
      have r1 := Sj.h.r _ b1
      have r2 := Sj.h.r _ b2
      obtain ⟨rs, g1, i1, i2, i3, i4⟩ := hSj.item b1
      obtain ⟨rs', g2, j1, j2, j3, j4⟩ := hSj.item b2
      refine ⟨_, rfl, _, rfl, sp, _, pone a, _, rfl, rfl, .inl i1, i3, _, rfl, _, rfl, sp, _, poth a, _, rfl, rfl, .inl j1, j3, g1, g2, _, _, rfl, .inl i4, .inl j4, r1, r2, (by omega), (by omega), fun H2 x s2 nx1 nx2 bx => ?_⟩
      have bx := bx k m1 m2
      refine ⟨_, rfl, .inl ⟨rfl, _, SqL.of (s2 _ _ hIj)⟩, _, rfl, ia, _, _, rfl, rfl, s2 _ _ hIj, (by rw [List.length_map]; exact size6 (by omega)), ?_⟩
      have hS2 := (hSj.same s2).puti (o := .lst (I.map vN ++ [vN x])) ne
      have hI2 : upd H2 ia (.lst (I.map vN ++ [vN x])) ia = some (.lst ((I ++ [x]).map vN)) := by rw [upd_same, List.map_append]; rfl
      have xx : Ex2 ia sp HB (upd H2 ia (.lst (I.map vN ++ [vN x]))) := (xj.trans (Ex2.of s2)).trans Ex2.put1
      generalize upd H2 ia (.lst (I.map vN ++ [vN x])) = H3 at *
      obtain ⟨rs, g1, i1, i2, i3, i4⟩ := hS2.item b1
      refine ⟨_, rfl, _, rfl, sp, _, pone a, _, rfl, rfl, .inl i1, i3, _, rfl, g1, _, x, rfl, .inl i4, r1.nz, (by omega), fun H4 h4 s4 hh4 e4 => ?_⟩
      have n4 : h4 ≠ sp ∧ h4 ≠ ia := ⟨(ne_of_none i1 hh4).symm, (ne_of_none hI2 hh4).symm⟩
      have hS4 := hS2.same s4
      obtain ⟨rs', g2, j1, j2, j3, j4⟩ := hS4.item b2
      refine ⟨_, rfl, _, rfl, sp, _, poth a, _, rfl, rfl, .inl j1, j3, _, rfl, g2, _, x, rfl, .inl j4, r2.nz, (by omega), fun H5 h5 s5 hh5 e5 => ?_⟩
      have n5 : h5 ≠ sp ∧ h5 ≠ ia := ⟨(ne_of_none j1 hh5).symm, (ne_of_none (s4 _ _ hI2) hh5).symm⟩
      refine ⟨(by show 2 ≤ sizeLine; decide), fun y6 hy6 => ?_⟩
      have s6 := same_new0 (o := .tup [.ref h4, .ref h5]) hy6
      have e6 : upd H5 y6 (.tup [.ref h4, .ref h5]) y6 = some (.tup [.ref h4, .ref h5]) := upd_same
      have hS6 := (hS4.same s5).same s6
      have e4 := s6 _ _ (s5 _ _ e4)
      have e5 := s6 _ _ e5
      have hI6 := s6 _ _ (s5 _ _ (s4 _ _ hI2))
      have x6 := xx.trans (Ex2.of ((s4.trans s5).trans s6))
      generalize upd H5 y6 _ = H6 at *
      obtain ⟨rs6, g6, q1, q2, _, _⟩ := hS6.item b1
      have hS7 := hS6.set b1 l3 q1 e4 n4.1 n4.2
      have e57 := upd_put (o := .lst (rs6.set (pone a) (.ref h4))) e5 n5.1
      have l7 : (R.set (pone a) (grw (R.getD (pone a) []) x)).length = 3 := by rw [List.length_set, l3]
      have q7 : upd H6 sp (.lst (rs6.set (pone a) (.ref h4))) sp = some (.lst (rs6.set (pone a) (.ref h4))) := upd_same
      have l6 : (rs6.set (pone a) (.ref h4)).length = 3 := by rw [List.length_set, q2]
      refine ⟨y6, _, rfl, SqT.of e6, rfl, _, _, rfl, _, rfl, _, rfl, sp, rs6, pone a, pone a, rfl, rfl, q1, ixn3 q2 b1, _, _, rfl, _, rfl, _, rfl, sp, _, poth a, poth a, rfl, rfl, q7, ixn3 l6 b2, rfl, ?_⟩
      have hS8 := hS7.set b2 l7 q7 e57 n5.1 n5.2
      exact ⟨_, _, _, _, _, rfl, (x6.trans Ex2.put2).trans Ex2.put2, Sj.step ha il nx1 nx2 bx, upd_put (upd_put hI6 ne.symm) ne.symm, hS8⟩
    · rintro σ Hj ⟨v7', v8', u, R, I, rfl, xj, Sj, hIj, hSj⟩
      rw [List.length_map] at Sj
      exact ⟨_, _, _, _, _, u, R, I, rfl, xj, Sj.next, hIj, hSj⟩
  · obtain ⟨v4, v5, v6, v7, v8, u, R, I, rfl, xi, Sa, hIa, hSa⟩ := hP
    have Sa : StP k t 3 0 u R I := Sa
    have len := Sa.ilen m (fun h => absurd h (by decide))
    have x1i : Ex2 ia sp H1 Hi := x1B.trans xi
    have S0 : Same H Hi := fun b o h => old h x1i
    have hpi := xi _ _ hpB npi nps
    have pai : PlA Hi es0 := fun e he => nt (paB e he) xi
    have eW : u.W = es0.map (·.2) := by rw [Sa.w, ep]
    have lw : es0.length ≤ 1000 := by
      have := congrArg List.length eW
      rw [List.length_map, Sa.w, pli_len] at this
      have := m.w
      omega
    have fw : ∀ i, ((es0.take i).flatMap fun e => [e.2.1, e.2.2]).length ≤ 2000 := fun i => by
      have := fl_le (f := fun e : Addr × Nat × Nat => [e.2.1, e.2.2]) (k := 2) (es0.take i) fun e he => Nat.le_refl _
      have := List.length_take_le' i es0
      omega
    obtain ⟨rs0, _, h0, _⟩ := id hSa
    have hsx : Hi sp = some (.lst (rs0.map V.ref)) := h0
    refine ⟨_, rfl, for_seq (K := K) (Sq.l hpi) (fun i σ Hj => ∃ v4 v5 q, σ = [some (.ref p), some (.ref q), some (.ref sp), some (.ref pl), v4, v5, v6, v7, v8] ∧ Same Hi Hj ∧ H q = none ∧ sp ≠ q ∧ Hj q = some (.lst ((I ++ (es0.take i).flatMap fun e => [e.2.1, e.2.2]).map vN)) ∧ SpAt Hj sp q R) ⟨v4, v5, ia, rfl, Same.refl _, hia, ne, (by rw [List.take_zero, List.flatMap_nil, List.append_nil]; exact hIa), hSa⟩ (fun i σ Hj hP => by obtain ⟨_, _, _, _, z, _⟩ := hP; exact Kp.of z) ?_ ?_⟩
    · rintro i x σ Hj hx ⟨w4, w5, q, rfl, sj, hq, nq, hqj, hSj⟩
      obtain ⟨e, he, rfl⟩ := map_get hx
      have le := pai e (List.mem_of_getElem? he)
      have l1 := fw i
      refine ⟨e.1, _, rfl, SqT.of (sj _ _ le), rfl, _, _, rfl, _, _, rfl, rfl, ?_⟩
      refine ⟨_, rfl, _, rfl, _, rfl, (by show 2 ≤ sizeLine; decide), fun l hl => ?_⟩
      have y1 := same_new0 (o := .lst [vN e.2.1, vN e.2.2]) hl
      refine ⟨q, l, _, _, rfl, rfl, y1 _ _ hqj, upd_same, (by rw [List.length_map, List.length_append, sizeLine_eq]; show _ + 2 ≤ _; omega), fun l2 hl2 => ?_⟩
      have y2 := y1.trans (same_new0 (o := .lst ((I ++ (es0.take i).flatMap fun e => [e.2.1, e.2.2]).map vN ++ [vN e.2.1, vN e.2.2])) hl2)
      have hS2 := hSj.same y2
      have nl : ∀ {b o}, Hj b = some o → b ≠ l2 := fun {b o} h => ne_of_none (y1 _ _ h) hl2
      refine ⟨_, _, l2, rfl, sj.trans y2, S0.free (sj.free (y1.free hl2)), nl (sj _ _ hsx), ?_, ?_⟩
      · rw [upd_same, take_succ he, List.flatMap_append]
        simp [List.append_assoc]
      · obtain ⟨rs, l0, h0, h1⟩ := hSj
        refine ⟨rs, l0, y2 _ _ h0, fun c hc => ?_⟩
        obtain ⟨r, a, b, d, e'⟩ := h1 c hc
        exact ⟨r, a, b, nl e', y2 _ _ e'⟩
    · rintro σ Hj ⟨w4, w5, q, rfl, sj, hq, nq, hqj, hSj⟩
      rw [List.length_map, List.take_length] at hqj
      have SN := Sa.planes
      have ef : u.W.flatMap (fun p => [p.1, p.2]) = es0.flatMap fun e => [e.2.1, e.2.2] := by rw [eW, List.flatMap_map]
      rw [ef] at SN
      exact hT3 H Hj p q sp pl b k t u R _ w4 w5 v6 v7 v8 (S0.trans sj) hq hsp nq hT m hk k1 k2 k3 SN hqj hSj kk
include TH in
theorem ok_laid (F : FnP K "laid_images" "laid_images" s_laid_images f fd) (D_plane_images : Dn P w K mg base 1 "plane_images" ["many", "first"] sp_plane_images) (D_outside : Dn P w K mg base 3 "outside" ["rows", "others"] sp_outside) (D_missing : Dn P w K mg base 2 "missing" ["rows"] sp_missing) (D_grown : Dn P w K mg base 2 "grown" ["rows", "word"] sp_grown) : FnOk P w K mg base CX0 4 f fd ["three"] (sp_laid CH) := by
  have nd := sc_laid_images.nd
  refine fnok F sc_laid_images (fun vs H Q E h => ?_) (fun cdv A outer s H vs Q E hr h => ?_)
  · obtain ⟨p, b, k, t, rfl, _⟩ := h
    rfl
  · obtain ⟨p, b, k, t, rfl, hT, m, hk, k1, k2, k3, kw, kk⟩ := h
    obtain ⟨tt, hP, hT2⟩ := laid_tail2 (H0 := H) (Q := Q) (E := E) T TH D_outside D_missing D_grown hr
    refine ⟨_, (pss_cons (ps_setLc (i := 1) (own := [("at", 6)]) (g := gName 6) (by rfl) nd rfl rfl (sw_true rfl rfl rfl (by decide +kernel)) (pi_range1 (by rfl) T.range (pa_cons (pe_callB call_lenQ (by rfl) T.len PySem.boot_len (pa_cons (pe_fld (pv 0) rfl) pa_nil)) pa_nil)) (blkOk_by (own := [("at", 6)]) (N := ["three", "images", "spans", "planes", "one", "other", "at", "word", "image"]) (sc := defScope s_laid_images) (by decide +kernel)) (fun _ _ _ _ _ => (pg_name (i := 6) nd rfl (Or.inl rfl))) (fun _ _ _ _ _ => pts_nil) (fun _ _ _ _ _ => (pe_op on_shl pe_int (pv 6))))
  (pss_cons (ps_set (i := 2) nd rfl (Or.inl rfl) (pe_lst (pa_cons (pe_callTy call_listQ (by rfl) T.list (by decide +kernel) (pa_cons (pv 1) pa_nil)) (pa_cons (pe_callTy call_listQ (by rfl) T.list (by decide +kernel) (pa_cons (pv 1) pa_nil)) (pa_cons (pe_callTy call_listQ (by rfl) T.list (by decide +kernel) (pa_cons (pv 1) pa_nil)) pa_nil)))))
  (pss_cons (ps_set (i := 3) nd rfl (Or.inl rfl) (pe_d D_plane_images hr (pa_cons (pe_callB call_lenQ (by rfl) T.len PySem.boot_len (pa_cons (pe_fld (pv 0) rfl) pa_nil)) (pa_cons (pe_callB call_lenQ (by rfl) T.len PySem.boot_len (pa_cons (pv 1) pa_nil)) pa_nil))))
  (pss_cons (ps_for PassesOwn.never rfl (pi_seq (pv 3)) (pg_tup (by rfl) (pgs_cons (pg_name (i := 4) nd rfl (Or.inl rfl)) (pgs_cons (pg_name (i := 5) nd rfl (Or.inl rfl)) pgs_nil)))
    (pss_one (ps_set (i := 2) nd rfl (Or.inl rfl) (pe_lst (pa_cons (pe_d D_grown hr (pa_cons (pe_ix ix_q (pv 2) pe_int (fun _ _ => rfl)) (pa_cons (pv 4) pa_nil))) (pa_cons (pe_d D_grown hr (pa_cons (pe_ix ix_q (pv 2) pe_int (fun _ _ => rfl)) (pa_cons (pv 5) pa_nil))) (pa_cons (pe_d D_grown hr (pa_cons (pe_ix ix_q (pv 2) pe_int (fun _ _ => rfl)) (pa_cons (pe_op on_xor (pv 4) (pv 5)) pa_nil))) pa_nil)))))))
  hP)))), ?_⟩
    have o1 : blen 1 ≤ 1000000 := by rw [blen_one]; decide
    have hT' := hT
    obtain ⟨dx, ts, t1, t2, t3, t4, t5, a1, a2, a3, n1, n2, n3, es, c⟩ := hT'
    have ms := m.s
    have mw := m.w
    refine ⟨_, rfl, p, CH, dx, _, .ref t1, rfl, c.o, TH.cl, TH.nh, rfl, t1, _, rfl, .inr c.s, t.S.length, (by rw [List.length_map]), (by omega), (by omega), lc_pureR (n := t.S.length) (fun _ => true) (fun i => vN (1 <<< i)) (by omega) (fun i H' hi s => ?_) (fun ia H1 hia s1 e1 => ?_)⟩
    · intro Z Nx z1 z2
      exact ⟨rfl, _, rfl, 1, i, rfl, rfl, shl_ok1 o1 (by omega), z1 rfl _ (Same.refl _)⟩
    rw [filt_true] at e1
    have e1 : H1 ia = some (.lst ((units t.S.length).map vN)) := by rw [e1]; unfold units; rw [List.map_map]; rfl
    refine ⟨_, rfl, ia, _, rfl, .inl e1, fun r0 hr0 => ?_⟩
    have y0 := same_new0 (o := .lst ((units t.S.length).map vN)) hr0
    refine ⟨_, rfl, ia, _, rfl, .inl (y0 _ _ e1), fun r1 hr1 => ?_⟩
    have y1 := y0.trans (same_new0 (o := .lst ((units t.S.length).map vN)) hr1)
    refine ⟨_, rfl, ia, _, rfl, .inl (y1 _ _ e1), fun r2 hr2 => ?_⟩
    have y2 := y1.trans (same_new0 (o := .lst ((units t.S.length).map vN)) hr2)
    refine ⟨(by show 3 ≤ sizeLine; decide), fun sp hsp => ?_⟩
    have y3 := y2.trans (same_new0 (o := .lst [.ref r0, .ref r1, .ref r2]) hsp)
    have g0 := upd_new (o := .lst [.ref r0, .ref r1, .ref r2]) hsp (upd_new (o := .lst ((units t.S.length).map vN)) hr2 (upd_new (o := .lst ((units t.S.length).map vN)) hr1 (upd_same (H := H1) (a := r0) (o := .lst ((units t.S.length).map vN)))))
    have g1 := upd_new (o := .lst [.ref r0, .ref r1, .ref r2]) hsp (upd_new (o := .lst ((units t.S.length).map vN)) hr2 (upd_same (H := upd H1 r0 (.lst ((units t.S.length).map vN))) (a := r1) (o := .lst ((units t.S.length).map vN))))
    have g2 := upd_new (o := .lst [.ref r0, .ref r1, .ref r2]) hsp (upd_same (H := upd (upd H1 r0 (.lst ((units t.S.length).map vN))) r1 (.lst ((units t.S.length).map vN))) (a := r2) (o := .lst ((units t.S.length).map vN)))
    have g3 := upd_same (H := upd (upd (upd H1 r0 (.lst ((units t.S.length).map vN))) r1 (.lst ((units t.S.length).map vN))) r2 (.lst ((units t.S.length).map vN))) (a := sp) (o := .lst [.ref r0, .ref r1, .ref r2])
    have q0 : r0 ≠ sp ∧ r0 ≠ ia := ⟨ne_of_none (upd_new hr2 (upd_new hr1 upd_same)) hsp, (ne_of_none e1 hr0).symm⟩
    have q1 : r1 ≠ sp ∧ r1 ≠ ia := ⟨ne_of_none (upd_new hr2 upd_same) hsp, (ne_of_none (y0 _ _ e1) hr1).symm⟩
    have q2 : r2 ≠ sp ∧ r2 ≠ ia := ⟨ne_of_none upd_same hsp, (ne_of_none (y1 _ _ e1) hr2).symm⟩
    have nis : sp ≠ ia := (ne_of_none (y2 _ _ e1) hsp).symm
    have hsp0 : H sp = none := s1.free (y2.free hsp)
    have s3 := s1.trans y3
    have e3 := y3 _ _ e1
    generalize upd (upd (upd (upd H1 r0 _) r1 _) r2 _) sp _ = H3 at *
    have hS : SpAt H3 sp ia [units t.S.length, units t.S.length, units t.S.length] := ⟨[r0, r1, r2], rfl, g3, fun c hc => by
      match c, hc with
      | 0, _ => exact ⟨r0, rfl, q0.1, q0.2, g0⟩
      | 1, _ => exact ⟨r1, rfl, q1.1, q1.2, g1⟩
      | 2, _ => exact ⟨r2, rfl, q2.1, q2.2, g2⟩⟩
    -- planes
    refine ⟨_, rfl, p, CH, dx, _, .ref t3, rfl, s3 _ _ c.o, TH.cl, TH.nl, rfl, t3, _, rfl, .inr (s3 _ _ c.w), _, rfl, ia, _, rfl, .inl e3, t.W.length, t.S.length, ?_, (by omega), (by omega), fun H4 pl es0 s4 hpl e4 pa ee => ?_⟩
    · rw [List.length_map, List.length_map, show es.length = t.W.length by rw [← c.we, List.length_map], show (units t.S.length).length = t.S.length by unfold units; simp]
      rfl
    have np : pl ≠ ia ∧ pl ≠ sp := ⟨(ne_of_none e3 hpl).symm, (ne_of_none g3 hpl).symm⟩
    have l0 : es0.length = t.W.length := by rw [← pli_len t.W.length t.S.length, ← ee, List.length_map]
    refine ⟨_, rfl, for_seq (K := K) (Sq.l e4) (fun i σ Hi => ∃ sq v4 v5 R, σ = [some (.ref p), some (.ref ia), some (.ref sq), some (.ref pl), v4, v5, none, none, none] ∧ Same H4 Hi ∧ H sq = none ∧ sq ≠ ia ∧ pl ≠ sq ∧ StW t.S.length ((es0.take i).map (·.2)) R ∧ SpAt Hi sq ia R) ⟨sp, none, none, _, rfl, Same.refl _, hsp0, nis, np.2, stw_start _, hS.same s4⟩ (fun i σ Hi hP => by obtain ⟨_, _, _, _, _, z, _⟩ := hP; exact Kp.of z) ?_ ?_⟩
    · rintro i x σ Hi hx ⟨sq, v4, v5, R, rfl, si, hsq, nsi, nps, W, hSi⟩
      obtain ⟨e, he, rfl⟩ := map_get hx
      have le := (pa.same si) e (List.mem_of_getElem? he)
      have il := (List.getElem?_eq_some_iff.mp he).1
      have ln : ∀ c, c < 3 → (R.getD c []).length ≤ 1000000 := fun c hc => by
        have a := spn_id (W.r c hc)
        rw [rk_eq (W.s c hc)] at a
        have b := rk_len (units t.S.length ++ ((es0.take i).map (·.2)).map (fwk c))
        rw [List.length_append, List.length_map, List.length_map, List.length_take, show (units t.S.length).length = t.S.length by unfold units; simp] at b
        omega
      obtain ⟨rs, r0, i1, i2, i3, i4⟩ := hSi.item (c := 0) (by decide)
      refine ⟨e.1, _, rfl, SqT.of le, rfl, _, _, rfl, _, _, rfl, rfl, ?_⟩
      refine ⟨_, rfl, sq, _, 0, _, rfl, rfl, .inl i1, i3, _, rfl, r0, _, e.2.1, rfl, .inl i4, (W.r 0 (by decide)).nz, ln 0 (by decide), fun H5 h5 s5 hh5 e5 => ?_⟩
      obtain ⟨rs, r1, i1, i2, i3, i4⟩ := (hSi.same s5).item (c := 1) (by decide)
      refine ⟨_, rfl, sq, _, 1, _, rfl, rfl, .inl i1, i3, _, rfl, r1, _, e.2.2, rfl, .inl i4, (W.r 1 (by decide)).nz, ln 1 (by decide), fun H6 h6 s6 hh6 e6 => ?_⟩
      obtain ⟨rs, r2, i1, i2, i3, i4⟩ := ((hSi.same s5).same s6).item (c := 2) (by decide)
      refine ⟨_, rfl, sq, _, 2, _, rfl, rfl, .inl i1, i3, _, rfl, _, rfl, _, _, rfl, rfl, r2, _, e.2.1 ^^^ e.2.2, rfl, .inl i4, (W.r 2 (by decide)).nz, ln 2 (by decide), fun H7 h7 s7 hh7 e7 => ?_⟩
      refine ⟨(by show 3 ≤ sizeLine; decide), fun sn hsn => ?_⟩
      have s8 := same_new0 (o := .lst [.ref h5, .ref h6, .ref h7]) hsn
      have st := si.trans (s5.trans (s6.trans (s7.trans s8)))
      have si7 := si.trans (s5.trans (s6.trans s7))
      have e3i := si _ _ (s4 _ _ e3)
      refine ⟨sn, _, _, [grw (R.getD 0 []) e.2.1, grw (R.getD 1 []) e.2.2, grw (R.getD 2 []) (e.2.1 ^^^ e.2.2)], rfl, st, s3.free (s4.free (si7.free hsn)), (ne_of_none (si7 _ _ (s4 _ _ e3)) hsn).symm, ne_of_none (si7 _ _ e4) hsn, ?_, [h5, h6, h7], rfl, upd_same, fun c hc => ?_⟩
      · rw [take_succ he, List.map_append]
        exact W.step e.2
      · match c, hc with
        | 0, _ => exact ⟨h5, rfl, ne_of_none (s7 _ _ (s6 _ _ e5)) hsn, (ne_of_none e3i hh5).symm, s8 _ _ (s7 _ _ (s6 _ _ e5))⟩
        | 1, _ => exact ⟨h6, rfl, ne_of_none (s7 _ _ e6) hsn, (ne_of_none (s5 _ _ e3i) hh6).symm, s8 _ _ (s7 _ _ e6)⟩
        | 2, _ => exact ⟨h7, rfl, ne_of_none e7 hsn, (ne_of_none (s6 _ _ (s5 _ _ e3i)) hh7).symm, s8 _ _ e7⟩
    · rintro σ Hi ⟨sq, v4, v5, R, rfl, si, hsq, nsi, nps, W, hSi⟩
      rw [List.length_map, List.take_length, ee] at W
      have sw : t.S.length + t.W.length ≤ k := by
        unfold fd1 at k1
        simp only [List.length_append, List.length_map] at k1
        omega
      have SP := W.done sw kw
      exact hT2 H Hi p ia sq pl b k t _ R _ es0 v4 v5 none none none ((s3.trans s4).trans si) hia hsq nsi np.1 nps hT m hk k1 k2 k3 SP ee (si _ _ e4) (pa.same si) (si _ _ (s4 _ _ e3)) hSi kk
end
end LaneX
set_option Elab.async false
set_option linter.all false
set_option maxRecDepth 100000
set_option maxHeartbeats 4000000
namespace LaneX
open PySem PySem.Spec PyProof.Rows L2

/-- its map; the first that is too wide; the space that is filled -/
def sp_freeX (CS CH CM CT CF : Addr) : Sp := fun vs H Q E => ∃ (p : Addr) (b g : Nat) (A B D : List Nat) (t : ThW), vs = [.ref p, vN g] ∧ Th3 CS CH H p b A B D t ∧ Thr b A B D t ∧ WfS b A ∧ WfS b B ∧ WfS b D ∧ b ≤ 1000 ∧ g ≤ 1000 ∧
  (∀ i, i < 3 → g < (([A, B, D] : List (List Nat)).getD i []).length → (∀ j, j < i → (([A, B, D] : List (List Nat)).getD j []).length ≤ g) → ∀ H' d, Same H H' → H d = none → H' d = some (.xd [("index", vN i)]) → E (.ref CT) (some d) H') ∧
  (A.length ≤ g → B.length ≤ g → D.length ≤ g → Fld3 t → g < t.S.length + 2 → ∀ H' d r, Same H H' → H d = none → H' d = some (.xd [("rows", .ref r)]) → H' r = some (.tup ((sm (sm A B) D).map vN)) → E (.ref CF) (some d) H') ∧
  (A.length ≤ g → B.length ≤ g → D.length ≤ g → (Fld3 t → t.S.length + 2 ≤ g) → ∀ H' q u, Same H H' → H q = none → Laid g t u → MapAt CM H' q g (ldm b t u) → Q (.ref q) H')
theorem same_xd {H H' : Hp} {d : Addr} {o : HO} (s : Same H H') (n : H' d = none) : Same H (upd H' d o) := same_new s n
theorem thr_smal {b : Nat} {A B C : List Nat} {t : ThW} (h : Thr b A B C t) (hA : ∀ x ∈ A, x < 2 ^ b) (hB : ∀ x ∈ B, x < 2 ^ b) (hC : ∀ x ∈ C, x < 2 ^ b) (hb : b ≤ 1000) : Smal t := by
  have e := thr_bits h hA hB hC
  unfold fall at e
  simp only [List.length_append, flat_len] at e
  exact ⟨by omega, by omega, by omega, by omega, by omega, by omega, by omega, by omega, by omega⟩
theorem sum_dim {b : Nat} {A B C : List Nat} {t : ThW} (h : Thr b A B C t) (hA : ∀ x ∈ A, x < 2 ^ b) (hB : ∀ x ∈ B, x < 2 ^ b) (hC : ∀ x ∈ C, x < 2 ^ b) (f : Fld3 t) : (sm (sm A B) C).length = t.S.length + 2 := by
  obtain ⟨d1, d2, d3, d4, _⟩ := fil_dims h hA hB hC f
  have r := spn_id (sm_rws (sm A B) C)
  have e : rk (sm (sm A B) C) = rk (A ++ B ++ C) := rk_eq fun x => by
    rw [sm_span]
    exact app_iff (sm_span A B) (fun _ => Iff.rfl) x
  have e2 : (spn (sm (sm A B) C)).length = rk (sm (sm A B) C) := rfl
  omega
/-- one plane only: the bound of its images -/
theorem one_room {b g : Nat} {A B C : List Nat} {t : ThW} (h : Thr b A B C t) (hA : ∀ x ∈ A, x < 2 ^ b) (hB : ∀ x ∈ B, x < 2 ^ b) (hC : ∀ x ∈ C, x < 2 ^ b) (r1 : rk A ≤ g) (r2 : rk B ≤ g) (r3 : rk C ≤ g) (f : Fld3 t → t.S.length + 2 ≤ g) (w : t.W.length = 1) : t.S.length + 2 ≤ g := by
  by_cases z : Fld3 t
  · exact f z
  have f1 := thr_f1 h hA hB hC
  have f2 := thr_f2 h hA hB hC
  have f3 := thr_f3 h hA hB hC
  unfold fd1 at f1
  unfold fd2 at f2
  unfold fd3 at f3
  simp only [List.length_append, List.length_map] at f1 f2 f3
  have : ¬ (t.P1.length = 0 ∧ t.P2.length = 0 ∧ t.P3.length = 0 ∧ t.N1.length = 0 ∧ t.N2.length = 0 ∧ t.N3.length = 0) := fun ⟨a, b, c, d, e, f⟩ => z ⟨a, b, c, w, d, e, f⟩
  omega
section
variable {P : Program} {w : World} {K : PySem.W.Frag} {mg : Str → Option Value} {base : Heap} {f : Addr} {fd : FuncData} {CS CR CM CH : Addr} (T : Bt mg) (TS : SpaceT K mg CS) (TM : MapT K mg CM) (TH : ThreeT K mg CH)
include T TM TH
theorem free_tail {cdv : Value} {A : Around} {outer : List Env} {s : Shared} {H0 : Hp} {Q : VK} {E : XK} (D_laid_images : Dn P w K mg base 4 "laid_images" ["three"] (sp_laid CH)) (D_all_words : Dn P w K mg base 1 "all_words" ["three"] (sp_all_words CH)) (K_Map : Kn P w K mg base 4 CM "Map" ["self", "goal", "columns"] (sp_Map CM)) (M_Map_mul : Mn P w K mg base 6 CM "__mul__" ["self", "other"] (sp_mul CM)) (M_Map_invert : Mn P w K mg base 7 CM "__invert__" ["self"] (sp_invert CM)) (hsfM : PySem.W.selfFirst K CM = true)
    (hr : Room 7 (A.deeper (envOfC "free_banks" (defScope s_free_banks) s.heap.objs.size f cdv))) :
    ∃ tt, PSs (cxOf (L2.CX P w) P w K mg base ["three", "banks", "at", "space", "whole"] "free_banks" (defScope s_free_banks) f cdv A outer s H0 E) ((defBody s_free_banks).drop 5) tt ∧
      ∀ (H H1 : Hp) (p : Addr) (b g : Nat) (A1 A2 A3 : List Nat) (t : ThW) (v2 v3 v4 : Option V), Same H H1 → ThAt CH H p b t → Thr b A1 A2 A3 t → WfS b A1 → WfS b A2 → WfS b A3 → b ≤ 1000 → g ≤ 1000 → A1.length ≤ g → A2.length ≤ g → A3.length ≤ g → (Fld3 t → t.S.length + 2 ≤ g) →
        (∀ H' q u, Same H H' → H q = none → Laid g t u → MapAt CM H' q g (ldm b t u) → Q (.ref q) H') →
        tt { nx := fun _ H' => Q .non H', rt := Q } [some (.ref p), some (vN g), v2, v3, v4] H1 := by
  have nd := sc_free_banks.nd
  refine ⟨_, (pss_one (ps_ret (pe_op (op_own (by rfl) M_Map_mul hsfM hr) (pe_k K_Map hr (pa_cons (pv 1) (pa_cons (pe_d D_laid_images hr (pa_cons (pv 0) pa_nil)) pa_nil))) (pe_un (un_own M_Map_invert hr) (pe_k K_Map hr (pa_cons (pe_fld (pv 0) rfl) (pa_cons (pe_d D_all_words hr (pa_cons (pv 0) pa_nil)) pa_nil))))))), ?_⟩
  intro H H1 p b g A1 A2 A3 t v2 v3 v4 s1 hT R w1 w2 w3 hb hg l1 l2 l3 nf k
  have lA := wf_lt w1
  have lB := wf_lt w2
  have lC := wf_lt w3
  have sml := thr_smal R lA lB lC hb
  have mx := thr_mixb R lA lB lC
  have r1 := spn_id w1.r
  have r2 := spn_id w2.r
  have r3 := spn_id w3.r
  have f1 := thr_f1 R lA lB lC
  have f2 := thr_f2 R lA lB lC
  have f3 := thr_f3 R lA lB lC
  have hT1 := hT.same s1
  refine ⟨_, rfl, _, rfl, p, b, g, t, rfl, hT1, sml, hg, (by omega), (by omega), (by omega), one_room R lA lB lC (by omega) (by omega) (by omega) nf, fun H2 q2 u s2 hq2 L e2 => ?_⟩
  refine mk_MapR (cs := fall u) (.inl e2) (fun x hx => blen_le.mpr (L.bd x hx)) fun H3 q3 s3 hq3 e3 => ⟨rfl, ?_⟩
  have s13 := s2.trans s3
  obtain ⟨dx, ts, t1, t2, t3, t4, t5, a1, a2, a3, n1, n2, n3, es, c⟩ := hT1.same s13
  refine ⟨_, rfl, p, CH, dx, _, vN b, rfl, c.o, TH.cl, TH.nb, rfl, ?_⟩
  refine ⟨_, rfl, p, b, t, rfl, hT1.same s13, sml, fun H4 q4 s4 hq4 e4 => ?_⟩
  refine mk_MapR (cs := fall t) (.inl e4) (mix_blen mx) fun H5 q5 s5 hq5 e5 => ⟨rfl, ?_⟩
  obtain ⟨d5, u5, i1, i2⟩ := id e5
  refine ⟨q5, d5, _, rfl, i1, q5, b, _, rfl, e5, mx, hb, fun H6 q6 s6 hq6 e6 => ?_⟩
  have e3' := e3.same ((s4.trans s5).trans s6)
  obtain ⟨d3, u3, j1, j2⟩ := id e3'
  obtain ⟨d6, u6, o1, o2⟩ := id e6
  have lu : (fall u).length = b := by rw [fall_len L.tn, ← fall_len (tn_of t), mx.len]
  have mi := inv_mix mx
  refine ⟨q3, q6, d3, d6, _, _, rfl, rfl, j1, o1, q3, q6, g, b, _, _, rfl, e3', e6, lu, L.bd, mi.lt, (by rw [mi.len]; exact hb), hb, hg, fun H7 q7 s7 hq7 e7 => ?_⟩
  have st := s13.trans ((s4.trans s5).trans s6)
  exact k _ _ u (s1.trans (st.trans s7)) (s1.free (st.free hq7)) L e7
include TS in
theorem ok_freeX {CT CF : Addr} (F : FnP K "free_banks" "free_banks" s_free_banks f fd) (D_need_three : Dn P w K mg base 1 "need_three" ["value"] (sp_need_three CH)) (D_need_whole : Dn P w K mg base 2 "need_whole" ["value"] sp_need_whole) (D_filled : Dn P w K mg base 7 "filled" ["three"] (sp_filled CS CH)) (D_laid_images : Dn P w K mg base 4 "laid_images" ["three"] (sp_laid CH)) (D_all_words : Dn P w K mg base 1 "all_words" ["three"] (sp_all_words CH)) (K_Map : Kn P w K mg base 4 CM "Map" ["self", "goal", "columns"] (sp_Map CM)) (M_Map_mul : Mn P w K mg base 6 CM "__mul__" ["self", "other"] (sp_mul CM)) (M_Map_invert : Mn P w K mg base 7 CM "__invert__" ["self"] (sp_invert CM)) (hsfM : PySem.W.selfFirst K CM = true) (XW : Xi P K mg CT "index" "index") (glW : mg "TooWide" = some (.ref CT)) (XF : Xi P K mg CF "rows" "rows") (glF : mg "Filled" = some (.ref CF)) : FnOk P w K mg base (L2.CX P w) 8 f fd ["three", "banks"] (sp_freeX CS CH CM CT CF) := by
  have nd := sc_free_banks.nd
  refine fnokX F sc_free_banks (fun vs H Q E h => ?_) (fun cdv A outer s H vs Q E hr h => ?_)
  · obtain ⟨p, b, g, A1, A2, A3, t, rfl, _⟩ := h
    rfl
  · obtain ⟨p, b, g, A1, A2, A3, t, rfl, hT, R, w1, w2, w3, hb, hg, kw, kf, k⟩ := h
    obtain ⟨tt, hP, hT2⟩ := free_tail (H0 := H) (Q := Q) (E := E) T TM TH D_laid_images D_all_words K_Map M_Map_mul M_Map_invert hsfM hr
    have lA := wf_lt w1
    have lB := wf_lt w2
    have lC := wf_lt w3
    refine ⟨_, (pss_cons (ps_expr (pe_d D_need_three hr (pa_cons (pv 0) pa_nil)))
  (pss_cons (ps_expr (pe_d D_need_whole hr (pa_cons (pv 1) pa_nil)))
  (pss_cons (ps_for (passes_of rfl) rfl (pi_enumT (by rfl) T.enumerate (pa_cons (pe_fld (pv 0) rfl) pa_nil)) (pg_tup (by rfl) (pgs_cons (pg_name (i := 2) nd rfl (Or.inl rfl)) (pgs_cons (pg_name (i := 3) nd rfl (Or.inl rfl)) pgs_nil)))
    (pss_one (ps_if (pt_cmpR op_gt (pe_fld (pv 3) rfl) (pv 1) (nomark _))
      (pss_one (ps_raise rfl (takes_of rfl rfl rfl rfl) (pmk_xi XW glW hr (pa_cons (pv 2) pa_nil))))
      pss_nil)))
  (pss_cons (ps_set (i := 4) nd rfl (Or.inl rfl) (pe_d D_filled hr (pa_cons (pv 0) pa_nil)))
  (pss_cons (ps_if (PW.pt (pw_and (pt_cmpR op_notN (pv 4) pe_non (nomark _)) (pw_and1 (pt_cmpR op_gt (pe_fld (pv 4) rfl) (pv 1) (nomark _)))))
    (pss_one (ps_raise rfl (takes_of rfl rfl rfl rfl) (pmk_xi XF glF hr (pa_cons (pe_fld (pv 4) rfl) pa_nil))))
    pss_nil)
  hP))))), ?_⟩
    have hT' := hT
    obtain ⟨dx, ts, t1, t2, t3, t4, t5, a1, a2, a3, n1, n2, n3, es, x1, x2, x3, c, g0, g1, g2, g3⟩ := hT'
    refine ⟨_, rfl, p, b, t, rfl, hT.at_, ?_⟩
    refine ⟨_, rfl, g, rfl, ?_⟩
    refine ⟨_, rfl, p, CH, dx, _, .ref ts, rfl, c.o, TH.cl, TH.ns, rfl, ts, _, rfl, SqT.of g0, for_it (walk_enumT (xs := [.ref x1, .ref x2, .ref x3])) (fun i σ Hi => ∃ v2 v3, σ = [some (.ref p), some (vN g), v2, v3, none] ∧ Same H Hi ∧ ∀ j, j < i → (([A1, A2, A3] : List (List Nat)).getD j []).length ≤ g) ⟨none, none, rfl, Same.refl _, fun j hj => absurd hj (Nat.not_lt_zero j)⟩ (fun i σ Hi _ hp => by obtain ⟨_, _, _, z, _⟩ := hp; exact SqT.of (z _ _ g0)) ?_ ?_⟩
    · rintro i x σ Hi Hj hi ⟨v2, v3, rfl, si, le⟩ ⟨T', u, z, rfl, hT', rfl, q1, q2⟩
      cases q1
      have i3 : i < 3 := hi
      have sj := si.trans (same_new0 (o := .tup [.int (i : Nat), z]) hT')
      have eT : upd Hi T' (.tup [.int (i : Nat), z]) T' = some (.tup [.int (i : Nat), z]) := upd_same
      generalize upd Hi T' (.tup [.int (i : Nat), z]) = Hj at *
      refine ⟨T', _, rfl, SqT.of eT, rfl, _, _, rfl, _, _, rfl, rfl, ?_⟩
      have sp : ∃ xi, z = .ref xi ∧ SpaceAt CS H xi b (([A1, A2, A3] : List (List Nat)).getD i []) := by
        match i, i3, q2 with
        | 0, _, q2 => cases q2; exact ⟨x1, rfl, g1⟩
        | 1, _, q2 => cases q2; exact ⟨x2, rfl, g2⟩
        | 2, _, q2 => cases q2; exact ⟨x3, rfl, g3⟩
      obtain ⟨xi, rfl, dq, tq, i1, i2⟩ := sp
      have kwi := kw i i3
      have ln : ∀ j, j < i + 1 → (([A1, A2, A3] : List (List Nat)).getD i []).length ≤ g → (([A1, A2, A3] : List (List Nat)).getD j []).length ≤ g := fun j hj h => by
        by_cases e : j = i
        · rw [e]; exact h
        · exact le j (by omega)
      generalize (([A1, A2, A3] : List (List Nat)).getD i []) = Ri at *
      refine ⟨_, rfl, xi, CS, dq, _, vN Ri.length, rfl, sj _ _ i1, TS.cl, TS.nd, rfl, _, rfl, _, _, rfl, rfl, _, rfl, br (fun q => ?_) (fun q => ?_)⟩
      · have q := of_decide_eq_true q
        exact ⟨_, rfl, xi_mk fun d hd => kwi (by omega) le _ d (same_new sj hd) (sj.free hd) upd_same⟩
      · have q := of_decide_eq_false q
        exact ⟨_, _, rfl, sj, fun j hj => ln j hj (by omega)⟩
    · rintro σ Hi ⟨v2, v3, rfl, si, le⟩
      have l1 : A1.length ≤ g := le 0 (by show 0 < 3; decide)
      have l2 : A2.length ≤ g := le 1 (by show 1 < 3; decide)
      have l3 : A3.length ≤ g := le 2 (by show 2 < 3; decide)
      refine ⟨_, rfl, p, b, A1, A2, A3, t, rfl, hT.same si, w1, w2, w3, hb, fun fl H2 q2 s2 hq2 e2 => ?_, fun nfl H2 s2 => ?_⟩
      · have sd := sum_dim R lA lB lC fl
        obtain ⟨dq, tq, i1, i2⟩ := id e2
        have s02 := si.trans s2
        refine ⟨_, rfl, rfl, _, rfl, ?_⟩
        refine itt rfl ⟨_, rfl, q2, CS, dq, _, vN (sm (sm A1 A2) A3).length, rfl, i1, TS.cl, TS.nd, rfl, _, rfl, _, _, rfl, rfl, _, rfl, br (fun q => ?_) (fun q => ?_)⟩
        · have q := of_decide_eq_true q
          refine ⟨_, rfl, q2, CS, dq, _, .ref tq, rfl, i1, TS.cl, TS.nr, rfl, xi_mk fun d hd => ?_⟩
          exact kf l1 l2 l3 fl (by omega) _ d tq (same_new s02 hd) (s02.free hd) upd_same (upd_new hd i2)
        · have q := of_decide_eq_false q
          have nf : Fld3 t → t.S.length + 2 ≤ g := fun _ => by omega
          exact hT2 H H2 p b g A1 A2 A3 t v2 v3 _ s02 hT.at_ R w1 w2 w3 hb hg l1 l2 l3 nf (k l1 l2 l3 nf)
      · have nf : Fld3 t → t.S.length + 2 ≤ g := fun f => absurd f nfl
        refine ⟨_, rfl, rfl, _, rfl, ?_⟩
        exact itf rfl (hT2 H H2 p b g A1 A2 A3 t v2 v3 _ (si.trans s2) hT.at_ R w1 w2 w3 hb hg l1 l2 l3 nf (k l1 l2 l3 nf))
end
end LaneX
set_option Elab.async false
set_option linter.all false
set_option maxRecDepth 100000
set_option maxHeartbeats 4000000
namespace LaneX
open PySem PySem.Spec PyProof.Rows L2

theorem cr_max0 : True := trivial
def sp_leastb (CS CH : Addr) : Sp := fun vs H Q _ => ∃ (p : Addr) (b : Nat) (A B D : List Nat) (t : ThW), vs = [.ref p] ∧ Th3 CS CH H p b A B D t ∧ Thr b A B D t ∧ WfS b A ∧ WfS b B ∧ WfS b D ∧ b ≤ 1000 ∧
  ∀ H' m, Same H H' → (Fld3 t → m = t.S.length + 2) → (¬ Fld3 t → (m = A.length ∨ m = B.length ∨ m = D.length) ∧ A.length ≤ m ∧ B.length ≤ m ∧ D.length ≤ m) → Q (vN m) H'
def sp_imrank (CM : Addr) : Sp := fun vs H Q _ => ∃ (q a : Addr) (g : Nat) (M ws : List Nat), vs = [.ref q, .ref a] ∧ MapAt CM H q g M ∧ Tq H a (ws.map vN) ∧ M.length ≤ 1000 ∧ ws.length ≤ 1000 ∧ ∀ H', Same H H' → Q (vN (rk (ws.map (img M)))) H'
structure LF (b : Nat) (L1 L2 L3 : List Nat) (t : ThW) : Prop where
  bb : b ≤ 1000
  l1 : L1.length ≤ 1000
  l2 : L2.length ≤ 1000
  l3 : L3.length ≤ 1000
  b1 : ∀ x ∈ L1, x < 2 ^ b
  b2 : ∀ x ∈ L2, x < 2 ^ b
  b3 : ∀ x ∈ L3, x < 2 ^ b
  th : Thr b (spn L1) (spn L2) (spn L3) t
theorem LF.w1 {b : Nat} {L1 L2 L3 : List Nat} {t : ThW} (h : LF b L1 L2 L3 t) : WfS b (spn L1) := wf_of h.bb (spn_rws _) (spn_ltb h.b1)
theorem LF.w2 {b : Nat} {L1 L2 L3 : List Nat} {t : ThW} (h : LF b L1 L2 L3 t) : WfS b (spn L2) := wf_of h.bb (spn_rws _) (spn_ltb h.b2)
theorem LF.w3 {b : Nat} {L1 L2 L3 : List Nat} {t : ThW} (h : LF b L1 L2 L3 t) : WfS b (spn L3) := wf_of h.bb (spn_rws _) (spn_ltb h.b3)
def sp_filright (CS CH : Addr) : Sp := fun vs H Q _ => ∃ (p la : Addr) (b : Nat) (bars : Bool) (L1 L2 L3 : List Nat) (t : ThW), vs = [.ref p, .ref la, vN b, .bl bars] ∧ Th3 CS CH H p b (spn L1) (spn L2) (spn L3) t ∧ TriAt H la L1 L2 L3 ∧ LF b L1 L2 L3 t ∧ (bars = true ↔ Fld3 t) ∧ ∀ H', Same H H' → Q (.bl true) H'
def sp_freright (CS CH : Addr) : Sp := fun vs H Q _ => ∃ (p la : Addr) (b g : Nat) (L1 L2 L3 : List Nat) (t : ThW), vs = [.ref p, .ref la, vN b, vN g] ∧ Th3 CS CH H p b (spn L1) (spn L2) (spn L3) t ∧ TriAt H la L1 L2 L3 ∧ LF b L1 L2 L3 t ∧ g ≤ 1000 ∧ rk L1 ≤ g ∧ rk L2 ≤ g ∧ rk L3 ≤ g ∧ (Fld3 t → t.S.length + 2 ≤ g) ∧ ∀ H', Same H H' → Q (.bl true) H'
theorem sum_span (L1 L2 L3 : List Nat) (x : Nat) : Spn (sm (sm (spn L1) (spn L2)) (spn L3)) x ↔ Spn (L1 ++ L2 ++ L3) x := by
  rw [sm_span]
  refine app_iff (fun y => ?_) (fun y => spn_span L3 y) x
  rw [sm_span]
  exact app_iff (spn_span L1) (spn_span L2) y
theorem sum_len (L1 L2 L3 : List Nat) : (sm (sm (spn L1) (spn L2)) (spn L3)).length = rk (L1 ++ L2 ++ L3) := by
  rw [← rk_eq (sum_span L1 L2 L3)]
  exact (spn_id (sm_rws _ _)).symm
section
variable {P : Program} {w : World} {K : PySem.W.Frag} {mg : Str → Option Value} {base : Heap} {f : Addr} {fd : FuncData} {CS CR CM CH : Addr} (T : Bt mg) (TS : SpaceT K mg CS) (TM : MapT K mg CM) (TH : ThreeT K mg CH)
include T
include TS TH in
theorem ok_leastb (F : FnP K "least_banks" "least_banks" s_least_banks f fd) (D_filled : Dn P w K mg base 7 "filled" ["three"] (sp_filled CS CH)) : FnOk P w K mg base CX0 8 f fd ["three"] (sp_leastb CS CH) := by
  have nd := sc_least_banks.nd
  refine fnok F sc_least_banks (fun vs H Q E h => ?_) (fun cdv A outer s H vs Q E hr h => ?_)
  · obtain ⟨p, b, A1, A2, A3, t, rfl, _⟩ := h
    rfl
  · obtain ⟨p, b, A1, A2, A3, t, rfl, hT, R, w1, w2, w3, hb, k⟩ := h
    have lA := wf_lt w1
    have lB := wf_lt w2
    have lC := wf_lt w3
    refine ⟨_, (pss_cons (ps_set (i := 1) nd rfl (Or.inl rfl) (pe_d D_filled hr (pa_cons (pv 0) pa_nil)))
  (pss_cons (ps_if (pt_cmpR op_notN (pv 1) pe_non (nomark _))
    (pss_one (ps_ret (pe_fld (pv 1) rfl)))
    pss_nil)
  (pss_one (ps_ret (pe_callB (cr_maxN rfl) (by rfl) T.max (by decide +kernel) (pa_cons (pe_lc (own := [("space", 2)]) (g := gName 2) (by rfl) nd (pi_seq (pe_fld (pv 0) rfl)) (blkOk_by (own := [("space", 2)]) (N := ["three", "whole", "space"]) (sc := defScope s_least_banks) (by decide +kernel)) (fun _ _ _ _ _ => (pg_name (i := 2) nd rfl (Or.inl rfl))) (fun _ _ _ _ _ => pts_nil) (fun _ _ _ _ _ => (pe_fldK (K := K) (pv 2) rfl))) pa_nil)))))), ?_⟩
    have hT' := hT
    obtain ⟨dx, ts, t1, t2, t3, t4, t5, a1, a2, a3, n1, n2, n3, es, x1, x2, x3, c, g0, g1, g2, g3⟩ := hT'
    refine ⟨_, rfl, p, b, A1, A2, A3, t, rfl, hT, w1, w2, w3, hb, fun fl H2 q2 s2 hq2 e2 => ?_, fun nfl H2 s2 => ?_⟩
    · have sd := sum_dim R lA lB lC fl
      obtain ⟨dq, tq, i1, i2⟩ := id e2
      refine ⟨_, rfl, rfl, _, rfl, itt rfl ⟨_, rfl, q2, CS, dq, _, vN (sm (sm A1 A2) A3).length, rfl, i1, TS.cl, TS.nd, rfl, ?_⟩⟩
      exact k _ _ s2 (fun _ => sd) (fun z => absurd fl z)
    · refine ⟨_, rfl, rfl, _, rfl, itf rfl ?_⟩
      refine ⟨_, rfl, p, CH, dx, _, .ref ts, rfl, s2 _ _ c.o, TH.cl, TH.ns, rfl, lc_pure [(x1, A1), (x2, A2), (x3, A3)] (fun e => V.ref e.1) (fun _ => true) (fun e => vN e.2.length) (.inr (s2 _ _ g0)) (by show 3 ≤ 1000000; decide) (fun e H' hem s => ?_) (fun D5 H5 hD5 s5 e5 => ?_)⟩
      · intro Z Nx z1 z2
        have sp : SpaceAt CS H' e.1 b e.2 := by
          simp only [List.mem_cons, List.not_mem_nil, or_false] at hem
          rcases hem with rfl | rfl | rfl
          · exact (g1.same s2).same s
          · exact (g2.same s2).same s
          · exact (g3.same s2).same s
        obtain ⟨dq, tq, i1, i2⟩ := sp
        exact ⟨rfl, _, rfl, e.1, CS, dq, _, vN e.2.length, rfl, i1, TS.cl, TS.nd, rfl, z1 rfl _ (Same.refl _)⟩
      rw [filt_true] at e5
      have e5 : H5 D5 = some (.lst (([A1.length, A2.length, A3.length] : List Nat).map vN)) := e5
      refine ⟨D5, [A1.length, A2.length, A3.length], rfl, e5, (by show 0 < 3; decide), fun m hm hle => ?_⟩
      refine k _ m (s2.trans s5) (fun z => absurd z nfl) fun _ => ⟨by simpa using hm, hle _ (by simp), hle _ (by simp), hle _ (by simp)⟩
include TM in
theorem ok_imrank (F : FnP K "_law_images_rank" "_law_images_rank" s_images_rankL f fd) (D_rankL : Dn P w K mg base 3 "_law_rank" ["_law_words"] sp_rank) (D_sumL : Dn P w K mg base 1 "_law_sum" ["_law_words", "_law_number_here"] sp_sum) : FnOk P w K mg base CX0 4 f fd ["_law_found", "_law_words"] (sp_imrank CM) := by
  have nd := sc_images_rankL.nd
  refine fnok F sc_images_rankL (fun vs H Q E h => ?_) (fun cdv A outer s H vs Q E hr h => ?_)
  · obtain ⟨q, a, g, M, ws, rfl, _⟩ := h
    rfl
  · obtain ⟨q, a, g, M, ws, rfl, ⟨dm, tm, m1, m2⟩, ha, lM, lw, k⟩ := h
    refine ⟨_, (pss_one (ps_ret (pe_d D_rankL hr (pa_cons (pe_lc (own := [("_law_word_here", 2)]) (g := gName 2) (by rfl) nd (pi_seq (pv 1)) (blkOk_by (own := [("_law_word_here", 2)]) (N := ["_law_found", "_law_words", "_law_word_here"]) (sc := defScope s_images_rankL) (by decide +kernel)) (fun _ _ _ _ _ => (pg_name (i := 2) nd rfl (Or.inl rfl))) (fun _ _ _ _ _ => pts_nil) (fun _ _ _ _ _ => (pe_d D_sumL hr (pa_cons (pe_fldK (K := K) (pv 0) rfl) (pa_cons (pv 2) pa_nil))))) pa_nil)))), ?_⟩
    refine ⟨_, rfl, lc_pure ws vN (fun _ => true) (fun x => vN (img M x)) ha (by omega) (fun x H' hx s => ?_) (fun D H2 hD s2 e2 => ?_)⟩
    · intro Z Nx z1 z2
      exact ⟨rfl, _, rfl, q, CM, dm, _, .ref tm, rfl, s _ _ m1, TM.cl, TM.nc, rfl, _, rfl, tm, M, x, rfl, .inr (s _ _ m2), by omega, z1 rfl _ (Same.refl _)⟩
    rw [filt_true] at e2
    have e2 : H2 D = some (.lst ((ws.map (img M)).map vN)) := by rw [e2, List.map_map]; rfl
    exact ⟨D, _, rfl, .inl e2, (by rw [List.length_map]; omega), fun H3 s3 => k _ (s2.trans s3)⟩
include TS TH in
theorem ok_filright (F : FnP K "_law_filled_right" "_law_filled_right" s_filled_rightL f fd) (D_filled : Dn P w K mg base 7 "filled" ["three"] (sp_filled CS CH)) (D_whole_isL : Dn P w K mg base 1 "_law_whole_is" ["_law_value", "_law_due"] sp_whole_is) (D_rankL : Dn P w K mg base 3 "_law_rank" ["_law_words"] sp_rank) : FnOk P w K mg base CX0 8 f fd ["_law_three", "_law_lists", "_law_bits", "_law_bars"] (sp_filright CS CH) := by
  have nd := sc_filled_rightL.nd
  refine fnok F sc_filled_rightL (fun vs H Q E h => ?_) (fun cdv A outer s H vs Q E hr h => ?_)
  · obtain ⟨p, la, b, bars, L1, L2, L3, t, rfl, _⟩ := h
    rfl
  · obtain ⟨p, la, b, bars, L1, L2, L3, t, rfl, hT, hL, hF, hbars, k⟩ := h
    refine ⟨_, (pss_cons (ps_set (i := 4) nd rfl (Or.inl rfl) (pe_d D_filled hr (pa_cons (pv 0) pa_nil)))
  (pss_cons (ps_if (pt_not (pt_val (pv 3)))
    (pss_one (ps_ret (pe_cmpR op_isN (pv 4) pe_non (nomark _))))
    pss_nil)
  (pss_cons (ps_set (i := 5) nd rfl (Or.inl rfl) (pe_op op_cat (pe_op op_cat (pe_ix ix_q (pv 1) pe_int (fun _ _ => rfl)) (pe_ix ix_q (pv 1) pe_int (fun _ _ => rfl))) (pe_ix ix_q (pv 1) pe_int (fun _ _ => rfl))))
  (pss_cons (ps_if (PW.pt (pw_or (pt_not (pt_val (pe_callB call_isi (by rfl) T.isinstance (by decide +kernel) (pa_cons (pv 4) (pa_cons (pe_glob (v := .ref CS) (by rfl) TS.gl rfl) pa_nil))))) (pw_or (pt_not (pt_val (pe_d D_whole_isL hr (pa_cons (pe_fld (pv 4) rfl) (pa_cons (pv 2) pa_nil))))) (pw_or1 (pt_not (pt_val (pe_callB call_isi (by rfl) T.isinstance (by decide +kernel) (pa_cons (pe_fld (pv 4) rfl) (pa_cons (pe_bltn (v := .ty "tuple") (by rfl) T.tuple (by decide +kernel) rfl) pa_nil)))))))))
    (pss_one (ps_ret pe_bl))
    pss_nil)
  (pss_cons (ps_set (i := 6) nd rfl (Or.inl rfl) (pe_d D_rankL hr (pa_cons (pv 5) pa_nil)))
  (pss_one (ps_ret (pe_and (pe_cmpR op_eq (pe_callB call_lenQ (by rfl) T.len PySem.boot_len (pa_cons (pe_fld (pv 4) rfl) pa_nil)) (pv 6) (nomark _)) (pe_and (pe_cmpR op_eq (pe_d D_rankL hr (pa_cons (pe_fld (pv 4) rfl) pa_nil)) (pv 6) (nomark _)) (pe_one (pe_cmpR op_eq (pe_d D_rankL hr (pa_cons (pe_op op_cat (pv 5) (pe_callTy call_listQ (by rfl) T.list (by decide +kernel) (pa_cons (pe_fld (pv 4) rfl) pa_nil))) pa_nil)) (pv 6) (nomark _)))))))))))), ?_⟩
    have l1 := hF.l1
    have l2 := hF.l2
    have l3 := hF.l3
    refine ⟨_, rfl, p, b, _, _, _, t, rfl, hT, hF.w1, hF.w2, hF.w3, hF.bb, fun fl H2 q2 s2 hq2 e2 => ?_, fun nfl H2 s2 => ?_⟩
    · have eb : bars = true := hbars.mpr fl
      subst eb
      have rl := sum_len L1 L2 L3
      have rs := sum_span L1 L2 L3
      generalize sm (sm (spn L1) (spn L2)) (spn L3) = R at *
      obtain ⟨dq, tq, i1, i2⟩ := id e2
      have rle : rk (L1 ++ L2 ++ L3) ≤ 3000 := by
        have := rk_len (L1 ++ L2 ++ L3)
        simp only [List.length_append] at this
        omega
      refine ⟨_, rfl, _, rfl, iteF ?_⟩
      obtain ⟨⟨c1, c2, c3, h0, h1, h2, h3⟩⟩ := hL.same s2
      refine ⟨_, rfl, la, _, 0, .ref c1, rfl, rfl, .inl h0, rfl, _, rfl, la, _, 1, .ref c2, rfl, rfl, .inl h0, rfl, c1, c2, _, _, rfl, rfl, h1, h2, (by rw [List.length_map, List.length_map, sizeLine_eq]; omega), fun q3 hq3 => ?_⟩
      have s3 := same_new0 (o := .lst (L1.map vN ++ L2.map vN)) hq3
      refine ⟨_, rfl, la, _, 2, .ref c3, rfl, rfl, .inl (s3 _ _ h0), rfl, q3, c3, _, _, rfl, rfl, upd_same, s3 _ _ h3, (by rw [List.length_append, List.length_map, List.length_map, List.length_map, sizeLine_eq]; omega), fun q4 hq4 => ?_⟩
      have s34 := s3.trans (same_new0 (o := .lst (L1.map vN ++ L2.map vN ++ L3.map vN)) hq4)
      have e4 : upd (upd H2 q3 (.lst (L1.map vN ++ L2.map vN))) q4 (.lst (L1.map vN ++ L2.map vN ++ L3.map vN)) q4 = some (.lst ((L1 ++ L2 ++ L3).map vN)) := by rw [upd_same, List.map_append, List.map_append]
      have s24 := s2.trans s34
      have i1 := s34 _ _ i1
      have i2 := s34 _ _ i2
      have lw : (L1 ++ L2 ++ L3).length ≤ 3000 := by simp only [List.length_append]; omega
      generalize upd (upd H2 q3 _) q4 _ = H4 at *
      refine ⟨_, rfl, _, _, _, _, _, rfl, .own _, TS.ty i1, TS.me, _, rfl, iteF ?_⟩
      refine ⟨_, rfl, q2, CS, dq, _, vN b, rfl, i1, TS.cl, TS.nb, rfl, _, rfl, b, rfl, _, rfl, iteF ?_⟩
      refine ⟨_, rfl, q2, CS, dq, _, .ref tq, rfl, i1, TS.cl, TS.nr, rfl, _, _, _, _, _, rfl, .ty _, .base (.tup i2), kit_ty (r := true) (by decide +kernel), _, rfl, iteF ?_⟩
      refine ⟨_, rfl, q4, L1 ++ L2 ++ L3, rfl, .inl e4, (by omega), fun H5 s5 => ?_⟩
      have s25 := s24.trans s5
      refine ⟨_, rfl, q2, CS, dq, _, .ref tq, rfl, s5 _ _ i1, TS.cl, TS.nr, rfl, tq, _, rfl, .inr (s5 _ _ i2), _, rfl, rfl, ?_⟩
      rw [List.length_map, dec_nat, rl, decide_eq_true rfl]
      refine ⟨_, rfl, iteT ⟨_, rfl, q2, CS, dq, _, .ref tq, rfl, s5 _ _ i1, TS.cl, TS.nr, rfl, tq, R, rfl, .inr (s5 _ _ i2), (by omega), fun H6 s6 => ?_⟩⟩
      have s56 := s5.trans s6
      rw [rk_eq rs]
      refine ⟨_, rfl, rfl, ?_⟩
      rw [dec_nat, decide_eq_true rfl]
      refine ⟨_, rfl, iteT ⟨_, rfl, _, rfl, q2, CS, dq, _, .ref tq, rfl, s56 _ _ i1, TS.cl, TS.nr, rfl, tq, _, rfl, .inr (s56 _ _ i2), fun q7 hq7 => ?_⟩⟩
      have s7 := same_new0 (o := .lst (R.map vN)) hq7
      refine ⟨q4, q7, _, _, rfl, rfl, s7 _ _ (s56 _ _ e4), upd_same, (by rw [List.length_map, List.length_map, sizeLine_eq]; omega), fun q8 hq8 => ?_⟩
      have s8 := s7.trans (same_new0 (o := .lst ((L1 ++ L2 ++ L3).map vN ++ R.map vN)) hq8)
      refine ⟨q8, L1 ++ L2 ++ L3 ++ R, rfl, .inl (by rw [upd_same]; simp only [List.map_append]), (by rw [List.length_append]; omega), fun H9 s9 => ?_⟩
      have e9 : rk (L1 ++ L2 ++ L3 ++ R) = rk (L1 ++ L2 ++ L3) := rk_app_sub' fun x hx => (rs x).mp hx
      rw [e9]
      refine ⟨_, rfl, rfl, ?_⟩
      rw [dec_nat, decide_eq_true rfl]
      exact k _ (s25.trans (s6.trans (s8.trans s9)))
    · have eb : bars = false := by
        cases bars with
        | false => rfl
        | true => exact absurd (hbars.mp rfl) nfl
      subst eb
      exact ⟨_, rfl, _, rfl, iteT ⟨_, rfl, rfl, k _ s2⟩⟩
include TS TM TH in
theorem ok_freright {CT CF : Addr} (F : FnP K "_law_free_right" "_law_free_right" s_free_rightL f fd) (D_free_banks : Dx P w K mg base 8 "free_banks" ["three", "banks"] (sp_freeX CS CH CM CT CF)) (D_is_mapL : Dn P w K mg base 2 "_law_is_map" ["_law_value", "_law_goal", "_law_source"] (sp_is_map CM)) (D_numberL : Dn P w K mg base 1 "_law_number" ["_law_value", "_law_limit"] sp_number) (D_images_rankL : Dn P w K mg base 4 "_law_images_rank" ["_law_found", "_law_words"] (sp_imrank CM)) (D_rankL : Dn P w K mg base 3 "_law_rank" ["_law_words"] sp_rank) : FnOk P w K mg base CX0 9 f fd ["_law_three", "_law_lists", "_law_bits", "_law_banks"] (sp_freright CS CH) := by
  have nd := sc_free_rightL.nd
  refine fnok F sc_free_rightL (fun vs H Q E h => ?_) (fun cdv A outer s H vs Q E hr h => ?_)
  · obtain ⟨p, la, b, g, L1, L2, L3, t, rfl, _⟩ := h
    rfl
  · obtain ⟨p, la, b, g, L1, L2, L3, t, rfl, hT, hL, hF, hg, r1, r2, r3, nf, k⟩ := h
    have o1 : blen 1 ≤ 1000000 := by rw [blen_one]; decide
    refine ⟨_, (pss_cons (ps_set (i := 4) nd rfl (Or.inr rfl) (pe_dx D_free_banks hr (pa_cons (pv 0) (pa_cons (pv 3) pa_nil))))
  (pss_cons (ps_if (PW.pt (pw_or (pt_not (pt_val (pe_d D_is_mapL hr (pa_cons (pv 4) (pa_cons (pv 3) (pa_cons (pv 2) pa_nil)))))) (pw_or1 (pt_not (pt_val (pe_callB (cr_all rfl) (by rfl) T.all (by decide +kernel) (pa_cons (pe_lc (own := [("_law_word_here", 5)]) (g := gName 5) (by rfl) nd (pi_seq (pe_fld (pv 4) rfl)) (blkOk_by (own := [("_law_word_here", 5)]) (N := ["_law_three", "_law_lists", "_law_bits", "_law_banks", "_law_found", "_law_word_here", "_law_words"]) (sc := defScope s_free_rightL) (by decide +kernel)) (fun _ _ _ _ _ => (pg_name (i := 5) nd rfl (Or.inl rfl))) (fun _ _ _ _ _ => pts_nil) (fun _ _ _ _ _ => (pe_d D_numberL hr (pa_cons (pv 5) (pa_cons (pe_op on_shl pe_int (pv 3)) pa_nil))))) pa_nil)))))))
    (pss_one (ps_ret pe_bl))
    pss_nil)
  (pss_one (ps_ret (pe_callB (cr_all rfl) (by rfl) T.all (by decide +kernel) (pa_cons (pe_lc (own := [("_law_words", 6)]) (g := gName 6) (by rfl) nd (pi_seq (pv 1)) (blkOk_by (own := [("_law_words", 6)]) (N := ["_law_three", "_law_lists", "_law_bits", "_law_banks", "_law_found", "_law_word_here", "_law_words"]) (sc := defScope s_free_rightL) (by decide +kernel)) (fun _ _ _ _ _ => (pg_name (i := 6) nd rfl (Or.inl rfl))) (fun _ _ _ _ _ => pts_nil) (fun _ _ _ _ _ => (pe_cmpR op_eq (pe_d D_images_rankL hr (pa_cons (pv 4) (pa_cons (pv 6) pa_nil))) (pe_d D_rankL hr (pa_cons (pv 6) pa_nil)) (nomark _)))) pa_nil)))))), ?_⟩
    have sl : ∀ L : List Nat, (spn L).length = rk L := fun L => rfl
    have z1 := sl L1
    have z2 := sl L2
    have z3 := sl L3
    have l1 := hF.l1
    have l2 := hF.l2
    have l3 := hF.l3
    have hb := hF.bb
    refine ⟨_, rfl, _, rfl, p, b, g, _, _, _, t, rfl, hT, hF.th, hF.w1, hF.w2, hF.w3, hb, hg, fun i hi hlt _ => ?_, fun _ _ _ fl hlt => ?_, fun _ _ _ _ H2 mq u s2 hmq L em => ?_⟩
    · exfalso
      match i, hi, hlt with
      | 0, _, hlt => have hlt : g < (spn L1).length := hlt; omega
      | 1, _, hlt => have hlt : g < (spn L2).length := hlt; omega
      | 2, _, hlt => have hlt : g < (spn L3).length := hlt; omega
    · exact absurd (nf fl) (by omega)
    obtain ⟨lM, bM, k1, k2, k3⟩ := laid_led hF.th (spn_ltb hF.b1) (spn_ltb hF.b2) (spn_ltb hF.b3) L
    generalize ldm b t u = M at *
    have rr : ∀ X : List Nat, rk ((spn X).map (img M)) = rk (spn X) → rk (X.map (img M)) = rk X := fun X h => by
      rw [rk_eq (map_iff (lin_img M) (spn_span X)), rk_spn] at h
      exact h
    obtain ⟨dm, tm, m1, m2⟩ := id em
    refine ⟨_, rfl, _, rfl, _, rfl, mq, g, M, (by rw [lM]; rfl), em, _, rfl, iteF ?_⟩
    refine ⟨_, rfl, mq, CM, dm, _, .ref tm, rfl, m1, TM.cl, TM.nc, rfl, lc_pure M vN (fun _ => true) (fun _ => V.bl true) (.inr m2) (by omega) (fun x H' hx s => ?_) (fun D H3 hD s3 e3 => ?_)⟩
    · intro Z Nx q1 q2
      exact ⟨rfl, _, rfl, _, rfl, 1, g, rfl, rfl, shl_ok1 o1 (by omega), x, 1 <<< g, rfl, (by rw [Nat.one_shiftLeft]; exact bM x hx), q1 rfl _ (Same.refl _)⟩
    rw [filt_true] at e3
    refine ⟨D, M.map (fun _ => true), rfl, SqL.of (by rw [e3, List.map_map]; rfl), ?_⟩
    rw [all_trues]
    refine ⟨_, rfl, iteF ?_⟩
    have s23 := s2.trans s3
    obtain ⟨⟨c1, c2, c3, h0, h1, h2, h3⟩⟩ := hL.same s23
    refine ⟨_, rfl, lc_pure [(c1, L1), (c2, L2), (c3, L3)] (fun e => V.ref e.1) (fun _ => true) (fun _ => V.bl true) (.inl h0) (by show 3 ≤ 1000000; decide) (fun e H' hem s => ?_) (fun D2 H4 hD2 s4 e4 => ?_)⟩
    · intro Z Nx q1 q2
      have sp : H3 e.1 = some (.lst (e.2.map vN)) ∧ e.2.length ≤ 1000 ∧ rk (e.2.map (img M)) = rk e.2 := by
        simp only [List.mem_cons, List.not_mem_nil, or_false] at hem
        rcases hem with rfl | rfl | rfl
        · exact ⟨h1, l1, rr _ k1⟩
        · exact ⟨h2, l2, rr _ k2⟩
        · exact ⟨h3, l3, rr _ k3⟩
      refine ⟨rfl, _, rfl, _, rfl, mq, e.1, g, M, e.2, rfl, (em.same s3).same s, .inl (s _ _ sp.1), by omega, sp.2.1, fun H6 s6 => ?_⟩
      refine ⟨_, rfl, e.1, e.2, rfl, .inl (s6 _ _ (s _ _ sp.1)), by omega, fun H7 s7 => ⟨rfl, ?_⟩⟩
      rw [sp.2.2, dec_nat, decide_eq_true rfl]
      exact q1 rfl _ (s6.trans s7)
    rw [filt_true] at e4
    refine ⟨D2, ([(c1, L1), (c2, L2), (c3, L3)] : List (Addr × List Nat)).map (fun _ => true), rfl, SqL.of (by rw [e4, List.map_map]; rfl), ?_⟩
    rw [all_trues]
    exact k _ (s23.trans s4)
end
end LaneX
set_option Elab.async false
set_option linter.all false
set_option maxRecDepth 100000
set_option maxHeartbeats 4000000
namespace LaneX
open PySem PySem.Spec PyProof.Rows L2
theorem sc_refusalE : FnScope ["_law_call", "_law_found", "e"] ["_law_call"] (defScope s_refusalL) := ⟨rfl, rfl, rfl, by decide +kernel, rfl, by decide +kernel, by decide +kernel⟩
/-- an error with a field, as an except clause sees it -/
structure ErrT (K : PySem.W.Frag) (mg : Str → Option Value) (C CL : Addr) (xc fld : Str) : Prop where
  gl : mg xc = some (.ref C)
  ec : ExcC K C
  up : PySem.W.kitOne K (.ref C) (.ref CL) = some true
  xf : XfC K C
  nof : PySem.W.findIn K (.ref C) fld = some none
  self : PySem.W.exmOne K (.ref C) (.ref C) = some true
/-- what becomes of an error that the lambda lets out -/
def wRef (K : PySem.W.Frag) (CT CF : Addr) (Q : VK) : XK := fun cls d H' => ∃ b, PySem.W.exmOne K cls (.ref CT) = some b ∧ (b = true → cls = .ref CT ∧ ∃ (dd : Addr) (v : V), d = some dd ∧ H' dd = some (.xd [("index", v)]) ∧ ∀ q1, H' q1 = none → Q (.ref q1) (upd H' q1 (.tup [.str "wide", v]))) ∧
  (b = false → ∃ b', PySem.W.exmOne K cls (.ref CF) = some b' ∧ (b' = true → cls = .ref CF ∧ ∃ (dd : Addr) (v : V), d = some dd ∧ H' dd = some (.xd [("rows", v)]) ∧ ∀ q1, H' q1 = none → Q (.ref q1) (upd H' q1 (.tup [.str "filled", v]))) ∧ (b' = false → False))
def TRef (K : PySem.W.Frag) (CT CF : Addr) : (XK → Hp → VK → Prop) → Hp → VK → Prop := fun tl H Q => ∀ q0, H q0 = none → tl (wRef K CT CF Q) (upd H q0 (.tup [.str "fine", .non])) (fun _ H' => ∃ v : V, (some (some (V.ref q0)) : Option (Option V)) = some (some v) ∧ Q v H')
theorem ref_gives {X : Cx} {CT CF CL g : Addr} {cdg : Value} {q : Str} (T : Bt X.mg) (TT : ErrT X.K X.mg CT CL "TooWide" "index") (TF : ErrT X.K X.mg CF CL "Filled" "rows") (glL : X.mg "LaneError" = some (.ref CL)) :
    LamX.GivesTo X ["_law_call", "_law_found", "e"] "_law_refusal" (defScope s_refusalL) g cdg (defBody s_refusalL) "_law_call" q (TRef X.K CT CF) := by
  intro f c' s H Q tl act hc h
  have nd := sc_refusalE.nd
  refine ⟨_, (pss_cons (ps_set (i := 1) nd rfl (Or.inl rfl) (pe_tup (pa_cons pe_str (pa_cons pe_non pa_nil))))
  (pss_cons (ps_try_all (l := [(.ref CT, 2, _), (.ref CF, 2, _)]) (tb := fun W D σ H => ∃ Ech : XK, (∀ cls d σ' H', Ech cls d H' → W cls d σ' H') ∧ σ[0]? = some (some (.ref f)) ∧ H c' = some (LamX.CodeO c' q) ∧ tl Ech H (fun _ H' => D.nx σ H')) (Wout := fun _ _ _ _ => False) rfl rfl nd (fun _ _ x => by obtain ⟨_, _, _, _, _, _, _, _, _, _, _, _, _, _, _, _, z⟩ := x; exact z.elim)
      (fun W pn xe tk _ => ?_)
      (.cons ⟨rfl, by decide, Or.inl TT.gl⟩ rfl rfl (fun a oe cls d pn hz hf => pss_one (ps_set (i := 1) nd rfl (Or.inl rfl) (pe_tup (pa_cons pe_str (pa_cons (pe_ifExp (pt_val (by exact (pe_callB (call_isXD TT.ec hz hf) (by rfl) T.isinstance (by decide +kernel) (pa_cons (pv 2) (pa_cons (pe_glob (v := .ref CL) (by rfl) glL rfl) pa_nil))))) (by exact (pe_xf TT.xf TT.nof hz hf (pv 2))) pe_str) pa_nil)))))
      (.cons ⟨rfl, by decide, Or.inl TF.gl⟩ rfl rfl (fun a oe cls d pn hz hf => pss_one (ps_set (i := 1) nd rfl (Or.inl rfl) (pe_tup (pa_cons pe_str (pa_cons (pe_ifExp (pt_val (by exact (pe_callB (call_isXD TF.ec hz hf) (by rfl) T.isinstance (by decide +kernel) (pa_cons (pv 2) (pa_cons (pe_glob (v := .ref CL) (by rfl) glL rfl) pa_nil))))) (by exact (pe_xf TF.xf TF.nof hz hf (pv 2))) pe_str) pa_nil))))) .nil)))
  (pss_one (ps_ret (pv 1))))), ?_⟩
  · refine ⟨fun pins s' σ H' D I h' => ?_⟩
    obtain ⟨Ech, hW, h1, h2, h3⟩ := h'
    exact (pss_one (ps_expr (act W pn xe Ech _ _ tk hW))).run pins s' σ H' D I ⟨h1, h2, h3⟩
  · refine ⟨(by show 2 ≤ sizeLine; decide), fun q0 hq0 => ?_⟩
    refine ⟨wRef X.K CT CF Q, fun cls d σ' H' hw => ?_, rfl, upd_new hq0 hc, ?_⟩
    · obtain ⟨b, e1, e2, e3⟩ := hw
      refine ⟨b, e1, fun hb a ha hl => ?_, fun hb => ?_⟩
      · obtain ⟨y0, y1, y2, rfl⟩ := three_of hl
        obtain ⟨rfl, dd, v, rfl, hd, kq⟩ := e2 hb
        refine ⟨_, rfl, rfl, dd, _, rfl, hd, .ref CL, _, true, rfl, fun u hu => hu, TT.up, _, rfl, iteT ⟨_, rfl, rfl, rfl, dd, _, v, rfl, hd, rfl, (by show 2 ≤ sizeLine; decide), fun q1 hq1 => ?_⟩⟩
        exact ⟨_, rfl, kq q1 hq1⟩
      · obtain ⟨b', e4, e5, e6⟩ := e3 hb
        refine ⟨b', e4, fun hb' a ha hl => ?_, fun hb' => e6 hb'⟩
        obtain ⟨y0, y1, y2, rfl⟩ := three_of hl
        obtain ⟨rfl, dd, v, rfl, hd, kq⟩ := e5 hb'
        refine ⟨_, rfl, rfl, dd, _, rfl, hd, .ref CL, _, true, rfl, fun u hu => hu, TF.up, _, rfl, iteT ⟨_, rfl, rfl, rfl, dd, _, v, rfl, hd, rfl, (by show 2 ≤ sizeLine; decide), fun q1 hq1 => ?_⟩⟩
        exact ⟨_, rfl, kq q1 hq1⟩
    · exact h q0 hq0
end LaneX
set_option Elab.async false
set_option linter.all false
set_option maxRecDepth 100000
set_option maxHeartbeats 4000000
namespace LaneX
open PySem PySem.Spec PyProof.Rows L2
structure TriK (n : Nums) (L1 L2 L3 : List Nat) (t : ThW) : Prop where
  b1 : ∀ x ∈ L1, x < 2 ^ n.bits
  b2 : ∀ x ∈ L2, x < 2 ^ n.bits
  b3 : ∀ x ∈ L3, x < 2 ^ n.bits
  th : Thr n.bits (spn L1) (spn L2) (spn L3) t
  tn : Tn t n
theorem tri_k {n : Nums} {L1 L2 L3 : List Nat} (h : TriW n L1 L2 L3) : TriK n L1 L2 L3 (thw n.bits (spn L1) (spn L2) (spn L3)) := by
  obtain ⟨⟨seg, pl, ⟨e0, e1, e2, e3, e4, e6, e7, e8, e9⟩, s1, s2, s3⟩, _, _, _⟩ := h
  have b1 : ∀ x ∈ L1, x < 2 ^ n.bits := fun x hx => ((s1 x).mp (.of hx)).lt (cat_lt pl (by decide))
  have b2 : ∀ x ∈ L2, x < 2 ^ n.bits := fun x hx => ((s2 x).mp (.of hx)).lt (cat_lt pl (by decide))
  have b3 : ∀ x ∈ L3, x < 2 ^ n.bits := fun x hx => ((s3 x).mp (.of hx)).lt (cat_lt pl (by decide))
  have th : Thr n.bits (spn L1) (spn L2) (spn L3) (thw n.bits (spn L1) (spn L2) (spn L3)) := thr_of (spn_ltb b1) (spn_ltb b2) (spn_ltb b3)
  have A1 : ∀ x, Spn (spn L1) x ↔ Spn (cat seg [0, 1, 2, 4, 6]) x := fun x => (spn_span _ x).trans (s1 x)
  have A2 : ∀ x, Spn (spn L2) x ↔ Spn (cat seg [0, 1, 3, 5, 7]) x := fun x => (spn_span _ x).trans (s2 x)
  have A3 : ∀ x, Spn (spn L3) x ↔ Spn (cat seg [0, 2, 3, 10, 8]) x := fun x => (spn_span _ x).trans (s3 x)
  obtain ⟨k0, k1, k2, k3, k4, k6, k7, k8, k9⟩ := plt_numbers pl th A1 A2 A3
  exact ⟨b1, b2, b3, th, ⟨k0.trans e0, k1.trans e1, k2.trans e2, k3.trans e3, k4.trans e4, k6.trans e6, k7.trans e7, k8.trans e8, k9.trans e9⟩⟩
theorem nsm_bits {n : Nums} (h : NSm n) : n.bits ≤ 80 := by
  have a := h.s; have b := h.p1; have c := h.p2; have d := h.p3; have e := h.w; have f := h.n1; have g := h.n2; have i := h.n3; have j := h.o
  unfold Nums.bits
  omega
theorem bars_iff {n : Nums} {t : ThW} (T : Tn t n) : (decide ([n.p1, n.p2, n.p3, n.w, n.n1, n.n2, n.n3] = [0, 0, 0, 1, 0, 0, 0]) = true) ↔ Fld3 t := by
  rw [decide_eq_true_eq, ← fld_iff t, T.p1, T.p2, T.p3, T.w, T.n1, T.n2, T.n3]
theorem nsm_20 {n : Nums} (hs : NSm n) : ∀ x ∈ n.l, x ≤ 20 := fun x hx => by
  have a1 := hs.s; have b1 := hs.p1; have c1 := hs.p2; have d1 := hs.p3; have e1 := hs.w; have f1 := hs.n1; have g1 := hs.n2; have i1 := hs.n3; have j1 := hs.o
  unfold Nums.l at hx
  simp only [List.mem_cons, List.not_mem_nil, or_false] at hx
  rcases hx with rfl | rfl | rfl | rfl | rfl | rfl | rfl | rfl | rfl <;> omega
/-! ### what a lambda's call keeps -/
theorem tabs_same {T : List (Addr × Str)} {H H' : Hp} (t : LamX.Tabs T H) (s : Same H H') : LamX.Tabs T H' := t.ext fun b o h => s b o h
theorem tabs_kp {T : List (Addr × Str)} {H H' : Hp} (t : LamX.Tabs T H) (s : Kp H H') : LamX.Tabs T H' := fun p hp => by
  obtain ⟨ps, h1, h2, h3⟩ := t p hp
  refine ⟨ps, s _ _ h1 rfl, h2, fun pos cv hc => ?_⟩
  obtain ⟨c, e1, e2⟩ := h3 pos cv hc
  exact ⟨c, e1, s _ _ e2 rfl⟩
theorem SpaceAt.ext {C : Addr} {H H' : Hp} {p : Addr} {b : Nat} {rows : List Nat} (h : SpaceAt C H p b rows) (z : LamX.ExtN H H') : SpaceAt C H' p b rows := by
  obtain ⟨dx, t, h1, h2⟩ := h
  exact ⟨dx, t, z _ _ h1 (fun ps q => by cases q), z _ _ h2 (fun ps q => by cases q)⟩
theorem Th3.ext {CS C : Addr} {H H' : Hp} {p : Addr} {b : Nat} {A B D : List Nat} {t : ThW} (h : Th3 CS C H p b A B D t) (z : LamX.ExtN H H') : Th3 CS C H' p b A B D t := by
  obtain ⟨dx, ts, t1, t2, t3, t4, t5, a1, a2, a3, n1, n2, n3, es, x1, x2, x3, h, g, g1, g2, g3⟩ := h
  have k : ∀ {b o}, H b = some o → (∀ ps, o ≠ .tbl ps) → H' b = some o := fun h n => z _ _ h n
  exact ⟨dx, ts, t1, t2, t3, t4, t5, a1, a2, a3, n1, n2, n3, es, x1, x2, x3, ⟨k h.o (fun ps q => by cases q), k h.s (fun ps q => by cases q), k h.q (fun ps q => by cases q), k h.q1 (fun ps q => by cases q), k h.q2 (fun ps q => by cases q), k h.q3 (fun ps q => by cases q), k h.w (fun ps q => by cases q), (fun e he => k (h.wa e he) (fun ps q => by cases q)), h.we, k h.n (fun ps q => by cases q), k h.m1 (fun ps q => by cases q), k h.m2 (fun ps q => by cases q), k h.m3 (fun ps q => by cases q), k h.u (fun ps q => by cases q)⟩, k g (fun ps q => by cases q), g1.ext z, g2.ext z, g3.ext z⟩
theorem TriAt.ext {H H' : Hp} {q : Addr} {L1 L2 L3 : List Nat} (h : TriAt H q L1 L2 L3) (z : LamX.ExtN H H') : TriAt H' q L1 L2 L3 := by
  obtain ⟨⟨c1, c2, c3, h0, h1, h2, h3⟩⟩ := h
  exact ⟨⟨c1, c2, c3, z _ _ h0 (fun ps q => by cases q), z _ _ h1 (fun ps q => by cases q), z _ _ h2 (fun ps q => by cases q), z _ _ h3 (fun ps q => by cases q)⟩⟩
/-- what the law's loop carries -/
structure LX (CS CH : Addr) (T : List (Addr × Str)) (H : Hp) (la q5 q6 : Addr) (b : Nat) (L1 L2 L3 : List Nat) (t : ThW) : Prop where
  tri : TriAt H la L1 L2 L3
  th3 : Th3 CS CH H q5 b (spn L1) (spn L2) (spn L3) t
  du : H q6 = some (.lst (([rk L1, rk L2, rk L3] : List Nat).map vN))
  tb : LamX.Tabs T H
theorem LX.same {CS CH : Addr} {T : List (Addr × Str)} {H H' : Hp} {la q5 q6 : Addr} {b : Nat} {L1 L2 L3 : List Nat} {t : ThW} (h : LX CS CH T H la q5 q6 b L1 L2 L3 t) (s : Same H H') : LX CS CH T H' la q5 q6 b L1 L2 L3 t := ⟨h.tri.same s, h.th3.same s, s _ _ h.du, tabs_same h.tb s⟩
theorem LX.kp {CS CH : Addr} {T : List (Addr × Str)} {H H' : Hp} {la q5 q6 : Addr} {b : Nat} {L1 L2 L3 : List Nat} {t : ThW} (h : LX CS CH T H la q5 q6 b L1 L2 L3 t) (s : Kp H H') : LX CS CH T H' la q5 q6 b L1 L2 L3 t := ⟨h.tri.kp s, h.th3.kp s, s _ _ h.du rfl, tabs_kp h.tb s⟩
theorem LX.ext {CS CH : Addr} {T : List (Addr × Str)} {H H' : Hp} {la q5 q6 : Addr} {b : Nat} {L1 L2 L3 : List Nat} {t : ThW} (h : LX CS CH T H la q5 q6 b L1 L2 L3 t) (z : LamX.ExtN H H') (tb : LamX.Tabs T H') : LX CS CH T H' la q5 q6 b L1 L2 L3 t := ⟨h.tri.ext z, h.th3.ext z, z _ _ h.du (fun ps q => by cases q), tb⟩
/-! ### a def whose code object is known -/
theorem fnokC {P : Program} {w : World} {K : PySem.W.Frag} {mg : Str → Option Value} {base : Heap} {x qual : Str} {st : Stmt} {f : Addr} {fd : FuncData} {N ps : List Str} {k : Nat} {sp : Sp} (F : FnP K x qual st f fd) (S : FnScope N ps (defScope st)) (len : ∀ vs H Q E, sp vs H Q E → vs.length = ps.length)
    (hbody : ∀ (A : Around) (outer : List Env) (s : Shared) (H : Hp) (vs : List V) (Q : VK) (E : XK), Room k (A.deeper (envOfC qual (defScope st) s.heap.objs.size f fd.code)) → sp vs H Q E →
      ∃ t, PSs (cxOf CX0 P w K mg base N qual (defScope st) f fd.code A outer s H E).nox (defBody st) t ∧ t { nx := fun _ H' => Q .non H', rt := Q } (start N vs) H) : FnOk P w K mg base CX0 (k + 1) f fd ps sp := by
  obtain ⟨oc, od, dV, kV, doc, pm, an, cdv, ct, osl, rfl, lk, hcd, _, _⟩ := F.ex
  refine fn_of lk hcd S len fun A outer s H vs Q E hr h => ?_
  obtain ⟨t, h1, h2⟩ := hbody A outer s H vs Q E hr h
  exact ⟨t, PSs.nox h1, h2⟩
end LaneX
set_option Elab.async false
set_option linter.all false
set_option maxRecDepth 100000
set_option maxHeartbeats 4000000
namespace LaneX
open PySem PySem.Spec PyProof.Rows L2

theorem eqv_wide (i : Nat) : PyData.eqv (.tuple [.str "wide", .int (i : Int)]) (.tuple [.str "wide", .int (i : Int)]) = true := by
  simp [PyData.eqv, PyData.eqvAll]
theorem eqv_fil (is : List Int) : PyData.eqv (.tuple [.str "filled", .tuple (is.map .int)]) (.tuple [.str "filled", .tuple (is.map .int)]) = true := by
  simp [PyData.eqv, PyData.eqvAll, eqvAll_ints]
theorem shaped_wide (i : Nat) : SeqAt.shaped (.tuple [.str "wide", .int (i : Int)]) = true := by
  simp [SeqAt.shaped, PyData.canLay0, PyData.canLayAll0, PyData.depth, PyData.depthAll]
  decide +kernel
theorem shaped_fil (is : List Int) : SeqAt.shaped (.tuple [.str "filled", .tuple (is.map .int)]) = true := by
  simp [SeqAt.shaped, PyData.canLay0, PyData.canLayAll0, PyData.depth, PyData.depthAll, PySem.W.ke_canLayAll0, PySem.W.ke_depthAll]
  decide +kernel
theorem bigN {x : Nat} (h : x ≤ 2 ^ 40) : x < 2 ^ 8999 := Nat.lt_of_le_of_lt h (Nat.pow_lt_pow_right (by decide) (by decide))
/-- the def that calls a lambda -/
structure RefD (K : PySem.W.Frag) (mg : Str → Option Value) : Prop where
  ex : ∃ (f : Addr) (fd : FuncData), mg "_law_refusal" = some (.ref f) ∧ PySem.W.keepIn K (.ref f) = true ∧ Binds K fd ["_law_call"] [] ∧ FnP K "_law_refusal" "_law_refusal" s_refusalL f fd
section
variable {X : Cx}
theorem pe_ref {CT CF CL c PT : Addr} {T : List (Addr × Str)} {k : Nat} {params : Arguments} {body : Expr} {scope : Scope} {t : XK → TE} {p lpos pos : Pos} (R : RefD X.K X.mg) (Tb : Bt X.mg) (TT : ErrT X.K X.mg CT CL "TooWide" "index") (TF : ErrT X.K X.mg CF CL "Filled" "rows") (glL : X.mg "LaneError" = some (.ref CL))
    (TB : LamX.TabB X.base X.mg c PT) (hcode : X.env.code = .ref c) (hmT : (PT, X.env.qual ++ "<lambda>") ∈ T) (hu : ∀ p ∈ T, p.1 = PT → p.2 = X.env.qual ++ "<lambda>") (hr : Room (k + 2) X.A) (L : LamX.LamS X.env.scope scope) (hdef : defaultsOf params X.env = ([], []))
    (hbind : ∀ (q : Str) (cl : List (Str × Addr)) (pm cv ctv : Value), bindArgs (PySem.W.kla_fn "<lambda>" q params body scope cl pm cv ctv) ⟨[], []⟩ = pure [])
    (hbody : ∀ (A : Around) (outer : List Env) (s : Shared) (H : Hp) (E : XK) (f c' : Addr), Room k (A.deeper (LamX.lamEnv X scope s.heap.objs.size f c')) → PE (LamX.lamCx X A outer s H E scope f c') body (t E)) (hg : Gl X "_law_refusal" := by rfl) :
    PE X (.Call (.Name "_law_refusal" p) [.Lambda params body scope lpos] [] pos) (LamX.tLam T (TRef X.K CT CF) t) := by
  obtain ⟨g, fd, hm, hk, hb, F⟩ := R.ex
  obtain ⟨oc, od, dV, kV, doc, pm, an, cdv, ct, osl, rfl, lk, hcd, _, _⟩ := F.ex
  exact LamX.pe_lamcall hg hm hk lk hcd hb sc_refusalE rfl (.inl rfl) (ref_gives Tb TT TF glL) TB hcode hmT hu hr L hdef hbind hbody
end
/-- the first of three that is so -/
theorem first3 (q : Nat → Bool) : ((List.range 3).filter q = [] ∧ ∀ i, i < 3 → q i = false) ∨ ∃ i r, (List.range 3).filter q = i :: r ∧ i < 3 ∧ q i = true ∧ ∀ j, j < i → q j = false := by
  have e : List.range 3 = [0, 1, 2] := rfl
  rw [e]
  cases h0 : q 0 with
  | true => exact .inr ⟨0, _, by rw [List.filter_cons_of_pos h0], by decide, h0, fun j hj => absurd hj (Nat.not_lt_zero j)⟩
  | false =>
    rw [List.filter_cons_of_neg (by rw [h0]; decide)]
    cases h1 : q 1 with
    | true => exact .inr ⟨1, _, by rw [List.filter_cons_of_pos h1], by decide, h1, fun j hj => by
        obtain rfl : j = 0 := by omega
        exact h0⟩
    | false =>
      rw [List.filter_cons_of_neg (by rw [h1]; decide)]
      cases h2 : q 2 with
      | true => exact .inr ⟨2, _, by rw [List.filter_cons_of_pos h2], by decide, h2, fun j hj => by
          match j, hj with
          | 0, _ => exact h0
          | 1, _ => exact h1⟩
      | false =>
        rw [List.filter_cons_of_neg (by rw [h2]; decide)]
        exact .inl ⟨rfl, fun i hi => by
          match i, hi with
          | 0, _ => exact h0
          | 1, _ => exact h1
          | 2, _ => exact h2⟩
theorem due_at (L1 L2 L3 : List Nat) {i : Nat} (hi : i < 3) : (([rk L1, rk L2, rk L3] : List Nat).map vN)[i]? = some (vN (rk (([L1, L2, L3] : List (List Nat)).getD i []))) := by
  match i, hi with
  | 0, _ => rfl
  | 1, _ => rfl
  | 2, _ => rfl
theorem spn_at (L1 L2 L3 : List Nat) {i : Nat} (hi : i < 3) : (([spn L1, spn L2, spn L3] : List (List Nat)).getD i []).length = rk (([L1, L2, L3] : List (List Nat)).getD i []) := by
  match i, hi with
  | 0, _ => rfl
  | 1, _ => rfl
  | 2, _ => rfl
/-- the call of the lambda, read -/
theorem ref_read {K : PySem.W.Frag} {mg : Str → Option Value} {CS CH CM CT CF CL : Addr} {T : List (Addr × Str)} {H : Hp} {la q5 q6 : Addr} {b g : Nat} {L1 L2 L3 : List Nat} {t : ThW} {σ : _root_.L2.St} {Q : VK} (TT : ErrT K mg CT CL "TooWide" "index") (TF : ErrT K mg CF CL "Filled" "rows") (hFT : PySem.W.exmOne K (.ref CF) (.ref CT) = some false)
    (hX : LX CS CH T H la q5 q6 b L1 L2 L3 t) (hF : LF b L1 L2 L3 t) (h5 : σ[5]? = some (some (.ref q5))) (h9 : σ[9]? = some (some (vN g))) (hg : g ≤ 1000)
    (kw : ∀ i, i < 3 → g < rk (([L1, L2, L3] : List (List Nat)).getD i []) → (∀ j, j < i → rk (([L1, L2, L3] : List (List Nat)).getD j []) ≤ g) → ∀ H' q, LX CS CH T H' la q5 q6 b L1 L2 L3 t → (∀ b o, H b = some o → (∀ ps, o ≠ .tbl ps) → H' b = some o) → H' q = some (.tup [.str "wide", vN i]) → Q (.ref q) H')
    (kf : (∀ i, i < 3 → rk (([L1, L2, L3] : List (List Nat)).getD i []) ≤ g) → Fld3 t → g < t.S.length + 2 → ∀ H' q r, LX CS CH T H' la q5 q6 b L1 L2 L3 t → (∀ b o, H b = some o → (∀ ps, o ≠ .tbl ps) → H' b = some o) → H' q = some (.tup [.str "filled", .ref r]) → H' r = some (.tup ((sm (sm (spn L1) (spn L2)) (spn L3)).map vN)) → Q (.ref q) H')
    (kn : (∀ i, i < 3 → rk (([L1, L2, L3] : List (List Nat)).getD i []) ≤ g) → (Fld3 t → t.S.length + 2 ≤ g) → False) :
    LamX.tLam T (TRef K CT CF) (fun E => tCallS (sp_freeX CS CH CM CT CF) (WE fun cls d _ H => E cls d H) (tCons (tVar 5) (tCons (tVar 9) tNil))) σ H Q := by
  refine ⟨hX.tb, fun H1 eN T1 q0 hq0 => ?_⟩
  have hX1 := hX.ext eN T1
  have s1 := same_new0 (o := .tup [.str "fine", .non]) hq0
  refine ⟨_, h5, _, h9, q5, b, g, _, _, _, t, rfl, hX1.th3.same s1, hF.th, hF.w1, hF.w2, hF.w3, hF.bb, hg, fun i hi hlt hle H2 d s2 hd ed => ?_, fun l1 l2 l3 fl hlt H2 d r s2 hd ed er => ?_, fun l1 l2 l3 nf _ _ _ _ _ _ _ => ?_⟩
  · rw [spn_at L1 L2 L3 hi] at hlt
    refine ⟨true, TT.self, fun _ => ⟨rfl, d, _, rfl, ed, fun q1 hq1 => ?_⟩, fun z => by cases z⟩
    have sA := (s1.trans s2).trans (same_new0 (o := .tup [.str "wide", vN i]) hq1)
    exact kw i hi hlt (fun j hj => by have z := hle j hj; rw [spn_at L1 L2 L3 (by omega)] at z; exact z) _ q1 (hX1.same sA) (fun b o h n => sA _ _ (eN _ _ h n)) upd_same
  · refine ⟨false, hFT, fun z => (by cases z), fun _ => ⟨true, TF.self, fun _ => ⟨rfl, d, _, rfl, ed, fun q1 hq1 => ?_⟩, fun z => by cases z⟩⟩
    have sA := (s1.trans s2).trans (same_new0 (o := .tup [.str "filled", .ref r]) hq1)
    exact kf (fun i hi => by
      match i, hi with
      | 0, _ => exact l1
      | 1, _ => exact l2
      | 2, _ => exact l3) fl hlt _ q1 r (hX1.same sA) (fun b o h n => sA _ _ (eN _ _ h n)) upd_same (upd_new hq1 er)
  · exact (kn (fun i hi => by
      match i, hi with
      | 0, _ => exact l1
      | 1, _ => exact l2
      | 2, _ => exact l3) nf).elim
section
variable {P : Program} {w : World} {K : PySem.W.Frag} {mg : Str → Option Value} {base : Heap} {f : Addr} {fd : FuncData} {CS CR CM CH CT CF CL c PT : Addr} (T : Bt mg) (TS : SpaceT K mg CS) (TM : MapT K mg CM) (TH : ThreeT K mg CH)
include T TS TM TH
theorem law_tailA {cdv : Value} {A : Around} {outer : List Env} {s : Shared} {H0 : Hp} {Q : VK} {E : XK} (D_drawL : Dn P w K mg base 1 "_law_draw" ["_law_tape", "_law_limit"] sp_draw) (D_filled : Dn P w K mg base 7 "filled" ["three"] (sp_filled CS CH)) (D_filled_rightL : Dn P w K mg base 8 "_law_filled_right" ["_law_three", "_law_lists", "_law_bits", "_law_bars"] (sp_filright CS CH)) (D_free_banks : Dx P w K mg base 8 "free_banks" ["three", "banks"] (sp_freeX CS CH CM CT CF)) (RFD : RefD K mg) (EW : ErrT K mg CT CL "TooWide" "index") (EF : ErrT K mg CF CL "Filled" "rows") (glL : mg "LaneError" = some (.ref CL)) (hFT : PySem.W.exmOne K (.ref CF) (.ref CT) = some false) (TB : LamX.TabB base mg c PT) (hcode : cdv = .ref c)
    (hr : Room 10 (A.deeper (envOfC "law" (defScope s_law) s.heap.objs.size f cdv))) :
    ∃ tt, PSs (cxOf CX0 P w K mg base ["_law_script", "_law_tape", "_law_numbers_here", "_law_bits", "_law_lists", "_law_three", "_law_dues", "_law_bars", "_law_least", "_law_banks", "_law_wide", "_law_words", "_law_k"] "law" (defScope s_law) f cdv A outer s H0 E).nox ((defBody s_law).drop 10) tt ∧
      ∀ (H : Hp) (p lc la q5 q6 : Addr) (N b mx : Nat) (bars : Bool) (L1 L2 L3 : List Nat) (t : ThW) (v0 v2 v11 v12 : Option V), N + 100 ≤ TOP → Tp H p lc N → LX CS CH [(PT, "law.<locals>." ++ "<lambda>")] H la q5 q6 b L1 L2 L3 t → LF b L1 L2 L3 t → (bars = true ↔ Fld3 t) → mx ≤ 900 → (∀ i, i < 3 → rk (([L1, L2, L3] : List (List Nat)).getD i []) ≤ mx) → (mx = rk L1 ∨ mx = rk L2 ∨ mx = rk L3) → (∀ H', Q (.bl true) H') →
        tt { nx := fun _ H' => Q .non H', rt := Q } [v0, some (.ref p), v2, some (vN b), some (.ref la), some (.ref q5), some (.ref q6), some (.bl bars), some (vN (mx + (if bars = true then 1 else 0))), none, none, v11, v12] H := by
  have nd := sc_law.nd
  refine ⟨_, (pss_cons (ps_for PassesOwn.never rfl (pi_seq (pe_lst (pa_cons (pe_op op_sub (pv 8) pe_int) (pa_cons (pe_op op_sub (pe_d D_drawL hr (pa_cons (pv 1) (pa_cons (pe_op on_add (pv 8) pe_int) pa_nil))) pe_int) pa_nil)))) (pg_name (i := 9) nd rfl (Or.inr rfl))
    (pss_cons (ps_setLc (i := 10) (own := [("_law_k", 12)]) (g := gName 12) (by rfl) nd rfl rfl (sw_true rfl rfl rfl (by decide +kernel)) (pi_range1 (by rfl) T.range (pa_cons pe_int pa_nil)) (blkOk_by (own := [("_law_k", 12)]) (N := ["_law_script", "_law_tape", "_law_numbers_here", "_law_bits", "_law_lists", "_law_three", "_law_dues", "_law_bars", "_law_least", "_law_banks", "_law_wide", "_law_words", "_law_k"]) (sc := defScope s_law) (by decide +kernel)) (fun _ _ _ _ _ => (pg_name (i := 12) nd rfl (Or.inl rfl))) (fun _ _ _ _ _ => (pts_one (pt_cmpR op_gt (pe_ix ix_q (pv 6) (pv 12) (fun _ _ => rfl)) (pv 9) (nomark _)))) (fun _ _ _ _ _ => (pv 12)))
    (pss_one (ps_if (PW.pt (pw_and (pt_cmpR op_ge (pv 9) pe_int (nomark _)) (pw_and1 (pt_cmpR (op_neN hr.units) (pv 10) (pe_lst pa_nil) (nomark _)))))
      (pss_one (ps_if (pt_cmpR (op_neD hr.units) (pe_ref RFD T EW EF glL TB hcode (List.mem_singleton.mpr rfl) (fun p hp _ => by rw [List.mem_singleton.mp hp]) hr (LamX.lamS_by (sc := defScope s_law) (by decide +kernel)) rfl (fun _ _ _ _ _ => rfl) (fun A outer s H E f c' hr' => pe_dxS D_free_banks (takes_of rfl rfl rfl rfl) hr' (pa_cons (pv 5) (pa_cons (pv 9) pa_nil)))) (pe_tup (pa_cons pe_str (pa_cons (pe_ix ix_q (pv 10) pe_int (fun _ _ => rfl)) pa_nil))) (nomark _))
        (pss_one (ps_ret pe_bl))
        pss_nil))
      (pss_one (ps_if (PW.pt (pw_and (pt_cmpR op_ge (pv 9) pe_int (nomark _)) (pw_and1 (pt_cmpR (op_neD hr.units) (pe_ref RFD T EW EF glL TB hcode (List.mem_singleton.mpr rfl) (fun p hp _ => by rw [List.mem_singleton.mp hp]) hr (LamX.lamS_by (sc := defScope s_law) (by decide +kernel)) rfl (fun _ _ _ _ _ => rfl) (fun A outer s H E f c' hr' => pe_dxS D_free_banks (takes_of rfl rfl rfl rfl) hr' (pa_cons (pv 5) (pa_cons (pv 9) pa_nil)))) (pe_tup (pa_cons pe_str (pa_cons (pe_fld (pe_d D_filled hr (pa_cons (pv 5) pa_nil)) rfl) pa_nil))) (nomark _)))))
        (pss_one (ps_ret pe_bl))
        pss_nil))))))
  (pss_one (ps_ret (pe_d D_filled_rightL hr (pa_cons (pv 5) (pa_cons (pv 4) (pa_cons (pv 3) (pa_cons (pv 7) pa_nil)))))))), ?_⟩
  intro H p lc la q5 q6 N b mx bars L1 L2 L3 t v0 v2 v11 v12 hN hp hX hF hbars hmx hle hmem k
  have hN' : N + 100 ≤ 1099511627776 := hN
  have hmb : mx + (if bars = true then 1 else 0) ≤ 901 := by split <;> omega
  generalize hm : mx + (if bars = true then 1 else 0) = m at *
  refine ⟨_, rfl, _, _, rfl, rfl, _, rfl, _, rfl, m, 1, rfl, rfl, p, lc, N, m + 1, rfl, hp, (by omega), bigN (by omega), (by show N + 1 ≤ 1099511627776; omega), fun H1 r hr1 hp1 kp1 => ?_⟩
  refine ⟨_, _, rfl, rfl, (by show 2 ≤ sizeLine; decide), fun l hl => ?_⟩
  have s2 := same_new0 (o := .lst [.int ((m : Int) - 1), .int ((r : Int) - 1)]) hl
  have e2 : upd H1 l (.lst [.int ((m : Int) - 1), .int ((r : Int) - 1)]) l = some (.lst [.int ((m : Int) - 1), .int ((r : Int) - 1)]) := upd_same
  have hX2 := (hX.kp kp1).same s2
  generalize upd H1 l _ = H2 at *
  refine for_sq2 (xs := [.int ((m : Int) - 1), .int ((r : Int) - 1)]) (.inl e2) (fun i σ Hi => ∃ v9 v10, σ = [v0, some (.ref p), v2, some (vN b), some (.ref la), some (.ref q5), some (.ref q6), some (.bl bars), some (vN m), v9, v10, v11, v12] ∧ LX CS CH [(PT, "law.<locals>." ++ "<lambda>")] Hi la q5 q6 b L1 L2 L3 t ∧ Hi l = some (.lst [.int ((m : Int) - 1), .int ((r : Int) - 1)])) ⟨none, none, rfl, hX2, e2⟩ (fun i σ H' hp o ho => ?_) ?_ ?_
  · obtain ⟨_, _, _, _, z⟩ := hp
    rw [e2] at ho
    cases ho
    exact z
  · rintro i x σ Hi hx ⟨v9, v10, rfl, hXi, hl'⟩
    obtain ⟨z, rfl, hz⟩ : ∃ z : Int, x = .int z ∧ z < (m : Int) := by
      match i, hx with
      | 0, hx => cases hx; exact ⟨_, rfl, by omega⟩
      | 1, hx => cases hx; exact ⟨_, rfl, by omega⟩
    refine ⟨3, rfl, (by decide), (by decide), lc_pureR (n := 3) (fun i => decide (((rk (([L1, L2, L3] : List (List Nat)).getD i []) : Nat) : Int) > z)) vN (by decide) (fun i H' hi s => ?_) (fun D H3 hD s3 e3 => ?_)⟩
    · intro Z Nx z1 z2
      refine ⟨rfl, _, rfl, _, rfl, q6, _, i, _, rfl, rfl, .inl (s _ _ hXi.du), due_at L1 L2 L3 hi, _, rfl, _, _, rfl, rfl, _, rfl, br (fun q => ?_) (fun q => ?_)⟩
      · exact ⟨_, rfl, z1 q _ (Same.refl _)⟩
      · exact z2 q _ (Same.refl _)
    have hX3 := hXi.same s3
    have hl3 := s3 _ _ hl'
    have first := first3 (fun i => decide (((rk (([L1, L2, L3] : List (List Nat)).getD i []) : Nat) : Int) > z))
    generalize (List.range 3).filter (fun i => decide (((rk (([L1, L2, L3] : List (List Nat)).getD i []) : Nat) : Int) > z)) = wl at *
    refine ⟨_, rfl, _, _, rfl, rfl, _, rfl, br (fun hz0 => ?_) (fun hz0 => ?_)⟩
    · have hz0 : z ≥ 0 := of_decide_eq_true hz0
      obtain ⟨g, rfl⟩ : ∃ g : Nat, z = (g : Int) := ⟨z.toNat, by omega⟩
      have hg : g < m := by omega
      refine ⟨_, rfl, (by show 0 ≤ sizeLine; decide), fun y hy => ⟨D, y, wl, [], rfl, rfl, upd_new hy e3, upd_same, _, rfl, ?_⟩⟩
      have s4 := same_new0 (o := .lst []) hy
      have hX4 := hX3.same s4
      have hl4 := s4 _ _ hl3
      have e4 := upd_new hy (o := .lst []) e3
      generalize upd H3 y _ = H4 at *
      rcases first with ⟨rfl, hall⟩ | ⟨i0, rest, rfl, hi0, hq0, hlt0⟩
      · have hall : ∀ i, i < 3 → rk (([L1, L2, L3] : List (List Nat)).getD i []) ≤ g := fun i hi => by
          have z := of_decide_eq_false (hall i hi)
          omega
        refine itf rfl ?_
        refine ⟨_, rfl, _, _, rfl, rfl, _, rfl, itt (decide_eq_true hz0) ?_⟩
        have hmg : mx ≤ g := by
          rcases hmem with e | e | e
          · rw [e]; exact hall 0 (by decide)
          · rw [e]; exact hall 1 (by decide)
          · rw [e]; exact hall 2 (by decide)
        have hb : bars = true := by
          cases bars with
          | true => rfl
          | false => exact absurd hm (by simp; omega)
        have fl := hbars.mp hb
        obtain ⟨x1, x2, x3, _⟩ := fil_dims hF.th (spn_ltb hF.b1) (spn_ltb hF.b2) (spn_ltb hF.b3) fl
        rw [rk_spn] at x1 x2 x3
        have hS : g < t.S.length + 2 := by rw [if_pos hb] at hm; omega
        refine ref_read EW EF hFT hX4 hF rfl rfl (by omega) (fun i hi hlt _ => absurd (hall i hi) (by omega)) (fun _ _ _ H5 q r hX5 st eq er => ?_) (fun _ nf => absurd (nf fl) (by omega))
        have hl5 := st _ _ hl4 (fun ps z => by cases z)
        refine ⟨_, rfl, q5, b, _, _, _, t, rfl, hX5.th3, hF.w1, hF.w2, hF.w3, hF.bb, fun _ H6 q6' s6 hq6 e6 => ?_, fun nfl => absurd fl nfl⟩
        obtain ⟨dq, tq, i1, i2⟩ := id e6
        refine ⟨q6', CS, dq, _, .ref tq, rfl, i1, TS.cl, TS.nr, rfl, (by show 2 ≤ sizeLine; decide), fun y7 hy7 => ?_⟩
        have s7 := same_new0 (o := .tup [.str "filled", .ref tq]) hy7
        have s57 := s6.trans s7
        have i2' := s7 _ _ i2
        have e7 : upd H6 y7 (.tup [.str "filled", .ref tq]) y7 = some (.tup [.str "filled", .ref tq]) := upd_same
        have eq7 := s57 _ _ eq
        have er7 := s57 _ _ er
        have hX7 := hX5.same s57
        have hl7 := s57 _ _ hl5
        generalize upd H6 y7 _ = H7 at *
        rw [vN_ints] at i2' er7
        generalize (sm (sm (spn L1) (spn L2)) (spn L3)).map Int.ofNat = is at *
        refine ⟨.tuple [.str "filled", .tuple (is.map .int)], .tuple [.str "filled", .tuple (is.map .int)], .tup (SqT.of eq7) (.cons (.str _) (.cons (.tup (SqT.of er7) (dpAll_ints _)) .nil)), .tup (SqT.of e7) (.cons (.str _) (.cons (.tup (SqT.of i2') (dpAll_ints _)) .nil)), shaped_fil _, shaped_fil _, ?_⟩
        rw [eqv_fil]
        exact ⟨_, rfl, itf rfl ⟨_, _, rfl, hX7, hl7⟩⟩
      · have hq0 : g < rk (([L1, L2, L3] : List (List Nat)).getD i0 []) := by
          have z := of_decide_eq_true hq0
          omega
        refine itt rfl ?_
        have hlt0 : ∀ j, j < i0 → rk (([L1, L2, L3] : List (List Nat)).getD j []) ≤ g := fun j hj => by
          have z := of_decide_eq_false (hlt0 j hj)
          omega
        have hgm : g ≤ 1000 := by omega
        refine ref_read EW EF hFT hX4 hF rfl rfl hgm (fun i hi hlt hle => ?_) (fun hall _ _ => absurd (hall i0 hi0) (by omega)) (fun hall _ => absurd (hall i0 hi0) (by omega))
        intro H5 q hX5 st eq
        have ei : i = i0 := by
          rcases Nat.lt_trichotomy i i0 with z | z | z
          · exact absurd (hlt0 i z) (by omega)
          · exact z
          · exact absurd (hle i0 z) (by omega)
        subst ei
        have hl5 := st _ _ hl4 (fun ps z => by cases z)
        have e5 := st _ _ e4 (fun ps z => by cases z)
        refine ⟨_, rfl, D, _, 0, vN i, rfl, rfl, .inl e5, rfl, (by show 2 ≤ sizeLine; decide), fun y7 hy7 => ?_⟩
        have s7 := same_new0 (o := .tup [.str "wide", vN i]) hy7
        have e7 : upd H5 y7 (.tup [.str "wide", vN i]) y7 = some (.tup [.str "wide", vN i]) := upd_same
        have eq7 := s7 _ _ eq
        have hX7 := hX5.same s7
        have hl7 := s7 _ _ hl5
        generalize upd H5 y7 _ = H7 at *
        refine ⟨.tuple [.str "wide", .int (i : Int)], .tuple [.str "wide", .int (i : Int)], .tup (SqT.of eq7) (.cons (.str _) (.cons (.int _) .nil)), .tup (SqT.of e7) (.cons (.str _) (.cons (.int _) .nil)), shaped_wide i, shaped_wide i, ?_⟩
        rw [eqv_wide]
        exact ⟨_, rfl, itf rfl ⟨_, _, rfl, hX7, hl7⟩⟩
    · exact itf rfl ⟨_, rfl, _, _, rfl, rfl, _, rfl, itf hz0 (itf rfl ⟨_, _, rfl, hX3, hl3⟩)⟩
  · rintro σ Hi ⟨v9, v10, rfl, hXi, _⟩
    exact ⟨_, rfl, _, rfl, _, rfl, _, rfl, q5, la, b, bars, L1, L2, L3, t, rfl, hXi.th3, hXi.tri, hF, hbars, fun H' _ => k H'⟩
end
end LaneX
set_option Elab.async false
set_option linter.all false
set_option maxRecDepth 100000
set_option maxHeartbeats 4000000
namespace LaneX
open PySem PySem.Spec PyProof.Rows L2

def sp_lawT (K : PySem.W.Frag) (PT : Addr) : Sp := fun vs H Q _ => ∃ (a : Addr) (ns : List Int), vs = [.ref a] ∧ SqL K H a (ns.map V.int) ∧ ns.length ≤ 63 ∧ H PT = some (.tbl #[]) ∧ ∀ H', Q (.bl true) H'
theorem six_of {r : Nat} (h : r < 6) : ∃ m : Nat, ([.int 5, .int 3, .int 3, .int 3, .int 3, .int 3] : List V)[r]? = some (vN m) ∧ m ≤ 5 := by
  match r, h with
  | 0, _ => exact ⟨5, rfl, by decide⟩
  | 1, _ => exact ⟨3, rfl, by decide⟩
  | 2, _ => exact ⟨3, rfl, by decide⟩
  | 3, _ => exact ⟨3, rfl, by decide⟩
  | 4, _ => exact ⟨3, rfl, by decide⟩
  | 5, _ => exact ⟨3, rfl, by decide⟩
section
variable {P : Program} {w : World} {K : PySem.W.Frag} {mg : Str → Option Value} {base : Heap} {f : Addr} {fd : FuncData} {CS CR CM CH CT CF CL c PT : Addr} (T : Bt mg) (TS : SpaceT K mg CS) (TM : MapT K mg CM) (TH : ThreeT K mg CH)
include T TS TM TH
theorem law_tailB {cdv : Value} {A : Around} {outer : List Env} {s : Shared} {H0 : Hp} {Q : VK} {E : XK} (D_tripleL : Dn P w K mg base 5 "_law_triple" ["_law_tape", "_law_numbers_here", "_law_outside"] sp_triple) (D_three_ofL : Dn P w K mg base 10 "_law_three_of" ["_law_bits", "_law_lists"] (sp_three_of CS CH)) (D_rankL : Dn P w K mg base 3 "_law_rank" ["_law_words"] sp_rank) (D_free_rightL : Dn P w K mg base 9 "_law_free_right" ["_law_three", "_law_lists", "_law_bits", "_law_banks"] (sp_freright CS CH)) (D_least_banks : Dn P w K mg base 8 "least_banks" ["three"] (sp_leastb CS CH)) (D_whole_isL : Dn P w K mg base 1 "_law_whole_is" ["_law_value", "_law_due"] sp_whole_is) (D_drawL : Dn P w K mg base 1 "_law_draw" ["_law_tape", "_law_limit"] sp_draw) (D_filled : Dn P w K mg base 7 "filled" ["three"] (sp_filled CS CH)) (D_filled_rightL : Dn P w K mg base 8 "_law_filled_right" ["_law_three", "_law_lists", "_law_bits", "_law_bars"] (sp_filright CS CH)) (D_free_banks : Dx P w K mg base 8 "free_banks" ["three", "banks"] (sp_freeX CS CH CM CT CF)) (RFD : RefD K mg) (EW : ErrT K mg CT CL "TooWide" "index") (EF : ErrT K mg CF CL "Filled" "rows") (glL : mg "LaneError" = some (.ref CL)) (hFT : PySem.W.exmOne K (.ref CF) (.ref CT) = some false) (TB : LamX.TabB base mg c PT) (hcode : cdv = .ref c)
    (hr : Room 10 (A.deeper (envOfC "law" (defScope s_law) s.heap.objs.size f cdv))) :
    ∃ tt, PSs (cxOf CX0 P w K mg base ["_law_script", "_law_tape", "_law_numbers_here", "_law_bits", "_law_lists", "_law_three", "_law_dues", "_law_bars", "_law_least", "_law_banks", "_law_wide", "_law_words", "_law_k"] "law" (defScope s_law) f cdv A outer s H0 E).nox ((defBody s_law).drop 2) tt ∧
      ∀ (H : Hp) (p lc q : Addr) (N : Nat) (n : Nums) (v0 : Option V), N + 400000 ≤ TOP → Tp H p lc N → NSm n → H q = some (.lst (n.l.map vN)) → LamX.Tabs [(PT, "law.<locals>." ++ "<lambda>")] H → (∀ H', Q (.bl true) H') →
        tt { nx := fun _ H' => Q .non H', rt := Q } [v0, some (.ref p), some (.ref q), none, none, none, none, none, none, none, none, none, none] H := by
  have nd := sc_law.nd
  obtain ⟨tt, hP, hT⟩ := law_tailA (H0 := H0) (Q := Q) (E := E) T TS TM TH D_drawL D_filled D_filled_rightL D_free_banks RFD EW EF glL hFT TB hcode hr
  refine ⟨_, (pss_cons (ps_set (i := 3) nd rfl (Or.inl rfl) (pe_op on_add (pe_callB (cr_sum rfl) (by rfl) T.sum (by decide +kernel) (pa_cons (pv 2) pa_nil)) (pe_ix ix_q (pv 2) pe_int (fun _ _ => rfl))))
  (pss_cons (ps_set (i := 4) nd rfl (Or.inl rfl) (pe_d D_tripleL hr (pa_cons (pv 1) (pa_cons (pv 2) (pa_cons (pe_ix ix_q (pv 2) pe_int (fun _ _ => rfl)) pa_nil)))))
  (pss_cons (ps_asg (pe_tup (pa_cons (pe_d D_three_ofL hr (pa_cons (pv 3) (pa_cons (pv 4) pa_nil))) (pa_cons (pe_lc (own := [("_law_words", 11)]) (g := gName 11) (by rfl) nd (pi_seq (pv 4)) (blkOk_by (own := [("_law_words", 11)]) (N := ["_law_script", "_law_tape", "_law_numbers_here", "_law_bits", "_law_lists", "_law_three", "_law_dues", "_law_bars", "_law_least", "_law_banks", "_law_wide", "_law_words", "_law_k"]) (sc := defScope s_law) (by decide +kernel)) (fun _ _ _ _ _ => (pg_name (i := 11) nd rfl (Or.inl rfl))) (fun _ _ _ _ _ => pts_nil) (fun _ _ _ _ _ => (pe_d D_rankL hr (pa_cons (pv 11) pa_nil)))) pa_nil))) (pg_tup (by rfl) (pgs_cons (pg_name (i := 5) nd rfl (Or.inr rfl)) (pgs_cons (pg_name (i := 6) nd rfl (Or.inr rfl)) pgs_nil))))
  (pss_cons (ps_set (i := 7) nd rfl (Or.inl rfl) (pe_cmpR (op_eqN hr.units) (pe_slice sl_list (pv 2) (po_some pe_int) (po_some pe_int)) (pe_lst (pa_cons pe_int (pa_cons pe_int (pa_cons pe_int (pa_cons pe_int (pa_cons pe_int (pa_cons pe_int (pa_cons pe_int pa_nil)))))))) (nomark _)))
  (pss_cons (ps_if (pt_not (pt_val (pe_d D_filled_rightL hr (pa_cons (pv 5) (pa_cons (pv 4) (pa_cons (pv 3) (pa_cons (pv 7) pa_nil)))))))
    (pss_one (ps_ret pe_bl))
    pss_nil)
  (pss_cons (ps_set (i := 8) nd rfl (Or.inl rfl) (pe_op on_add (pe_callB (cr_maxN rfl) (by rfl) T.max (by decide +kernel) (pa_cons (pv 6) pa_nil)) (pe_callTy call_intB (by rfl) T.int (by decide +kernel) (pa_cons (pv 7) pa_nil))))
  (pss_cons (ps_if (pt_not (pt_val (pe_d D_whole_isL hr (pa_cons (pe_d D_least_banks hr (pa_cons (pv 5) pa_nil)) (pa_cons (pv 8) pa_nil)))))
    (pss_one (ps_ret pe_bl))
    pss_nil)
  (pss_cons (ps_if (PW.pt (pw_or (pt_not (pt_val (pe_d D_free_rightL hr (pa_cons (pv 5) (pa_cons (pv 4) (pa_cons (pv 3) (pa_cons (pv 8) pa_nil))))))) (pw_or1 (pt_not (pt_val (pe_d D_free_rightL hr (pa_cons (pv 5) (pa_cons (pv 4) (pa_cons (pv 3) (pa_cons (pe_op on_add (pv 8) (pe_d D_drawL hr (pa_cons (pv 1) (pa_cons pe_int pa_nil)))) pa_nil))))))))))
    (pss_one (ps_ret pe_bl))
    pss_nil)
  hP)))))))), ?_⟩
  intro H p lc q N n v0 hN hp hs hq tb k
  have hN' : N + 400000 ≤ 1099511627776 := hN
  have nb := nsm_bits hs
  refine ⟨_, rfl, q, n.l.map Int.ofNat, rfl, SqL.of (by rw [hq, vN_ints]), _, rfl, q, _, 4, vN n.w, rfl, rfl, .inl hq, rfl, n.l.sum, n.w, (by rw [sum_nat]), rfl, ?_⟩
  rw [nums_sum]
  refine ⟨_, rfl, _, rfl, _, rfl, q, _, 8, vN n.o, rfl, rfl, .inl hq, rfl, p, lc, q, _, n, rfl, hp, hq, nsm_20 hs, (by show N + 100000 ≤ 1099511627776; omega), fun H1 la L1 L2 L3 tl al hp1 kp1 => ?_⟩
  have hq1 := kp1 _ _ hq rfl
  have tk := tri_k tl
  refine ⟨_, rfl, _, rfl, la, n.bits, L1, L2, L3, rfl, al, tk.b1, tk.b2, tk.b3, tl.l1, tl.l2, tl.l3, (by omega), fun H2 q5 s2 hq5 e5 => ?_⟩
  generalize thw n.bits (spn L1) (spn L2) (spn L3) = t at *
  have al2 := al.same s2
  have al2' := al2
  obtain ⟨⟨c1, c2, c3, h0, h1, h2, h3⟩⟩ := al2'
  have hF : LF n.bits L1 L2 L3 t := ⟨by omega, tl.l1, tl.l2, tl.l3, tk.b1, tk.b2, tk.b3, tk.th⟩
  refine ⟨_, rfl, lc_pure [(c1, L1), (c2, L2), (c3, L3)] (fun e => V.ref e.1) (fun _ => true) (fun e => vN (rk e.2)) (.inl h0) (by show 3 ≤ 1000000; decide) (fun e H' hem s => ?_) (fun D H3 hD s3 e3 => ?_)⟩
  · intro Z Nx z1 z2
    have sp : H2 e.1 = some (.lst (e.2.map vN)) ∧ e.2.length ≤ 1000 := by
      simp only [List.mem_cons, List.not_mem_nil, or_false] at hem
      rcases hem with rfl | rfl | rfl
      · exact ⟨h1, tl.l1⟩
      · exact ⟨h2, tl.l2⟩
      · exact ⟨h3, tl.l3⟩
    exact ⟨rfl, _, rfl, e.1, e.2, rfl, .inl (s _ _ sp.1), (by have := sp.2; omega), fun H6 s6 => z1 rfl _ s6⟩
  rw [filt_true] at e3
  have e3 : H3 D = some (.lst (([rk L1, rk L2, rk L3] : List Nat).map vN)) := e3
  refine ⟨(by show 2 ≤ sizeLine; decide), fun y hy => ⟨y, _, rfl, SqT.of upd_same, rfl, _, _, rfl, _, _, rfl, rfl, ?_⟩⟩
  have s4 := same_new0 (o := .tup [.ref q5, .ref D]) hy
  have s24 := (s2.trans s3).trans s4
  have e4 := s4 _ _ e3
  have e54 := e5.same (s3.trans s4)
  generalize upd H3 y _ = H4 at *
  have hq4 := s24 _ _ hq1
  have hp4 := hp1.same s24
  refine ⟨_, rfl, _, rfl, _, rfl, q, _, rfl, SqL.of hq4, fun l hl => ?_⟩
  rw [show cutV (n.l.map vN) (some 1) (some 8) = ([n.p1, n.p2, n.p3, n.w, n.n1, n.n2, n.n3] : List Nat).map vN from rfl]
  have s5 := same_new0 (o := .lst (([n.p1, n.p2, n.p3, n.w, n.n1, n.n2, n.n3] : List Nat).map vN)) hl
  refine ⟨(by show 7 ≤ sizeLine; decide), fun m hm => ?_⟩
  have s6 := same_new0 (o := .lst [.int 0, .int 0, .int 0, .int 1, .int 0, .int 0, .int 0]) hm
  have s56 := s5.trans s6
  refine ⟨l, m, _, [0, 0, 0, 1, 0, 0, 0], rfl, rfl, s6 _ _ upd_same, upd_same, ?_⟩
  have sAll := s24.trans s56
  have hX : LX CS CH [(PT, "law.<locals>." ++ "<lambda>")] _ la q5 D n.bits L1 L2 L3 t := ⟨al.same sAll, e54.same s56, s56 _ _ e4, tabs_same (tabs_kp tb kp1) sAll⟩
  have hp6 := hp4.same s56
  generalize upd (upd H4 l _) m _ = H6 at *
  have hbars := bars_iff tk.tn
  generalize decide ([n.p1, n.p2, n.p3, n.w, n.n1, n.n2, n.n3] = [0, 0, 0, 1, 0, 0, 0]) = bars at *
  have d1 : rk L1 ≤ n.bits := rk_le_bits tk.b1
  have d2 : rk L2 ≤ n.bits := rk_le_bits tk.b2
  have d3 : rk L3 ≤ n.bits := rk_le_bits tk.b3
  generalize n.bits = b at *
  refine ⟨_, rfl, _, rfl, _, rfl, _, rfl, q5, la, b, bars, L1, L2, L3, t, rfl, hX.th3, hX.tri, hF, hbars, fun H7 s7 => ⟨_, rfl, itf rfl ?_⟩⟩
  have hX7 := hX.same s7
  refine ⟨_, rfl, D, [rk L1, rk L2, rk L3], rfl, hX7.du, (by show 0 < 3; decide), fun mo hmo hle => ⟨_, rfl, bars, rfl, _, _, rfl, rfl, ?_⟩⟩
  have mo1 : mo = rk L1 ∨ mo = rk L2 ∨ mo = rk L3 := by simpa using hmo
  have m1 := hle (rk L1) (by simp)
  have m2 := hle (rk L2) (by simp)
  have m3 := hle (rk L3) (by simp)
  have fl2 : Fld3 t → t.S.length + 1 = mo := fun f => by
    obtain ⟨x1, x2, x3, _⟩ := fil_dims tk.th (spn_ltb tk.b1) (spn_ltb tk.b2) (spn_ltb tk.b3) f
    rw [rk_spn] at x1 x2 x3
    omega
  have room : Fld3 t → t.S.length + 2 ≤ mo + (if bars = true then 1 else 0) := fun f => by
    rw [if_pos (hbars.mpr f)]
    have := fl2 f
    omega
  have room2 : mo + (if bars = true then 1 else 0) ≤ 100 := by split <;> omega
  have moL : mo ≤ mo + (if bars = true then 1 else 0) := Nat.le_add_right _ _
  refine ⟨_, rfl, q5, b, _, _, _, t, rfl, hX7.th3, hF.th, hF.w1, hF.w2, hF.w3, hF.bb, fun H8 m' s8 f1 f2 => ⟨_, rfl, ?_⟩⟩
  have em : m' = mo + (if bars = true then 1 else 0) := by
    by_cases f : Fld3 t
    · rw [if_pos (hbars.mpr f), f1 f]
      have := fl2 f
      omega
    · rw [if_neg (fun z => f (hbars.mp z))]
      obtain ⟨z, z1, z2, z3⟩ := f2 f
      have z : m' = rk L1 ∨ m' = rk L2 ∨ m' = rk L3 := z
      have z1 : rk L1 ≤ m' := z1
      have z2 : rk L2 ≤ m' := z2
      have z3 : rk L3 ≤ m' := z3
      omega
  subst em
  refine ⟨_, rfl, _, rfl, itf rfl ?_⟩
  have hX8 := hX7.same s8
  have hp8 := (hp6.same s7).same s8
  refine ⟨_, rfl, _, rfl, _, rfl, _, rfl, q5, la, b, _, L1, L2, L3, t, rfl, hX8.th3, hX8.tri, hF, (by omega), (by omega), (by omega), (by omega), room, fun H9 s9 => ⟨_, rfl, itf rfl ?_⟩⟩
  have hX9 := hX8.same s9
  refine ⟨_, rfl, _, rfl, _, rfl, _, rfl, _, rfl, p, lc, _, 6, rfl, hp8.same s9, (by decide), bigN (by decide), (by show N + 100000 + 1 ≤ 1099511627776; omega), fun H10 r hr10 hp10 kp10 => ⟨_, _, rfl, rfl, ?_⟩⟩
  have hX10 := hX9.kp kp10
  refine ⟨q5, la, b, _, L1, L2, L3, t, rfl, hX10.th3, hX10.tri, hF, (by omega), (by omega), (by omega), (by omega), fun f => Nat.le_trans (room f) (Nat.le_add_right _ _), fun H11 s11 => ⟨_, rfl, itf rfl ?_⟩⟩
  exact hT H11 p lc la q5 D _ b mo bars L1 L2 L3 t _ _ _ _ (by show N + 100000 + 1 + 100 ≤ 1099511627776; omega) (hp10.same s11) (hX10.same s11) hF hbars (by omega) (fun i hi => by
    match i, hi with
    | 0, _ => exact m1
    | 1, _ => exact m2
    | 2, _ => exact m3) mo1 k
theorem ok_law (F : FnP K "law" "law" s_law f fd) (D_beginL : Dn P w K mg base 1 "_law_begin" ["_law_script"] (sp_begin K)) (D_numbersL : Dn P w K mg base 2 "_law_numbers" ["_law_tape", "_law_most"] sp_numbersL) (D_tripleL : Dn P w K mg base 5 "_law_triple" ["_law_tape", "_law_numbers_here", "_law_outside"] sp_triple) (D_three_ofL : Dn P w K mg base 10 "_law_three_of" ["_law_bits", "_law_lists"] (sp_three_of CS CH)) (D_rankL : Dn P w K mg base 3 "_law_rank" ["_law_words"] sp_rank) (D_free_rightL : Dn P w K mg base 9 "_law_free_right" ["_law_three", "_law_lists", "_law_bits", "_law_banks"] (sp_freright CS CH)) (D_least_banks : Dn P w K mg base 8 "least_banks" ["three"] (sp_leastb CS CH)) (D_whole_isL : Dn P w K mg base 1 "_law_whole_is" ["_law_value", "_law_due"] sp_whole_is) (D_drawL : Dn P w K mg base 1 "_law_draw" ["_law_tape", "_law_limit"] sp_draw) (D_filled : Dn P w K mg base 7 "filled" ["three"] (sp_filled CS CH)) (D_filled_rightL : Dn P w K mg base 8 "_law_filled_right" ["_law_three", "_law_lists", "_law_bits", "_law_bars"] (sp_filright CS CH)) (D_free_banks : Dx P w K mg base 8 "free_banks" ["three", "banks"] (sp_freeX CS CH CM CT CF)) (RFD : RefD K mg) (EW : ErrT K mg CT CL "TooWide" "index") (EF : ErrT K mg CF CL "Filled" "rows") (glL : mg "LaneError" = some (.ref CL)) (hFT : PySem.W.exmOne K (.ref CF) (.ref CT) = some false) (TB : LamX.TabB base mg c PT) (hcode : fd.code = .ref c) : FnOk P w K mg base CX0 11 f fd ["_law_script"] (sp_lawT K PT) := by
  have nd := sc_law.nd
  refine fnokC F sc_law (fun vs H Q E h => ?_) (fun A outer s H vs Q E hr h => ?_)
  · obtain ⟨a, ns, rfl, _⟩ := h
    rfl
  · obtain ⟨a, ns, rfl, hS, hl, tb, k⟩ := h
    have tb : LamX.Tabs [(PT, "law.<locals>." ++ "<lambda>")] H := fun p hp => by
      rw [List.mem_singleton.mp hp]
      exact LamX.TabS.nil tb
    obtain ⟨tt, hP, hT⟩ := law_tailB (H0 := H) (Q := Q) (E := E) T TS TM TH D_tripleL D_three_ofL D_rankL D_free_rightL D_least_banks D_whole_isL D_drawL D_filled D_filled_rightL D_free_banks RFD EW EF glL hFT TB hcode hr
    refine ⟨_, (pss_cons (ps_set (i := 1) nd rfl (Or.inl rfl) (pe_d D_beginL hr (pa_cons (pv 0) pa_nil)))
  (pss_cons (ps_set (i := 2) nd rfl (Or.inl rfl) (pe_d D_numbersL hr (pa_cons (pv 1) (pa_cons (pe_ix ix_q (pe_lst (pa_cons pe_int (pa_cons pe_int (pa_cons pe_int (pa_cons pe_int (pa_cons pe_int (pa_cons pe_int pa_nil))))))) (pe_d D_drawL hr (pa_cons (pv 1) (pa_cons pe_int pa_nil))) (fun _ _ => rfl)) pa_nil))))
  hP)), ?_⟩
    refine ⟨_, rfl, a, ns, rfl, hS, (by omega), fun H1 p lc s1 hpn hp1 => ?_⟩
    refine ⟨_, rfl, (by show 6 ≤ sizeLine; decide), fun l hl => ?_⟩
    have s2 := same_new0 (o := .lst [.int 5, .int 3, .int 3, .int 3, .int 3, .int 3]) hl
    have e2 : upd H1 l (.lst [.int 5, .int 3, .int 3, .int 3, .int 3, .int 3]) l = some (.lst [.int 5, .int 3, .int 3, .int 3, .int 3, .int 3]) := upd_same
    have hp2 := hp1.same s2
    generalize upd H1 l _ = H2 at *
    refine ⟨_, rfl, p, lc, 0, 6, rfl, hp2, (by decide), bigN (by decide), (by decide), fun H3 r hr3 hp3 kp3 => ?_⟩
    obtain ⟨m, em, lm⟩ := six_of hr3
    refine ⟨l, _, r, vN m, rfl, rfl, .inl (kp3 _ _ e2 rfl), em, ?_⟩
    refine ⟨p, lc, _, m, rfl, hp3, lm, (by decide), fun H4 q n hs hq e4 hp4 kp4 => ?_⟩
    exact hT H4 p lc q _ n _ (by decide) hp4 hs e4 (tabs_kp (tabs_kp (tabs_same tb (s1.trans s2)) kp3) kp4) k
end
end LaneX
set_option Elab.async false
set_option linter.all false
set_option maxRecDepth 100000
set_option maxHeartbeats 0
namespace LaneX
open PySem PySem.Spec PyProof.Rows L2
theorem exC_ok {K : PySem.W.Frag} {C : Addr} (c : Cls K C) (h : exC K C = true) : ObjT K C ∧ PySem.W.selfFirst K C = true := by
  obtain ⟨h1, h⟩ := He.ba h
  obtain ⟨h2, h⟩ := He.ba h
  obtain ⟨h3, h⟩ := He.ba h
  obtain ⟨h4, h⟩ := He.ba h
  obtain ⟨h5, h6⟩ := He.ba h
  exact ⟨⟨c, He.eqO_ok h1, He.eqO_ok h5, of_decide_eq_true h2, of_decide_eq_true h3, of_decide_eq_true h4⟩, h6⟩
theorem exE_ok {K : PySem.W.Frag} {C D : Addr} (h : exE K C D = true) : ExcC K C ∧ PySem.W.kitOne K (.ref C) (.ref D) = some true := by
  obtain ⟨h1, h⟩ := He.ba h
  obtain ⟨h2, h⟩ := He.ba h
  obtain ⟨h3, h⟩ := He.ba h
  obtain ⟨h4, h⟩ := He.ba h
  obtain ⟨h5, h⟩ := He.ba h
  obtain ⟨h6, h⟩ := He.ba h
  obtain ⟨h7, h⟩ := He.ba h
  obtain ⟨h8, h9⟩ := He.ba h
  exact ⟨⟨He.eqO_ok h1, He.eqO_ok h2, of_decide_eq_true h3, h4, He.eqO_ok h5, He.eqO_ok h6, of_decide_eq_true h7, of_decide_eq_true h8⟩, of_decide_eq_true h9⟩
theorem facts {w : World} {K : PySem.W.Frag} {h : Heap} {mg : Str → Option Value} {f : Addr} (X : K.In h) (G : h.Ns mainGlobals mg) (hfa : mg ("law" : Str) = some (.ref f)) (c : He.SaysD fa fn K) (ex : exB K = true) :
    ∃ fd : FuncData, (∀ (s : Shared) (v : Value), BindsTo s fd ⟨[v], []⟩ [("_law_script", v)]) ∧ ∀ base : Heap, K.In base → base.Ns mainGlobals mg → LamX.TabB base mg (He.cT K ("law", none)).1 (He.cT K ("law", none)).2 → FnOk PySem.Challenge.rw_laneswap_k26_whole_free_for_three.prog w K mg base CX0 11 f fd ["_law_script"] (sp_lawT K (He.cT K ("law", none)).2) := by
  obtain ⟨fd_is_whole, F_is_whole⟩ := c.def_ 0 (d := d_is_whole) rfl
  obtain ⟨fd_need_whole, F_need_whole⟩ := c.def_ 1 (d := d_need_whole) rfl
  obtain ⟨fd_need_items, F_need_items⟩ := c.def_ 2 (d := d_need_items) rfl
  obtain ⟨fd_need_word, F_need_word⟩ := c.def_ 3 (d := d_need_word) rfl
  obtain ⟨fd_need_words, F_need_words⟩ := c.def_ 4 (d := d_need_words) rfl
  obtain ⟨fd_cleared, F_cleared⟩ := c.def_ 5 (d := d_cleared) rfl
  obtain ⟨fd_grown, F_grown⟩ := c.def_ 6 (d := d_grown) rfl
  obtain ⟨fd_spanned, F_spanned⟩ := c.def_ 7 (d := d_spanned) rfl
  obtain ⟨fd_paired, F_paired⟩ := c.def_ 8 (d := d_paired) rfl
  obtain ⟨fd_kernel_rows, F_kernel_rows⟩ := c.def_ 9 (d := d_kernel_rows) rfl
  obtain ⟨fd_met, F_met⟩ := c.def_ 10 (d := d_met) rfl
  obtain ⟨fd_Space_init, F_Space_init⟩ := c.def_ 11 (d := d_Space_init) rfl
  obtain ⟨fd_need_space, F_need_space⟩ := c.def_ 12 (d := d_need_space) rfl
  obtain ⟨fd_every, F_every⟩ := c.def_ 13 (d := d_every) rfl
  obtain ⟨fd_Space_and, F_Space_and⟩ := c.def_ 14 (d := d_Space_and) rfl
  obtain ⟨fd_Space_completing, F_Space_completing⟩ := c.def_ 15 (d := d_Space_completing) rfl
  obtain ⟨fd_ones, F_ones⟩ := c.def_ 16 (d := d_ones) rfl
  obtain ⟨fd_image_of, F_image_of⟩ := c.def_ 17 (d := d_image_of) rfl
  obtain ⟨fd_solved, F_solved⟩ := c.def_ 18 (d := d_solved) rfl
  obtain ⟨fd_Map_init, F_Map_init⟩ := c.def_ 19 (d := d_Map_init) rfl
  obtain ⟨fd_drawL, F_drawL⟩ := c.def_ 20 (d := d_drawL) rfl
  obtain ⟨fd_beginL, F_beginL⟩ := c.def_ 21 (d := d_beginL) rfl
  obtain ⟨fd_pickL, F_pickL⟩ := c.def_ 22 (d := d_pickL) rfl
  obtain ⟨fd_whole_isL, F_whole_isL⟩ := c.def_ 23 (d := d_whole_isL) rfl
  obtain ⟨fd_lessL, F_lessL⟩ := c.def_ 24 (d := d_lessL) rfl
  obtain ⟨fd_rowsL, F_rowsL⟩ := c.def_ 25 (d := d_rowsL) rfl
  obtain ⟨fd_sumL, F_sumL⟩ := c.def_ 26 (d := d_sumL) rfl
  obtain ⟨fd_wordL, F_wordL⟩ := c.def_ 27 (d := d_wordL) rfl
  obtain ⟨fd_orderL, F_orderL⟩ := c.def_ 28 (d := d_orderL) rfl
  obtain ⟨fd_mixtureL, F_mixtureL⟩ := c.def_ 29 (d := d_mixtureL) rfl
  obtain ⟨fd_blendL, F_blendL⟩ := c.def_ 30 (d := d_blendL) rfl
  obtain ⟨fd_Map_mul, F_Map_mul⟩ := c.def_ 31 (d := d_Map_mul) rfl
  obtain ⟨fd_need_one_to_one, F_need_one_to_one⟩ := c.def_ 32 (d := d_need_one_to_one) rfl
  obtain ⟨fd_need_onto, F_need_onto⟩ := c.def_ 33 (d := d_need_onto) rfl
  obtain ⟨fd_Map_invert, F_Map_invert⟩ := c.def_ 34 (d := d_Map_invert) rfl
  obtain ⟨fd_rankL, F_rankL⟩ := c.def_ 35 (d := d_rankL) rfl
  obtain ⟨fd_numberL, F_numberL⟩ := c.def_ 36 (d := d_numberL) rfl
  obtain ⟨fd_is_mapL, F_is_mapL⟩ := c.def_ 37 (d := d_is_mapL) rfl
  obtain ⟨fd_any_space, F_any_space⟩ := c.def_ 38 (d := d_any_space) rfl
  obtain ⟨fd_Space_add, F_Space_add⟩ := c.def_ 39 (d := d_Space_add) rfl
  obtain ⟨fd_own_words, F_own_words⟩ := c.def_ 40 (d := d_own_words) rfl
  obtain ⟨fd_found_planes, F_found_planes⟩ := c.def_ 41 (d := d_found_planes) rfl
  obtain ⟨fd_Three_init, F_Three_init⟩ := c.def_ 42 (d := d_Three_init) rfl
  obtain ⟨fd_Three_numbers, F_Three_numbers⟩ := c.def_ 43 (d := d_Three_numbers) rfl
  obtain ⟨fd_all_words, F_all_words⟩ := c.def_ 44 (d := d_all_words) rfl
  obtain ⟨fd_numbersL, F_numbersL⟩ := c.def_ 45 (d := d_numbersL) rfl
  obtain ⟨fd_tripleL, F_tripleL⟩ := c.def_ 46 (d := d_tripleL) rfl
  obtain ⟨fd_three_ofL, F_three_ofL⟩ := c.def_ 47 (d := d_three_ofL) rfl
  obtain ⟨fd_tops_of, F_tops_of⟩ := c.def_ 48 (d := d_tops_of) rfl
  obtain ⟨fd_missing, F_missing⟩ := c.def_ 49 (d := d_missing) rfl
  obtain ⟨fd_outside, F_outside⟩ := c.def_ 50 (d := d_outside) rfl
  obtain ⟨fd_need_three, F_need_three⟩ := c.def_ 51 (d := d_need_three) rfl
  obtain ⟨fd_filled, F_filled⟩ := c.def_ 52 (d := d_filled) rfl
  obtain ⟨fd_plane_images, F_plane_images⟩ := c.def_ 53 (d := d_plane_images) rfl
  obtain ⟨fd_laid_images, F_laid_images⟩ := c.def_ 54 (d := d_laid_images) rfl
  obtain ⟨fd_free_banks, F_free_banks⟩ := c.def_ 55 (d := d_free_banks) rfl
  obtain ⟨fd_least_banks, F_least_banks⟩ := c.def_ 56 (d := d_least_banks) rfl
  obtain ⟨fd_images_rankL, F_images_rankL⟩ := c.def_ 57 (d := d_images_rankL) rfl
  obtain ⟨fd_filled_rightL, F_filled_rightL⟩ := c.def_ 58 (d := d_filled_rightL) rfl
  obtain ⟨fd_free_rightL, F_free_rightL⟩ := c.def_ 59 (d := d_free_rightL) rfl
  obtain ⟨fd_law, F_law⟩ := c.def_ 60 (d := d_law) rfl
  obtain ⟨fd_refusalL, F_refusalL⟩ := c.def_ 61 (d := d_refusalL) rfl
  have T : Bt mg := ⟨He.free_ok X G (c.fact 0 (f := .free "all") rfl), He.free_ok X G (c.fact 1 (f := .free "bool") rfl), He.free_ok X G (c.fact 2 (f := .free "enumerate") rfl), He.free_ok X G (c.fact 3 (f := .free "int") rfl), He.free_ok X G (c.fact 4 (f := .free "isinstance") rfl), He.free_ok X G (c.fact 5 (f := .free "len") rfl), He.free_ok X G (c.fact 6 (f := .free "list") rfl), He.free_ok X G (c.fact 7 (f := .free "max") rfl), He.free_ok X G (c.fact 8 (f := .free "min") rfl), He.free_ok X G (c.fact 9 (f := .free "range") rfl), He.free_ok X G (c.fact 10 (f := .free "sorted") rfl), He.free_ok X G (c.fact 11 (f := .free "sum") rfl), He.free_ok X G (c.fact 12 (f := .free "tuple") rfl), He.free_ok X G (c.fact 13 (f := .free "zip") rfl)⟩
  have XW : Xi PySem.Challenge.rw_laneswap_k26_whole_free_for_three.prog K mg (He.ga K "TooWide") "index" "index" := exkB_ok ((He.ba (He.ba (He.ba (He.ba ex).1).1).1).2) (fun _ _ _ _ _ _ _ _ _ _ _ _ _ _ _ _ _ => rfl) (by decide) (by decide) sup_free (He.free_ok X G (c.fact 96 (f := .free "super") rfl)) rfl
  have glW : mg "TooWide" = some (.ref (He.ga K "TooWide")) := He.glo_ok X G (c.fact 94 (f := .glo "TooWide") rfl)
  have XF : Xi PySem.Challenge.rw_laneswap_k26_whole_free_for_three.prog K mg (He.ga K "Filled") "rows" "rows" := exkB_ok ((He.ba (He.ba (He.ba ex).1).1).2) (fun _ _ _ _ _ _ _ _ _ _ _ _ _ _ _ _ _ => rfl) (by decide) (by decide) sup_free (He.free_ok X G (c.fact 96 (f := .free "super") rfl)) rfl
  have glF : mg "Filled" = some (.ref (He.ga K "Filled")) := He.glo_ok X G (c.fact 95 (f := .glo "Filled") rfl)
  have EWo := exE_ok (He.ba ((He.ba (He.ba ex).1).2)).1
  have EW : ErrT K mg (He.ga K "TooWide") (He.ga K "LaneError") "TooWide" "index" := ⟨He.glo_ok X G (c.fact 94 (f := .glo "TooWide") rfl), EWo.1, EWo.2, ⟨EWo.1.hg, EWo.1.hk, EWo.1.hs, EWo.1.hd⟩, He.eqO_ok (He.ba ((He.ba (He.ba ex).1).2)).2, He.exm_ok (c.fact 98 (f := .exm "TooWide" "TooWide" true) rfl)⟩
  have EFo := exE_ok (He.ba ((He.ba ex).2)).1
  have EF : ErrT K mg (He.ga K "Filled") (He.ga K "LaneError") "Filled" "rows" := ⟨He.glo_ok X G (c.fact 95 (f := .glo "Filled") rfl), EFo.1, EFo.2, ⟨EFo.1.hg, EFo.1.hk, EFo.1.hs, EFo.1.hd⟩, He.eqO_ok (He.ba ((He.ba ex).2)).2, He.exm_ok (c.fact 99 (f := .exm "Filled" "Filled" true) rfl)⟩
  have glL : mg "LaneError" = some (.ref (He.ga K "LaneError")) := He.glo_ok X G (c.fact 97 (f := .glo "LaneError") rfl)
  have hFT := He.exm_ok (c.fact 100 (f := .exm "Filled" "TooWide" false) rfl)
  have RFD : RefD K mg := ⟨_, fd_refusalL, He.glo_ok X G (c.fact 101 (f := .glo "_law_refusal") rfl), F_refusalL.kp, (F_refusalL.bindsN fun _ _ _ _ _ _ us hl => match us, hl with | [_], _ => rfl), F_refusalL⟩
  have hcode : fd_law.code = .ref (He.cT K ("law", none)).1 := by
    obtain ⟨oc, od, dV, kV, doc, pm, an, cdv, ct, osl, e, lk, hcd, _, _⟩ := F_law.ex
    obtain ⟨c0, e0⟩ := He.codeIn_ref hcd
    have e1 : fd_law.code = .ref c0 := by rw [e]; exact e0
    rw [e1]
    show Value.ref c0 = .ref (He.codeOf K ("law", none))
    exact congrArg Value.ref (He.codeOf_eq lk e1).symm
  have TSo := exC_ok (He.cls_ok (c.fact 15 (f := .cls "Space") rfl)) ((He.ba (He.ba (He.ba (He.ba (He.ba (He.ba ex).1).1).1).1).1).1)
  have TS : SpaceT K mg (He.ga K "Space") := { TSo.1 with gl := He.glo_ok X G (c.fact 14 (f := .glo "Space") rfl), nb := He.noat_ok (c.fact 17 (f := .noat "Space" "bits") rfl), nr := He.noat_ok (c.fact 18 (f := .noat "Space" "rows") rfl), nd := He.noat_ok (c.fact 19 (f := .noat "Space" "dimension") rfl) }
  have TMo := exC_ok (He.cls_ok (c.fact 21 (f := .cls "Map") rfl)) ((He.ba (He.ba (He.ba (He.ba (He.ba (He.ba ex).1).1).1).1).1).2)
  have TM : MapT K mg (He.ga K "Map") := { TMo.1 with gl := He.glo_ok X G (c.fact 20 (f := .glo "Map") rfl), ng := He.noat_ok (c.fact 23 (f := .noat "Map" "goal") rfl), nc := He.noat_ok (c.fact 24 (f := .noat "Map" "columns") rfl), ns := He.noat_ok (c.fact 25 (f := .noat "Map" "source") rfl) }
  have THo := exC_ok (He.cls_ok (c.fact 27 (f := .cls "Three") rfl)) ((He.ba (He.ba (He.ba (He.ba (He.ba ex).1).1).1).1).2)
  have TH : ThreeT K mg (He.ga K "Three") := { THo.1 with gl := He.glo_ok X G (c.fact 26 (f := .glo "Three") rfl), nb := He.noat_ok (c.fact 29 (f := .noat "Three" "bits") rfl), ns := He.noat_ok (c.fact 30 (f := .noat "Three" "spaces") rfl), nh := He.noat_ok (c.fact 31 (f := .noat "Three" "shared") rfl), np := He.noat_ok (c.fact 32 (f := .noat "Three" "pairs") rfl), nl := He.noat_ok (c.fact 33 (f := .noat "Three" "planes") rfl), na := He.noat_ok (c.fact 34 (f := .noat "Three" "alone") rfl), no := He.noat_ok (c.fact 35 (f := .noat "Three" "outside") rfl) }
  have e := hfa.symm.trans (He.glo_ok X G (c.fact 93 (f := .glo "law") rfl))
  cases e
  have b := FunD.bindsA (ps := ["_law_script"]) F_law fun _ _ _ _ _ _ us hl => match us, hl with | [_], _ => rfl
  refine ⟨fd_law, fun s v => b s [v] rfl, fun base _ _ TB => ?_⟩
  have D_is_whole : Dn PySem.Challenge.rw_laneswap_k26_whole_free_for_three.prog w K mg base 1 "is_whole" ["value"] sp_is_whole := ⟨_, fd_is_whole, He.glo_ok X G (c.fact 36 (f := .glo "is_whole") rfl), F_is_whole.kp, (F_is_whole.bindsN fun _ _ _ _ _ _ us hl => match us, hl with | [_], _ => rfl), ok_is_whole T F_is_whole⟩
  have D_need_whole : Dn PySem.Challenge.rw_laneswap_k26_whole_free_for_three.prog w K mg base 2 "need_whole" ["value"] sp_need_whole := ⟨_, fd_need_whole, He.glo_ok X G (c.fact 37 (f := .glo "need_whole") rfl), F_need_whole.kp, (F_need_whole.bindsN fun _ _ _ _ _ _ us hl => match us, hl with | [_], _ => rfl), ok_need_whole T F_need_whole D_is_whole⟩
  have D_need_items : Dn PySem.Challenge.rw_laneswap_k26_whole_free_for_three.prog w K mg base 1 "need_items" ["value"] (sp_need_items K) := ⟨_, fd_need_items, He.glo_ok X G (c.fact 38 (f := .glo "need_items") rfl), F_need_items.kp, (F_need_items.bindsN fun _ _ _ _ _ _ us hl => match us, hl with | [_], _ => rfl), ok_need_items T F_need_items⟩
  have D_need_word : Dn PySem.Challenge.rw_laneswap_k26_whole_free_for_three.prog w K mg base 2 "need_word" ["value", "bits"] sp_need_word := ⟨_, fd_need_word, He.glo_ok X G (c.fact 39 (f := .glo "need_word") rfl), F_need_word.kp, (F_need_word.bindsN fun _ _ _ _ _ _ us hl => match us, hl with | [_, _], _ => rfl), ok_need_word T F_need_word D_is_whole⟩
  have D_need_words : Dn PySem.Challenge.rw_laneswap_k26_whole_free_for_three.prog w K mg base 3 "need_words" ["values", "bits"] sp_need_words := ⟨_, fd_need_words, He.glo_ok X G (c.fact 40 (f := .glo "need_words") rfl), F_need_words.kp, (F_need_words.bindsN fun _ _ _ _ _ _ us hl => match us, hl with | [_, _], _ => rfl), ok_need_words T F_need_words D_need_items D_need_word⟩
  have D_cleared : Dn PySem.Challenge.rw_laneswap_k26_whole_free_for_three.prog w K mg base 1 "cleared" ["rows", "word"] sp_cleared := ⟨_, fd_cleared, He.glo_ok X G (c.fact 41 (f := .glo "cleared") rfl), F_cleared.kp, (F_cleared.bindsN fun _ _ _ _ _ _ us hl => match us, hl with | [_, _], _ => rfl), ok_cleared T F_cleared⟩
  have D_grown : Dn PySem.Challenge.rw_laneswap_k26_whole_free_for_three.prog w K mg base 2 "grown" ["rows", "word"] sp_grown := ⟨_, fd_grown, He.glo_ok X G (c.fact 42 (f := .glo "grown") rfl), F_grown.kp, (F_grown.bindsN fun _ _ _ _ _ _ us hl => match us, hl with | [_, _], _ => rfl), ok_grown T F_grown D_cleared⟩
  have D_spanned : Dn PySem.Challenge.rw_laneswap_k26_whole_free_for_three.prog w K mg base 3 "spanned" ["words"] sp_spanned := ⟨_, fd_spanned, He.glo_ok X G (c.fact 43 (f := .glo "spanned") rfl), F_spanned.kp, (F_spanned.bindsN fun _ _ _ _ _ _ us hl => match us, hl with | [_], _ => rfl), ok_spanned T F_spanned D_grown⟩
  have D_paired : Dn PySem.Challenge.rw_laneswap_k26_whole_free_for_three.prog w K mg base 4 "paired" ["columns"] sp_paired := ⟨_, fd_paired, He.glo_ok X G (c.fact 44 (f := .glo "paired") rfl), F_paired.kp, (F_paired.bindsN fun _ _ _ _ _ _ us hl => match us, hl with | [_], _ => rfl), ok_paired T F_paired D_spanned⟩
  have D_kernel_rows : Dn PySem.Challenge.rw_laneswap_k26_whole_free_for_three.prog w K mg base 5 "kernel_rows" ["columns"] sp_kernel_rows := ⟨_, fd_kernel_rows, He.glo_ok X G (c.fact 45 (f := .glo "kernel_rows") rfl), F_kernel_rows.kp, (F_kernel_rows.bindsN fun _ _ _ _ _ _ us hl => match us, hl with | [_], _ => rfl), ok_kernel_rows T F_kernel_rows D_paired⟩
  have D_met : Dn PySem.Challenge.rw_laneswap_k26_whole_free_for_three.prog w K mg base 4 "met" ["bits", "rows", "others"] sp_met := ⟨_, fd_met, He.glo_ok X G (c.fact 46 (f := .glo "met") rfl), F_met.kp, (F_met.bindsN fun _ _ _ _ _ _ us hl => match us, hl with | [_, _, _], _ => rfl), ok_met T F_met D_spanned⟩
  have K_Space : Kn PySem.Challenge.rw_laneswap_k26_whole_free_for_three.prog w K mg base 4 (He.ga K "Space") "Space" ["self", "bits", "words"] (sp_Space (He.ga K "Space")) := ⟨He.glo_ok X G (c.fact 14 (f := .glo "Space") rfl), _, fd_Space_init, He.mkr_ok (c.fact 16 (f := .mkr "Space") rfl), (F_Space_init.bindsN fun _ _ _ _ _ _ us hl => match us, hl with | [_, _, _], _ => rfl), ok_Space T TS F_Space_init D_need_whole D_need_words D_spanned⟩
  have D_need_space : Dn PySem.Challenge.rw_laneswap_k26_whole_free_for_three.prog w K mg base 1 "need_space" ["value", "bits"] (sp_need_space (He.ga K "Space")) := ⟨_, fd_need_space, He.glo_ok X G (c.fact 47 (f := .glo "need_space") rfl), F_need_space.kp, (F_need_space.bindsN fun _ _ _ _ _ _ us hl => match us, hl with | [_, _], _ => rfl), ok_need_space T TS F_need_space⟩
  have D_every : Dn PySem.Challenge.rw_laneswap_k26_whole_free_for_three.prog w K mg base 6 "every" ["bits"] (sp_every (He.ga K "Space")) := ⟨_, fd_every, He.glo_ok X G (c.fact 48 (f := .glo "every") rfl), F_every.kp, (F_every.bindsN fun _ _ _ _ _ _ us hl => match us, hl with | [_], _ => rfl), ok_every T F_every D_need_whole K_Space⟩
  have M_Space_and : Mn PySem.Challenge.rw_laneswap_k26_whole_free_for_three.prog w K mg base 6 (He.ga K "Space") "__and__" ["self", "other"] (sp_and (He.ga K "Space")) := ⟨TS.cl, _, fd_Space_and, He.meth_ok (c.fact 49 (f := .meth "Space" "__and__") rfl), (F_Space_and.bindsN fun _ _ _ _ _ _ us hl => match us, hl with | [_, _], _ => rfl), ok_and T TS F_Space_and D_need_space D_met K_Space⟩
  have M_Space_completing : Mn PySem.Challenge.rw_laneswap_k26_whole_free_for_three.prog w K mg base 3 (He.ga K "Space") "completing" ["self", "other"] (sp_completing (He.ga K "Space")) := ⟨TS.cl, _, fd_Space_completing, He.meth_ok (c.fact 50 (f := .meth "Space" "completing") rfl), (F_Space_completing.bindsN fun _ _ _ _ _ _ us hl => match us, hl with | [_, _], _ => rfl), ok_completing T TS F_Space_completing D_need_space D_cleared D_grown⟩
  have D_ones : Dn PySem.Challenge.rw_laneswap_k26_whole_free_for_three.prog w K mg base 3 "ones" ["word"] sp_ones := ⟨_, fd_ones, He.glo_ok X G (c.fact 51 (f := .glo "ones") rfl), F_ones.kp, (F_ones.bindsN fun _ _ _ _ _ _ us hl => match us, hl with | [_], _ => rfl), ok_ones T F_ones D_need_whole⟩
  have D_image_of : Dn PySem.Challenge.rw_laneswap_k26_whole_free_for_three.prog w K mg base 4 "image_of" ["columns", "word"] sp_image_of := ⟨_, fd_image_of, He.glo_ok X G (c.fact 52 (f := .glo "image_of") rfl), F_image_of.kp, (F_image_of.bindsN fun _ _ _ _ _ _ us hl => match us, hl with | [_, _], _ => rfl), ok_image_of T F_image_of D_ones⟩
  have D_solved : Dn PySem.Challenge.rw_laneswap_k26_whole_free_for_three.prog w K mg base 2 "solved" ["pairs", "source", "word"] sp_solved := ⟨_, fd_solved, He.glo_ok X G (c.fact 53 (f := .glo "solved") rfl), F_solved.kp, (F_solved.bindsN fun _ _ _ _ _ _ us hl => match us, hl with | [_, _, _], _ => rfl), ok_solved T F_solved D_cleared⟩
  have K_Map : Kn PySem.Challenge.rw_laneswap_k26_whole_free_for_three.prog w K mg base 4 (He.ga K "Map") "Map" ["self", "goal", "columns"] (sp_Map (He.ga K "Map")) := ⟨He.glo_ok X G (c.fact 20 (f := .glo "Map") rfl), _, fd_Map_init, He.mkr_ok (c.fact 22 (f := .mkr "Map") rfl), (F_Map_init.bindsN fun _ _ _ _ _ _ us hl => match us, hl with | [_, _, _], _ => rfl), ok_Map T TM F_Map_init D_need_whole D_need_words⟩
  have D_drawL : Dn PySem.Challenge.rw_laneswap_k26_whole_free_for_three.prog w K mg base 1 "_law_draw" ["_law_tape", "_law_limit"] sp_draw := ⟨_, fd_drawL, He.glo_ok X G (c.fact 54 (f := .glo "_law_draw") rfl), F_drawL.kp, (F_drawL.bindsN fun _ _ _ _ _ _ us hl => match us, hl with | [_, _], _ => rfl), ok_draw T F_drawL⟩
  have D_beginL : Dn PySem.Challenge.rw_laneswap_k26_whole_free_for_three.prog w K mg base 1 "_law_begin" ["_law_script"] (sp_begin K) := ⟨_, fd_beginL, He.glo_ok X G (c.fact 55 (f := .glo "_law_begin") rfl), F_beginL.kp, (F_beginL.bindsN fun _ _ _ _ _ _ us hl => match us, hl with | [_], _ => rfl), ok_begin T F_beginL⟩
  have D_pickL : Dn PySem.Challenge.rw_laneswap_k26_whole_free_for_three.prog w K mg base 2 "_law_pick" ["_law_tape", "_law_some"] sp_pick := ⟨_, fd_pickL, He.glo_ok X G (c.fact 56 (f := .glo "_law_pick") rfl), F_pickL.kp, (F_pickL.bindsN fun _ _ _ _ _ _ us hl => match us, hl with | [_, _], _ => rfl), ok_pick T F_pickL D_drawL⟩
  have D_whole_isL : Dn PySem.Challenge.rw_laneswap_k26_whole_free_for_three.prog w K mg base 1 "_law_whole_is" ["_law_value", "_law_due"] sp_whole_is := ⟨_, fd_whole_isL, He.glo_ok X G (c.fact 57 (f := .glo "_law_whole_is") rfl), F_whole_isL.kp, (F_whole_isL.bindsN fun _ _ _ _ _ _ us hl => match us, hl with | [_, _], _ => rfl), ok_whole_is T F_whole_isL⟩
  have D_lessL : Dn PySem.Challenge.rw_laneswap_k26_whole_free_for_three.prog w K mg base 1 "_law_less" ["_law_rows_here", "_law_word_here"] sp_less := ⟨_, fd_lessL, He.glo_ok X G (c.fact 58 (f := .glo "_law_less") rfl), F_lessL.kp, (F_lessL.bindsN fun _ _ _ _ _ _ us hl => match us, hl with | [_, _], _ => rfl), ok_less T F_lessL⟩
  have D_rowsL : Dn PySem.Challenge.rw_laneswap_k26_whole_free_for_three.prog w K mg base 2 "_law_rows" ["_law_words"] sp_rows := ⟨_, fd_rowsL, He.glo_ok X G (c.fact 59 (f := .glo "_law_rows") rfl), F_rowsL.kp, (F_rowsL.bindsN fun _ _ _ _ _ _ us hl => match us, hl with | [_], _ => rfl), ok_rows T F_rowsL D_lessL⟩
  have D_sumL : Dn PySem.Challenge.rw_laneswap_k26_whole_free_for_three.prog w K mg base 1 "_law_sum" ["_law_words", "_law_number_here"] sp_sum := ⟨_, fd_sumL, He.glo_ok X G (c.fact 60 (f := .glo "_law_sum") rfl), F_sumL.kp, (F_sumL.bindsN fun _ _ _ _ _ _ us hl => match us, hl with | [_, _], _ => rfl), ok_sum T F_sumL⟩
  have D_wordL : Dn PySem.Challenge.rw_laneswap_k26_whole_free_for_three.prog w K mg base 2 "_law_word" ["_law_tape", "_law_bits"] sp_word := ⟨_, fd_wordL, He.glo_ok X G (c.fact 61 (f := .glo "_law_word") rfl), F_wordL.kp, (F_wordL.bindsN fun _ _ _ _ _ _ us hl => match us, hl with | [_, _], _ => rfl), ok_word T F_wordL D_drawL⟩
  have D_orderL : Dn PySem.Challenge.rw_laneswap_k26_whole_free_for_three.prog w K mg base 2 "_law_order" ["_law_tape", "_law_many"] sp_order := ⟨_, fd_orderL, He.glo_ok X G (c.fact 62 (f := .glo "_law_order") rfl), F_orderL.kp, (F_orderL.bindsN fun _ _ _ _ _ _ us hl => match us, hl with | [_, _], _ => rfl), ok_order T F_orderL D_drawL⟩
  have D_mixtureL : Dn PySem.Challenge.rw_laneswap_k26_whole_free_for_three.prog w K mg base 3 "_law_mixture" ["_law_tape", "_law_bits"] sp_mixture := ⟨_, fd_mixtureL, He.glo_ok X G (c.fact 63 (f := .glo "_law_mixture") rfl), F_mixtureL.kp, (F_mixtureL.bindsN fun _ _ _ _ _ _ us hl => match us, hl with | [_, _], _ => rfl), ok_mixture T F_mixtureL D_drawL D_orderL D_wordL D_sumL⟩
  have D_blendL : Dn PySem.Challenge.rw_laneswap_k26_whole_free_for_three.prog w K mg base 4 "_law_blend" ["_law_tape", "_law_words", "_law_extra"] sp_blend := ⟨_, fd_blendL, He.glo_ok X G (c.fact 64 (f := .glo "_law_blend") rfl), F_blendL.kp, (F_blendL.bindsN fun _ _ _ _ _ _ us hl => match us, hl with | [_, _, _], _ => rfl), ok_blend T F_blendL D_drawL D_mixtureL D_wordL D_sumL⟩
  have M_Map_mul : Mn PySem.Challenge.rw_laneswap_k26_whole_free_for_three.prog w K mg base 6 (He.ga K "Map") "__mul__" ["self", "other"] (sp_mul (He.ga K "Map")) := ⟨TM.cl, _, fd_Map_mul, He.meth_ok (c.fact 65 (f := .meth "Map" "__mul__") rfl), (F_Map_mul.bindsN fun _ _ _ _ _ _ us hl => match us, hl with | [_, _], _ => rfl), ok_mul T TM F_Map_mul D_image_of K_Map⟩
  have D_need_one_to_one : Dn PySem.Challenge.rw_laneswap_k26_whole_free_for_three.prog w K mg base 6 "need_one_to_one" ["change"] (sp_need_map1 (He.ga K "Map")) := ⟨_, fd_need_one_to_one, He.glo_ok X G (c.fact 66 (f := .glo "need_one_to_one") rfl), F_need_one_to_one.kp, (F_need_one_to_one.bindsN fun _ _ _ _ _ _ us hl => match us, hl with | [_], _ => rfl), ok_need_one T TM F_need_one_to_one D_kernel_rows⟩
  have D_need_onto : Dn PySem.Challenge.rw_laneswap_k26_whole_free_for_three.prog w K mg base 4 "need_onto" ["change"] (sp_need_map1 (He.ga K "Map")) := ⟨_, fd_need_onto, He.glo_ok X G (c.fact 67 (f := .glo "need_onto") rfl), F_need_onto.kp, (F_need_onto.bindsN fun _ _ _ _ _ _ us hl => match us, hl with | [_], _ => rfl), ok_need_onto T TM F_need_onto D_spanned⟩
  have M_Map_invert : Mn PySem.Challenge.rw_laneswap_k26_whole_free_for_three.prog w K mg base 7 (He.ga K "Map") "__invert__" ["self"] (sp_invert (He.ga K "Map")) := ⟨TM.cl, _, fd_Map_invert, He.meth_ok (c.fact 68 (f := .meth "Map" "__invert__") rfl), (F_Map_invert.bindsN fun _ _ _ _ _ _ us hl => match us, hl with | [_], _ => rfl), ok_invert T TM F_Map_invert D_need_one_to_one D_need_onto D_paired D_solved K_Map⟩
  have D_rankL : Dn PySem.Challenge.rw_laneswap_k26_whole_free_for_three.prog w K mg base 3 "_law_rank" ["_law_words"] sp_rank := ⟨_, fd_rankL, He.glo_ok X G (c.fact 69 (f := .glo "_law_rank") rfl), F_rankL.kp, (F_rankL.bindsN fun _ _ _ _ _ _ us hl => match us, hl with | [_], _ => rfl), ok_rank T F_rankL D_rowsL⟩
  have D_numberL : Dn PySem.Challenge.rw_laneswap_k26_whole_free_for_three.prog w K mg base 1 "_law_number" ["_law_value", "_law_limit"] sp_number := ⟨_, fd_numberL, He.glo_ok X G (c.fact 70 (f := .glo "_law_number") rfl), F_numberL.kp, (F_numberL.bindsN fun _ _ _ _ _ _ us hl => match us, hl with | [_, _], _ => rfl), ok_number T F_numberL⟩
  have D_is_mapL : Dn PySem.Challenge.rw_laneswap_k26_whole_free_for_three.prog w K mg base 2 "_law_is_map" ["_law_value", "_law_goal", "_law_source"] (sp_is_map (He.ga K "Map")) := ⟨_, fd_is_mapL, He.glo_ok X G (c.fact 71 (f := .glo "_law_is_map") rfl), F_is_mapL.kp, (F_is_mapL.bindsN fun _ _ _ _ _ _ us hl => match us, hl with | [_, _, _], _ => rfl), ok_is_map T TM F_is_mapL D_whole_isL⟩
  have D_any_space : Dn PySem.Challenge.rw_laneswap_k26_whole_free_for_three.prog w K mg base 1 "any_space" ["value"] (sp_any_space (He.ga K "Space")) := ⟨_, fd_any_space, He.glo_ok X G (c.fact 72 (f := .glo "any_space") rfl), F_any_space.kp, (F_any_space.bindsN fun _ _ _ _ _ _ us hl => match us, hl with | [_], _ => rfl), ok_any_space T TS F_any_space⟩
  have M_Space_add : Mn PySem.Challenge.rw_laneswap_k26_whole_free_for_three.prog w K mg base 6 (He.ga K "Space") "__add__" ["self", "other"] (sp_add (He.ga K "Space")) := ⟨TS.cl, _, fd_Space_add, He.meth_ok (c.fact 73 (f := .meth "Space" "__add__") rfl), (F_Space_add.bindsN fun _ _ _ _ _ _ us hl => match us, hl with | [_, _], _ => rfl), ok_add T TS F_Space_add D_need_space K_Space⟩
  have D_own_words : Dn PySem.Challenge.rw_laneswap_k26_whole_free_for_three.prog w K mg base 7 "own_words" ["spaces", "chosen"] (sp_own_words (He.ga K "Space")) := ⟨_, fd_own_words, He.glo_ok X G (c.fact 74 (f := .glo "own_words") rfl), F_own_words.kp, (F_own_words.bindsN fun _ _ _ _ _ _ us hl => match us, hl with | [_, _], _ => rfl), ok_own_words T TS F_own_words D_every K_Space M_Space_and M_Space_add TSo.2 M_Space_completing⟩
  have D_found_planes : Dn PySem.Challenge.rw_laneswap_k26_whole_free_for_three.prog w K mg base 7 "found_planes" ["spaces"] (sp_found_planes (He.ga K "Space")) := ⟨_, fd_found_planes, He.glo_ok X G (c.fact 75 (f := .glo "found_planes") rfl), F_found_planes.kp, (F_found_planes.bindsN fun _ _ _ _ _ _ us hl => match us, hl with | [_], _ => rfl), ok_found_planes T TS F_found_planes M_Space_and M_Space_add TSo.2 M_Space_completing D_paired D_image_of D_solved⟩
  have K_Three : Kn PySem.Challenge.rw_laneswap_k26_whole_free_for_three.prog w K mg base 8 (He.ga K "Three") "Three" ["self", "one", "two", "three"] (sp_Three (He.ga K "Space") (He.ga K "Three")) := ⟨He.glo_ok X G (c.fact 26 (f := .glo "Three") rfl), _, fd_Three_init, He.mkr_ok (c.fact 28 (f := .mkr "Three") rfl), (F_Three_init.bindsN fun _ _ _ _ _ _ us hl => match us, hl with | [_, _, _, _], _ => rfl), ok_Three T TS TH F_Three_init D_any_space D_need_space D_own_words D_found_planes⟩
  have M_Three_numbers : Mn PySem.Challenge.rw_laneswap_k26_whole_free_for_three.prog w K mg base 1 (He.ga K "Three") "numbers" ["self"] (sp_numbers (He.ga K "Three")) := ⟨TH.cl, _, fd_Three_numbers, He.meth_ok (c.fact 76 (f := .meth "Three" "numbers") rfl), (F_Three_numbers.bindsN fun _ _ _ _ _ _ us hl => match us, hl with | [_], _ => rfl), ok_numbers T TH F_Three_numbers⟩
  have D_all_words : Dn PySem.Challenge.rw_laneswap_k26_whole_free_for_three.prog w K mg base 1 "all_words" ["three"] (sp_all_words (He.ga K "Three")) := ⟨_, fd_all_words, He.glo_ok X G (c.fact 77 (f := .glo "all_words") rfl), F_all_words.kp, (F_all_words.bindsN fun _ _ _ _ _ _ us hl => match us, hl with | [_], _ => rfl), ok_all_words T TH F_all_words⟩
  have D_numbersL : Dn PySem.Challenge.rw_laneswap_k26_whole_free_for_three.prog w K mg base 2 "_law_numbers" ["_law_tape", "_law_most"] sp_numbersL := ⟨_, fd_numbersL, He.glo_ok X G (c.fact 78 (f := .glo "_law_numbers") rfl), F_numbersL.kp, (F_numbersL.bindsN fun _ _ _ _ _ _ us hl => match us, hl with | [_, _], _ => rfl), ok_numbersL T F_numbersL D_drawL⟩
  have D_tripleL : Dn PySem.Challenge.rw_laneswap_k26_whole_free_for_three.prog w K mg base 5 "_law_triple" ["_law_tape", "_law_numbers_here", "_law_outside"] sp_triple := ⟨_, fd_tripleL, He.glo_ok X G (c.fact 79 (f := .glo "_law_triple") rfl), F_tripleL.kp, (F_tripleL.bindsN fun _ _ _ _ _ _ us hl => match us, hl with | [_, _, _], _ => rfl), ok_triple T F_tripleL D_mixtureL D_blendL D_pickL⟩
  have D_three_ofL : Dn PySem.Challenge.rw_laneswap_k26_whole_free_for_three.prog w K mg base 10 "_law_three_of" ["_law_bits", "_law_lists"] (sp_three_of (He.ga K "Space") (He.ga K "Three")) := ⟨_, fd_three_ofL, He.glo_ok X G (c.fact 80 (f := .glo "_law_three_of") rfl), F_three_ofL.kp, (F_three_ofL.bindsN fun _ _ _ _ _ _ us hl => match us, hl with | [_, _], _ => rfl), ok_three_of T TS TH F_three_ofL K_Space K_Three⟩
  have D_tops_of : Dn PySem.Challenge.rw_laneswap_k26_whole_free_for_three.prog w K mg base 1 "tops_of" ["rows"] sp_tops_of := ⟨_, fd_tops_of, He.glo_ok X G (c.fact 81 (f := .glo "tops_of") rfl), F_tops_of.kp, (F_tops_of.bindsN fun _ _ _ _ _ _ us hl => match us, hl with | [_], _ => rfl), ok_tops_of F_tops_of⟩
  have D_missing : Dn PySem.Challenge.rw_laneswap_k26_whole_free_for_three.prog w K mg base 2 "missing" ["rows"] sp_missing := ⟨_, fd_missing, He.glo_ok X G (c.fact 82 (f := .glo "missing") rfl), F_missing.kp, (F_missing.bindsN fun _ _ _ _ _ _ us hl => match us, hl with | [_], _ => rfl), ok_missing T F_missing D_tops_of⟩
  have D_outside : Dn PySem.Challenge.rw_laneswap_k26_whole_free_for_three.prog w K mg base 3 "outside" ["rows", "others"] sp_outside := ⟨_, fd_outside, He.glo_ok X G (c.fact 83 (f := .glo "outside") rfl), F_outside.kp, (F_outside.bindsN fun _ _ _ _ _ _ us hl => match us, hl with | [_, _], _ => rfl), ok_outside T F_outside D_missing D_cleared⟩
  have D_need_three : Dn PySem.Challenge.rw_laneswap_k26_whole_free_for_three.prog w K mg base 1 "need_three" ["value"] (sp_need_three (He.ga K "Three")) := ⟨_, fd_need_three, He.glo_ok X G (c.fact 84 (f := .glo "need_three") rfl), F_need_three.kp, (F_need_three.bindsN fun _ _ _ _ _ _ us hl => match us, hl with | [_], _ => rfl), ok_need_three T TH F_need_three⟩
  have D_filled : Dn PySem.Challenge.rw_laneswap_k26_whole_free_for_three.prog w K mg base 7 "filled" ["three"] (sp_filled (He.ga K "Space") (He.ga K "Three")) := ⟨_, fd_filled, He.glo_ok X G (c.fact 85 (f := .glo "filled") rfl), F_filled.kp, (F_filled.bindsN fun _ _ _ _ _ _ us hl => match us, hl with | [_], _ => rfl), ok_filled T TS TH F_filled D_need_three M_Three_numbers M_Space_add TSo.2⟩
  have D_plane_images : Dn PySem.Challenge.rw_laneswap_k26_whole_free_for_three.prog w K mg base 1 "plane_images" ["many", "first"] sp_plane_images := ⟨_, fd_plane_images, He.glo_ok X G (c.fact 86 (f := .glo "plane_images") rfl), F_plane_images.kp, (F_plane_images.bindsN fun _ _ _ _ _ _ us hl => match us, hl with | [_, _], _ => rfl), ok_plane_images T F_plane_images⟩
  have D_laid_images : Dn PySem.Challenge.rw_laneswap_k26_whole_free_for_three.prog w K mg base 4 "laid_images" ["three"] (sp_laid (He.ga K "Three")) := ⟨_, fd_laid_images, He.glo_ok X G (c.fact 87 (f := .glo "laid_images") rfl), F_laid_images.kp, (F_laid_images.bindsN fun _ _ _ _ _ _ us hl => match us, hl with | [_], _ => rfl), ok_laid T TH F_laid_images D_plane_images D_outside D_missing D_grown⟩
  have D_free_banks : Dx PySem.Challenge.rw_laneswap_k26_whole_free_for_three.prog w K mg base 8 "free_banks" ["three", "banks"] (sp_freeX (He.ga K "Space") (He.ga K "Three") (He.ga K "Map") (He.ga K "TooWide") (He.ga K "Filled")) := ⟨_, fd_free_banks, He.glo_ok X G (c.fact 88 (f := .glo "free_banks") rfl), F_free_banks.kp, (F_free_banks.bindsN fun _ _ _ _ _ _ us hl => match us, hl with | [_, _], _ => rfl), ok_freeX T TS TM TH F_free_banks D_need_three D_need_whole D_filled D_laid_images D_all_words K_Map M_Map_mul M_Map_invert TMo.2 XW glW XF glF⟩
  have D_least_banks : Dn PySem.Challenge.rw_laneswap_k26_whole_free_for_three.prog w K mg base 8 "least_banks" ["three"] (sp_leastb (He.ga K "Space") (He.ga K "Three")) := ⟨_, fd_least_banks, He.glo_ok X G (c.fact 89 (f := .glo "least_banks") rfl), F_least_banks.kp, (F_least_banks.bindsN fun _ _ _ _ _ _ us hl => match us, hl with | [_], _ => rfl), ok_leastb T TS TH F_least_banks D_filled⟩
  have D_images_rankL : Dn PySem.Challenge.rw_laneswap_k26_whole_free_for_three.prog w K mg base 4 "_law_images_rank" ["_law_found", "_law_words"] (sp_imrank (He.ga K "Map")) := ⟨_, fd_images_rankL, He.glo_ok X G (c.fact 90 (f := .glo "_law_images_rank") rfl), F_images_rankL.kp, (F_images_rankL.bindsN fun _ _ _ _ _ _ us hl => match us, hl with | [_, _], _ => rfl), ok_imrank T TM F_images_rankL D_rankL D_sumL⟩
  have D_filled_rightL : Dn PySem.Challenge.rw_laneswap_k26_whole_free_for_three.prog w K mg base 8 "_law_filled_right" ["_law_three", "_law_lists", "_law_bits", "_law_bars"] (sp_filright (He.ga K "Space") (He.ga K "Three")) := ⟨_, fd_filled_rightL, He.glo_ok X G (c.fact 91 (f := .glo "_law_filled_right") rfl), F_filled_rightL.kp, (F_filled_rightL.bindsN fun _ _ _ _ _ _ us hl => match us, hl with | [_, _, _, _], _ => rfl), ok_filright T TS TH F_filled_rightL D_filled D_whole_isL D_rankL⟩
  have D_free_rightL : Dn PySem.Challenge.rw_laneswap_k26_whole_free_for_three.prog w K mg base 9 "_law_free_right" ["_law_three", "_law_lists", "_law_bits", "_law_banks"] (sp_freright (He.ga K "Space") (He.ga K "Three")) := ⟨_, fd_free_rightL, He.glo_ok X G (c.fact 92 (f := .glo "_law_free_right") rfl), F_free_rightL.kp, (F_free_rightL.bindsN fun _ _ _ _ _ _ us hl => match us, hl with | [_, _, _, _], _ => rfl), ok_freright T TS TM TH F_free_rightL D_free_banks D_is_mapL D_numberL D_images_rankL D_rankL⟩
  exact ok_law T TS TM TH F_law D_beginL D_numbersL D_tripleL D_three_ofL D_rankL D_free_rightL D_least_banks D_whole_isL D_drawL D_filled D_filled_rightL D_free_banks RFD EW EF glL hFT TB hcode
end LaneX
open PySem PySem.W PySem.Calls PyProof.Rows
theorem PySem.Challenge.cw_laneswap_k26_whole_free_for_three_holds : PySem.Challenge.rw_laneswap_k26_whole_free_for_three.Holds := by
  refine LaneX.hd ?_
  refine LamX.walk_ofTsE (l := PySem.Challenge.rw_laneswap_k26_whole_free_for_three) (n := 63) (k := 11) (x := "_law_script") (CX := fun _ => L2.CX0) rfl (by decide) LaneX.dp_law ⟨rfl, by decide, by decide⟩ ?F (fun _ _ _ _ _ z => z)
  intro w mg fa h Y G hmg0
  obtain ⟨K, KX, c⟩ := Y
  have hmg : mg ("law" : PySem.Str) = some (.ref fa) := by
    rw [← LaneX.nm_law]
    exact hmg0
  obtain ⟨fd, hb, hF⟩ := LaneX.facts (w := w) KX G hmg c.t.d c.more
  refine ⟨K, KX, fd, [He.cT K ("law", none)], LaneX.sp_lawT K (He.cT K ("law", none)).2, fun p hp => ?_, fun p hp => ?_, fun p hp => ?_, hb, fun H a ns hl _ hT hS => ⟨a, ns, rfl, hS, hl, hT _ (List.mem_singleton.mpr rfl), fun _ => rfl⟩, fun base X G TB => hF base X G (TB _ (List.mem_singleton.mpr rfl))⟩
  · rw [List.mem_singleton.mp hp]
    exact c.empty _ (List.mem_singleton.mpr rfl)
  · rw [List.mem_singleton.mp hp]
    exact c.out _ (List.mem_singleton.mpr rfl)
  · rw [List.mem_singleton.mp hp]
    exact PySem.W.codeHd_of_K KX (c.hd _ (List.mem_singleton.mpr rfl))
