import PyProof.Rows.All
import Wide.All
import OpenK.AllK
import Wide.FinOn
import KE.KStateDown
import KE.BitLaws
import HandS.ForMost
import HandS.Flow
import HandS.Wide
import HandS.WideBits
import HandS.IsInst
import HandS.SortInts
import HandS.Conv
import HandS.Zip
import HandS.More
import HandS.WordsExc
import HandS.Defaults
import HandS.Walk
import KE.KEqSeq
import HandS.OwnEq
import PyProof.InstEq
import HandS.Iter
import KE.GoesMore
import HandS.SetFor
import PySem.Challenge.RW_laneswap_k18_whole_rounds_walked
import HandS.TryOnly
import HandS.Small
import HandS.Base
import HandS.Call
import HandS.Ends
import HandS.Words
import HandS.Head0
import HandS.Head1
import HandS.Head2
import HandS.HeadEnd
import HandS.HeadHook1
import HandS.HeadHook2
import HandS.HeadHook3
import HandS.HeadHook4
set_option linter.all false
namespace LaneX
/-! ### plain mathematics: words, rows -/
/-- the number of bits -/
def blen (n : Nat) : Nat := if n = 0 then 0 else n.log2 + 1
theorem blen_zero : blen 0 = 0 := rfl
theorem blen_pos {n : Nat} (h : n ≠ 0) : 1 ≤ blen n := by unfold blen; rw [if_neg h]; omega
theorem lt_blen (n : Nat) : n < 2 ^ blen n := by
  unfold blen
  split
  · subst_vars; decide
  · exact Nat.lt_log2_self
theorem blen_le {n k : Nat} : blen n ≤ k ↔ n < 2 ^ k := by
  constructor
  · intro h; exact Nat.lt_of_lt_of_le (lt_blen n) (Nat.pow_le_pow_right (by decide) h)
  · intro h
    unfold blen
    split
    · omega
    · rename_i h0
      have := (Nat.log2_lt h0).mpr h
      omega
theorem testBit_top {n : Nat} (h : n ≠ 0) : n.testBit (blen n - 1) = true := by
  unfold blen
  rw [if_neg h, Nat.add_sub_cancel]
  exact Nat.testBit_log2 h
theorem testBit_ge {n i : Nat} (h : blen n ≤ i) : n.testBit i = false :=
  Nat.testBit_lt_two_pow (blen_le.mp h)
theorem shr_and_one (n i : Nat) : ((n >>> i) &&& 1 = 1) ↔ n.testBit i = true := by
  rw [Nat.testBit_eq_decide_div_mod_eq, Nat.shiftRight_eq_div_pow, Nat.and_one_is_mod, decide_eq_true_iff]
/-- a word cleared by rows -/
def clr (rows : List Nat) (w : Nat) : Nat := rows.foldl (fun l r => if l.testBit (blen r - 1) = true then l ^^^ r else l) w
/-- sorting by insertion -/
def ins (x : Nat) : List Nat → List Nat
  | [] => [x]
  | y :: r => if x ≤ y then x :: y :: r else y :: ins x r
def srt : List Nat → List Nat
  | [] => []
  | x :: r => ins x (srt r)
theorem ins_perm (x : Nat) : ∀ l, (ins x l).Perm (x :: l)
  | [] => .refl _
  | y :: r => by
    unfold ins
    split
    · exact .refl _
    · exact ((ins_perm x r).cons y).trans (.swap _ _ _)
theorem srt_perm : ∀ l, (srt l).Perm l
  | [] => .refl _
  | x :: r => (ins_perm x (srt r)).trans ((srt_perm r).cons x)
theorem ins_sorted {x : Nat} : ∀ {l : List Nat}, l.Pairwise (· ≤ ·) → (ins x l).Pairwise (· ≤ ·)
  | [], _ => by simp [ins]
  | y :: r, h => by
    unfold ins
    have h' := List.pairwise_cons.mp h
    split
    · rename_i hxy
      refine List.pairwise_cons.mpr ⟨fun z hz => ?_, h⟩
      rcases List.mem_cons.mp hz with rfl | hz
      · exact hxy
      · exact Nat.le_trans hxy (h'.1 z hz)
    · rename_i hxy
      refine List.pairwise_cons.mpr ⟨fun z hz => ?_, ins_sorted h'.2⟩
      rcases List.mem_cons.mp ((ins_perm x r).mem_iff.mp hz) with rfl | hz
      · omega
      · exact h'.1 z hz
theorem srt_sorted : ∀ l, (srt l).Pairwise (· ≤ ·)
  | [] => .nil
  | x :: r => ins_sorted (srt_sorted r)
theorem sorted_unique : ∀ {l m : List Nat}, l.Perm m → l.Pairwise (· ≤ ·) → m.Pairwise (· ≤ ·) → l = m
  | [], m, p, _, _ => by simpa using p.symm.eq_nil
  | x :: l, [], p, _, _ => by simpa using p.eq_nil
  | x :: l, y :: m, p, h1, h2 => by
    have a := List.pairwise_cons.mp h1
    have b := List.pairwise_cons.mp h2
    have e : x = y := by
      have hx : x ∈ y :: m := p.mem_iff.mp List.mem_cons_self
      have hy : y ∈ x :: l := p.mem_iff.mpr List.mem_cons_self
      rcases List.mem_cons.mp hx with rfl | hx
      · rfl
      · rcases List.mem_cons.mp hy with rfl | hy
        · rfl
        · exact Nat.le_antisymm (a.1 y hy) (b.1 x hx)
    subst e
    rw [sorted_unique ((List.perm_cons x).mp p) a.2 b.2]
theorem srt_of {l m : List Nat} (p : m.Perm l) (h : m.Pairwise (· ≤ ·)) : m = srt l := sorted_unique (p.trans (srt_perm l).symm) h (srt_sorted l)
/-- rows with one more word -/
def grw (rows : List Nat) (w : Nat) : List Nat := if clr rows w = 0 then rows else
  srt ((rows.map fun r => if r.testBit (blen (clr rows w) - 1) = true then r ^^^ clr rows w else r) ++ [clr rows w])
def spn (ws : List Nat) : List Nat := ws.foldl grw []
theorem clr_append (a b : List Nat) (w : Nat) : clr (a ++ b) w = clr b (clr a w) := List.foldl_append ..
theorem spn_append (a b : List Nat) : spn (a ++ b) = b.foldl grw (spn a) := List.foldl_append ..
theorem clr_lt {k : Nat} : ∀ {rows : List Nat} {w : Nat}, (∀ r ∈ rows, r < 2 ^ k) → w < 2 ^ k → clr rows w < 2 ^ k
  | [], w, _, h => h
  | r :: rs, w, hr, h => by
    show clr rs _ < 2 ^ k
    refine clr_lt (fun x hx => hr x (.tail _ hx)) ?_
    dsimp only
    split
    · exact Nat.xor_lt_two_pow h (hr r (.head _))
    · exact h
theorem grw_len (rows : List Nat) (w : Nat) : (grw rows w).length ≤ rows.length + 1 := by
  unfold grw
  split
  · omega
  · rw [(srt_perm _).length_eq]
    simp
theorem xor_eq_zero {a b : Nat} (e : a ^^^ b = 0) : a = b := by
  have h : a ^^^ b ^^^ b = 0 ^^^ b := by rw [e]
  rw [Nat.xor_assoc, Nat.xor_self, Nat.xor_zero, Nat.zero_xor] at h
  exact h
theorem xor_ne {a b : Nat} (h : a ≠ b) : a ^^^ b ≠ 0 := fun e => h (xor_eq_zero e)
/-- what rows are at least: no 0, and cleared words have 0 at their tops -/
structure Rws (rows : List Nat) : Prop where
  nz : ∀ r ∈ rows, r ≠ 0
  /-- the top of each is 0 in all others -/
  red : rows.Pairwise fun r s => r.testBit (blen s - 1) = false ∧ s.testBit (blen r - 1) = false
theorem Rws.nil : Rws [] := ⟨fun _ h => (by cases h), .nil⟩
end LaneX
set_option linter.all false
namespace LaneX
/-! ### clearing is linear -/
def bx (b : Bool) (r : Nat) : Nat := if b = true then r else 0
theorem bx_xor (a b : Bool) (r : Nat) : bx (a ^^ b) r = bx a r ^^^ bx b r := by
  cases a <;> cases b <;> simp [bx]
theorem stp_eq (l r : Nat) : (if l.testBit (blen r - 1) = true then l ^^^ r else l) = l ^^^ bx (l.testBit (blen r - 1)) r := by
  cases l.testBit (blen r - 1) <;> simp [bx]
theorem clr_cons (r : Nat) (rs : List Nat) (x : Nat) : clr (r :: rs) x = clr rs (x ^^^ bx (x.testBit (blen r - 1)) r) := by
  show clr rs _ = _
  dsimp only
  rw [stp_eq]
theorem xor4 (a b c d : Nat) : (a ^^^ b) ^^^ (c ^^^ d) = (a ^^^ c) ^^^ (b ^^^ d) := by
  rw [Nat.xor_assoc, Nat.xor_assoc]
  congr 1
  rw [← Nat.xor_assoc, Nat.xor_comm b c, Nat.xor_assoc]
theorem clr_xor : ∀ (rows : List Nat) (x y : Nat), clr rows (x ^^^ y) = clr rows x ^^^ clr rows y
  | [], _, _ => rfl
  | r :: rs, x, y => by
    rw [clr_cons, clr_cons, clr_cons, Nat.testBit_xor, bx_xor, xor4, clr_xor rs]
theorem clr_zero : ∀ rows : List Nat, clr rows 0 = 0
  | [] => rfl
  | r :: rs => by rw [clr_cons]; simp [bx, clr_zero rs]
/-- rows that do not speak of a bit leave it -/
theorem clr_bit {b : Nat} : ∀ {rows : List Nat} {x : Nat}, (∀ r ∈ rows, r.testBit b = false) → (clr rows x).testBit b = x.testBit b
  | [], x, _ => rfl
  | r :: rs, x, h => by
    rw [clr_cons, clr_bit fun s hs => h s (.tail _ hs), Nat.testBit_xor]
    have := h r (.head _)
    cases x.testBit (blen r - 1) <;> simp [bx, this]
theorem clr_of_none : ∀ {rows : List Nat} {x : Nat}, (∀ r ∈ rows, x.testBit (blen r - 1) = false) → clr rows x = x
  | [], x, _ => rfl
  | r :: rs, x, h => by
    rw [clr_cons, h r (.head _)]
    simp only [bx, Bool.false_eq_true, if_false, Nat.xor_zero]
    exact clr_of_none fun s hs => h s (.tail _ hs)
theorem clr_tops : ∀ {rows : List Nat} {x : Nat}, Rws rows → ∀ r ∈ rows, (clr rows x).testBit (blen r - 1) = false
  | [], x, _, r, h => by cases h
  | s :: rs, x, R, r, h => by
    have hp := List.pairwise_cons.mp R.red
    have R' : Rws rs := ⟨fun t ht => R.nz t (.tail _ ht), hp.2⟩
    rw [clr_cons]
    rcases List.mem_cons.mp h with rfl | h
    · rw [clr_bit fun t ht => (hp.1 t ht).2, Nat.testBit_xor]
      have := testBit_top (R.nz r (.head _))
      cases q : x.testBit (blen r - 1) <;> simp [bx, this]
    · exact clr_tops R' r h
theorem clr_self : ∀ {rows : List Nat}, Rws rows → ∀ r ∈ rows, clr rows r = 0
  | [], _, r, h => by cases h
  | s :: rs, R, r, h => by
    have hp := List.pairwise_cons.mp R.red
    have R' : Rws rs := ⟨fun t ht => R.nz t (.tail _ ht), hp.2⟩
    rw [clr_cons]
    rcases List.mem_cons.mp h with rfl | h
    · rw [testBit_top (R.nz r (.head _))]
      simp only [bx, if_true, Nat.xor_self]
      exact clr_zero rs
    · rw [(hp.1 r h).2]
      simp only [bx, Bool.false_eq_true, if_false, Nat.xor_zero]
      exact clr_self R' r h
/-! ### spans -/
inductive Spn (ws : List Nat) : Nat → Prop where
  | zero : Spn ws 0
  | add {x w : Nat} : w ∈ ws → Spn ws x → Spn ws (x ^^^ w)
theorem Spn.of {ws : List Nat} {w : Nat} (h : w ∈ ws) : Spn ws w := by
  have := Spn.add h Spn.zero
  rwa [Nat.zero_xor] at this
theorem Spn.xor {ws : List Nat} {x y : Nat} (hx : Spn ws x) (hy : Spn ws y) : Spn ws (x ^^^ y) := by
  induction hy with
  | zero => rwa [Nat.xor_zero]
  | add hw _ ih => rw [← Nat.xor_assoc]; exact .add hw ih
theorem Spn.mono {ws vs : List Nat} {x : Nat} (hx : Spn ws x) (h : ∀ w ∈ ws, Spn vs w) : Spn vs x := by
  induction hx with
  | zero => exact .zero
  | add hw _ ih => exact ih.xor (h _ hw)
theorem Spn.nil {x : Nat} (h : Spn [] x) : x = 0 := by
  cases h with
  | zero => rfl
  | add hw _ => cases hw
theorem Spn.lt {ws : List Nat} {k x : Nat} (hx : Spn ws x) (h : ∀ w ∈ ws, w < 2 ^ k) : x < 2 ^ k := by
  induction hx with
  | zero => exact Nat.two_pow_pos k
  | add hw _ ih => exact Nat.xor_lt_two_pow ih (h _ hw)
theorem Spn.sub {ws vs : List Nat} {x : Nat} (hx : Spn ws x) (h : ∀ w ∈ ws, w ∈ vs) : Spn vs x := hx.mono fun w hw => .of (h w hw)
theorem spn_clr : ∀ (rows : List Nat) (x : Nat), Spn rows (x ^^^ clr rows x)
  | [], x => by show Spn [] (x ^^^ x); rw [Nat.xor_self]; exact .zero
  | r :: rs, x => by
    rw [clr_cons]
    have ih := (spn_clr rs (x ^^^ bx (x.testBit (blen r - 1)) r)).sub (vs := r :: rs) fun w hw => .tail _ hw
    have hb : Spn (r :: rs) (bx (x.testBit (blen r - 1)) r) := by
      cases x.testBit (blen r - 1)
      · exact .zero
      · exact .of (.head _)
    have := ih.xor hb
    have e : x ^^^ bx (x.testBit (blen r - 1)) r ^^^ clr rs (x ^^^ bx (x.testBit (blen r - 1)) r) ^^^ bx (x.testBit (blen r - 1)) r = x ^^^ clr rs (x ^^^ bx (x.testBit (blen r - 1)) r) := by
      rw [Nat.xor_assoc, Nat.xor_comm (clr rs _) _, ← Nat.xor_assoc, Nat.xor_assoc x, Nat.xor_self, Nat.xor_zero]
    rw [e] at this
    exact this
theorem Rws.span {rows : List Nat} (R : Rws rows) {x : Nat} : Spn rows x ↔ clr rows x = 0 := by
  constructor
  · intro h
    induction h with
    | zero => exact clr_zero rows
    | add hw _ ih => rw [clr_xor, ih, clr_self R _ hw]; rfl
  · intro h
    have := spn_clr rows x
    rwa [h, Nat.xor_zero] at this
/-! ### one more word -/
theorem blen_xor {r l : Nat} (h : blen l < blen r) : blen (r ^^^ l) = blen r := by
  have hr : r ≠ 0 := fun e => by subst e; simp [blen] at h
  have h1 : r ^^^ l < 2 ^ blen r := Nat.xor_lt_two_pow (lt_blen r) (Nat.lt_of_lt_of_le (lt_blen l) (Nat.pow_le_pow_right (by decide) (by omega)))
  have h2 : (r ^^^ l).testBit (blen r - 1) = true := by
    rw [Nat.testBit_xor, testBit_top hr, testBit_ge (n := l) (by omega)]
    rfl
  have h3 : blen (r ^^^ l) ≤ blen r := blen_le.mpr h1
  have h4 : ¬ blen (r ^^^ l) ≤ blen r - 1 := fun q => by rw [testBit_ge q] at h2; cases h2
  omega
theorem blen_of_bits {r l : Nat} (h1 : r.testBit (blen l - 1) = true) (h2 : l.testBit (blen r - 1) = false) (hl : l ≠ 0) : blen l < blen r := by
  have hr : r ≠ 0 := fun e => by subst e; simp at h1
  have a := blen_pos hl
  have b := blen_pos hr
  have c : ¬ blen r ≤ blen l - 1 := fun q => by rw [testBit_ge q] at h1; cases h1
  have d : blen l ≠ blen r := fun q => by
    rw [← q, testBit_top hl] at h2
    cases h2
  omega
theorem Rws.perm {a b : List Nat} (R : Rws a) (p : a.Perm b) : Rws b :=
  ⟨fun r h => R.nz r (p.mem_iff.mpr h), (p.pairwise_iff (fun h => ⟨h.2, h.1⟩)).mp R.red⟩
section
variable {rows : List Nat} {l : Nat}
def chg (l r : Nat) : Nat := if r.testBit (blen l - 1) = true then r ^^^ l else r
theorem chg_blen {r : Nat} (h : l.testBit (blen r - 1) = false) (hl : l ≠ 0) : blen (chg l r) = blen r := by
  unfold chg
  split
  · rename_i q
    exact blen_xor (blen_of_bits q h hl)
  · rfl
theorem chg_bit {r b : Nat} (h : l.testBit b = false) : (chg l r).testBit b = r.testBit b := by
  unfold chg
  split
  · rw [Nat.testBit_xor, h, Bool.xor_false]
  · rfl
theorem chg_top {r : Nat} (hl : l ≠ 0) : (chg l r).testBit (blen l - 1) = false := by
  unfold chg
  split
  · rename_i q
    rw [Nat.testBit_xor, q, testBit_top hl]; rfl
  · rename_i q
    cases e : r.testBit (blen l - 1) <;> simp_all
theorem Rws.grow (R : Rws rows) (hl : l ≠ 0) (h : ∀ r ∈ rows, l.testBit (blen r - 1) = false) : Rws (rows.map (chg l) ++ [l]) := by
  have bl : ∀ r ∈ rows, blen (chg l r) = blen r := fun r hr => chg_blen (h r hr) hl
  refine ⟨fun x hx => ?_, ?_⟩
  · rcases List.mem_append.mp hx with hx | hx
    · obtain ⟨r, hr, rfl⟩ := List.mem_map.mp hx
      intro e
      have b := bl r hr
      rw [e] at b
      have := blen_pos (R.nz r hr)
      rw [← b] at this
      simp [blen] at this
    · rcases List.mem_singleton.mp hx with rfl
      exact hl
  · refine List.pairwise_append.mpr ⟨?_, by simp, ?_⟩
    · rw [List.pairwise_map]
      refine R.red.imp_of_mem fun {a b} ha hb hab => ?_
      rw [bl a ha, bl b hb, chg_bit (h b hb), chg_bit (h a ha)]
      exact hab
    · intro x hx y hy
      obtain ⟨r, hr, rfl⟩ := List.mem_map.mp hx
      rcases List.mem_singleton.mp hy with rfl
      exact ⟨chg_top hl, by rw [bl r hr]; exact h r hr⟩
end
theorem grw_eq (rows : List Nat) (w : Nat) : grw rows w = if clr rows w = 0 then rows else srt (rows.map (chg (clr rows w)) ++ [clr rows w]) := rfl
theorem grw_rws {rows : List Nat} (R : Rws rows) (w : Nat) : Rws (grw rows w) := by
  rw [grw_eq]
  split
  · exact R
  · rename_i h
    exact (R.grow h fun r hr => clr_tops R r hr).perm (srt_perm _).symm
theorem grw_span {rows : List Nat} (w x : Nat) : Spn (grw rows w) x ↔ Spn (rows ++ [w]) x := by
  rw [grw_eq]
  have hw := spn_clr rows w
  split
  · rename_i h
    rw [h, Nat.xor_zero] at hw
    constructor
    · exact fun hx => hx.sub fun y hy => List.mem_append_left _ hy
    · refine fun hx => hx.mono fun y hy => ?_
      rcases List.mem_append.mp hy with hy | hy
      · exact .of hy
      · rcases List.mem_singleton.mp hy with rfl
        exact hw
  · rename_i h
    generalize hl : clr rows w = l at *
    have e1 : ∀ y, Spn (rows ++ [w]) y ↔ Spn (rows ++ [l]) y := fun y => by
      have lw : Spn (rows ++ [w]) l := by
        have a := (hw.sub (vs := rows ++ [w]) fun z hz => List.mem_append_left _ hz).xor (Spn.of (List.mem_append_right rows (List.mem_singleton_self w)))
        rwa [Nat.xor_comm w l, Nat.xor_assoc, Nat.xor_self, Nat.xor_zero] at a
      have wl : Spn (rows ++ [l]) w := by
        have a := (hw.sub (vs := rows ++ [l]) fun z hz => List.mem_append_left _ hz).xor (Spn.of (List.mem_append_right rows (List.mem_singleton_self l)))
        rwa [Nat.xor_assoc, Nat.xor_self, Nat.xor_zero] at a
      constructor
      · refine fun hx => hx.mono fun z hz => ?_
        rcases List.mem_append.mp hz with hz | hz
        · exact .of (List.mem_append_left _ hz)
        · rcases List.mem_singleton.mp hz with rfl; exact wl
      · refine fun hx => hx.mono fun z hz => ?_
        rcases List.mem_append.mp hz with hz | hz
        · exact .of (List.mem_append_left _ hz)
        · rcases List.mem_singleton.mp hz with rfl; exact lw
    rw [e1]
    have sl : Spn (rows ++ [l]) l := .of (List.mem_append_right _ (List.mem_singleton_self l))
    constructor
    · refine fun hx => hx.mono fun z hz => ?_
      rcases List.mem_append.mp ((srt_perm _).mem_iff.mp hz) with hz | hz
      · obtain ⟨r, hr, rfl⟩ := List.mem_map.mp hz
        have : Spn (rows ++ [l]) r := .of (List.mem_append_left _ hr)
        unfold chg
        split
        · exact this.xor sl
        · exact this
      · exact .of (List.mem_append_right _ hz)
    · refine fun hx => hx.mono fun z hz => ?_
      have ml : Spn (srt (rows.map (chg l) ++ [l])) l := .of ((srt_perm _).mem_iff.mpr (List.mem_append_right _ (List.mem_singleton_self l)))
      rcases List.mem_append.mp hz with hz | hz
      · have mc : Spn (srt (rows.map (chg l) ++ [l])) (chg l z) := .of ((srt_perm _).mem_iff.mpr (List.mem_append_left _ (List.mem_map.mpr ⟨z, hz, rfl⟩)))
        unfold chg at mc
        split at mc
        · have := mc.xor ml
          rwa [Nat.xor_assoc, Nat.xor_self, Nat.xor_zero] at this
        · exact mc
      · rcases List.mem_singleton.mp hz with rfl; exact ml
theorem grw_length {rows : List Nat} (w : Nat) : (grw rows w).length = if clr rows w = 0 then rows.length else rows.length + 1 := by
  rw [grw_eq]
  split
  · rfl
  · rw [(srt_perm _).length_eq]; simp
/-! ### the rows of a list of words -/
theorem spn_rws_from : ∀ (ws : List Nat) {rows : List Nat}, Rws rows → Rws (ws.foldl grw rows)
  | [], _, R => R
  | w :: ws, _, R => spn_rws_from ws (grw_rws R w)
theorem spn_rws (ws : List Nat) : Rws (spn ws) := spn_rws_from ws Rws.nil
theorem spn_span_from : ∀ (ws : List Nat) (rows : List Nat) (x : Nat), Spn (ws.foldl grw rows) x ↔ Spn (rows ++ ws) x
  | [], rows, x => by simp
  | w :: ws, rows, x => by
    show Spn (ws.foldl grw (grw rows w)) x ↔ _
    rw [spn_span_from ws]
    have key : ∀ (a b c : List Nat) (y : Nat), (∀ z, Spn a z ↔ Spn b z) → (Spn (a ++ c) y ↔ Spn (b ++ c) y) := fun a b c y h => by
      constructor
      · refine fun hx => hx.mono fun z hz => ?_
        rcases List.mem_append.mp hz with hz | hz
        · exact ((h z).mp (.of hz)).sub fun u hu => List.mem_append_left _ hu
        · exact .of (List.mem_append_right _ hz)
      · refine fun hx => hx.mono fun z hz => ?_
        rcases List.mem_append.mp hz with hz | hz
        · exact ((h z).mpr (.of hz)).sub fun u hu => List.mem_append_left _ hu
        · exact .of (List.mem_append_right _ hz)
    rw [key _ _ ws x fun z => grw_span w z, List.append_assoc]
    rfl
theorem spn_span (ws : List Nat) (x : Nat) : Spn (spn ws) x ↔ Spn ws x := by
  have := spn_span_from ws [] x
  rwa [List.nil_append] at this
theorem spn_len_from : ∀ (ws rows : List Nat), (ws.foldl grw rows).length ≤ rows.length + ws.length
  | [], _ => by simp
  | w :: ws, rows => by
    have h1 := spn_len_from ws (grw rows w)
    have h2 := grw_len rows w
    simp only [List.foldl_cons, List.length_cons] at h1 ⊢
    omega
theorem spn_len (ws : List Nat) : (spn ws).length ≤ ws.length := by
  have := spn_len_from ws []
  rw [List.length_nil, Nat.zero_add] at this
  exact this
/-! ### tops tell the rank -/
theorem top_keep {t : Nat} : ∀ {rows : List Nat} {l : Nat}, (∀ r ∈ rows, r ≠ 0) → (∀ r ∈ rows, blen r ≠ t + 1) → l < 2 ^ (t + 1) → l.testBit t = true → (clr rows l).testBit t = true
  | [], l, _, _, _, h => h
  | r :: rs, l, nz, nt, hl, h => by
    rw [clr_cons]
    have a := nt r (.head _)
    have b := blen_pos (nz r (.head _))
    refine top_keep (fun s hs => nz s (.tail _ hs)) (fun s hs => nt s (.tail _ hs)) ?_ ?_
    · cases q : l.testBit (blen r - 1) with
      | false => simpa [bx] using hl
      | true =>
        have c : blen r ≤ t + 1 := by
          refine Nat.le_of_not_lt fun z => ?_
          have := testBit_ge (n := l) (i := blen r - 1) (Nat.le_trans (blen_le.mpr hl) (by omega))
          rw [this] at q; cases q
        simp only [bx, if_true]
        exact Nat.xor_lt_two_pow hl (blen_le.mp c)
    · cases q : l.testBit (blen r - 1) with
      | false => simpa [bx] using h
      | true =>
        have c : blen r ≤ t + 1 := by
          refine Nat.le_of_not_lt fun z => ?_
          have := testBit_ge (n := l) (i := blen r - 1) (Nat.le_trans (blen_le.mpr hl) (by omega))
          rw [this] at q; cases q
        simp only [bx, if_true]
        rw [Nat.testBit_xor, h, testBit_ge (n := r) (by omega)]
        rfl
theorem Rws.top_mem {rows : List Nat} (R : Rws rows) {x : Nat} (h : Spn rows x) (hx : x ≠ 0) : ∃ r ∈ rows, blen r = blen x := by
  refine Classical.byContradiction fun hn => ?_
  have h1 : ∀ r ∈ rows, blen r ≠ (blen x - 1) + 1 := fun r hr e => hn ⟨r, hr, by have := blen_pos hx; omega⟩
  have h2 := top_keep (t := blen x - 1) R.nz h1 (by have := blen_pos hx; rw [Nat.sub_add_cancel this]; exact lt_blen x) (testBit_top hx)
  rw [R.span.mp h] at h2
  simp at h2
theorem nodup_sub_len : ∀ {l m : List Nat}, l.Nodup → (∀ x ∈ l, x ∈ m) → l.length ≤ m.length
  | [], _, _, _ => Nat.zero_le _
  | x :: l, m, hn, hs => by
    have hn' := List.nodup_cons.mp hn
    have hx := hs x (.head _)
    have ih := nodup_sub_len (l := l) (m := m.erase x) hn'.2 fun y hy => by
      have : y ≠ x := fun e => hn'.1 (e ▸ hy)
      exact (List.mem_erase_of_ne this).mpr (hs y (.tail _ hy))
    have := List.length_erase_of_mem hx
    have hp : 0 < m.length := List.length_pos_of_mem hx
    simp only [List.length_cons]
    omega
theorem Rws.tops_nodup {rows : List Nat} (R : Rws rows) : (rows.map blen).Nodup := by
  unfold List.Nodup
  rw [List.pairwise_map]
  refine R.red.imp_of_mem fun {a b} ha hb hab e => ?_
  have := hab.1
  rw [← e, testBit_top (R.nz a ha)] at this
  cases this
theorem Rws.le {a b : List Nat} (A : Rws a) (B : Rws b) (h : ∀ x ∈ a, Spn b x) : a.length ≤ b.length := by
  have := nodup_sub_len A.tops_nodup (m := b.map blen) fun t ht => by
    obtain ⟨x, hx, rfl⟩ := List.mem_map.mp ht
    obtain ⟨r, hr, e⟩ := B.top_mem (h x hx) (A.nz x hx)
    exact List.mem_map.mpr ⟨r, hr, e⟩
  simpa using this
/-- the rank -/
def rk (ws : List Nat) : Nat := (spn ws).length
theorem rk_le {a b : List Nat} (h : ∀ x ∈ a, Spn b x) : rk a ≤ rk b := by
  refine (spn_rws a).le (spn_rws b) fun x hx => ?_
  rw [spn_span]
  exact ((spn_span a x).mp (.of hx)).mono h
theorem rk_eq {a b : List Nat} (h : ∀ x, Spn a x ↔ Spn b x) : rk a = rk b :=
  Nat.le_antisymm (rk_le fun x hx => (h x).mp (.of hx)) (rk_le fun x hx => (h x).mpr (.of hx))
theorem rk_spn (a : List Nat) : rk (spn a) = rk a := rk_eq fun x => spn_span a x
theorem rk_snoc (a : List Nat) (w : Nat) : rk (a ++ [w]) = if clr (spn a) w = 0 then rk a else rk a + 1 := by
  unfold rk
  rw [spn_append]
  exact grw_length w
theorem clr_spn_zero {a : List Nat} {w : Nat} : clr (spn a) w = 0 ↔ Spn a w := by rw [← (spn_rws a).span, spn_span]
theorem rk_snoc_in {a : List Nat} {w : Nat} (h : Spn a w) : rk (a ++ [w]) = rk a := by rw [rk_snoc, if_pos (clr_spn_zero.mpr h)]
theorem rk_snoc_out {a : List Nat} {w : Nat} (h : ¬ Spn a w) : rk (a ++ [w]) = rk a + 1 := by rw [rk_snoc, if_neg (fun z => h (clr_spn_zero.mp z))]
/-- words, none of which is a sum of those ahead -/
inductive Ind : List Nat → Prop where
  | nil : Ind []
  | snoc {a : List Nat} {w : Nat} : Ind a → ¬ Spn a w → Ind (a ++ [w])
theorem Ind.rk {a : List Nat} (h : Ind a) : rk a = a.length := by
  induction h with
  | nil => rfl
  | snoc _ hw ih => rw [rk_snoc_out hw, ih]; simp
theorem rk_len (a : List Nat) : rk a ≤ a.length := spn_len a
theorem spn_id {rows : List Nat} (R : Rws rows) : rk rows = rows.length := by
  have h1 := (spn_rws rows).le R (fun x hx => (spn_span rows x).mp (.of hx))
  have h2 := R.le (spn_rws rows) (fun x hx => (spn_span rows x).mpr (.of hx))
  exact Nat.le_antisymm h1 h2
end LaneX
namespace LaneX
/-! ### pairs, kernels, meets: what the program makes -/
def prs (cols : List Nat) : List Nat := (List.range cols.length).map fun i => (cols.getD i 0 <<< cols.length) + (1 <<< i)
def prd (cols : List Nat) : List Nat := spn (prs cols)
def ker (cols : List Nat) : List Nat := (prd cols).filter fun r => decide (blen r ≤ cols.length)
def mts (bits : Nat) (rows others : List Nat) : List Nat := (rows.map fun r => (r <<< bits) + r) ++ others.map fun r => r <<< bits
def mtd (bits : Nat) (rows others : List Nat) : List Nat := (spn (mts bits rows others)).filter fun r => decide (blen r ≤ bits)
end LaneX
namespace LaneX
theorem Rws.len_le {rows : List Nat} (R : Rws rows) {b : Nat} (h : ∀ r ∈ rows, blen r ≤ b) : rows.length ≤ b := by
  have := nodup_sub_len R.tops_nodup (m := List.range' 1 b) fun t ht => by
    obtain ⟨x, hx, rfl⟩ := List.mem_map.mp ht
    have h1 := blen_pos (R.nz x hx)
    have h2 := h x hx
    rw [List.mem_range']
    exact ⟨blen x - 1, by omega, by omega⟩
  simpa using this
theorem spn_lt {ws : List Nat} {k : Nat} (h : ∀ w ∈ ws, w < 2 ^ k) : ∀ r ∈ spn ws, r < 2 ^ k := fun r hr => ((spn_span ws r).mp (.of hr)).lt h
theorem spn_blen {ws : List Nat} {k : Nat} (h : ∀ w ∈ ws, blen w ≤ k) : ∀ r ∈ spn ws, blen r ≤ k := fun r hr => blen_le.mpr (spn_lt (fun w hw => blen_le.mp (h w hw)) r hr)
theorem clr_blen {rows : List Nat} {k w : Nat} (h : ∀ r ∈ rows, blen r ≤ k) (hw : blen w ≤ k) : blen (clr rows w) ≤ k := blen_le.mpr (clr_lt (fun r hr => blen_le.mp (h r hr)) (blen_le.mp hw))
theorem ker_blen (cols : List Nat) : ∀ r ∈ ker cols, blen r ≤ cols.length := fun r hr => by
  have := (List.mem_filter.mp hr).2
  simpa using this
theorem ker_rws (cols : List Nat) : Rws (ker cols) := by
  have R := spn_rws (prs cols)
  exact ⟨fun r hr => R.nz r (List.mem_filter.mp hr).1, R.red.sublist List.filter_sublist⟩
theorem ker_len (cols : List Nat) : (ker cols).length ≤ cols.length := (ker_rws cols).len_le (ker_blen cols)
theorem mtd_blen (b : Nat) (rs os : List Nat) : ∀ r ∈ mtd b rs os, blen r ≤ b := fun r hr => by
  have := (List.mem_filter.mp hr).2
  simpa using this
theorem mtd_rws (b : Nat) (rs os : List Nat) : Rws (mtd b rs os) := by
  have R := spn_rws (mts b rs os)
  exact ⟨fun r hr => R.nz r (List.mem_filter.mp hr).1, R.red.sublist List.filter_sublist⟩
/-- the rows of others that complete -/
def cms (rows others : List Nat) : List Nat × List Nat := others.foldl (fun st r => if clr st.1 r = 0 then st else (grw st.1 r, st.2 ++ [r])) (rows, [])
def cmpl (rows others : List Nat) : List Nat := (cms rows others).2
theorem cms_snoc (rows a : List Nat) (r : Nat) : cms rows (a ++ [r]) = if clr (cms rows a).1 r = 0 then cms rows a else (grw (cms rows a).1 r, (cms rows a).2 ++ [r]) := by
  unfold cms
  rw [List.foldl_append]
  rfl
/-- lists are told by their last item -/
theorem snoc_rec {p : List Nat → Prop} (h0 : p []) (hs : ∀ a x, p a → p (a ++ [x])) : ∀ l, p l := fun l => by
  have : ∀ n (l : List Nat), l.length = n → p l := by
    intro n
    induction n with
    | zero => intro l hl; rw [List.length_eq_zero_iff.mp hl]; exact h0
    | succ n ih =>
      intro l hl
      have hne : l ≠ [] := fun e => by rw [e] at hl; cases hl
      rw [← List.dropLast_concat_getLast hne]
      exact hs _ _ (ih _ (by rw [List.length_dropLast, hl]; rfl))
  exact this _ l rfl
theorem cms_rws {rows : List Nat} (R : Rws rows) (others : List Nat) : Rws (cms rows others).1 := by
  refine snoc_rec (p := fun l => Rws (cms rows l).1) R (fun a x ih => ?_) others
  rw [cms_snoc]
  split
  · exact ih
  · exact grw_rws ih x
theorem cms_len (rows others : List Nat) : (cms rows others).1.length ≤ rows.length + others.length ∧ (cms rows others).2.length ≤ others.length := by
  refine snoc_rec (p := fun l => (cms rows l).1.length ≤ rows.length + l.length ∧ (cms rows l).2.length ≤ l.length) ⟨by simp [cms], by simp [cms]⟩ (fun a x ih => ?_) others
  rw [cms_snoc]
  split
  · simp only [List.length_append, List.length_cons, List.length_nil]; omega
  · have := grw_len (cms rows a).1 x
    simp only [List.length_append, List.length_cons, List.length_nil]
    omega
/-- the twins, the partners of a spread -/
def twn (ss ls : List Nat) : List Nat := spn (ker (ls.map (clr (spn ss))))
def prw (ss ls rows : List Nat) : List Nat := ker (ls.map (clr (spn (ss ++ rows))))
def prt (ss ls rows : List Nat) : List Nat := spn (prw ss ls rows)
def ldr (ss ls rows : List Nat) : List Nat := cmpl (twn ss ls) (prt ss ls rows)
def kpt (b : Nat) (ss rows : List Nat) : Int := ((spn ss).length : Int) - ((spn (mtd b (spn ss) rows)).length : Int)
def rdf (bits apart : Nat) : Nat := if apart ≤ bits then 1 <<< bits - 1 <<< (bits - apart) else 1 <<< bits - 1 + apart - bits
def smr (b : Nat) (ss ls rows : List Nat) : Nat := rdf (kpt b ss rows - (twn ss ls).length).toNat (ldr ss ls rows).length
/-- a spread's words, a space's rows are as they must -/
structure WfR (b : Nat) (ss ls : List Nat) : Prop where
  bb : b ≤ 400000
  s : ∀ x ∈ ss, blen x ≤ b
  l : ∀ x ∈ ls, blen x ≤ b
  sl : ss.length ≤ 400000
  ll : ls.length ≤ 400000
structure WfS (b : Nat) (rows : List Nat) : Prop where
  bb : b ≤ 400000
  r : Rws rows
  b : ∀ x ∈ rows, blen x ≤ b
theorem WfS.len {b : Nat} {rows : List Nat} (h : WfS b rows) : rows.length ≤ 400000 := Nat.le_trans (h.r.len_le h.b) h.bb
theorem WfS.of {b : Nat} {ws : List Nat} (h : b ≤ 400000) (hw : ∀ x ∈ ws, blen x ≤ b) : WfS b (spn ws) := ⟨h, spn_rws ws, spn_blen hw⟩
theorem twn_wf {b : Nat} {ss ls : List Nat} (h : WfR b ss ls) : WfS ls.length (twn ss ls) := WfS.of h.ll fun x hx => by have := ker_blen _ x hx; simpa using this
theorem prt_wf {b : Nat} {ss ls : List Nat} (h : WfR b ss ls) (rows : List Nat) : WfS ls.length (prt ss ls rows) := WfS.of h.ll fun x hx => by have := ker_blen _ x hx; simpa using this
end LaneX
set_option linter.all false
namespace LaneX
/-! ### lowest bits; an elimination by them -/
def lwb (n : Nat) : Nat := n - (n &&& (n - 1))
def low (n : Nat) : Nat := if h : n = 0 then 0 else if n % 2 = 1 then 0 else low (n / 2) + 1
termination_by n
decreasing_by omega
theorem and_split (a b : Nat) : a &&& b = 2 * (a / 2 &&& b / 2) + (if a % 2 = 1 ∧ b % 2 = 1 then 1 else 0) := by
  have h1 : (a &&& b) / 2 = a / 2 &&& b / 2 := Nat.and_div_two
  have h2 : (a &&& b) % 2 = if a % 2 = 1 ∧ b % 2 = 1 then 1 else 0 := by
    have : (a &&& b).testBit 0 = (a.testBit 0 && b.testBit 0) := Nat.testBit_and ..
    simp only [Nat.testBit_zero] at this
    split
    · rename_i h
      simp only [h.1, h.2, decide_true, Bool.and_self] at this
      exact of_decide_eq_true this
    · rename_i h
      have h3 : (a &&& b) % 2 ≠ 1 := fun z => by
        rw [z] at this
        simp at this
        exact h this
      omega
  omega
theorem lwb_eq {n : Nat} (h : n ≠ 0) : lwb n = 2 ^ low n := by
  induction n using Nat.strongRecOn with
  | _ n ih =>
    unfold low lwb
    rw [dif_neg h]
    split
    · rename_i ho
      rw [and_split, if_neg (by omega), show (n - 1) / 2 = n / 2 by omega, Nat.and_self]
      simp
      omega
    · rename_i he
      have hm : n / 2 ≠ 0 := by omega
      have q := ih (n / 2) (by omega) hm
      unfold lwb at q
      have le : n / 2 &&& (n / 2 - 1) ≤ n / 2 := Nat.and_le_left
      rw [and_split, if_neg (by omega), show (n - 1) / 2 = n / 2 - 1 by omega, Nat.pow_succ, ← q]
      omega
theorem low_bit {n : Nat} (h : n ≠ 0) : n.testBit (low n) = true := by
  induction n using Nat.strongRecOn with
  | _ n ih =>
    unfold low
    rw [dif_neg h]
    split
    · rename_i ho
      rw [Nat.testBit_zero]
      exact decide_eq_true ho
    · rename_i he
      rw [Nat.testBit_succ]
      exact ih (n / 2) (by omega) (by omega)
theorem and_lwb {w r : Nat} (h : r ≠ 0) : (w &&& lwb r ≠ 0) ↔ w.testBit (low r) = true := by
  rw [lwb_eq h]
  constructor
  · intro hn
    refine Classical.byContradiction fun hb => hn ?_
    apply Nat.eq_of_testBit_eq
    intro i
    rw [Nat.testBit_and, Nat.testBit_two_pow, Nat.zero_testBit]
    by_cases e : low r = i
    · subst e
      cases q : w.testBit (low r)
      · rfl
      · exact absurd q hb
    · simp [e]
  · intro hb hz
    have : (w &&& 2 ^ low r).testBit (low r) = true := by
      rw [Nat.testBit_and, hb, Nat.testBit_two_pow]
      simp
    rw [hz] at this
    simp at this
def lft (rows : List Nat) (w : Nat) : Nat := rows.foldl (fun l r => if l.testBit (low r) = true then l ^^^ r else l) w
theorem lft_cons (r : Nat) (rs : List Nat) (x : Nat) : lft (r :: rs) x = lft rs (x ^^^ bx (x.testBit (low r)) r) := by
  show lft rs _ = _
  dsimp only
  cases x.testBit (low r) <;> simp [bx]
theorem lft_snoc (a : List Nat) (r w : Nat) : lft (a ++ [r]) w = if (lft a w).testBit (low r) = true then lft a w ^^^ r else lft a w := List.foldl_append ..
theorem lft_xor : ∀ (rows : List Nat) (x y : Nat), lft rows (x ^^^ y) = lft rows x ^^^ lft rows y
  | [], _, _ => rfl
  | r :: rs, x, y => by
    rw [lft_cons, lft_cons, lft_cons, Nat.testBit_xor, bx_xor, xor4, lft_xor rs]
theorem lft_zero : ∀ rows : List Nat, lft rows 0 = 0
  | [] => rfl
  | r :: rs => by rw [lft_cons]; simp [bx, lft_zero rs]
theorem spn_lft : ∀ (rows : List Nat) (x : Nat), Spn rows (x ^^^ lft rows x)
  | [], x => by show Spn [] (x ^^^ x); rw [Nat.xor_self]; exact .zero
  | r :: rs, x => by
    rw [lft_cons]
    generalize hb : bx (x.testBit (low r)) r = c
    have ih := (spn_lft rs (x ^^^ c)).sub (vs := r :: rs) fun w hw => .tail _ hw
    have hc : Spn (r :: rs) c := by
      rw [← hb]
      cases x.testBit (low r)
      · exact .zero
      · exact .of (.head _)
    have := ih.xor hc
    have e : x ^^^ c ^^^ lft rs (x ^^^ c) ^^^ c = x ^^^ lft rs (x ^^^ c) := by
      rw [Nat.xor_assoc, Nat.xor_comm (lft rs _) _, ← Nat.xor_assoc, Nat.xor_assoc x, Nat.xor_self, Nat.xor_zero]
    rw [e] at this
    exact this
/-- rows of the law's own: none is 0, later ones are 0 at the lowest bits of earlier ones -/
structure Lws (rows : List Nat) : Prop where
  nz : ∀ r ∈ rows, r ≠ 0
  red : rows.Pairwise fun r s => s.testBit (low r) = false
theorem lft_bit {b : Nat} : ∀ {rows : List Nat} {x : Nat}, (∀ r ∈ rows, r.testBit b = false) → (lft rows x).testBit b = x.testBit b
  | [], x, _ => rfl
  | r :: rs, x, h => by
    rw [lft_cons, lft_bit fun s hs => h s (.tail _ hs), Nat.testBit_xor]
    have := h r (.head _)
    cases x.testBit (low r) <;> simp [bx, this]
theorem lft_lows : ∀ {rows : List Nat} {x : Nat}, Lws rows → ∀ r ∈ rows, (lft rows x).testBit (low r) = false
  | [], x, _, r, h => by cases h
  | s :: rs, x, R, r, h => by
    have hp := List.pairwise_cons.mp R.red
    have R' : Lws rs := ⟨fun t ht => R.nz t (.tail _ ht), hp.2⟩
    rw [lft_cons]
    rcases List.mem_cons.mp h with rfl | h
    · rw [lft_bit fun t ht => hp.1 t ht, Nat.testBit_xor]
      have := low_bit (R.nz r (.head _))
      cases q : x.testBit (low r) <;> simp [bx, this]
    · exact lft_lows R' r h
theorem lft_of_none : ∀ {rows : List Nat} {x : Nat}, (∀ r ∈ rows, x.testBit (low r) = false) → lft rows x = x
  | [], x, _ => rfl
  | r :: rs, x, h => by
    rw [lft_cons, h r (.head _)]
    simp only [bx, Bool.false_eq_true, if_false, Nat.xor_zero]
    exact lft_of_none fun s hs => h s (.tail _ hs)
theorem lft_self : ∀ {rows : List Nat}, Lws rows → ∀ r ∈ rows, lft rows r = 0
  | [], _, r, h => by cases h
  | s :: rs, R, r, h => by
    have hp := List.pairwise_cons.mp R.red
    have R' : Lws rs := ⟨fun t ht => R.nz t (.tail _ ht), hp.2⟩
    rw [lft_cons]
    rcases List.mem_cons.mp h with rfl | h
    · rw [low_bit (R.nz r (.head _))]
      simp only [bx, if_true, Nat.xor_self]
      exact lft_zero rs
    · rw [hp.1 r h]
      simp only [bx, Bool.false_eq_true, if_false, Nat.xor_zero]
      exact lft_self R' r h
theorem Lws.span {rows : List Nat} (R : Lws rows) {x : Nat} : Spn rows x ↔ lft rows x = 0 := by
  constructor
  · intro h
    induction h with
    | zero => exact lft_zero rows
    | add hw _ ih => rw [lft_xor, ih, lft_self R _ hw]; rfl
  · intro h
    have := spn_lft rows x
    rwa [h, Nat.xor_zero] at this
def bstep (rows : List Nat) (w : Nat) : List Nat := if lft rows w = 0 then rows else rows ++ [lft rows w]
def bas (ws : List Nat) : List Nat := ws.foldl bstep []
theorem bas_snoc (a : List Nat) (w : Nat) : bas (a ++ [w]) = bstep (bas a) w := List.foldl_append ..
theorem Lws.nil : Lws [] := ⟨fun _ h => (by cases h), .nil⟩
theorem Lws.step {rows : List Nat} (R : Lws rows) (w : Nat) : Lws (bstep rows w) := by
  unfold bstep
  split
  · exact R
  · rename_i h
    refine ⟨fun r hr => ?_, List.pairwise_append.mpr ⟨R.red, by simp, fun r hr s hs => ?_⟩⟩
    · rcases List.mem_append.mp hr with hr | hr
      · exact R.nz r hr
      · rcases List.mem_singleton.mp hr with rfl; exact h
    · rcases List.mem_singleton.mp hs with rfl
      exact lft_lows R r hr
theorem Lws.ind {rows : List Nat} (R : Lws rows) : Ind rows := by
  have : ∀ n (l : List Nat), l.length = n → Lws l → Ind l := by
    intro n
    induction n with
    | zero => intro l hl _; rw [List.length_eq_zero_iff.mp hl]; exact .nil
    | succ n ih =>
      intro l hl L
      have hne : l ≠ [] := fun e => by rw [e] at hl; cases hl
      have e := List.dropLast_concat_getLast hne
      rw [← e] at L ⊢
      have hp := List.pairwise_append.mp L.red
      have L' : Lws l.dropLast := ⟨fun r hr => L.nz r (List.mem_append_left _ hr), hp.1⟩
      refine .snoc (ih _ (by rw [List.length_dropLast, hl]; rfl) L') fun hs => ?_
      have z := L'.span.mp hs
      rw [lft_of_none fun r hr => hp.2.2 r hr _ (List.mem_singleton_self _)] at z
      exact L.nz _ (List.mem_append_right _ (List.mem_singleton_self _)) z
  exact this _ rows rfl R
theorem Lws.rk {rows : List Nat} (R : Lws rows) : rk rows = rows.length := R.ind.rk
theorem bas_lws (ws : List Nat) : Lws (bas ws) := snoc_rec (p := fun l => Lws (bas l)) Lws.nil (fun a x ih => by rw [bas_snoc]; exact ih.step x) ws
theorem span_app {a b c : List Nat} {x : Nat} (h : ∀ z, Spn a z ↔ Spn b z) : Spn (a ++ c) x ↔ Spn (b ++ c) x := by
  constructor
  · refine fun hx => hx.mono fun z hz => ?_
    rcases List.mem_append.mp hz with hz | hz
    · exact ((h z).mp (.of hz)).sub fun u hu => List.mem_append_left _ hu
    · exact .of (List.mem_append_right _ hz)
  · refine fun hx => hx.mono fun z hz => ?_
    rcases List.mem_append.mp hz with hz | hz
    · exact ((h z).mpr (.of hz)).sub fun u hu => List.mem_append_left _ hu
    · exact .of (List.mem_append_right _ hz)
theorem span_swap (u v : List Nat) (y : Nat) : Spn (u ++ v) y ↔ Spn (v ++ u) y := by
  have key : ∀ u v : List Nat, Spn (u ++ v) y → Spn (v ++ u) y := fun u v h => h.sub fun w hw => by
    rcases List.mem_append.mp hw with h | h
    · exact List.mem_append_right _ h
    · exact List.mem_append_left _ h
  exact ⟨key u v, key v u⟩
theorem span_app2 {a b c d : List Nat} {x : Nat} (h : ∀ z, Spn a z ↔ Spn b z) (g : ∀ z, Spn c z ↔ Spn d z) : Spn (a ++ c) x ↔ Spn (b ++ d) x := by
  rw [span_app h]
  rw [span_swap, span_app g, span_swap]
theorem bstep_span (rows : List Nat) (w x : Nat) : Spn (bstep rows w) x ↔ Spn (rows ++ [w]) x := by
  have hw := spn_lft rows w
  unfold bstep
  split
  · rename_i h
    rw [h, Nat.xor_zero] at hw
    constructor
    · exact fun hx => hx.sub fun y hy => List.mem_append_left _ hy
    · refine fun hx => hx.mono fun y hy => ?_
      rcases List.mem_append.mp hy with hy | hy
      · exact .of hy
      · rcases List.mem_singleton.mp hy with rfl; exact hw
  · generalize lft rows w = l at *
    have lw : Spn (rows ++ [w]) l := by
      have a := (hw.sub (vs := rows ++ [w]) fun z hz => List.mem_append_left _ hz).xor (Spn.of (List.mem_append_right rows (List.mem_singleton_self w)))
      rwa [Nat.xor_comm w l, Nat.xor_assoc, Nat.xor_self, Nat.xor_zero] at a
    have wl : Spn (rows ++ [l]) w := by
      have a := (hw.sub (vs := rows ++ [l]) fun z hz => List.mem_append_left _ hz).xor (Spn.of (List.mem_append_right rows (List.mem_singleton_self l)))
      rwa [Nat.xor_assoc, Nat.xor_self, Nat.xor_zero] at a
    constructor
    · refine fun hx => hx.mono fun z hz => ?_
      rcases List.mem_append.mp hz with hz | hz
      · exact .of (List.mem_append_left _ hz)
      · rcases List.mem_singleton.mp hz with rfl; exact lw
    · refine fun hx => hx.mono fun z hz => ?_
      rcases List.mem_append.mp hz with hz | hz
      · exact .of (List.mem_append_left _ hz)
      · rcases List.mem_singleton.mp hz with rfl; exact wl
theorem bas_span (ws : List Nat) : ∀ x, Spn (bas ws) x ↔ Spn ws x := snoc_rec (p := fun l => ∀ x, Spn (bas l) x ↔ Spn l x) (fun x => Iff.rfl) (fun a w ih x => by rw [bas_snoc, bstep_span, span_app ih]) ws
theorem bas_len (ws : List Nat) : (bas ws).length = rk ws := by rw [← (bas_lws ws).rk]; exact rk_eq (bas_span ws)
theorem lft_bas {ws : List Nat} {x : Nat} : lft (bas ws) x = 0 ↔ Spn ws x := by rw [← (bas_lws ws).span, bas_span]
theorem bas_len_le (ws : List Nat) : (bas ws).length ≤ ws.length := by rw [bas_len]; exact rk_len ws
theorem lft_lt {k : Nat} {rows : List Nat} {w : Nat} (hr : ∀ r ∈ rows, r < 2 ^ k) (h : w < 2 ^ k) : lft rows w < 2 ^ k := by
  have := (spn_lft rows w).lt hr
  have e : lft rows w = w ^^^ (w ^^^ lft rows w) := by rw [← Nat.xor_assoc, Nat.xor_self, Nat.zero_xor]
  rw [e]
  exact Nat.xor_lt_two_pow h this
theorem bas_lt {k : Nat} {ws : List Nat} (h : ∀ w ∈ ws, w < 2 ^ k) : ∀ r ∈ bas ws, r < 2 ^ k := fun r hr => ((bas_span ws r).mp (.of hr)).lt h
/-- the sum of the columns of the bits of a word -/
def imf (cols : List Nat) (w : Nat) (n : Nat) : Nat := (List.range n).foldl (fun acc i => if w.testBit i = true then acc ^^^ cols.getD i 0 else acc) 0
def img (cols : List Nat) (w : Nat) : Nat := imf cols w cols.length
theorem imf_succ (cols : List Nat) (w n : Nat) : imf cols w (n + 1) = if w.testBit n = true then imf cols w n ^^^ cols.getD n 0 else imf cols w n := by
  unfold imf
  rw [List.range_succ, List.foldl_append]
  rfl
/-- rows with tags, and the tags of words that come to 0 -/
def tgl (rows : List (Nat × Nat)) (st : Nat × Nat) : Nat × Nat := rows.foldl (fun st r => if st.1.testBit (low r.1) = true then (st.1 ^^^ r.1, st.2 ^^^ r.2) else st) st
def tgs (cols : List Nat) (n : Nat) : List (Nat × Nat) × List Nat := (List.range n).foldl (fun st i =>
  if (tgl st.1 (cols.getD i 0, 1 <<< i)).1 = 0 then (st.1, st.2 ++ [(tgl st.1 (cols.getD i 0, 1 <<< i)).2]) else (st.1 ++ [tgl st.1 (cols.getD i 0, 1 <<< i)], st.2)) ([], [])
def tgd (cols : List Nat) : List (Nat × Nat) × List Nat := tgs cols cols.length
theorem tgs_succ (cols : List Nat) (n : Nat) : tgs cols (n + 1) = if (tgl (tgs cols n).1 (cols.getD n 0, 1 <<< n)).1 = 0 then ((tgs cols n).1, (tgs cols n).2 ++ [(tgl (tgs cols n).1 (cols.getD n 0, 1 <<< n)).2]) else ((tgs cols n).1 ++ [tgl (tgs cols n).1 (cols.getD n 0, 1 <<< n)], (tgs cols n).2) := by
  unfold tgs
  rw [List.range_succ, List.foldl_append]
  rfl
theorem tgs_len (cols : List Nat) : ∀ n, (tgs cols n).1.length + (tgs cols n).2.length = n
  | 0 => rfl
  | n + 1 => by
    have := tgs_len cols n
    rw [tgs_succ]
    split <;> simp <;> omega
theorem rk_app_len (a : List Nat) : ∀ b, rk (a ++ b) ≤ rk a + b.length := snoc_rec (p := fun b => rk (a ++ b) ≤ rk a + b.length) (by simp) (fun b x ih => by
  rw [← List.append_assoc, rk_snoc]
  split <;> simp <;> omega)
theorem rk_app (a b : List Nat) : rk (a ++ b) ≤ rk a + rk b := by
  have e : rk (a ++ b) = rk (a ++ spn b) := rk_eq fun x => (span_app2 (fun _ => Iff.rfl) (fun z => (spn_span b z).symm))
  rw [e]
  exact rk_app_len a (spn b)
theorem rk_left (a b : List Nat) : rk a ≤ rk (a ++ b) := rk_le fun x hx => .of (List.mem_append_left _ hx)
theorem rk_right (a b : List Nat) : rk b ≤ rk (a ++ b) := rk_le fun x hx => .of (List.mem_append_right _ hx)
theorem rk_perm {a b : List Nat} (p : a.Perm b) : rk a = rk b := rk_eq fun x => ⟨fun h => h.sub fun w hw => p.mem_iff.mp hw, fun h => h.sub fun w hw => p.mem_iff.mpr hw⟩
/-- units -/
def units (b : Nat) : List Nat := (List.range b).map fun i => 1 <<< i
theorem blen_unit (i : Nat) : blen (1 <<< i) = i + 1 := by
  have h : 1 <<< i ≠ 0 := by rw [Nat.one_shiftLeft]; exact Nat.ne_of_gt (Nat.two_pow_pos i)
  have h1 : blen (1 <<< i) ≤ i + 1 := by
    rw [blen_le, Nat.one_shiftLeft]
    exact Nat.pow_lt_pow_right (by decide) (Nat.lt_succ_self i)
  have h2 : ¬ blen (1 <<< i) ≤ i := by
    rw [blen_le, Nat.one_shiftLeft]
    exact Nat.lt_irrefl _
  omega
theorem unit_bit (i j : Nat) : (1 <<< i).testBit j = decide (i = j) := by
  rw [Nat.one_shiftLeft, Nat.testBit_two_pow]
theorem units_rws (b : Nat) : Rws (units b) := by
  refine ⟨fun r hr => ?_, ?_⟩
  · obtain ⟨i, _, rfl⟩ := List.mem_map.mp hr
    rw [Nat.one_shiftLeft]
    exact Nat.ne_of_gt (Nat.two_pow_pos i)
  · unfold units
    rw [List.pairwise_map]
    refine List.Pairwise.imp (R := fun a b => a ≠ b) (fun {i j} h => ?_) List.nodup_range
    rw [blen_unit, blen_unit, Nat.add_sub_cancel, Nat.add_sub_cancel, unit_bit, unit_bit]
    exact ⟨decide_eq_false h, decide_eq_false fun z => h z.symm⟩
theorem units_rk (b : Nat) : rk (units b) = b := by
  rw [spn_id (units_rws b)]
  simp [units]
theorem units_span {b x : Nat} (h : x < 2 ^ b) : Spn (units b) x := by
  have R := units_rws b
  rw [R.span]
  refine Classical.byContradiction fun hn => ?_
  have h1 : clr (units b) x < 2 ^ b := clr_lt (fun r hr => by
    obtain ⟨i, hi, rfl⟩ := List.mem_map.mp hr
    rw [Nat.one_shiftLeft]
    exact Nat.pow_lt_pow_right (by decide) (List.mem_range.mp hi)) h
  have h2 := testBit_top hn
  have h3 : blen (clr (units b) x) ≤ b := blen_le.mpr h1
  have h4 := blen_pos hn
  have h5 := clr_tops (x := x) R (1 <<< (blen (clr (units b) x) - 1)) (List.mem_map.mpr ⟨_, List.mem_range.mpr (by omega), rfl⟩)
  rw [blen_unit, Nat.add_sub_cancel] at h5
  rw [h5] at h2
  cases h2
/-- what is spanned by n bits has at most n dimensions; all of it has n -/
theorem rk_le_bits {ws : List Nat} {b : Nat} (h : ∀ w ∈ ws, w < 2 ^ b) : rk ws ≤ b := by
  rw [← units_rk b]
  exact rk_le fun x hx => units_span (h x hx)
theorem rk_full {ws : List Nat} {b : Nat} (h : ∀ u ∈ units b, Spn ws u) : b ≤ rk ws := by
  rw [← units_rk b]
  exact rk_le h
end LaneX
set_option linter.all false
namespace LaneX
/-! ### kernels, tags, meets: their sizes -/
theorem xor_cancel (a b : Nat) : a ^^^ (a ^^^ b) = b := by rw [← Nat.xor_assoc, Nat.xor_self, Nat.zero_xor]
theorem xor_cancel_right (a b : Nat) : a ^^^ b ^^^ b = a := by rw [Nat.xor_assoc, Nat.xor_self, Nat.xor_zero]
/-- a linear map of spans -/
structure Lin (φ : Nat → Nat) : Prop where
  z : φ 0 = 0
  x : ∀ a b, φ (a ^^^ b) = φ a ^^^ φ b
theorem Lin.spn {φ : Nat → Nat} (L : Lin φ) {l : List Nat} {y : Nat} (h : Spn l y) : Spn (l.map φ) (φ y) := by
  induction h with
  | zero => rw [L.z]; exact .zero
  | add hw _ ih => rw [L.x]; exact .add (List.mem_map.mpr ⟨_, hw, rfl⟩) ih
theorem Lin.back {φ : Nat → Nat} (L : Lin φ) {l : List Nat} {z : Nat} (h : Spn (l.map φ) z) : ∃ y, Spn l y ∧ φ y = z := by
  induction h with
  | zero => exact ⟨0, .zero, L.z⟩
  | add hw _ ih =>
    obtain ⟨y, hy, rfl⟩ := ih
    obtain ⟨u, hu, rfl⟩ := List.mem_map.mp hw
    exact ⟨y ^^^ u, .add hu hy, L.x _ _⟩
theorem Lin.comp {φ ψ : Nat → Nat} (L : Lin φ) (M : Lin ψ) : Lin (fun x => φ (ψ x)) := ⟨by rw [M.z, L.z], fun a b => by rw [M.x, L.x]⟩
theorem lin_clr (rows : List Nat) : Lin (clr rows) := ⟨clr_zero rows, clr_xor rows⟩
theorem lin_lft (rows : List Nat) : Lin (lft rows) := ⟨lft_zero rows, lft_xor rows⟩
theorem lin_shr (b : Nat) : Lin (fun x => x >>> b) := ⟨Nat.zero_shiftRight b, fun a c => Nat.shiftRight_xor_distrib⟩
theorem lin_mod (b : Nat) : Lin (fun x => x % 2 ^ b) := ⟨Nat.zero_mod _, fun a c => Nat.xor_mod_two_pow⟩
/-- taking away what S spans -/
structure Red (S : List Nat) (φ : Nat → Nat) : Prop where
  l : Lin φ
  s : ∀ x, Spn S (x ^^^ φ x)
  k : ∀ x, φ x = 0 ↔ Spn S x
theorem red_clr (S : List Nat) : Red S (clr (spn S)) := ⟨lin_clr _, fun x => (spn_span S _).mp (spn_clr _ x), fun x => clr_spn_zero⟩
theorem red_lft (S : List Nat) : Red S (lft (bas S)) := ⟨lin_lft _, fun x => (bas_span S _).mp (spn_lft _ x), fun x => lft_bas⟩
theorem Red.mem {S ls : List Nat} {φ : Nat → Nat} (R : Red S φ) (x : Nat) : Spn (ls.map φ) (φ x) ↔ Spn (S ++ ls) x := by
  constructor
  · intro h
    have h1 : Spn (S ++ ls) (φ x) := h.mono fun y hy => by
      obtain ⟨u, hu, rfl⟩ := List.mem_map.mp hy
      have a := ((R.s u).sub (vs := S ++ ls) fun z hz => List.mem_append_left _ hz).xor (Spn.of (List.mem_append_right S hu))
      rwa [Nat.xor_comm u, xor_cancel_right] at a
    have a := ((R.s x).sub (vs := S ++ ls) fun z hz => List.mem_append_left _ hz).xor h1
    rwa [xor_cancel_right] at a
  · intro h
    induction h with
    | zero => rw [R.l.z]; exact .zero
    | @add y u hu _ ih =>
      rw [R.l.x]
      refine ih.xor ?_
      rcases List.mem_append.mp hu with hu | hu
      · rw [(R.k u).mpr (.of hu)]; exact .zero
      · exact .of (List.mem_map.mpr ⟨u, hu, rfl⟩)
theorem rk_snoc' (a : List Nat) (w : Nat) [Decidable (Spn a w)] : rk (a ++ [w]) = if Spn a w then rk a else rk a + 1 := by
  split
  · rename_i h; exact rk_snoc_in h
  · rename_i h; exact rk_snoc_out h
theorem Red.rk {S : List Nat} {φ : Nat → Nat} (R : Red S φ) : ∀ ls, rk (ls.map φ) + rk S = rk (S ++ ls) :=
  snoc_rec (p := fun ls => LaneX.rk (ls.map φ) + LaneX.rk S = LaneX.rk (S ++ ls)) (by simp [LaneX.rk, spn]) (fun a x ih => by
    rw [List.map_append, ← List.append_assoc]
    show LaneX.rk (a.map φ ++ [φ x]) + _ = _
    by_cases h : Spn (S ++ a) x
    · rw [rk_snoc_in h, rk_snoc_in ((R.mem x).mpr h)]; exact ih
    · rw [rk_snoc_out h, rk_snoc_out (fun z => h ((R.mem x).mp z))]; omega)
/-! ### images -/
theorem imf_lin (cols : List Nat) : ∀ n, Lin (fun x => imf cols x n)
  | 0 => ⟨rfl, fun _ _ => (Nat.xor_self 0).symm⟩
  | n + 1 => by
    have ih := imf_lin cols n
    refine ⟨by show imf cols 0 (n + 1) = 0; rw [imf_succ, Nat.zero_testBit]; exact ih.z, fun a b => ?_⟩
    have e := ih.x a b
    show imf cols (a ^^^ b) (n + 1) = imf cols a (n + 1) ^^^ imf cols b (n + 1)
    simp only [imf_succ, Nat.testBit_xor] at e ⊢
    rw [e]
    generalize imf cols a n = A
    generalize imf cols b n = B
    generalize cols.getD n 0 = c
    cases a.testBit n <;> cases b.testBit n <;> simp
    · rw [Nat.xor_assoc]
    · rw [Nat.xor_assoc, Nat.xor_comm B c, ← Nat.xor_assoc]
    · rw [Nat.xor_comm A c, Nat.xor_assoc c A, ← Nat.xor_assoc A, Nat.xor_comm c, Nat.xor_assoc, Nat.xor_self, Nat.xor_zero]
theorem lin_img (cols : List Nat) : Lin (img cols) := imf_lin cols _
theorem imf_unit (cols : List Nat) (i : Nat) : ∀ n, imf cols (2 ^ i) n = if i < n then cols.getD i 0 else 0
  | 0 => by simp [imf]
  | n + 1 => by
    rw [imf_succ, imf_unit cols i n, Nat.testBit_two_pow]
    by_cases h : i = n
    · subst h; simp
    · have : (i < n + 1) ↔ i < n := by omega
      simp [h, this]
theorem img_unit (cols : List Nat) {i : Nat} (h : i < cols.length) : img cols (2 ^ i) = cols.getD i 0 := by
  unfold img
  rw [imf_unit, if_pos h]
theorem imf_map {φ : Nat → Nat} (L : Lin φ) (cols : List Nat) (x : Nat) : ∀ n, imf (cols.map φ) x n = φ (imf cols x n)
  | 0 => L.z.symm
  | n + 1 => by
    rw [imf_succ, imf_succ, imf_map L cols x n]
    have e : (cols.map φ).getD n 0 = φ (cols.getD n 0) := by
      simp only [List.getD_eq_getElem?_getD, List.getElem?_map]
      cases cols[n]? with
      | none => exact L.z.symm
      | some c => rfl
    rw [e]
    split
    · rw [L.x]
    · rfl
theorem img_map {φ : Nat → Nat} (L : Lin φ) (cols : List Nat) (x : Nat) : img (cols.map φ) x = φ (img cols x) := by
  unfold img
  rw [List.length_map, imf_map L]
/-- one bit more -/
theorem bit_split {x n : Nat} (h : x < 2 ^ (n + 1)) : x < 2 ^ n ∨ (x ^^^ 2 ^ n < 2 ^ n ∧ x.testBit n = true) := by
  by_cases q : x.testBit n = true
  · refine .inr ⟨?_, q⟩
    have h1 : x ^^^ 2 ^ n < 2 ^ (n + 1) := Nat.xor_lt_two_pow h (Nat.pow_lt_pow_right (by decide) (Nat.lt_succ_self n))
    refine Classical.byContradiction fun z => ?_
    have h3 : blen (x ^^^ 2 ^ n) ≤ n + 1 := blen_le.mpr h1
    have h4 : ¬ blen (x ^^^ 2 ^ n) ≤ n := fun y => z (blen_le.mp y)
    have h5 : blen (x ^^^ 2 ^ n) = n + 1 := by omega
    have h6 : x ^^^ 2 ^ n ≠ 0 := fun e => by rw [e] at h5; simp [blen] at h5
    have h7 := testBit_top h6
    rw [h5, Nat.add_sub_cancel, Nat.testBit_xor, q, Nat.testBit_two_pow] at h7
    simp at h7
  · refine .inl (Classical.byContradiction fun z => q ?_)
    have h3 : blen x ≤ n + 1 := blen_le.mpr h
    have h4 : ¬ blen x ≤ n := fun y => z (blen_le.mp y)
    have h5 : blen x = n + 1 := by omega
    have h6 : x ≠ 0 := fun e => by rw [e] at h5; simp [blen] at h5
    have h7 := testBit_top h6
    rwa [h5, Nat.add_sub_cancel] at h7
theorem not_bit_of_lt {x n : Nat} (h : x < 2 ^ n) : x.testBit n = false := Nat.testBit_lt_two_pow h
theorem getD_mem {cols : List Nat} {i : Nat} (h : i < cols.length) : cols.getD i 0 ∈ cols := by
  rw [List.getD_eq_getElem?_getD, List.getElem?_eq_getElem h]
  exact List.getElem_mem h
theorem getD_take {cols : List Nat} {i n : Nat} (h : i < n) (hn : n ≤ cols.length) : cols.getD i 0 ∈ cols.take n := by
  have e : (cols.take n).getD i 0 = cols.getD i 0 := by
    simp only [List.getD_eq_getElem?_getD, List.getElem?_take, h, if_true]
  rw [← e]
  exact getD_mem (by rw [List.length_take]; omega)
theorem img_span {cols : List Nat} : ∀ {n x : Nat}, n ≤ cols.length → x < 2 ^ n → Spn (cols.take n) (img cols x)
  | 0, x, hn, h => by
    have : x = 0 := by simpa using h
    rw [this, (lin_img cols).z]; exact .zero
  | n + 1, x, hn, h => by
    rcases bit_split h with h | ⟨h, _⟩
    · exact (img_span (by omega) h).sub fun w hw => List.take_subset_take_left _ (Nat.le_succ n) hw
    · have a := (img_span (n := n) (by omega) h).sub (vs := cols.take (n + 1)) fun w hw => List.take_subset_take_left _ (Nat.le_succ n) hw
      rw [(lin_img cols).x, img_unit cols hn] at a
      have b := a.xor (.of (getD_take (Nat.lt_succ_self n) hn))
      rwa [xor_cancel_right] at b
theorem span_img {cols : List Nat} {n : Nat} (hn : n ≤ cols.length) {c : Nat} (h : Spn (cols.take n) c) : ∃ x, x < 2 ^ n ∧ img cols x = c := by
  induction h with
  | zero => exact ⟨0, Nat.two_pow_pos n, (lin_img cols).z⟩
  | @add y w hw _ ih =>
    obtain ⟨x, hx, rfl⟩ := ih
    obtain ⟨i, hi, rfl⟩ := List.getElem_of_mem hw
    rw [List.length_take] at hi
    refine ⟨x ^^^ 2 ^ i, Nat.xor_lt_two_pow hx (Nat.pow_lt_pow_right (by decide) (by omega)), ?_⟩
    rw [(lin_img cols).x, img_unit cols (by omega)]
    congr 1
    rw [List.getElem_take, List.getD_eq_getElem?_getD, List.getElem?_eq_getElem (by omega)]
    rfl
/-! ### the kernel's rows -/
theorem Rws.low {R : List Nat} (A : Rws R) (b : Nat) : Rws (R.filter fun r => decide (blen r ≤ b)) := ⟨fun r hr => A.nz r (List.mem_filter.mp hr).1, A.red.sublist List.filter_sublist⟩
theorem Rws.low_span {R : List Nat} (A : Rws R) (b x : Nat) : Spn (R.filter fun r => decide (blen r ≤ b)) x ↔ Spn R x ∧ x < 2 ^ b := by
  constructor
  · intro h
    exact ⟨h.sub fun w hw => (List.mem_filter.mp hw).1, h.lt fun w hw => blen_le.mp (by simpa using (List.mem_filter.mp hw).2)⟩
  · rintro ⟨h, hx⟩
    have L := A.low b
    rw [L.span]
    generalize hl : (R.filter fun r => decide (blen r ≤ b)) = low at *
    have lt : ∀ r ∈ low, r < 2 ^ b := fun w hw => blen_le.mp (by rw [← hl] at hw; simpa using (List.mem_filter.mp hw).2)
    have h1 : Spn R (clr low x) := by
      have a := h.xor ((spn_clr low x).sub (vs := R) fun w hw => by rw [← hl] at hw; exact (List.mem_filter.mp hw).1)
      rwa [xor_cancel] at a
    have h2 : clr low x < 2 ^ b := clr_lt lt hx
    refine Classical.byContradiction fun hn => ?_
    obtain ⟨r, hr, e⟩ := A.top_mem h1 hn
    have hm : r ∈ low := by
      rw [← hl]
      exact List.mem_filter.mpr ⟨hr, decide_eq_true (by rw [e]; exact blen_le.mpr h2)⟩
    have a := clr_tops (x := x) L r hm
    rw [e, testBit_top hn] at a
    cases a
theorem add_eq_xor {n a b : Nat} (h : b < 2 ^ n) : (a <<< n) + b = (a <<< n) ^^^ b := by
  have e : a <<< n + b = a <<< n ||| b := Nat.shiftLeft_add_eq_or_of_lt h a
  rw [e]
  apply Nat.eq_of_testBit_eq
  intro i
  rw [Nat.testBit_or, Nat.testBit_xor, Nat.testBit_shiftLeft]
  by_cases q : n ≤ i
  · have : b.testBit i = false := Nat.testBit_lt_two_pow (Nat.lt_of_lt_of_le h (Nat.pow_le_pow_right (by decide) q))
    simp [this]
  · simp [q]
theorem prs_fwd (cols : List Nat) {y : Nat} (h : Spn (prs cols) y) : ∃ x, x < 2 ^ cols.length ∧ y = (img cols x <<< cols.length) ^^^ x := by
  induction h with
  | zero => exact ⟨0, Nat.two_pow_pos _, by rw [(lin_img cols).z]; simp⟩
  | @add y w hw _ ih =>
    obtain ⟨x, hx, rfl⟩ := ih
    obtain ⟨i, hi, rfl⟩ := List.mem_map.mp hw
    have hi := List.mem_range.mp hi
    have hu : 2 ^ i < 2 ^ cols.length := Nat.pow_lt_pow_right (by decide) hi
    refine ⟨x ^^^ 2 ^ i, Nat.xor_lt_two_pow hx hu, ?_⟩
    rw [(lin_img cols).x, img_unit cols hi, Nat.one_shiftLeft, add_eq_xor hu, Nat.shiftLeft_xor_distrib, xor4]
theorem prs_bwd (cols : List Nat) : ∀ {n x : Nat}, n ≤ cols.length → x < 2 ^ n → Spn (prs cols) ((img cols x <<< cols.length) ^^^ x)
  | 0, x, hn, h => by
    have : x = 0 := by simpa using h
    rw [this, (lin_img cols).z]
    simp only [Nat.zero_shiftLeft, Nat.xor_self]
    exact .zero
  | n + 1, x, hn, h => by
    rcases bit_split h with h | ⟨h, _⟩
    · exact prs_bwd cols (by omega) h
    · have a := prs_bwd cols (n := n) (by omega) h
      have hu : 2 ^ n < 2 ^ cols.length := Nat.pow_lt_pow_right (by decide) hn
      have b : Spn (prs cols) ((cols.getD n 0 <<< cols.length) ^^^ 2 ^ n) := by
        rw [← add_eq_xor hu]
        refine .of (List.mem_map.mpr ⟨n, List.mem_range.mpr hn, ?_⟩)
        rw [Nat.one_shiftLeft]
      have c := a.xor b
      rw [(lin_img cols).x, img_unit cols hn, Nat.shiftLeft_xor_distrib, xor4, xor_cancel_right, xor_cancel_right] at c
      exact c
theorem ker_span (cols : List Nat) (x : Nat) : Spn (ker cols) x ↔ x < 2 ^ cols.length ∧ img cols x = 0 := by
  unfold ker prd
  rw [(spn_rws (prs cols)).low_span, spn_span]
  constructor
  · rintro ⟨h, hx⟩
    obtain ⟨y, hy, e⟩ := prs_fwd cols h
    have e2 : x >>> cols.length = img cols y := by
      rw [e, Nat.shiftRight_xor_distrib, Nat.shiftLeft_shiftRight, Nat.shiftRight_eq_div_pow, Nat.div_eq_of_lt hy, Nat.xor_zero]
    rw [Nat.shiftRight_eq_div_pow, Nat.div_eq_of_lt hx] at e2
    rw [← e2] at e
    simp only [Nat.zero_shiftLeft, Nat.zero_xor] at e
    rw [e]
    exact ⟨hy, e2.symm⟩
  · rintro ⟨hx, e⟩
    have a := prs_bwd cols (Nat.le_refl _) hx
    rw [e] at a
    simp only [Nat.zero_shiftLeft, Nat.zero_xor] at a
    exact ⟨a, hx⟩
/-! ### the tags -/
theorem tgl_fst : ∀ (rows : List (Nat × Nat)) (st : Nat × Nat), (tgl rows st).1 = lft (rows.map Prod.fst) st.1
  | [], _ => rfl
  | r :: rs, st => by
    show (tgl rs _).1 = lft _ _
    rw [tgl_fst rs]
    show _ = lft (rs.map Prod.fst) (if st.1.testBit (low r.1) = true then st.1 ^^^ r.1 else st.1)
    dsimp only
    split <;> rfl
theorem tgl_keep {p : Nat × Nat → Prop} (hx : ∀ a b, p a → p b → p (a.1 ^^^ b.1, a.2 ^^^ b.2)) : ∀ {rows : List (Nat × Nat)} {st : Nat × Nat}, (∀ r ∈ rows, p r) → p st → p (tgl rows st)
  | [], _, _, h => h
  | r :: rs, st, hr, h => by
    show p (tgl rs _)
    refine tgl_keep hx (fun s hs => hr s (.tail _ hs)) ?_
    dsimp only
    split
    · exact hx _ _ h (hr r (.head _))
    · exact h
theorem tgl_snd {n : Nat} : ∀ {rows : List (Nat × Nat)} {st : Nat × Nat}, (∀ r ∈ rows, r.2 < 2 ^ n) → (tgl rows st).2 ^^^ st.2 < 2 ^ n
  | [], st, _ => by show st.2 ^^^ st.2 < 2 ^ n; rw [Nat.xor_self]; exact Nat.two_pow_pos n
  | r :: rs, st, hr => by
    show (tgl rs _).2 ^^^ st.2 < 2 ^ n
    dsimp only
    split
    · have ih := tgl_snd (rows := rs) (st := (st.1 ^^^ r.1, st.2 ^^^ r.2)) fun s hs => hr s (.tail _ hs)
      have a := Nat.xor_lt_two_pow ih (hr r (.head _))
      dsimp only at a
      rwa [← Nat.xor_assoc, xor_cancel_right] at a
    · exact tgl_snd fun s hs => hr s (.tail _ hs)
/-- what holds of the tags of n columns -/
structure Tgi (cols : List Nat) (n : Nat) : Prop where
  im : ∀ r ∈ (tgs cols n).1, img cols r.2 = r.1 ∧ r.2 < 2 ^ n
  lw : Lws ((tgs cols n).1.map Prod.fst)
  sp : ∀ x, Spn ((tgs cols n).1.map Prod.fst) x ↔ Spn (cols.take n) x
  im0 : ∀ t ∈ (tgs cols n).2, img cols t = 0 ∧ t < 2 ^ n
  ind : Ind (tgs cols n).2
  all : ∀ x, x < 2 ^ n → img cols x = 0 → Spn (tgs cols n).2 x
theorem tgi (cols : List Nat) : ∀ n, n ≤ cols.length → Tgi cols n
  | 0, _ => ⟨fun r h => (by cases h), Lws.nil, fun x => Iff.rfl, fun t h => (by cases h), .nil, fun x h _ => (by
      have : x = 0 := by simpa using h
      rw [this]; exact .zero)⟩
  | n + 1, hn => by
    have I := tgi cols n (by omega)
    have hc := getD_take (Nat.lt_succ_self n) hn
    have ic : img cols (1 <<< n) = cols.getD n 0 := by rw [Nat.one_shiftLeft, img_unit cols hn]
    have mono : 2 ^ n ≤ 2 ^ (n + 1) := Nat.pow_le_pow_right (by decide) (Nat.le_succ n)
    have hu : 1 <<< n < 2 ^ (n + 1) := by rw [Nat.one_shiftLeft]; exact Nat.pow_lt_pow_right (by decide) (Nat.lt_succ_self n)
    have tk : cols.take (n + 1) = cols.take n ++ [cols.getD n 0] := by
      rw [List.take_succ, List.getD_eq_getElem?_getD, List.getElem?_eq_getElem (by omega)]; rfl
    have e1 := tgl_fst (tgs cols n).1 (cols.getD n 0, 1 <<< n)
    have e2 : img cols (tgl (tgs cols n).1 (cols.getD n 0, 1 <<< n)).2 = (tgl (tgs cols n).1 (cols.getD n 0, 1 <<< n)).1 ∧ (tgl (tgs cols n).1 (cols.getD n 0, 1 <<< n)).2 < 2 ^ (n + 1) :=
      tgl_keep (p := fun q => img cols q.2 = q.1 ∧ q.2 < 2 ^ (n + 1)) (fun a b ha hb => ⟨by show img cols (a.2 ^^^ b.2) = a.1 ^^^ b.1; rw [(lin_img cols).x, ha.1, hb.1], Nat.xor_lt_two_pow ha.2 hb.2⟩) (fun r hr => ⟨(I.im r hr).1, Nat.lt_of_lt_of_le (I.im r hr).2 mono⟩) ⟨ic, hu⟩
    have e3 : (tgl (tgs cols n).1 (cols.getD n 0, 1 <<< n)).2 ^^^ (1 <<< n) < 2 ^ n := tgl_snd (st := (cols.getD n 0, 1 <<< n)) fun r hr => (I.im r hr).2
    have bs := bstep_span ((tgs cols n).1.map Prod.fst) (cols.getD n 0)
    have bw := I.lw.step (cols.getD n 0)
    have sp' : ∀ x, Spn (bstep ((tgs cols n).1.map Prod.fst) (cols.getD n 0)) x ↔ Spn (cols.take (n + 1)) x := fun x => by rw [bs, tk, span_app I.sp]
    have stp := tgs_succ cols n
    generalize htl : tgl (tgs cols n).1 (cols.getD n 0, 1 <<< n) = tl at *
    have e1' : tl.1 = lft ((tgs cols n).1.map Prod.fst) (cols.getD n 0) := e1
    by_cases z : tl.1 = 0
    · rw [if_pos z] at stp
      have ez : bstep ((tgs cols n).1.map Prod.fst) (cols.getD n 0) = (tgs cols n).1.map Prod.fst := by unfold bstep; rw [if_pos (by rw [← e1']; exact z)]
      rw [ez] at sp'
      refine ⟨?_, ?_, ?_, ?_, ?_, ?_⟩ <;> rw [stp]
      · exact fun r hr => ⟨(I.im r hr).1, Nat.lt_of_lt_of_le (I.im r hr).2 mono⟩
      · exact I.lw
      · exact sp'
      · intro t ht
        rcases List.mem_append.mp ht with ht | ht
        · exact ⟨(I.im0 t ht).1, Nat.lt_of_lt_of_le (I.im0 t ht).2 mono⟩
        · rcases List.mem_singleton.mp ht with rfl
          exact ⟨e2.1.trans z, e2.2⟩
      · refine .snoc I.ind fun hs => ?_
        have lt := hs.lt fun w hw => (I.im0 w hw).2
        have a := Nat.xor_lt_two_pow lt e3
        rw [xor_cancel, Nat.one_shiftLeft] at a
        exact Nat.lt_irrefl _ a
      · intro x hx h0
        have sub : ∀ w ∈ (tgs cols n).2, w ∈ (tgs cols n).2 ++ [tl.2] := fun w hw => List.mem_append_left _ hw
        rcases bit_split hx with h | ⟨h, _⟩
        · exact (I.all x h h0).sub sub
        · have a : x ^^^ tl.2 < 2 ^ n := by
            have := Nat.xor_lt_two_pow h e3
            rwa [Nat.one_shiftLeft, Nat.xor_comm tl.2, Nat.xor_assoc, xor_cancel] at this
          have b := (I.all _ a (by rw [(lin_img cols).x, h0, e2.1, z]; rfl)).sub sub
          have c := b.xor (.of (List.mem_append_right _ (List.mem_singleton_self tl.2)))
          rwa [xor_cancel_right] at c
    · rw [if_neg z] at stp
      have ez : bstep ((tgs cols n).1.map Prod.fst) (cols.getD n 0) = (tgs cols n).1.map Prod.fst ++ [tl.1] := by unfold bstep; rw [if_neg (by rw [← e1']; exact z), ← e1']
      rw [ez] at sp' bw
      refine ⟨?_, ?_, ?_, ?_, ?_, ?_⟩ <;> rw [stp]
      · intro r hr
        rcases List.mem_append.mp hr with hr | hr
        · exact ⟨(I.im r hr).1, Nat.lt_of_lt_of_le (I.im r hr).2 mono⟩
        · rcases List.mem_singleton.mp hr with rfl
          exact e2
      · rw [List.map_append]; exact bw
      · rw [List.map_append]; exact sp'
      · exact fun t ht => ⟨(I.im0 t ht).1, Nat.lt_of_lt_of_le (I.im0 t ht).2 mono⟩
      · exact I.ind
      · intro x hx h0
        rcases bit_split hx with h | ⟨h, _⟩
        · exact I.all x h h0
        · exfalso
          have a := img_span (cols := cols) (n := n) (by omega) h
          rw [(lin_img cols).x, h0, Nat.zero_xor, img_unit cols hn, ← I.sp, I.lw.span] at a
          exact z (e1'.trans a)
theorem tgd_span (cols : List Nat) (x : Nat) : Spn (tgd cols).2 x ↔ x < 2 ^ cols.length ∧ img cols x = 0 := by
  have I := tgi cols cols.length (Nat.le_refl _)
  constructor
  · intro h
    refine ⟨h.lt fun w hw => (I.im0 w hw).2, ?_⟩
    induction h with
    | zero => exact (lin_img cols).z
    | add hw _ ih => rw [(lin_img cols).x, ih, (I.im0 _ hw).1]; rfl
  · exact fun h => I.all x h.1 h.2
theorem tgd_len (cols : List Nat) : (tgd cols).2.length + rk cols = cols.length := by
  have I := tgi cols cols.length (Nat.le_refl _)
  have a := I.lw.rk
  have b : rk ((tgs cols cols.length).1.map Prod.fst) = rk cols := rk_eq fun x => by rw [I.sp, List.take_length]
  rw [List.length_map] at a
  have c := tgs_len cols cols.length
  unfold tgd
  omega
theorem tgd_rk (cols : List Nat) : rk (tgd cols).2 = (tgd cols).2.length := (tgi cols cols.length (Nat.le_refl _)).ind.rk
theorem ker_len_eq (cols : List Nat) : (ker cols).length + rk cols = cols.length := by
  have a : rk (ker cols) = rk (tgd cols).2 := rk_eq fun x => by rw [ker_span, tgd_span]
  rw [spn_id (ker_rws cols), tgd_rk] at a
  have := tgd_len cols
  omega
end LaneX
set_option linter.all false
namespace LaneX
/-! ### twins, partners -/
theorem span_clr_img (S ls : List Nat) (x : Nat) : Spn (ker (ls.map (clr (spn S)))) x ↔ x < 2 ^ ls.length ∧ Spn S (img ls x) := by
  rw [ker_span, List.length_map, img_map (lin_clr _), clr_spn_zero]
theorem span_tag (S ls : List Nat) (x : Nat) : Spn (tgd (ls.map (lft (bas S)))).2 x ↔ x < 2 ^ ls.length ∧ Spn S (img ls x) := by
  rw [tgd_span, List.length_map, img_map (lin_lft _), lft_bas]
theorem ksz (S ls : List Nat) : (spn (ker (ls.map (clr (spn S))))).length + rk (S ++ ls) = ls.length + rk S := by
  have a := ker_len_eq (ls.map (clr (spn S)))
  have b := (red_clr S).rk ls
  have c := spn_id (ker_rws (ls.map (clr (spn S))))
  unfold rk at c
  rw [List.length_map] at a
  omega
theorem tsz (S ls : List Nat) : (tgd (ls.map (lft (bas S)))).2.length + rk (S ++ ls) = ls.length + rk S := by
  have a := tgd_len (ls.map (lft (bas S)))
  have b := (red_lft S).rk ls
  rw [List.length_map] at a
  omega
theorem app_spn (A ws : List Nat) (x : Nat) : Spn (A ++ spn ws) x ↔ Spn (A ++ ws) x := span_app2 (fun _ => Iff.rfl) (fun z => spn_span ws z)
theorem rk_app_spn (A ws : List Nat) : rk (A ++ spn ws) = rk (A ++ ws) := rk_eq (app_spn A ws)
theorem twn_span (ss ls : List Nat) (x : Nat) : Spn (twn ss ls) x ↔ x < 2 ^ ls.length ∧ Spn ss (img ls x) := by
  unfold twn
  rw [spn_span, span_clr_img]
theorem prt_span (ss ls ws : List Nat) (x : Nat) : Spn (prt ss ls (spn ws)) x ↔ x < 2 ^ ls.length ∧ Spn (ss ++ ws) (img ls x) := by
  unfold prt prw
  rw [spn_span, span_clr_img, app_spn]
theorem twn_size (ss ls : List Nat) : (twn ss ls).length + rk (ss ++ ls) = ls.length + rk ss := ksz ss ls
theorem prt_size (ss ls ws : List Nat) : (prt ss ls (spn ws)).length + rk (ss ++ ws ++ ls) = ls.length + rk (ss ++ ws) := by
  have a := ksz (ss ++ spn ws) ls
  rw [rk_app_spn] at a
  have b : rk (ss ++ spn ws ++ ls) = rk (ss ++ ws ++ ls) := rk_eq fun x => span_app fun z => app_spn ss ws z
  rw [b] at a
  exact a
theorem twn_tag (ss ls : List Nat) : (twn ss ls).length = (tgd (ls.map (lft (bas ss)))).2.length := by
  have a := twn_size ss ls
  have b := tsz ss ls
  omega
theorem prt_rk (ss ls ws : List Nat) : rk (prt ss ls (spn ws)) = (prt ss ls (spn ws)).length := spn_id (spn_rws _)
theorem prt_tag (ss ls ws : List Nat) : (prt ss ls (spn ws)).length = rk (tgd (ls.map (lft (bas (ss ++ ws))))).2 := by
  rw [← prt_rk]
  exact rk_eq fun x => by rw [prt_span, span_tag]
theorem prt_tag2 (ss ls ws : List Nat) : rk ((tgd (ls.map (lft (bas (ss ++ ws))))).2 ++ prt ss ls (spn ws)) = (prt ss ls (spn ws)).length := by
  rw [← prt_rk]
  refine Nat.le_antisymm (rk_le fun x hx => ?_) (rk_right _ _)
  rcases List.mem_append.mp hx with hx | hx
  · rw [prt_span, ← span_tag]; exact .of hx
  · exact .of hx
/-! ### completing -/
theorem cms_span {A : List Nat} (R : Rws A) (B : List Nat) : (∀ x, Spn (cms A B).1 x ↔ Spn (A ++ B) x) ∧ (∀ x, Spn (cms A B).1 x ↔ Spn (A ++ (cms A B).2) x) := by
  refine snoc_rec (p := fun B => (∀ x, Spn (cms A B).1 x ↔ Spn (A ++ B) x) ∧ (∀ x, Spn (cms A B).1 x ↔ Spn (A ++ (cms A B).2) x)) ⟨fun x => by simp [cms], fun x => by simp [cms]⟩ (fun a r ih => ?_) B
  have R' := cms_rws R a
  rw [cms_snoc, ← List.append_assoc]
  split
  · rename_i h
    have hr := (ih.1 r).mp (R'.span.mpr h)
    refine ⟨fun x => ?_, ih.2⟩
    rw [ih.1 x]
    constructor
    · exact fun hx => hx.sub fun w hw => List.mem_append_left _ hw
    · refine fun hx => hx.mono fun y hy => ?_
      rcases List.mem_append.mp hy with hy | hy
      · exact .of hy
      · rcases List.mem_singleton.mp hy with rfl; exact hr
  · refine ⟨fun x => ?_, fun x => ?_⟩
    · rw [grw_span, span_app ih.1]
    · show Spn (grw _ _) x ↔ Spn (A ++ ((cms A a).2 ++ [r])) x
      rw [grw_span, span_app ih.2, List.append_assoc]
theorem cmpl_len {A : List Nat} (R : Rws A) (B : List Nat) : (cmpl A B).length + rk A = rk (A ++ B) := by
  unfold cmpl
  refine snoc_rec (p := fun B => (cms A B).2.length + rk A = rk (A ++ B)) (by simp [cms]) (fun a r ih => ?_) B
  have R' := cms_rws R a
  have S := (cms_span R a).1
  rw [cms_snoc, ← List.append_assoc]
  split
  · rename_i h
    rw [rk_snoc_in ((S r).mp (R'.span.mpr h))]; exact ih
  · rename_i h
    rw [rk_snoc_out fun z => h (R'.span.mp ((S r).mpr z)), List.length_append]
    simp only [List.length_cons, List.length_nil]
    omega
theorem cmpl_mem {A : List Nat} (B : List Nat) : ∀ x ∈ cmpl A B, x ∈ B := by
  unfold cmpl
  refine snoc_rec (p := fun B => ∀ x ∈ (cms A B).2, x ∈ B) (fun x hx => by cases hx) (fun a r ih x hx => ?_) B
  rw [cms_snoc] at hx
  split at hx
  · exact List.mem_append_left _ (ih x hx)
  · rcases List.mem_append.mp hx with hx | hx
    · exact List.mem_append_left _ (ih x hx)
    · exact List.mem_append_right _ hx
theorem cmpl_ind {A : List Nat} (R : Rws A) (B : List Nat) {φ : Nat → Nat} (L : Lin φ) : (∀ y, Spn B y → φ y = 0 → Spn A y) → Ind ((cmpl A B).map φ) := by
  unfold cmpl
  refine snoc_rec (p := fun B => (∀ y, Spn B y → φ y = 0 → Spn A y) → Ind ((cms A B).2.map φ)) (fun _ => .nil) (fun a r ih k => ?_) B
  have R' := cms_rws R a
  have S := (cms_span R a).2
  have ih := ih fun y hy => k y (hy.sub fun w hw => List.mem_append_left _ hw)
  have mem := cmpl_mem (A := A) a
  unfold cmpl at mem
  rw [cms_snoc]
  split
  · exact ih
  · rename_i h
    show Ind (((cms A a).2 ++ [r]).map φ)
    rw [List.map_append]
    refine .snoc ih fun hs => h (R'.span.mp ((S r).mpr ?_))
    obtain ⟨y, hy, e⟩ := L.back hs
    have hyr : Spn A (y ^^^ r) := by
      refine k _ ?_ (by rw [L.x, e, Nat.xor_self])
      exact (hy.sub fun w hw => List.mem_append_left _ (mem w hw)).xor (.of (List.mem_append_right _ (List.mem_singleton_self r)))
    have c := (hyr.sub (vs := A ++ (cms A a).2) fun w hw => List.mem_append_left _ hw).xor (hy.sub (vs := A ++ (cms A a).2) fun w hw => List.mem_append_right _ hw)
    rwa [Nat.xor_comm y r, xor_cancel_right] at c
/-! ### meets -/
theorem Rws.ind {rows : List Nat} (R : Rws rows) : Ind rows := by
  have : ∀ n (l : List Nat), l.length = n → Rws l → Ind l := by
    intro n
    induction n with
    | zero => intro l hl _; rw [List.length_eq_zero_iff.mp hl]; exact .nil
    | succ n ih =>
      intro l hl L
      have hne : l ≠ [] := fun e => by rw [e] at hl; cases hl
      have e := List.dropLast_concat_getLast hne
      rw [← e] at L ⊢
      have hp := List.pairwise_append.mp L.red
      have L' : Rws l.dropLast := ⟨fun r hr => L.nz r (List.mem_append_left _ hr), hp.1⟩
      refine .snoc (ih _ (by rw [List.length_dropLast, hl]; rfl) L') fun hs => ?_
      have z := L'.span.mp hs
      rw [clr_of_none fun r hr => (hp.2.2 r hr _ (List.mem_singleton_self _)).2] at z
      exact L.nz _ (List.mem_append_right _ (List.mem_singleton_self _)) z
  exact this _ rows rfl R
theorem shl_shr (b x : Nat) : (x <<< b) >>> b = x := Nat.shiftLeft_shiftRight x b
theorem shl_mod (b x : Nat) : (x <<< b) % 2 ^ b = 0 := by rw [Nat.shiftLeft_eq]; exact Nat.mul_mod_left _ _
theorem map_shl_shr (b : Nat) (B : List Nat) : (B.map fun r => r <<< b).map (fun x => x >>> b) = B := by
  rw [List.map_map]
  conv => rhs; rw [← List.map_id B]
  exact List.map_congr_left fun x _ => shl_shr b x
theorem ind_shl (b : Nat) {B : List Nat} (h : Ind B) : Ind (B.map fun r => r <<< b) := by
  induction h with
  | nil => exact .nil
  | @snoc a w _ hw ih =>
    rw [List.map_append]
    refine .snoc ih fun hs => hw ?_
    have a := (lin_shr b).spn hs
    rw [map_shl_shr] at a
    dsimp only at a
    rwa [shl_shr] at a
theorem ind_pairs (b : Nat) {A B : List Nat} (hB : Ind B) (hA : Ind A) (lt : ∀ x ∈ A, x < 2 ^ b) : Ind ((B.map fun r => r <<< b) ++ A.map fun r => (r <<< b) + r) := by
  induction hA with
  | nil => simpa using ind_shl b hB
  | @snoc a w _ hw ih =>
    have ih := ih fun x hx => lt x (List.mem_append_left _ hx)
    have hwl := lt w (List.mem_append_right _ (List.mem_singleton_self w))
    rw [List.map_append, ← List.append_assoc]
    refine .snoc ih fun hs => hw ?_
    have q := (lin_mod b).spn hs
    have pm : ∀ r, r < 2 ^ b → (r <<< b + r) % 2 ^ b = r := fun r hr => by
      rw [Nat.add_mod, shl_mod, Nat.zero_add, Nat.mod_mod, Nat.mod_eq_of_lt hr]
    dsimp only at q
    rw [pm w hwl] at q
    refine q.mono fun y hy => ?_
    obtain ⟨z, hz, rfl⟩ := List.mem_map.mp hy
    rcases List.mem_append.mp hz with hz | hz
    · obtain ⟨r, hr, rfl⟩ := List.mem_map.mp hz
      rw [shl_mod]; exact .zero
    · obtain ⟨r, hr, rfl⟩ := List.mem_map.mp hz
      rw [pm r (lt r (List.mem_append_left _ hr))]; exact .of hr
theorem blen_shr (b r : Nat) : blen (r >>> b) = blen r - b := by
  by_cases h : blen r ≤ b
  · have : r >>> b = 0 := by rw [Nat.shiftRight_eq_div_pow, Nat.div_eq_of_lt (blen_le.mp h)]
    rw [this, show blen r - b = 0 by omega]; rfl
  · have hr : r ≠ 0 := fun e => by rw [e] at h; simp [blen] at h
    have t : (r >>> b).testBit (blen r - b - 1) = true := by
      rw [Nat.testBit_shiftRight, show b + (blen r - b - 1) = blen r - 1 by omega]; exact testBit_top hr
    have h1 : ¬ blen (r >>> b) ≤ blen r - b - 1 := fun z => by rw [testBit_ge z] at t; cases t
    have h2 : blen (r >>> b) ≤ blen r - b := by
      rw [blen_le, Nat.shiftRight_eq_div_pow, Nat.div_lt_iff_lt_mul (Nat.two_pow_pos b), ← Nat.pow_add, show blen r - b + b = blen r by omega]
      exact lt_blen r
    omega
theorem Rws.high {R : List Nat} (A : Rws R) (b : Nat) : Rws ((R.filter fun r => !decide (blen r ≤ b)).map fun x => x >>> b) := by
  have hb : ∀ r ∈ R.filter fun r => !decide (blen r ≤ b), b < blen r := fun r hr => by
    have := (List.mem_filter.mp hr).2
    simp at this
    omega
  refine ⟨fun r hr => ?_, ?_⟩
  · obtain ⟨x, hx, rfl⟩ := List.mem_map.mp hr
    intro e
    have a := blen_shr b x
    rw [e] at a
    have := hb x hx
    have : blen 0 = 0 := rfl
    omega
  · rw [List.pairwise_map]
    refine (A.red.sublist List.filter_sublist).imp_of_mem fun {x y} hx hy h => ?_
    have a := hb x hx
    have c := hb y hy
    rw [blen_shr, blen_shr, Nat.testBit_shiftRight, Nat.testBit_shiftRight, show b + (blen y - b - 1) = blen y - 1 by omega, show b + (blen x - b - 1) = blen x - 1 by omega]
    exact h
theorem filter_two (p : Nat → Bool) : ∀ R : List Nat, (R.filter p).length + (R.filter fun r => !p r).length = R.length
  | [] => rfl
  | r :: rs => by
    have := filter_two p rs
    cases h : p r <;> simp [List.filter_cons, h] <;> omega
theorem Rws.split {R : List Nat} (A : Rws R) (b : Nat) : (R.filter fun r => decide (blen r ≤ b)).length + rk (R.map fun x => x >>> b) = R.length := by
  have a := spn_id (A.high b)
  rw [List.length_map] at a
  have e : rk (R.map fun x => x >>> b) = rk ((R.filter fun r => !decide (blen r ≤ b)).map fun x => x >>> b) := by
    refine Nat.le_antisymm (rk_le fun x hx => ?_) (rk_le fun x hx => ?_)
    · obtain ⟨r, hr, rfl⟩ := List.mem_map.mp hx
      by_cases h : blen r ≤ b
      · rw [Nat.shiftRight_eq_div_pow, Nat.div_eq_of_lt (blen_le.mp h)]; exact .zero
      · exact .of (List.mem_map.mpr ⟨r, List.mem_filter.mpr ⟨hr, by simpa using h⟩, rfl⟩)
    · obtain ⟨r, hr, rfl⟩ := List.mem_map.mp hx
      exact .of (List.mem_map.mpr ⟨r, (List.mem_filter.mp hr).1, rfl⟩)
  have := filter_two (fun r => decide (blen r ≤ b)) R
  omega
theorem mtd_len {b : Nat} {A B : List Nat} (RA : Rws A) (RB : Rws B) (lt : ∀ x ∈ A, x < 2 ^ b) : (mtd b A B).length + rk (A ++ B) = A.length + B.length := by
  have a := (spn_rws (mts b A B)).split b
  have r1 : (spn (mts b A B)).length = A.length + B.length := by
    have e : rk (mts b A B) = rk ((B.map fun r => r <<< b) ++ A.map fun r => (r <<< b) + r) := rk_perm List.perm_append_comm
    have i := (ind_pairs b RB.ind RA.ind lt).rk
    rw [← e] at i
    show rk (mts b A B) = _
    rw [i]
    simp
    omega
  have r2 : rk ((spn (mts b A B)).map fun x => x >>> b) = rk (A ++ B) := by
    have e1 : ∀ x, Spn ((spn (mts b A B)).map fun x => x >>> b) x ↔ Spn ((mts b A B).map fun x => x >>> b) x := fun x => by
      constructor
      · intro h
        obtain ⟨y, hy, rfl⟩ := (lin_shr b).back h
        exact (lin_shr b).spn ((spn_span _ y).mp hy)
      · intro h
        obtain ⟨y, hy, rfl⟩ := (lin_shr b).back h
        exact (lin_shr b).spn ((spn_span _ y).mpr hy)
    rw [rk_eq e1]
    unfold mts
    rw [List.map_append, map_shl_shr, List.map_map]
    have e2 : A.map ((fun x => x >>> b) ∘ fun r => (r <<< b) + r) = A := by
      conv => rhs; rw [← List.map_id A]
      refine List.map_congr_left fun x hx => ?_
      show (x <<< b + x) >>> b = x
      rw [add_eq_xor (lt x hx), Nat.shiftRight_xor_distrib, shl_shr, Nat.shiftRight_eq_div_pow, Nat.div_eq_of_lt (lt x hx), Nat.xor_zero]
    rw [e2]
  rw [r1, r2] at a
  exact a
/-! ### what the law asks -/
theorem kpt_eq {b : Nat} {ss ws : List Nat} (hs : ∀ x ∈ ss, x < 2 ^ b) : kpt b ss (spn ws) = ((rk (ss ++ ws) - rk ws : Nat) : Int) := by
  have a := mtd_len (b := b) (spn_rws ss) (spn_rws ws) (spn_lt hs)
  have c : rk (spn ss ++ spn ws) = rk (ss ++ ws) := rk_eq fun x => span_app2 (fun z => spn_span ss z) (fun z => spn_span ws z)
  have d := spn_id (mtd_rws b (spn ss) (spn ws))
  have e1 : (spn (mtd b (spn ss) (spn ws))).length = (mtd b (spn ss) (spn ws)).length := d
  have e2 : (spn ss).length = rk ss := rfl
  have e3 : (spn ws).length = rk ws := rfl
  have r := rk_right ss ws
  unfold kpt
  rw [e1, e2]
  rw [c, e2, e3] at a
  omega
theorem twn_sub_prt (ss ls ws : List Nat) : rk (twn ss ls ++ prt ss ls (spn ws)) = rk (prt ss ls (spn ws)) := by
  refine Nat.le_antisymm (rk_le fun x hx => ?_) (rk_right _ _)
  rcases List.mem_append.mp hx with hx | hx
  · have := (twn_span ss ls x).mp (.of hx)
    exact (prt_span ss ls ws x).mpr ⟨this.1, this.2.sub fun w hw => List.mem_append_left _ hw⟩
  · exact .of hx
theorem ldr_size {b : Nat} {ss ls ws : List Nat} (hs : ∀ x ∈ ss, x < 2 ^ b) (hl : ∀ x ∈ ls, x < 2 ^ b) (hw : ∀ x ∈ ws, x < 2 ^ b) (hb : b ≤ rk (ss ++ ls)) : (ldr ss ls (spn ws)).length = rk (ss ++ ws) - rk ss := by
  have a := cmpl_len (spn_rws (ker (ls.map (clr (spn ss))))) (prt ss ls (spn ws))
  have a' : (ldr ss ls (spn ws)).length + rk (twn ss ls) = rk (twn ss ls ++ prt ss ls (spn ws)) := a
  rw [twn_sub_prt, prt_rk] at a'
  have c : rk (twn ss ls) = (twn ss ls).length := spn_id (spn_rws _)
  have d := twn_size ss ls
  have e := prt_size ss ls ws
  have f : rk (ss ++ ls) = b := Nat.le_antisymm (rk_le_bits fun x hx => (List.mem_append.mp hx).elim (hs x) (hl x)) hb
  have g : rk (ss ++ ws ++ ls) = b := by
    refine Nat.le_antisymm (rk_le_bits fun x hx => ?_) (Nat.le_trans hb (rk_le fun x hx => ?_))
    · rcases List.mem_append.mp hx with hx | hx
      · exact (List.mem_append.mp hx).elim (hs x) (hw x)
      · exact hl x hx
    · rcases List.mem_append.mp hx with hx | hx
      · exact .of (List.mem_append_left _ (List.mem_append_left _ hx))
      · exact .of (List.mem_append_right _ hx)
  have h := rk_left ss ws
  omega
theorem ldr_mem {ss ls ws : List Nat} {x : Nat} (h : x ∈ ldr ss ls (spn ws)) : x < 2 ^ ls.length ∧ lft (bas (ss ++ ws)) (img ls x) = 0 := by
  have := (prt_span ss ls ws x).mp (.of (cmpl_mem _ x h))
  exact ⟨this.1, lft_bas.mpr this.2⟩
theorem ldr_rk (ss ls ws : List Nat) : rk ((ldr ss ls (spn ws)).map fun x => lft (bas ss) (img ls x)) = (ldr ss ls (spn ws)).length := by
  have L : Lin (fun x => lft (bas ss) (img ls x)) := (lin_lft _).comp (lin_img ls)
  have := (cmpl_ind (A := twn ss ls) (spn_rws _) (prt ss ls (spn ws)) L fun y hy e => (twn_span ss ls y).mpr ⟨((prt_span ss ls ws y).mp hy).1, lft_bas.mp e⟩).rk
  rw [List.length_map] at this
  exact this
theorem smr_eq {b : Nat} {ss ls ws : List Nat} (hs : ∀ x ∈ ss, x < 2 ^ b) (hl : ∀ x ∈ ls, x < 2 ^ b) (hw : ∀ x ∈ ws, x < 2 ^ b) (hb : b ≤ rk (ss ++ ls)) :
    smr b ss ls (spn ws) = rdf ((rk (ss ++ ws) - rk ws) - (tgd (ls.map (lft (bas ss)))).2.length) (rk (ss ++ ws) - rk ss) := by
  unfold smr
  rw [kpt_eq hs, ldr_size hs hl hw hb, ← twn_tag]
  congr 1
  omega
/-! ### the fewest rounds -/
/-- what is reached -/
def rch (b l t : Nat) : Nat → Nat
  | 0 => 1 <<< b
  | i + 1 => rch b l t i + min (rch b l t i) (1 <<< (l + t))
theorem rch_dbl {b l t : Nat} : ∀ i, i ≤ l + t + 1 - b → b ≤ l + t ∨ i = 0 → rch b l t i = 2 ^ (b + i)
  | 0, _, _ => Nat.one_shiftLeft b
  | i + 1, h, hb => by
    have hb' : b ≤ l + t := by omega
    have ih := rch_dbl (b := b) (l := l) (t := t) i (by omega) (.inl hb')
    show rch b l t i + min (rch b l t i) (1 <<< (l + t)) = _
    rw [ih, Nat.one_shiftLeft, Nat.min_eq_left (Nat.pow_le_pow_right (by decide) (by omega)), ← Nat.add_assoc, Nat.pow_succ]
    omega
theorem rch_ge {b l t d : Nat} (h : 2 ^ (l + t) ≤ rch b l t d) : ∀ j, rch b l t (d + j) = rch b l t d + j * 2 ^ (l + t)
  | 0 => by simp
  | j + 1 => by
    have ih := rch_ge h j
    show rch b l t (d + j) + min (rch b l t (d + j)) (1 <<< (l + t)) = _
    rw [Nat.one_shiftLeft, Nat.min_eq_right (by rw [ih]; exact Nat.le_trans h (Nat.le_add_right _ _)), ih, Nat.succ_mul]
    omega
theorem rch_lt {b l t r : Nat} (h : rch b l t r = 2 ^ (b + l)) : ∀ i, i < r → rch b l t i < 2 ^ (b + l) := by
  have up : ∀ i j, i ≤ j → rch b l t i ≤ rch b l t j := by
    intro i j hij
    induction hij with
    | refl => exact Nat.le_refl _
    | step _ ih => exact Nat.le_trans ih (Nat.le_add_right _ _)
  have pos : ∀ i, 0 < rch b l t i := fun i => Nat.lt_of_lt_of_le (by show 0 < 1 <<< b; rw [Nat.one_shiftLeft]; exact Nat.two_pow_pos b) (up 0 i (Nat.zero_le _))
  intro i hi
  have a := up (i + 1) r hi
  have c : rch b l t (i + 1) = rch b l t i + min (rch b l t i) (1 <<< (l + t)) := rfl
  have d : 0 < min (rch b l t i) (1 <<< (l + t)) := by
    rw [Nat.one_shiftLeft]
    have := pos i
    have := Nat.two_pow_pos (l + t)
    omega
  omega
theorem rch_rdf (b l t : Nat) : rch b l t (rdf (b - t) l) = 2 ^ (b + l) := by
  by_cases h : b ≤ t
  · have e : rdf (b - t) l = l := by
      rw [show b - t = 0 by omega]
      unfold rdf
      split
      · have : l = 0 := by omega
        subst this; rfl
      · simp
    rw [e, rch_dbl l (by omega) (.inl (by omega))]
  · obtain ⟨a, rfl⟩ : ∃ a, b = t + a := ⟨b - t, by omega⟩
    rw [show t + a - t = a by omega]
    unfold rdf
    split
    · rename_i hl
      obtain ⟨c, rfl⟩ : ∃ c, a = l + c := ⟨a - l, by omega⟩
      have q := rch_ge (b := t + (l + c)) (l := l) (t := t) (d := 0) (by show _ ≤ 1 <<< _; rw [Nat.one_shiftLeft]; exact Nat.pow_le_pow_right (by decide) (by omega)) (1 <<< (l + c) - 1 <<< (l + c - l))
      rw [Nat.zero_add] at q
      rw [q, show l + c - l = c by omega]
      show 1 <<< _ + _ = _
      rw [Nat.one_shiftLeft, Nat.one_shiftLeft, Nat.one_shiftLeft, Nat.sub_mul, ← Nat.pow_add, ← Nat.pow_add]
      have m : 2 ^ (c + (l + t)) ≤ 2 ^ (l + c + (l + t)) := Nat.pow_le_pow_right (by decide) (by omega)
      have e1 : t + (l + c) = c + (l + t) := by omega
      have e2 : c + (l + t) + l = l + c + (l + t) := by omega
      rw [e1, e2]
      omega
    · rename_i hl
      obtain ⟨c, rfl⟩ : ∃ c, l = a + c := ⟨l - a, by omega⟩
      have q0 : rch (t + a) (a + c) t c = 2 ^ (t + a + c) := rch_dbl c (by omega) (.inl (by omega))
      have q := rch_ge (b := t + a) (l := a + c) (t := t) (d := c) (by rw [q0]; exact Nat.pow_le_pow_right (by decide) (by omega)) (2 ^ a - 1)
      have p := Nat.two_pow_pos a
      rw [Nat.one_shiftLeft, show 2 ^ a - 1 + (a + c) - a = c + (2 ^ a - 1) by omega, q, q0, Nat.sub_mul, Nat.one_mul, ← Nat.pow_add]
      have e1 : t + a + c = a + c + t := by omega
      have e2 : t + a + (a + c) = a + (a + c + t) := by omega
      have m : 2 ^ (a + c + t) ≤ 2 ^ (a + (a + c + t)) := Nat.pow_le_pow_right (by decide) (by omega)
      rw [e1, e2]
      omega
theorem rdf_small {n l : Nat} (h : n ≤ 5) (hl : l ≤ 300) : rdf n l < 400 := by
  unfold rdf
  have : 2 ^ n ≤ 2 ^ 5 := Nat.pow_le_pow_right (by decide) h
  rw [Nat.one_shiftLeft]
  split
  · exact Nat.lt_of_le_of_lt (Nat.sub_le _ _) (by omega)
  · omega
theorem fewest_ok {b l t : Nat} (hl : l ≤ 300) : b ≤ 5 → rdf (b - t) l < 400 ∧ 1 <<< (b + l) ≤ rch b l t (rdf (b - t) l) ∧ ∀ i, i < rdf (b - t) l → rch b l t i < 1 <<< (b + l) := fun hb => by
  have h := rch_rdf b l t
  refine ⟨rdf_small (by omega) hl, ?_, ?_⟩
  · rw [h, Nat.one_shiftLeft]; exact Nat.le_refl _
  · rw [Nat.one_shiftLeft]; exact rch_lt h
end LaneX
set_option linter.all false
namespace LaneX
/-! ### numbers by their bits -/
def bitsOf (f : Nat → Bool) : Nat → Nat
  | 0 => 0
  | n + 1 => bitsOf f n ^^^ (if f n = true then 2 ^ n else 0)
theorem bitsOf_lt (f : Nat → Bool) : ∀ n, bitsOf f n < 2 ^ n
  | 0 => Nat.zero_lt_one
  | n + 1 => by
    have h := bitsOf_lt f n
    have m : 2 ^ n ≤ 2 ^ (n + 1) := Nat.pow_le_pow_right (by decide) (Nat.le_succ n)
    unfold bitsOf
    refine Nat.xor_lt_two_pow (Nat.lt_of_lt_of_le h m) ?_
    split
    · exact Nat.pow_lt_pow_right (by decide) (Nat.lt_succ_self n)
    · exact Nat.two_pow_pos _
theorem bitsOf_bit (f : Nat → Bool) : ∀ n i, (bitsOf f n).testBit i = (decide (i < n) && f i)
  | 0, i => by simp [bitsOf]
  | n + 1, i => by
    unfold bitsOf
    rw [Nat.testBit_xor, bitsOf_bit f n i]
    by_cases e : i = n
    · subst e
      cases h : f i
      · simp
      · simp [Nat.testBit_two_pow]
    · have : (i < n + 1) ↔ i < n := by omega
      cases h : f n
      · simp [this]
      · simp [this, Nat.testBit_two_pow, show ¬ n = i from fun z => e z.symm]
theorem bitsOf_xor (f g : Nat → Bool) (n : Nat) : bitsOf (fun i => f i ^^ g i) n = bitsOf f n ^^^ bitsOf g n := by
  apply Nat.eq_of_testBit_eq
  intro i
  rw [Nat.testBit_xor, bitsOf_bit, bitsOf_bit, bitsOf_bit]
  cases decide (i < n) <;> simp
theorem imf_congr {cols : List Nat} {x y : Nat} : ∀ {n}, (∀ i, i < n → x.testBit i = y.testBit i) → imf cols x n = imf cols y n
  | 0, _ => rfl
  | n + 1, h => by rw [imf_succ, imf_succ, imf_congr fun i hi => h i (by omega), h n (by omega)]
theorem img_congr {cols : List Nat} {x y : Nat} (h : ∀ i, i < cols.length → x.testBit i = y.testBit i) : img cols x = img cols y := imf_congr h
theorem imf_cols {P Q : List Nat} {x : Nat} : ∀ {n}, (∀ i, i < n → P.getD i 0 = Q.getD i 0) → imf P x n = imf Q x n
  | 0, _ => rfl
  | n + 1, h => by rw [imf_succ, imf_succ, imf_cols fun i hi => h i (by omega), h n (by omega)]
/-- columns one by one added -/
theorem imf_add {P Q R : List Nat} {x : Nat} : ∀ {n}, (∀ i, i < n → R.getD i 0 = P.getD i 0 ^^^ Q.getD i 0) → imf R x n = imf P x n ^^^ imf Q x n
  | 0, _ => (Nat.xor_self 0).symm
  | n + 1, h => by
    rw [imf_succ, imf_succ, imf_succ, imf_add fun i hi => h i (by omega), h n (by omega)]
    split
    · rw [xor4]
    · rfl
/-! ### the coefficients of rows in a word -/
def cof (R : List Nat) (l : Nat) : Nat := bitsOf (fun i => l.testBit (blen (R.getD i 0) - 1)) R.length
theorem cof_lt (R : List Nat) (l : Nat) : cof R l < 2 ^ R.length := bitsOf_lt _ _
theorem cof_bit {R : List Nat} {l i : Nat} (h : i < R.length) : (cof R l).testBit i = l.testBit (blen (R.getD i 0) - 1) := by
  unfold cof
  rw [bitsOf_bit, decide_eq_true h]; rfl
theorem cof_xor (R : List Nat) (x y : Nat) : cof R (x ^^^ y) = cof R x ^^^ cof R y := by
  unfold cof
  rw [← bitsOf_xor]
  congr 1
  funext i
  rw [Nat.testBit_xor]
theorem clr_take {R : List Nat} (A : Rws R) (l : Nat) : ∀ k, k ≤ R.length → clr (R.take k) l = l ^^^ imf R (cof R l) k
  | 0, _ => by show l = l ^^^ 0; rw [Nat.xor_zero]
  | k + 1, h => by
    have tk : R.take (k + 1) = R.take k ++ [R.getD k 0] := by
      rw [List.take_succ, List.getD_eq_getElem?_getD, List.getElem?_eq_getElem (by omega)]; rfl
    have ih := clr_take A l k (by omega)
    rw [tk, clr_append, imf_succ]
    show clr [R.getD k 0] _ = _
    rw [clr_cons]
    show _ ^^^ bx _ _ = _
    have red := A.red
    have hb : (clr (R.take k) l).testBit (blen (R.getD k 0) - 1) = l.testBit (blen (R.getD k 0) - 1) := by
      refine clr_bit fun r hr => ?_
      have e : R = R.take k ++ R.drop k := (List.take_append_drop k R).symm
      rw [e] at red
      have := (List.pairwise_append.mp red).2.2 r hr (R.getD k 0) (by
        rw [List.getD_eq_getElem?_getD, List.getElem?_eq_getElem (by omega), List.drop_eq_getElem_cons (by omega)]
        exact .head _)
      exact this.1
    rw [hb, ← cof_bit (by omega), ih]
    cases (cof R l).testBit k
    · simp [bx]
    · simp only [bx, if_true]
      rw [Nat.xor_assoc]
theorem img_cof {R : List Nat} (A : Rws R) (l : Nat) : img R (cof R l) = l ^^^ clr R l := by
  have := clr_take A l R.length (Nat.le_refl _)
  rw [List.take_length] at this
  rw [this, xor_cancel]
  rfl
theorem clr_idem {R : List Nat} (A : Rws R) (l : Nat) : clr R (clr R l) = clr R l := clr_of_none fun r hr => clr_tops A r hr
theorem getD_mem' {R : List Nat} {i : Nat} (h : i < R.length) : R.getD i 0 ∈ R := getD_mem h
theorem cof_clr {R : List Nat} (A : Rws R) (l : Nat) : cof R (clr R l) = 0 := by
  apply Nat.eq_of_testBit_eq
  intro i
  rw [Nat.zero_testBit]
  by_cases h : i < R.length
  · rw [cof_bit h]; exact clr_tops A _ (getD_mem h)
  · exact Nat.testBit_lt_two_pow (Nat.lt_of_lt_of_le (cof_lt R _) (Nat.pow_le_pow_right (by decide) (by omega)))
theorem imf_bit {R : List Nat} {t c : Nat} : ∀ {n}, (∀ i, i < n → (R.getD i 0).testBit t = false) → (imf R c n).testBit t = false
  | 0, _ => Nat.zero_testBit _
  | n + 1, h => by
    have ih := imf_bit (c := c) fun i hi => h i (Nat.lt_succ_of_lt hi)
    rw [imf_succ]
    split
    · rw [Nat.testBit_xor, ih, h n (Nat.lt_succ_self n)]; rfl
    · exact ih
theorem Rws.getD_bit {R : List Nat} (A : Rws R) {i j : Nat} (hi : i < R.length) (hj : j < R.length) (h : i ≠ j) : (R.getD i 0).testBit (blen (R.getD j 0) - 1) = false := by
  have e : ∀ k, k < R.length → R.getD k 0 = R[k]?.getD 0 := fun k _ => List.getD_eq_getElem?_getD
  have p := List.pairwise_iff_getElem.mp A.red
  rw [List.getD_eq_getElem?_getD, List.getD_eq_getElem?_getD, List.getElem?_eq_getElem hi, List.getElem?_eq_getElem hj]
  show R[i].testBit (blen R[j] - 1) = false
  rcases Nat.lt_or_ge i j with q | q
  · exact (p i j hi hj q).1
  · exact (p j i hj hi (by omega)).2
theorem imf_top {R : List Nat} (A : Rws R) {j c : Nat} (hj : j < R.length) : ∀ n, n ≤ R.length → (imf R c n).testBit (blen (R.getD j 0) - 1) = (decide (j < n) && c.testBit j)
  | 0, _ => by show (0 : Nat).testBit _ = _; simp
  | n + 1, hn => by
    have ih := imf_top A (c := c) hj n (by omega)
    rw [imf_succ]
    by_cases e : j = n
    · subst e
      have z : decide (j < j) = false := by simp
      rw [z, Bool.false_and] at ih
      have t := testBit_top (A.nz _ (getD_mem hj))
      cases q : c.testBit j
      · rw [if_neg (by simp), ih]; simp
      · rw [if_pos rfl, Nat.testBit_xor, ih, t]; simp
    · have b := A.getD_bit (i := n) (j := j) (by omega) hj (fun z => e z.symm)
      have d : (j < n + 1) ↔ j < n := by omega
      cases q : c.testBit n
      · rw [if_neg (by simp), ih]; simp [d]
      · rw [if_pos rfl, Nat.testBit_xor, ih, b]; simp [d]
theorem cof_img {R : List Nat} (A : Rws R) {c : Nat} (h : c < 2 ^ R.length) : cof R (img R c) = c := by
  apply Nat.eq_of_testBit_eq
  intro i
  by_cases hi : i < R.length
  · rw [cof_bit hi]
    unfold img
    rw [imf_top A hi _ (Nat.le_refl _), decide_eq_true hi]; rfl
  · have m : 2 ^ R.length ≤ 2 ^ i := Nat.pow_le_pow_right (by decide) (by omega)
    rw [Nat.testBit_lt_two_pow (Nat.lt_of_lt_of_le (cof_lt R _) m), Nat.testBit_lt_two_pow (Nat.lt_of_lt_of_le h m)]
theorem clr_img {R : List Nat} (A : Rws R) (c : Nat) : clr R (img R c) = 0 := by
  rw [← A.span]
  have : ∀ n, n ≤ R.length → Spn R (imf R c n) := by
    intro n
    induction n with
    | zero => intro _; exact .zero
    | succ n ih =>
      intro h
      rw [imf_succ]
      split
      · exact (ih (by omega)).xor (.of (getD_mem h))
      · exact ih (by omega)
  exact this _ (Nat.le_refl _)
/-! ### a word cleared stays as short -/
theorem clr_lt' {k : Nat} : ∀ {rows : List Nat} {w : Nat}, w < 2 ^ k → clr rows w < 2 ^ k
  | [], w, h => h
  | r :: rs, w, h => by
    rw [clr_cons]
    refine clr_lt' ?_
    cases q : w.testBit (blen r - 1) with
    | false => simpa [bx] using h
    | true =>
      simp only [bx, if_true]
      refine Nat.xor_lt_two_pow h ?_
      by_cases z : r = 0
      · rw [z]; exact Nat.two_pow_pos k
      · rw [← blen_le]
        have b := blen_pos z
        refine Classical.byContradiction fun n => ?_
        rw [testBit_ge (n := w) (i := blen r - 1) (Nat.le_trans (blen_le.mpr h) (by omega))] at q
        cases q
/-! ### solving -/
def slv (ss : List Nat) (g : Nat) : Nat := clr (prd ss) (g <<< ss.length)
theorem slv_ok {ss : List Nat} {g : Nat} (h : Spn ss g) : slv ss g < 2 ^ ss.length ∧ img ss (slv ss g) = g := by
  have h' : Spn (ss.take ss.length) g := by rw [List.take_length]; exact h
  obtain ⟨x, hx, rfl⟩ := span_img (Nat.le_refl _) h'
  have R := spn_rws (prs ss)
  have e1 : img ss x <<< ss.length = ((img ss x <<< ss.length) ^^^ x) ^^^ x := (xor_cancel_right _ _).symm
  have e2 : slv ss (img ss x) = clr (prd ss) x := by
    have z : clr (prd ss) ((img ss x <<< ss.length) ^^^ x) = 0 := R.span.mp ((spn_span _ _).mpr (prs_bwd ss (Nat.le_refl _) hx))
    unfold slv
    rw [e1, clr_xor, z, Nat.zero_xor]
  have h2 : clr (prd ss) x < 2 ^ ss.length := clr_lt' hx
  rw [e2]
  refine ⟨h2, ?_⟩
  have h3 := (spn_span (prs ss) _).mp (spn_clr (prd ss) x)
  have h4 : Spn (ker ss) (x ^^^ clr (prd ss) x) := by
    unfold ker prd
    rw [R.low_span, spn_span]
    exact ⟨h3, Nat.xor_lt_two_pow hx h2⟩
  have h5 := ((ker_span ss _).mp h4).2
  rw [(lin_img ss).x] at h5
  exact (xor_eq_zero h5).symm
/-! ### writes -/
section
variable (ss ls : List Nat)
def wmn : Nat := min (spn ss).length (twn ss ls).length
def wgoal (i : Nat) (tw : Nat) : Nat := img ls tw ^^^ (if i < wmn ss ls then (spn ss).getD i 0 else 0)
def wtn (i : Nat) (tw : Nat) : Nat × Nat := (blen tw - 1, slv ss (wgoal ss ls i tw))
def wts : List (Nat × Nat) := (List.range (twn ss ls).length).map fun i => wtn ss ls i ((twn ss ls).getD i 0)
def wst : List Nat := ((spn ss).drop (wmn ss ls)).map (slv ss)
def wslot (n l : Nat) : Nat := (wts ss ls).foldl (fun s p => if l.testBit p.1 = true then s ^^^ p.2 else s) (img (wst ss ls) n)
def went (n l : Nat) : Nat := img ss (wslot ss ls n l) ^^^ img ls l
end
section
variable {ss ls : List Nat}
theorem wfold {ps : List (Nat × Nat)} {l s : Nat} : ps.foldl (fun s p => if l.testBit p.1 = true then s ^^^ p.2 else s) s = s ^^^ img (ps.map Prod.snd) (bitsOf (fun i => l.testBit (ps.getD i (0, 0)).1) ps.length) := by
  have : ∀ k, k ≤ ps.length → (ps.take k).foldl (fun s p => if l.testBit p.1 = true then s ^^^ p.2 else s) s = s ^^^ imf (ps.map Prod.snd) (bitsOf (fun i => l.testBit (ps.getD i (0, 0)).1) ps.length) k := by
    intro k
    induction k with
    | zero => intro _; show s = s ^^^ 0; rw [Nat.xor_zero]
    | succ k ih =>
      intro h
      have tk : ps.take (k + 1) = ps.take k ++ [ps.getD k (0, 0)] := by
        rw [List.take_succ, List.getD_eq_getElem?_getD, List.getElem?_eq_getElem (by omega)]; rfl
      have e : (ps.map Prod.snd).getD k 0 = (ps.getD k (0, 0)).2 := by
        simp only [List.getD_eq_getElem?_getD, List.getElem?_map, List.getElem?_eq_getElem (show k < ps.length by omega)]
        rfl
      rw [tk, List.foldl_append, ih (by omega), imf_succ, bitsOf_bit, decide_eq_true (show k < ps.length by omega), e]
      show (if _ then _ else _) = _
      simp only [Bool.true_and]
      split
      · rw [Nat.xor_assoc]
      · rfl
  have q := this ps.length (Nat.le_refl _)
  rw [List.take_length] at q
  rw [q]
  unfold img
  rw [List.length_map]
theorem twn_rws (ss ls : List Nat) : Rws (twn ss ls) := spn_rws _
theorem wgoal_in (i : Nat) {tw : Nat} (h : tw ∈ twn ss ls) : Spn ss (wgoal ss ls i tw) := by
  refine ((twn_span ss ls tw).mp (.of h)).2.xor ?_
  split
  · rename_i hi
    rw [← spn_span]
    exact .of (getD_mem (by unfold wmn at hi; omega))
  · exact .zero
theorem wts_len : (wts ss ls).length = (twn ss ls).length := by simp [wts]
theorem wts_get {i : Nat} (h : i < (twn ss ls).length) : (wts ss ls).getD i (0, 0) = wtn ss ls i ((twn ss ls).getD i 0) := by
  unfold wts
  rw [List.getD_eq_getElem?_getD, List.getElem?_map, List.getElem?_range h]
  rfl
theorem wslot_eq (n l : Nat) : wslot ss ls n l = img (wst ss ls) n ^^^ img ((wts ss ls).map Prod.snd) (cof (twn ss ls) l) := by
  unfold wslot
  rw [wfold]
  congr 1
  refine img_congr fun i hi => ?_
  rw [List.length_map, wts_len] at hi
  rw [bitsOf_bit, wts_len, decide_eq_true hi, wts_get hi, cof_bit hi]
  rfl
theorem wst_lt : ∀ x ∈ wst ss ls, x < 2 ^ ss.length := fun x hx => by
  obtain ⟨r, hr, rfl⟩ := List.mem_map.mp hx
  exact (slv_ok ((spn_span ss r).mp (.of (List.mem_of_mem_drop hr)))).1
theorem wts_lt : ∀ p ∈ wts ss ls, p.2 < 2 ^ ss.length := fun p hp => by
  obtain ⟨i, hi, rfl⟩ := List.mem_map.mp hp
  exact (slv_ok (wgoal_in i (getD_mem (List.mem_range.mp hi)))).1
theorem imf_lt {b : Nat} {cs : List Nat} (h : ∀ c ∈ cs, c < 2 ^ b) (x : Nat) : ∀ n, imf cs x n < 2 ^ b
  | 0 => Nat.two_pow_pos b
  | n + 1 => by
    rw [imf_succ]
    split
    · refine Nat.xor_lt_two_pow (imf_lt h x n) ?_
      rw [List.getD_eq_getElem?_getD]
      cases q : cs[n]? with
      | none => exact Nat.two_pow_pos b
      | some c => exact h c (List.mem_of_getElem? q)
    · exact imf_lt h x n
theorem wslot_lt (n l : Nat) : wslot ss ls n l < 2 ^ ss.length := by
  rw [wslot_eq]
  refine Nat.xor_lt_two_pow (imf_lt wst_lt _ _) (imf_lt (fun c hc => ?_) _ _)
  obtain ⟨p, hp, rfl⟩ := List.mem_map.mp hc
  exact wts_lt p hp
theorem img_self_map {ss cols : List Nat} (h : ∀ r ∈ cols, Spn ss r) (x : Nat) : img ss (img (cols.map (slv ss)) x) = img cols x := by
  rw [← img_map (lin_img ss), List.map_map]
  unfold img
  rw [List.length_map]
  refine imf_cols fun i hi => ?_
  simp only [List.getD_eq_getElem?_getD, List.getElem?_map, List.getElem?_eq_getElem hi]
  exact (slv_ok (h _ (List.getElem_mem hi))).2
theorem went_eq (n l : Nat) : went ss ls n l = img ((spn ss).drop (wmn ss ls)) n ^^^ img ((spn ss).take (wmn ss ls)) (cof (twn ss ls) l) ^^^ img ls (clr (twn ss ls) l) := by
  unfold went
  rw [wslot_eq, (lin_img ss).x]
  have e1 : img ss (img (wst ss ls) n) = img ((spn ss).drop (wmn ss ls)) n := img_self_map (fun r hr => (spn_span ss r).mp (.of (List.mem_of_mem_drop hr))) n
  have e2 : img ss (img ((wts ss ls).map Prod.snd) (cof (twn ss ls) l)) = img ls (img (twn ss ls) (cof (twn ss ls) l)) ^^^ img ((spn ss).take (wmn ss ls)) (cof (twn ss ls) l) := by
    have a : (wts ss ls).map Prod.snd = ((List.range (twn ss ls).length).map fun i => wgoal ss ls i ((twn ss ls).getD i 0)).map (slv ss) := by
      unfold wts
      rw [List.map_map, List.map_map]
      rfl
    rw [a, img_self_map (fun r hr => by
      obtain ⟨i, hi, rfl⟩ := List.mem_map.mp hr
      exact wgoal_in i (getD_mem (List.mem_range.mp hi))), ← img_map (lin_img ls)]
    unfold img
    rw [List.length_map, List.length_map, List.length_range, List.length_take]
    have pad : ∀ k c, wmn ss ls ≤ k → imf ((spn ss).take (wmn ss ls)) c (min (wmn ss ls) (spn ss).length) = imf ((spn ss).take (wmn ss ls)) c k := by
      intro k c hk
      have m : min (wmn ss ls) (spn ss).length = wmn ss ls := by unfold wmn; omega
      rw [m]
      induction k with
      | zero => rw [show wmn ss ls = 0 by omega]
      | succ k ih =>
        by_cases q : wmn ss ls = k + 1
        · rw [q]
        · rw [imf_succ, ← ih (by omega)]
          have z : ((spn ss).take (wmn ss ls)).getD k 0 = 0 := by
            rw [List.getD_eq_getElem?_getD, List.getElem?_eq_none (by rw [List.length_take]; omega)]; rfl
          rw [z, Nat.xor_zero, ite_self]
    rw [pad (twn ss ls).length _ (by unfold wmn; omega)]
    refine imf_add fun i hi => ?_
    have g1 : ((List.range (twn ss ls).length).map fun i => wgoal ss ls i ((twn ss ls).getD i 0)).getD i 0 = wgoal ss ls i ((twn ss ls).getD i 0) := by
      rw [List.getD_eq_getElem?_getD, List.getElem?_map, List.getElem?_range hi]; rfl
    have g2 : ((twn ss ls).map (img ls)).getD i 0 = img ls ((twn ss ls).getD i 0) := by
      simp only [List.getD_eq_getElem?_getD, List.getElem?_map, List.getElem?_eq_getElem hi]
      rfl
    have g3 : ((spn ss).take (wmn ss ls)).getD i 0 = if i < wmn ss ls then (spn ss).getD i 0 else 0 := by
      simp only [List.getD_eq_getElem?_getD, List.getElem?_take]
      split <;> rfl
    rw [g1]
    show _ = ((twn ss ls).map (img ls)).getD i 0 ^^^ _
    rw [g2, g3]
    rfl
  rw [e1, e2, img_cof (twn_rws ss ls), (lin_img ls).x]
  generalize img ((spn ss).drop (wmn ss ls)) n = A
  generalize img ((spn ss).take (wmn ss ls)) (cof (twn ss ls) l) = B
  generalize img ls (clr (twn ss ls) l) = C
  generalize img ls l = D
  have q : D ^^^ C ^^^ B ^^^ D = B ^^^ C := by
    rw [Nat.xor_comm (D ^^^ C ^^^ B) D, Nat.xor_assoc D C B, xor_cancel, Nat.xor_comm]
  rw [Nat.xor_assoc A, q, Nat.xor_assoc A]
theorem img_app {P Q : List Nat} {x y : Nat} (h : x < 2 ^ P.length) : img (P ++ Q) (x ^^^ (y <<< P.length)) = img P x ^^^ img Q y := by
  have h1 : ∀ k, k ≤ P.length → imf (P ++ Q) (x ^^^ (y <<< P.length)) k = imf P x k := by
    intro k hk
    rw [imf_cols (P := P ++ Q) (Q := P) (fun i hi => by simp only [List.getD_eq_getElem?_getD, List.getElem?_append_left (show i < P.length by omega)])]
    refine imf_congr fun i hi => ?_
    rw [Nat.testBit_xor, Nat.testBit_shiftLeft]
    have : ¬ (P.length ≤ i) := by omega
    simp [this]
  have h2 : ∀ k, imf (P ++ Q) (x ^^^ (y <<< P.length)) (P.length + k) = imf P x P.length ^^^ imf Q y k := by
    intro k
    induction k with
    | zero => rw [Nat.add_zero, h1 _ (Nat.le_refl _)]; show _ = _ ^^^ 0; rw [Nat.xor_zero]
    | succ k ih =>
      rw [← Nat.add_assoc, imf_succ, imf_succ, ih]
      have g : (P ++ Q).getD (P.length + k) 0 = Q.getD k 0 := by
        simp only [List.getD_eq_getElem?_getD, List.getElem?_append_right (Nat.le_add_right P.length k), Nat.add_sub_cancel_left]
      have t : (x ^^^ (y <<< P.length)).testBit (P.length + k) = y.testBit k := by
        rw [Nat.testBit_xor, Nat.testBit_shiftLeft, Nat.testBit_lt_two_pow (Nat.lt_of_lt_of_le h (Nat.pow_le_pow_right (by decide) (Nat.le_add_right _ _)))]
        simp
      rw [g, t]
      split
      · rw [Nat.xor_assoc]
      · rfl
  unfold img
  rw [List.length_append, h2]
theorem ind_inj {A : List Nat} (h : rk A = A.length) {x : Nat} (hx : x < 2 ^ A.length) (e : img A x = 0) : x = 0 := by
  have k := ker_len_eq A
  have z : ker A = [] := List.length_eq_zero_iff.mp (by omega)
  have s := (ker_span A x).mpr ⟨hx, e⟩
  rw [z] at s
  exact s.nil
theorem in_full {ws : List Nat} {b e : Nat} (h : ∀ w ∈ ws, w < 2 ^ b) (hb : b ≤ rk ws) (he : e < 2 ^ b) : Spn ws e := by
  refine Classical.byContradiction fun n => ?_
  have a := rk_snoc_out n
  have c := rk_le_bits (ws := ws ++ [e]) (b := b) fun w hw => by
    rcases List.mem_append.mp hw with hw | hw
    · exact h w hw
    · rcases List.mem_singleton.mp hw with rfl; exact he
  omega
theorem span_split {a b : List Nat} {e : Nat} (h : Spn (a ++ b) e) : ∃ s q, Spn a s ∧ Spn b q ∧ e = s ^^^ q := by
  induction h with
  | zero => exact ⟨0, 0, .zero, .zero, rfl⟩
  | @add y w hw _ ih =>
    obtain ⟨s, q, hs, hq, rfl⟩ := ih
    rcases List.mem_append.mp hw with hw | hw
    · exact ⟨s ^^^ w, q, .add hw hs, hq, by rw [Nat.xor_assoc, Nat.xor_assoc, Nat.xor_comm q w]⟩
    · exact ⟨s, q ^^^ w, hs, .add hw hq, by rw [Nat.xor_assoc]⟩
section
variable {b : Nat} (hs : ∀ x ∈ ss, x < 2 ^ b) (hl : ∀ x ∈ ls, x < 2 ^ b) (hb : b ≤ rk (ss ++ ls))
include hs hl hb
theorem wcount : (spn ss).length - wmn ss ls = b - ls.length := by
  have a := twn_size ss ls
  have f : rk (ss ++ ls) = b := Nat.le_antisymm (rk_le_bits fun x hx => (List.mem_append.mp hx).elim (hs x) (hl x)) hb
  have e2 : (spn ss).length = rk ss := rfl
  unfold wmn
  omega
theorem went_surj {e : Nat} (he : e < 2 ^ b) : ∃ n l, n < 2 ^ (b - ls.length) ∧ l < 2 ^ ls.length ∧ went ss ls n l = e := by
  have wc := wcount hs hl hb
  have R := twn_rws ss ls
  have A := spn_rws ss
  obtain ⟨s, q, h1, h2, rfl⟩ := span_split (in_full (fun w hw => (List.mem_append.mp hw).elim (hs w) (hl w)) hb he)
  have h2' : Spn (ls.take ls.length) q := by rw [List.take_length]; exact h2
  obtain ⟨l0, hl0, rfl⟩ := span_img (Nat.le_refl _) h2'
  have tb : ∀ r ∈ twn ss ls, r < 2 ^ ls.length := fun r hr => ((twn_span ss ls r).mp (.of hr)).1
  have hc : clr (twn ss ls) l0 < 2 ^ ls.length := clr_lt tb hl0
  -- what is left lies in the slot space
  have h3 : Spn ss (s ^^^ img ls l0 ^^^ img ls (clr (twn ss ls) l0)) := by
    rw [Nat.xor_assoc, ← (lin_img ls).x]
    exact h1.xor ((twn_span ss ls _).mp (spn_clr _ l0)).2
  have h4 : Spn ((spn ss).take (spn ss).length) (s ^^^ img ls l0 ^^^ img ls (clr (twn ss ls) l0)) := by rw [List.take_length, spn_span]; exact h3
  obtain ⟨x, hx, ex⟩ := span_img (Nat.le_refl _) h4
  have m1 : wmn ss ls ≤ (spn ss).length := by unfold wmn; omega
  have m2 : wmn ss ls ≤ (twn ss ls).length := by unfold wmn; omega
  have tl : ((spn ss).take (wmn ss ls)).length = wmn ss ls := by rw [List.length_take]; omega
  have cl : x % 2 ^ wmn ss ls < 2 ^ wmn ss ls := Nat.mod_lt _ (Nat.two_pow_pos _)
  have cl2 : x % 2 ^ wmn ss ls < 2 ^ (twn ss ls).length := Nat.lt_of_lt_of_le cl (Nat.pow_le_pow_right (by decide) m2)
  refine ⟨x >>> wmn ss ls, clr (twn ss ls) l0 ^^^ img (twn ss ls) (x % 2 ^ wmn ss ls), ?_, Nat.xor_lt_two_pow hc (imf_lt tb _ _), ?_⟩
  · rw [Nat.shiftRight_eq_div_pow, ← wc]
    rw [Nat.div_lt_iff_lt_mul (Nat.two_pow_pos _), ← Nat.pow_add, show (spn ss).length - wmn ss ls + wmn ss ls = (spn ss).length by omega]
    exact hx
  · rw [went_eq, cof_xor, cof_clr R, Nat.zero_xor, cof_img R cl2, clr_xor, clr_idem R, clr_img R, Nat.xor_zero]
    have q := img_app (P := (spn ss).take (wmn ss ls)) (Q := (spn ss).drop (wmn ss ls)) (x := x % 2 ^ wmn ss ls) (y := x >>> wmn ss ls) (by rw [tl]; exact cl)
    rw [List.take_append_drop, tl, Nat.xor_comm (x % _), ← add_eq_xor cl, Nat.shiftRight_eq_div_pow, Nat.shiftLeft_eq, Nat.mul_comm, Nat.div_add_mod, ex] at q
    rw [Nat.shiftRight_eq_div_pow, Nat.xor_comm (img _ _) (img _ _), ← q, xor_cancel_right]
theorem went_zero (ht : ls.length ≤ b) {n l : Nat} (hn : n < 2 ^ (b - ls.length)) (hl2 : l < 2 ^ ls.length) (h : went ss ls n l = 0) : n = 0 ∧ l = 0 := by
  have wc := wcount hs hl hb
  have R := twn_rws ss ls
  have A := spn_rws ss
  have a := twn_size ss ls
  have f : rk (ss ++ ls) = b := Nat.le_antisymm (rk_le_bits fun x hx => (List.mem_append.mp hx).elim (hs x) (hl x)) hb
  have e2 : (spn ss).length = rk ss := rfl
  have m : wmn ss ls = (twn ss ls).length := by unfold wmn; omega
  have m1 : wmn ss ls ≤ (spn ss).length := by unfold wmn; omega
  have tl : ((spn ss).take (wmn ss ls)).length = wmn ss ls := by rw [List.length_take]; omega
  have tb : ∀ r ∈ twn ss ls, r < 2 ^ ls.length := fun r hr => ((twn_span ss ls r).mp (.of hr)).1
  have cl : cof (twn ss ls) l < 2 ^ ((spn ss).take (wmn ss ls)).length := by rw [tl, m]; exact cof_lt _ _
  rw [went_eq] at h
  have q := img_app (Q := (spn ss).drop (wmn ss ls)) (y := n) cl
  rw [List.take_append_drop, tl] at q
  rw [Nat.xor_comm (img ((spn ss).drop _) _), ← q] at h
  have h' := xor_eq_zero h
  have sA : ∀ x k, k ≤ (spn ss).length → Spn ss (imf (spn ss) x k) := by
    intro x k
    induction k with
    | zero => intro _; exact .zero
    | succ k ih =>
      intro hk
      rw [imf_succ]
      split
      · exact (ih (by omega)).xor ((spn_span ss _).mp (.of (getD_mem hk)))
      · exact ih (by omega)
  have hz : clr (twn ss ls) l = 0 := by
    have s1 : Spn (twn ss ls) (clr (twn ss ls) l) := (twn_span ss ls _).mpr ⟨clr_lt tb hl2, by rw [← h']; exact sA _ _ (Nat.le_refl _)⟩
    have s2 := R.span.mp s1
    rwa [clr_idem R] at s2
  rw [hz, (lin_img ls).z] at h'
  have big : cof (twn ss ls) l ^^^ (n <<< wmn ss ls) < 2 ^ (spn ss).length := by
    refine Nat.xor_lt_two_pow (Nat.lt_of_lt_of_le cl (Nat.pow_le_pow_right (by decide) (by rw [tl]; exact m1))) ?_
    rw [Nat.shiftLeft_eq, show (spn ss).length = (b - ls.length) + wmn ss ls by omega, Nat.pow_add]
    exact Nat.mul_lt_mul_of_pos_right hn (Nat.two_pow_pos _)
  have z := ind_inj (spn_id A) big h'
  have n0 : n = 0 := by
    have := congrArg (fun x => x >>> wmn ss ls) z
    simp only [Nat.shiftRight_xor_distrib, Nat.shiftLeft_shiftRight, Nat.zero_shiftRight] at this
    rw [Nat.shiftRight_eq_div_pow, Nat.div_eq_of_lt (by rw [tl] at cl; exact cl), Nat.zero_xor] at this
    exact this
  rw [n0, Nat.zero_shiftLeft, Nat.xor_zero] at z
  have il := img_cof R l
  rw [z, (lin_img _).z, hz, Nat.xor_zero] at il
  exact ⟨n0, il.symm⟩
theorem went_inj (ht : ls.length ≤ b) {n l n' l' : Nat} (hn : n < 2 ^ (b - ls.length)) (hl2 : l < 2 ^ ls.length) (hn' : n' < 2 ^ (b - ls.length)) (hl2' : l' < 2 ^ ls.length) (h : went ss ls n l = went ss ls n' l') : n = n' ∧ l = l' := by
  have e : went ss ls (n ^^^ n') (l ^^^ l') = 0 := by
    have : went ss ls (n ^^^ n') (l ^^^ l') = went ss ls n l ^^^ went ss ls n' l' := by
      rw [went_eq, went_eq, went_eq, cof_xor, clr_xor, (lin_img _).x, (lin_img _).x, (lin_img _).x]
      rw [xor4 (img _ n), xor4 (_ ^^^ _) (_ ^^^ _)]
    rw [this, h, Nat.xor_self]
  obtain ⟨a, c⟩ := went_zero hs hl hb ht (Nat.xor_lt_two_pow hn hn') (Nat.xor_lt_two_pow hl2 hl2') e
  exact ⟨xor_eq_zero a, xor_eq_zero c⟩
end
end
end LaneX
set_option linter.all false
namespace LaneX
/-! ### the sums that lanes hold, step by step (k36) -/
theorem span_snoc {A : List Nat} {w x : Nat} : Spn (A ++ [w]) x ↔ Spn A x ∨ Spn A (x ^^^ w) := by
  constructor
  · intro h
    obtain ⟨s, q, h1, h2, rfl⟩ := span_split h
    have : q = 0 ∨ q = w := by
      clear h
      induction h2 with
      | zero => exact .inl rfl
      | add hw _ ih =>
        rcases List.mem_singleton.mp hw with rfl
        rcases ih with rfl | rfl
        · rw [Nat.zero_xor]; exact .inr rfl
        · rw [Nat.xor_self]; exact .inl rfl
    rcases this with rfl | rfl
    · rw [Nat.xor_zero]; exact .inl h1
    · rw [xor_cancel_right]; exact .inr h1
  · rintro (h | h)
    · exact h.sub fun z hz => List.mem_append_left _ hz
    · have a : Spn (A ++ [w]) (x ^^^ w) := h.sub fun z hz => List.mem_append_left _ hz
      have b : Spn (A ++ [w]) w := .of (List.mem_append_right _ (List.mem_singleton_self _))
      have := a.xor b
      rwa [xor_cancel_right] at this
/-- an entry that a lane knows of behind the steps P -/
def Ent (ss ls P : List Nat) (L e : Nat) : Prop := Spn (ss ++ P.map (img ls)) (e ^^^ img ls L)
theorem ent_nil {ss ls : List Nat} {L e : Nat} : Ent ss ls [] L e ↔ ∃ s, s < 2 ^ ss.length ∧ img ls L ^^^ img ss s = e := by
  unfold Ent
  rw [List.map_nil, List.append_nil]
  constructor
  · intro h
    obtain ⟨x, hx, e1⟩ := span_img (cols := ss) (Nat.le_refl _) (by rwa [List.take_length])
    refine ⟨x, hx, ?_⟩
    rw [e1, Nat.xor_comm e, xor_cancel]
  · rintro ⟨s, hs, rfl⟩
    rw [Nat.xor_comm, xor_cancel]
    have := img_span (cols := ss) (Nat.le_refl _) hs
    rwa [List.take_length] at this
theorem ent_snoc {ss ls P : List Nat} {p L e : Nat} : Ent ss ls (P ++ [p]) L e ↔ Ent ss ls P L e ∨ Ent ss ls P (L ^^^ p) e := by
  unfold Ent
  rw [List.map_append, List.map_singleton, ← List.append_assoc, span_snoc, (lin_img ls).x, Nat.xor_assoc]
theorem ent_apart {ss ls P : List Nat} {p L e : Nat} (hp : ¬ Spn (ss ++ P.map (img ls)) (img ls p)) (h1 : Ent ss ls P L e) (h2 : Ent ss ls P (L ^^^ p) e) : False := by
  refine hp ?_
  have := Spn.xor h1 h2
  rw [(lin_img ls).x] at this
  have e1 : e ^^^ img ls L ^^^ (e ^^^ (img ls L ^^^ img ls p)) = img ls p := by
    rw [← Nat.xor_assoc e, xor_cancel]
  rwa [e1] at this
theorem ent_lt {b : Nat} {ss ls P : List Nat} (hs : ∀ x ∈ ss, x < 2 ^ b) (hl : ∀ x ∈ ls, x < 2 ^ b) {L e : Nat} (h : Ent ss ls P L e) : e < 2 ^ b := by
  have a : e ^^^ img ls L < 2 ^ b := Spn.lt h fun w hw => by
    rcases List.mem_append.mp hw with hw | hw
    · exact hs w hw
    · obtain ⟨p, _, rfl⟩ := List.mem_map.mp hw
      exact imf_lt hl _ _
  have b1 : img ls L < 2 ^ b := imf_lt hl _ _
  have := Nat.xor_lt_two_pow a b1
  rwa [xor_cancel_right] at this
/-- steps that are independent beside the slots -/
def Fre (ss ls P : List Nat) : Prop := rk (ss ++ P.map (img ls)) = rk ss + P.length
theorem Fre.perm {ss ls P Q : List Nat} (h : Fre ss ls P) (p : Q.Perm P) : Fre ss ls Q := by
  unfold Fre at *
  rw [p.length_eq, ← h]
  exact rk_perm ((p.map _).append_left ss)
theorem Fre.head {ss ls P Q : List Nat} (h : Fre ss ls (P ++ Q)) : Fre ss ls P := by
  unfold Fre at *
  rw [List.map_append, ← List.append_assoc, List.length_append] at h
  have a := rk_app_len (ss ++ P.map (img ls)) (Q.map (img ls))
  have b := rk_app_len ss (P.map (img ls))
  rw [List.length_map] at a b
  omega
theorem Fre.out {ss ls P : List Nat} {p : Nat} (h : Fre ss ls (P ++ [p])) : ¬ Spn (ss ++ P.map (img ls)) (img ls p) := by
  intro z
  have a := h.head
  unfold Fre at *
  rw [List.map_append, List.map_singleton, ← List.append_assoc, rk_snoc_in z, List.length_append] at h
  simp only [List.length_singleton] at h
  omega
theorem ldr_free (ss ls ws : List Nat) : Fre ss ls (ldr ss ls (spn ws)) := by
  have a := (red_lft ss).rk ((ldr ss ls (spn ws)).map (img ls))
  rw [List.map_map] at a
  have b := ldr_rk ss ls ws
  unfold Fre
  have e : (fun x => lft (bas ss) (img ls x)) = lft (bas ss) ∘ img ls := rfl
  rw [e] at b
  omega
theorem ldr_spans {b : Nat} {ss ls ws : List Nat} (hs : ∀ x ∈ ss, x < 2 ^ b) (hl : ∀ x ∈ ls, x < 2 ^ b) (hw : ∀ x ∈ ws, x < 2 ^ b) (hb : b ≤ rk (ss ++ ls)) {w : Nat} (h : Spn ws w) : Spn (ss ++ (ldr ss ls (spn ws)).map (img ls)) w := by
  have wl : w < 2 ^ b := h.lt hw
  obtain ⟨s, q, h1, h2, rfl⟩ := span_split (in_full (ws := ss ++ ls) (fun w hw => (List.mem_append.mp hw).elim (hs w) (hl w)) hb wl)
  obtain ⟨x, hx, rfl⟩ := span_img (cols := ls) (Nat.le_refl _) (by rwa [List.take_length])
  have px : Spn (ss ++ ws) (img ls x) := by
    have a : Spn (ss ++ ws) (s ^^^ img ls x) := h.sub fun z hz => List.mem_append_right _ hz
    have c : Spn (ss ++ ws) s := h1.sub fun z hz => List.mem_append_left _ hz
    have := c.xor a
    rwa [xor_cancel] at this
  have pp : Spn (prt ss ls (spn ws)) x := (prt_span ss ls ws x).mpr ⟨hx, px⟩
  have R : Rws (twn ss ls) := spn_rws _
  have cs := cms_span R (prt ss ls (spn ws))
  have q2 : Spn (twn ss ls ++ ldr ss ls (spn ws)) x := (cs.2 x).mp ((cs.1 x).mpr (pp.sub fun z hz => List.mem_append_right _ hz))
  obtain ⟨t, y, ht, hy, rfl⟩ := span_split q2
  have i1 : Spn ss (img ls t) := ((twn_span ss ls t).mp ht).2
  have i2 : Spn ((ldr ss ls (spn ws)).map (img ls)) (img ls y) := (lin_img ls).spn hy
  rw [(lin_img ls).x, ← Nat.xor_assoc]
  exact ((h1.xor i1).sub fun z hz => List.mem_append_left _ hz).xor (i2.sub fun z hz => List.mem_append_right _ hz)
theorem coset_span {ws : List Nat} {x y : Nat} : lft (bas ws) x = lft (bas ws) y ↔ Spn ws (x ^^^ y) := by
  rw [← lft_bas, lft_xor]
  exact ⟨fun h => by rw [h, Nat.xor_self], fun h => xor_eq_zero h⟩
/-- behind all steps a lane knows of all entries of the cosets of which it holds one -/
theorem ent_all {b : Nat} {ss ls ws P : List Nat} (hs : ∀ x ∈ ss, x < 2 ^ b) (hl : ∀ x ∈ ls, x < 2 ^ b) (hw : ∀ x ∈ ws, x < 2 ^ b) (hb : b ≤ rk (ss ++ ls)) (hP : P.Perm (ldr ss ls (spn ws))) {L e0 e : Nat} (h0 : Ent ss ls [] L e0)
    (he : lft (bas ws) e = lft (bas ws) e0) : Ent ss ls P L e := by
  have a := ldr_spans hs hl hw hb (coset_span.mp he)
  have c : Spn (ss ++ P.map (img ls)) (e ^^^ e0) := a.sub fun z hz => by
    rcases List.mem_append.mp hz with hz | hz
    · exact List.mem_append_left _ hz
    · exact List.mem_append_right _ ((hP.map (img ls)).mem_iff.mpr hz)
  unfold Ent at *
  rw [List.map_nil, List.append_nil] at h0
  have d := c.xor (h0.sub (vs := ss ++ P.map (img ls)) fun z hz => List.mem_append_left _ hz)
  have e1 : e ^^^ e0 ^^^ (e0 ^^^ img ls L) = e ^^^ img ls L := by rw [Nat.xor_assoc, xor_cancel]
  rwa [e1] at d
/-- with one of the steps left out it lacks one of them -/
theorem ent_less {b : Nat} {ss ls ws P : List Nat} {p : Nat} (hs : ∀ x ∈ ss, x < 2 ^ b) (hl : ∀ x ∈ ls, x < 2 ^ b) (hw : ∀ x ∈ ws, x < 2 ^ b) (hP : ldr ss ls (spn ws) = p :: P) {L e0 : Nat} (h0 : Ent ss ls [] L e0) :
    ∃ e, e < 2 ^ b ∧ lft (bas ws) e = lft (bas ws) e0 ∧ ¬ Ent ss ls P L e := by
  have F : Fre ss ls (P ++ [p]) := (ldr_free ss ls ws).perm (by rw [hP]; exact List.perm_append_comm)
  have hp : p ∈ ldr ss ls (spn ws) := by rw [hP]; exact List.mem_cons_self
  have m := lft_bas.mp (ldr_mem hp).2
  obtain ⟨s, w, h1, h2, e1⟩ := span_split m
  refine ⟨e0 ^^^ w, Nat.xor_lt_two_pow (ent_lt hs hl h0) (h2.lt hw), coset_span.mpr ?_, fun z => F.out ?_⟩
  · rw [Nat.xor_comm e0, xor_cancel_right]; exact h2
  · unfold Ent at *
    rw [List.map_nil, List.append_nil] at h0
    have d := (z.xor (h0.sub (vs := ss ++ P.map (img ls)) fun z hz => List.mem_append_left _ hz)).xor (h1.sub (vs := ss ++ P.map (img ls)) fun z hz => List.mem_append_left _ hz)
    have e2 : e0 ^^^ w ^^^ img ls L ^^^ (e0 ^^^ img ls L) ^^^ s = img ls p := by
      rw [e1, Nat.xor_assoc e0 w, xor4, Nat.xor_self, Nat.zero_xor, xor_cancel_right, Nat.xor_comm]
    rwa [e2] at d
/-! ### masks -/
/-- the word with ones where p, below n -/
def mask (p : Nat → Bool) (n : Nat) : Nat := (((List.range n).filter p).map fun i => 1 <<< i).sum
theorem mask_bits (p : Nat → Bool) : ∀ n, mask p n = bitsOf p n
  | 0 => rfl
  | n + 1 => by
    have ih := mask_bits p n
    unfold mask at *
    rw [List.range_succ, List.filter_append, List.map_append, List.sum_append, ih]
    apply Nat.eq_of_testBit_eq
    intro i
    rw [bitsOf_bit]
    have lt := bitsOf_lt p n
    by_cases h : p n = true
    · have e : ((List.filter p [n]).map fun i => 1 <<< i).sum = 2 ^ n := by simp [h, Nat.one_shiftLeft]
      rw [e, Nat.add_comm]
      by_cases hi : i = n
      · subst hi
        rw [Nat.testBit_two_pow_add_eq, bitsOf_bit]
        simp [h]
      · rcases Nat.lt_or_gt_of_ne hi with hi | hi
        · rw [Nat.testBit_two_pow_add_gt hi, bitsOf_bit]
          have : i < n + 1 := by omega
          simp [hi, this]
        · rw [Nat.testBit_lt_two_pow]
          · simp; omega
          · have : 2 ^ (n + 1) ≤ 2 ^ i := Nat.pow_le_pow_right (by decide) hi
            rw [Nat.pow_succ] at this
            omega
    · have e : ((List.filter p [n]).map fun i => 1 <<< i).sum = 0 := by simp [h]
      rw [e, Nat.add_zero, bitsOf_bit]
      by_cases hi : i = n
      · subst hi; simp [h]
      · have : (i < n) ↔ (i < n + 1) := by omega
        simp [this]
theorem mask_bit (p : Nat → Bool) (n i : Nat) : (mask p n).testBit i = (decide (i < n) && p i) := by rw [mask_bits, bitsOf_bit]
theorem mask_lt (p : Nat → Bool) (n : Nat) : mask p n < 2 ^ n := by rw [mask_bits]; exact bitsOf_lt _ _
/-- m is the word of the entries of E whose coset is c -/
def Msk (rows : List Nat) (E : Nat → Prop) (c m : Nat) : Prop := ∀ e, m.testBit e = true ↔ E e ∧ lft rows e = c
theorem Msk.or {rows : List Nat} {E F : Nat → Prop} {c m n : Nat} (h : Msk rows E c m) (g : Msk rows F c n) : Msk rows (fun e => E e ∨ F e) c (m ||| n) := fun e => by
  rw [Nat.testBit_or, Bool.or_eq_true, h e, g e]
  constructor
  · rintro (⟨a, b⟩ | ⟨a, b⟩)
    · exact ⟨.inl a, b⟩
    · exact ⟨.inr a, b⟩
  · rintro ⟨a | a, b⟩
    · exact .inl ⟨a, b⟩
    · exact .inr ⟨a, b⟩
theorem Msk.and {rows : List Nat} {E F : Nat → Prop} {c m n : Nat} (h : Msk rows E c m) (g : Msk rows F c n) (d : ∀ e, E e → F e → False) : m &&& n = 0 := by
  apply Nat.eq_of_testBit_eq
  intro e
  rw [Nat.zero_testBit, Nat.testBit_and]
  cases h1 : m.testBit e with
  | false => rfl
  | true =>
    cases h2 : n.testBit e with
    | false => rfl
    | true => exact (d e ((h e).mp h1).1 ((g e).mp h2).1).elim
theorem Msk.zero {rows : List Nat} {E : Nat → Prop} {c : Nat} (h : ∀ e, E e → lft rows e ≠ c) : Msk rows E c 0 := fun e => by
  rw [Nat.zero_testBit]
  exact ⟨fun z => (by cases z), fun z => (h e z.1 z.2).elim⟩
theorem Msk.congr {rows : List Nat} {E F : Nat → Prop} {c m : Nat} (h : Msk rows E c m) (g : ∀ e, E e ↔ F e) : Msk rows F c m := fun e => by rw [h e, g e]
theorem Msk.unit {rows : List Nat} (e : Nat) : Msk rows (fun x => x = e) (lft rows e) (1 <<< e) := fun x => by
  rw [unit_bit, decide_eq_true_iff]
  exact ⟨fun h => by subst h; exact ⟨rfl, rfl⟩, fun h => h.1.symm⟩
theorem Msk.whole {rows : List Nat} {E : Nat → Prop} {c m n : Nat} (h : Msk rows E c m) (lt : ∀ e, E e → e < n) (all : ∀ e, e < n → lft rows e = c → E e) : m = mask (fun e => decide (lft rows e = c)) n := by
  apply Nat.eq_of_testBit_eq
  intro e
  rw [mask_bit, Bool.eq_iff_iff, h e, Bool.and_eq_true, decide_eq_true_iff, decide_eq_true_iff]
  exact ⟨fun z => ⟨lt e z.1, z.2⟩, fun z => ⟨all e z.1 z.2, z.2⟩⟩
theorem Msk.less {rows : List Nat} {E : Nat → Prop} {c m n : Nat} (h : Msk rows E c m) (ex : ∃ e, e < n ∧ lft rows e = c ∧ ¬ E e) : m ≠ mask (fun e => decide (lft rows e = c)) n := by
  obtain ⟨e, h1, h2, h3⟩ := ex
  rintro rfl
  have := (h e).mp (by rw [mask_bit]; simp [h1, h2])
  exact h3 this.1
end LaneX
set_option linter.all false
namespace LaneX
/-! ### drawn words that can be undone (k17 and the laws behind it) -/
theorem rk_of_inj {A : List Nat} (h : ∀ x, x < 2 ^ A.length → img A x = 0 → x = 0) : rk A = A.length := by
  have k := ker_len_eq A
  have z : ker A = [] := by
    cases e : ker A with
    | nil => rfl
    | cons r l =>
      have m : r ∈ ker A := by rw [e]; exact List.mem_cons_self
      have s := (ker_span A r).mp (.of m)
      exact absurd (h r s.1 s.2) ((ker_rws A).nz r m)
  rw [z] at k
  simpa using k
theorem imf_none {A : List Nat} {x : Nat} : ∀ n, (∀ i, i < n → x.testBit i = false) → imf A x n = 0
  | 0, _ => rfl
  | n + 1, h => by
    rw [imf_succ, h n (Nat.lt_succ_self n), if_neg (by decide)]
    exact imf_none n fun i hi => h i (Nat.lt_succ_of_lt hi)
/-- bit t stays where the columns behind n are 0 at it, or are not taken -/
theorem imf_stay {A : List Nat} {x t m : Nat} : ∀ k, (∀ i, m ≤ i → i < m + k → x.testBit i = true → (A.getD i 0).testBit t = false) → (imf A x (m + k)).testBit t = (imf A x m).testBit t
  | 0, _ => rfl
  | k + 1, h => by
    have ih := imf_stay k fun i h1 h2 h3 => h i h1 (by omega) h3
    show (imf A x (m + k + 1)).testBit t = _
    rw [imf_succ]
    by_cases e : x.testBit (m + k) = true
    · rw [if_pos e, Nat.testBit_xor, h (m + k) (by omega) (by omega) e, ih]; simp
    · rw [if_neg e, ih]
theorem low_below {n i : Nat} (h : n ≠ 0) (hi : i < low n) : n.testBit i = false := by
  induction n using Nat.strongRecOn generalizing i with
  | ind n ih =>
    unfold low at hi
    rw [dif_neg h] at hi
    split at hi
    · omega
    · rename_i h2
      cases i with
      | zero => rw [Nat.testBit_zero]; simp; omega
      | succ i =>
        rw [Nat.testBit_succ]
        exact ih (n / 2) (by omega) (by omega) (by omega)
/-- the columns' lowest bits are 0, 1, 2 .. -/
theorem rk_highs {A : List Nat} (h1 : ∀ i, i < A.length → (A.getD i 0).testBit i = true) (h2 : ∀ i j, i < A.length → j < i → (A.getD i 0).testBit j = false) : rk A = A.length := by
  refine rk_of_inj fun x hx e => Classical.byContradiction fun nz => ?_
  have lb := low_bit nz
  have ll : low x < A.length := by
    refine Nat.lt_of_not_le fun q => ?_
    have := Nat.testBit_lt_two_pow (Nat.lt_of_lt_of_le hx (Nat.pow_le_pow_right (by decide) q))
    rw [this] at lb; cases lb
  have a : imf A x (low x + 1) = A.getD (low x) 0 := by
    rw [imf_succ, if_pos lb, imf_none _ fun i hi => low_below nz hi, Nat.zero_xor]
  have c := imf_stay (A := A) (x := x) (t := low x) (m := low x + 1) (A.length - (low x + 1)) fun i h3 h4 _ => h2 i _ (by omega) (by omega)
  rw [show low x + 1 + (A.length - (low x + 1)) = A.length by omega, a, h1 _ ll] at c
  have d : (img A x).testBit (low x) = true := c
  rw [e] at d
  simp at d
/-- the columns' highest bits are 0, 1, 2 .. -/
theorem rk_lows {A : List Nat} (h1 : ∀ i, i < A.length → (A.getD i 0).testBit i = true) (h2 : ∀ i j, i < A.length → i < j → (A.getD i 0).testBit j = false) : rk A = A.length := by
  refine rk_of_inj fun x hx e => Classical.byContradiction fun nz => ?_
  have tb := testBit_top nz
  have tl : blen x - 1 < A.length := by
    have := blen_le.mpr hx
    have := blen_pos nz
    omega
  have a : (imf A x (blen x - 1)).testBit (blen x - 1) = false := by
    have c := imf_stay (A := A) (x := x) (t := blen x - 1) (m := 0) (blen x - 1) fun i _ h4 _ => h2 i _ (by omega) (by omega)
    rw [Nat.zero_add] at c
    rw [c]; exact Nat.zero_testBit _
  have a2 : (imf A x (blen x - 1 + 1)).testBit (blen x - 1) = true := by
    rw [imf_succ, if_pos tb, Nat.testBit_xor, a, h1 _ tl]; rfl
  have c := imf_stay (A := A) (x := x) (t := blen x - 1) (m := blen x - 1 + 1) (A.length - (blen x - 1 + 1)) fun i h3 h4 h5 => by
    rw [testBit_ge (by omega)] at h5; cases h5
  rw [show blen x - 1 + 1 + (A.length - (blen x - 1 + 1)) = A.length by omega, a2] at c
  have d : (img A x).testBit (blen x - 1) = true := c
  rw [e] at d
  simp at d
/-- M: as many words as bits, that can be undone -/
structure Mix (b : Nat) (M : List Nat) : Prop where
  len : M.length = b
  lt : ∀ x ∈ M, x < 2 ^ b
  rk : rk M = b
theorem Mix.perm {b : Nat} {M N : List Nat} (h : Mix b M) (p : N.Perm M) : Mix b N := ⟨p.length_eq.trans h.len, fun x hx => h.lt x (p.mem_iff.mp hx), (rk_perm p).trans h.rk⟩
theorem mix_units (b : Nat) : Mix b (units b) := ⟨by simp [units], fun x hx => by
  obtain ⟨i, hi, rfl⟩ := List.mem_map.mp hx
  rw [Nat.one_shiftLeft]
  exact Nat.pow_lt_pow_right (by decide) (List.mem_range.mp hi), units_rk b⟩
theorem mix_comp {b : Nat} {A B : List Nat} (hA : Mix b A) (hB : Mix b B) : Mix b (B.map (img A)) := by
  have l : (B.map (img A)).length = b := by rw [List.length_map, hB.len]
  refine ⟨l, fun x hx => ?_, ?_⟩
  · obtain ⟨y, _, rfl⟩ := List.mem_map.mp hx
    exact imf_lt hA.lt _ _
  · rw [rk_of_inj fun x hx e => ?_, l]
    rw [img_map (lin_img A)] at e
    rw [l] at hx
    have lt : img B x < 2 ^ A.length := by rw [hA.len]; exact imf_lt hB.lt _ _
    have z := ind_inj (by rw [hA.rk, hA.len]) lt e
    exact ind_inj (by rw [hB.rk, hB.len]) (by rw [hB.len]; exact hx) z
def hiw (w i : Nat) : Nat := 1 <<< i ||| (w >>> (i + 1)) <<< (i + 1)
def low' (w i : Nat) : Nat := 1 <<< i ||| (w &&& (1 <<< i - 1))
theorem hiw_bit (w i j : Nat) : (hiw w i).testBit j = (decide (i = j) || (decide (i + 1 ≤ j) && w.testBit j)) := by
  unfold hiw
  rw [Nat.testBit_or, unit_bit, Nat.testBit_shiftLeft]
  by_cases h : i + 1 ≤ j
  · rw [Nat.testBit_shiftRight, show i + 1 + (j - (i + 1)) = j by omega]
  · have : decide (j ≥ i + 1) = false := by simp; omega
    rw [this]; simp
theorem low'_bit (w i j : Nat) : (low' w i).testBit j = (decide (i = j) || (decide (j < i) && w.testBit j)) := by
  unfold low'
  rw [Nat.testBit_or, unit_bit, Nat.testBit_and, Nat.one_shiftLeft, Nat.testBit_two_pow_sub_one, Bool.and_comm (w.testBit j)]
theorem lt_of_bits {x b : Nat} (h : ∀ j, b ≤ j → x.testBit j = false) : x < 2 ^ b := Nat.lt_of_not_le fun q => by
  have nz : x ≠ 0 := fun z => by rw [z] at q; have := Nat.two_pow_pos b; omega
  have : b < blen x := Nat.lt_of_not_le fun z => by have := blen_le.mp z; omega
  have t := testBit_top nz
  rw [h _ (by omega)] at t; cases t
theorem hiw_lt {w i b : Nat} (hw : w < 2 ^ b) (hi : i < b) : hiw w i < 2 ^ b := lt_of_bits fun j hj => by
  rw [hiw_bit, Nat.testBit_lt_two_pow (Nat.lt_of_lt_of_le hw (Nat.pow_le_pow_right (by decide) hj))]
  have : decide (i = j) = false := by simp; omega
  rw [this]; simp
theorem low'_lt {w i b : Nat} (hi : i < b) : low' w i < 2 ^ b := lt_of_bits fun j hj => by
  rw [low'_bit]
  have : decide (i = j) = false := by simp; omega
  have : decide (j < i) = false := by simp; omega
  simp [*]
theorem map_range_getD (f : Nat → Nat) {b i : Nat} (h : i < b) : ((List.range b).map f).getD i 0 = f i := by
  rw [List.getD_eq_getElem?_getD, List.getElem?_map, List.getElem?_range h]; rfl
theorem mix_highs {b : Nat} {w : Nat → Nat} (hw : ∀ i, i < b → w i < 2 ^ b) : Mix b ((List.range b).map fun i => hiw (w i) i) := by
  have l : ((List.range b).map fun i => hiw (w i) i).length = b := by simp
  refine ⟨l, fun x hx => ?_, ?_⟩
  · obtain ⟨i, hi, rfl⟩ := List.mem_map.mp hx
    exact hiw_lt (hw i (List.mem_range.mp hi)) (List.mem_range.mp hi)
  · rw [rk_highs (fun i hi => ?_) (fun i j hi hj => ?_), l]
    · rw [l] at hi
      rw [map_range_getD _ hi, hiw_bit]; simp
    · rw [l] at hi
      rw [map_range_getD _ hi, hiw_bit]
      have : decide (i = j) = false := by simp; omega
      have : decide (i + 1 ≤ j) = false := by simp; omega
      simp [*]
theorem mix_lows {b : Nat} (w : Nat → Nat) : Mix b ((List.range b).map fun i => low' (w i) i) := by
  have l : ((List.range b).map fun i => low' (w i) i).length = b := by simp
  refine ⟨l, fun x hx => ?_, ?_⟩
  · obtain ⟨i, hi, rfl⟩ := List.mem_map.mp hx
    exact low'_lt (List.mem_range.mp hi)
  · rw [rk_lows (fun i hi => ?_) (fun i j hi hj => ?_), l]
    · rw [l] at hi
      rw [map_range_getD _ hi, low'_bit]; simp
    · rw [l] at hi
      rw [map_range_getD _ hi, low'_bit]
      have : decide (i = j) = false := by simp; omega
      have : decide (j < i) = false := by simp; omega
      simp [*]
/-- a list taken in another order -/
theorem perm_order {b : Nat} {o M : List Nat} (p : o.Perm (List.range b)) (l : M.length = b) : (o.map fun i => M.getD i 0).Perm M := by
  have a := p.map fun i => M.getD i 0
  have e : (List.range b).map (fun i => M.getD i 0) = M := by
    refine List.ext_getElem (by simp [l]) fun i h1 h2 => ?_
    rw [List.getElem_map, List.getElem_range, List.getD_eq_getElem?_getD, List.getElem?_eq_getElem h2]; rfl
  rwa [e] at a
/-- sums by words that can be undone span the same -/
theorem Mix.span {b : Nat} {M W : List Nat} (h : Mix b M) (l : W.length = b) (x : Nat) : Spn (M.map (img W)) x ↔ Spn W x := by
  constructor
  · intro hx
    refine hx.mono fun y hy => ?_
    obtain ⟨z, hz, rfl⟩ := List.mem_map.mp hy
    have := img_span (cols := W) (Nat.le_refl _) (by rw [l]; exact h.lt z hz)
    rwa [List.take_length] at this
  · intro hx
    obtain ⟨y, hy, rfl⟩ := span_img (cols := W) (Nat.le_refl _) (by rwa [List.take_length])
    exact (lin_img W).spn (in_full h.lt (Nat.le_of_eq h.rk.symm) (by rw [← l]; exact hy))
theorem img_in (W : List Nat) {z : Nat} (h : z < 2 ^ W.length) : Spn W (img W z) := by
  have := img_span (cols := W) (Nat.le_refl _) h
  rwa [List.take_length] at this
/-- one more word of the span, anywhere -/
theorem span_more {A B : List Nat} {w : Nat} (p : B.Perm (w :: A)) (h : Spn A w) (x : Nat) : Spn B x ↔ Spn A x := by
  constructor
  · intro hx
    refine hx.mono fun y hy => ?_
    rcases List.mem_cons.mp (p.mem_iff.mp hy) with rfl | hy
    · exact h
    · exact .of hy
  · exact fun hx => hx.sub fun y hy => p.mem_iff.mpr (List.mem_cons_of_mem _ hy)
/-- each word with a sum of others: beside these the same span -/
theorem span_shift {S A : List Nat} {n : Nat} {f g : Nat → Nat} (h : ∀ i, i < n → Spn S (f i ^^^ g i)) (x : Nat) : Spn (S ++ (List.range n).map f) x ↔ Spn (S ++ (List.range n).map g) x := by
  have one : ∀ {f g : Nat → Nat}, (∀ i, i < n → Spn S (f i ^^^ g i)) → ∀ x, Spn (S ++ (List.range n).map f) x → Spn (S ++ (List.range n).map g) x := by
    intro f g h x hx
    refine hx.mono fun y hy => ?_
    rcases List.mem_append.mp hy with hy | hy
    · exact .of (List.mem_append_left _ hy)
    · obtain ⟨i, hi, rfl⟩ := List.mem_map.mp hy
      have a : Spn (S ++ (List.range n).map g) (f i ^^^ g i) := (h i (List.mem_range.mp hi)).sub fun z hz => List.mem_append_left _ hz
      have c : Spn (S ++ (List.range n).map g) (g i) := .of (List.mem_append_right _ (List.mem_map.mpr ⟨i, hi, rfl⟩))
      have := a.xor c
      rwa [xor_cancel_right] at this
  exact ⟨one h x, one (fun i hi => by rw [Nat.xor_comm]; exact h i hi) x⟩
end LaneX
set_option linter.all false
namespace LaneX
/-! ### the law's own rows by min (k17 and others) -/
def les (rows : List Nat) (w : Nat) : Nat := rows.foldl (fun l r => min l (l ^^^ r)) w
theorem lt_bit {x y i : Nat} (hx : x.testBit i = false) (hy : y.testBit i = true) (h : ∀ j, i < j → x.testBit j = y.testBit j) : x < y := by
  have e1 : x >>> (i + 1) = y >>> (i + 1) := by
    apply Nat.eq_of_testBit_eq
    intro j
    rw [Nat.testBit_shiftRight, Nat.testBit_shiftRight]
    exact h _ (by omega)
  rw [Nat.shiftRight_eq_div_pow, Nat.shiftRight_eq_div_pow] at e1
  have p := Nat.two_pow_pos i
  have q : (2 : Nat) ^ (i + 1) = 2 * 2 ^ i := by rw [Nat.pow_succ]; omega
  have a : x % 2 ^ (i + 1) < 2 ^ i := by
    refine lt_of_bits fun j hj => ?_
    rw [Nat.testBit_mod_two_pow]
    by_cases z : j < i + 1
    · have : j = i := by omega
      subst this; simp [hx]
    · simp [z]
  have c : 2 ^ i ≤ y % 2 ^ (i + 1) := by
    refine Nat.ge_two_pow_of_testBit ?_
    rw [Nat.testBit_mod_two_pow, hy]; simp
  have d1 := Nat.div_add_mod x (2 ^ (i + 1))
  have d2 := Nat.div_add_mod y (2 ^ (i + 1))
  rw [e1] at d1
  omega
theorem min_xor {l r : Nat} (h : r ≠ 0) : min l (l ^^^ r) = if l.testBit (blen r - 1) = true then l ^^^ r else l := by
  have t := testBit_top h
  have above : ∀ j, blen r - 1 < j → (l ^^^ r).testBit j = l.testBit j := fun j hj => by
    rw [Nat.testBit_xor, testBit_ge (n := r) (by omega)]; simp
  by_cases e : l.testBit (blen r - 1) = true
  · rw [if_pos e]
    have : l ^^^ r < l := lt_bit (i := blen r - 1) (by rw [Nat.testBit_xor, e, t]; rfl) e fun j hj => above j hj
    omega
  · rw [if_neg e]
    have e' : l.testBit (blen r - 1) = false := by simpa using e
    have : l < l ^^^ r := lt_bit (i := blen r - 1) e' (by rw [Nat.testBit_xor, e', t]; rfl) fun j hj => (above j hj).symm
    omega
theorem les_clr : ∀ {rows : List Nat} (w : Nat), (∀ r ∈ rows, r ≠ 0) → les rows w = clr rows w
  | [], w, _ => rfl
  | r :: rs, w, h => by
    have ih := les_clr (rows := rs) (min w (w ^^^ r)) fun s hs => h s (List.mem_cons_of_mem _ hs)
    show les rs (min w (w ^^^ r)) = clr rs (if w.testBit (blen r - 1) = true then w ^^^ r else w)
    rw [ih, min_xor (h r List.mem_cons_self)]
def rwstep (rows : List Nat) (w : Nat) : List Nat := if clr rows w = 0 then rows else rows ++ [clr rows w]
def rws (ws : List Nat) : List Nat := ws.foldl rwstep []
theorem rws_snoc (a : List Nat) (w : Nat) : rws (a ++ [w]) = rwstep (rws a) w := List.foldl_append ..
/-- none is 0, later ones are 0 at the highest bits of earlier ones -/
structure Hws (rows : List Nat) : Prop where
  nz : ∀ r ∈ rows, r ≠ 0
  red : rows.Pairwise fun r s => s.testBit (blen r - 1) = false
theorem Hws.nil : Hws [] := ⟨fun _ h => (by cases h), .nil⟩
theorem Hws.tops : ∀ {rows : List Nat} {x : Nat}, Hws rows → ∀ r ∈ rows, (clr rows x).testBit (blen r - 1) = false
  | [], x, _, r, h => by cases h
  | s :: rs, x, R, r, h => by
    have hp := List.pairwise_cons.mp R.red
    have R' : Hws rs := ⟨fun t ht => R.nz t (.tail _ ht), hp.2⟩
    rw [clr_cons]
    rcases List.mem_cons.mp h with rfl | h
    · rw [clr_bit fun t ht => hp.1 t ht, Nat.testBit_xor]
      have := testBit_top (R.nz r (.head _))
      cases q : x.testBit (blen r - 1) <;> simp [bx, this]
    · exact R'.tops r h
theorem Hws.self : ∀ {rows : List Nat}, Hws rows → ∀ r ∈ rows, clr rows r = 0
  | [], _, r, h => by cases h
  | s :: rs, R, r, h => by
    have hp := List.pairwise_cons.mp R.red
    have R' : Hws rs := ⟨fun t ht => R.nz t (.tail _ ht), hp.2⟩
    rw [clr_cons]
    rcases List.mem_cons.mp h with rfl | h
    · rw [testBit_top (R.nz r (.head _))]
      simp [bx, clr_zero]
    · rw [hp.1 r h]
      simp only [bx, Bool.false_eq_true, if_false, Nat.xor_zero]
      exact R'.self r h
theorem Hws.span {rows : List Nat} (R : Hws rows) {x : Nat} : Spn rows x ↔ clr rows x = 0 := by
  constructor
  · intro h
    induction h with
    | zero => exact clr_zero rows
    | add hw _ ih => rw [clr_xor, ih, R.self _ hw]; rfl
  · intro h
    have := spn_clr rows x
    rwa [h, Nat.xor_zero] at this
theorem Hws.step {rows : List Nat} (R : Hws rows) (w : Nat) : Hws (rwstep rows w) := by
  unfold rwstep
  split
  · exact R
  · rename_i h
    refine ⟨fun r hr => ?_, List.pairwise_append.mpr ⟨R.red, by simp, fun r hr s hs => ?_⟩⟩
    · rcases List.mem_append.mp hr with hr | hr
      · exact R.nz r hr
      · rcases List.mem_singleton.mp hr with rfl; exact h
    · rcases List.mem_singleton.mp hs with rfl
      exact R.tops r hr
theorem Hws.ind {rows : List Nat} (R : Hws rows) : Ind rows := by
  have : ∀ n (l : List Nat), l.length = n → Hws l → Ind l := by
    intro n
    induction n with
    | zero => intro l hl _; rw [List.length_eq_zero_iff.mp hl]; exact .nil
    | succ n ih =>
      intro l hl L
      have hne : l ≠ [] := fun e => by rw [e] at hl; cases hl
      have e := List.dropLast_concat_getLast hne
      rw [← e] at L ⊢
      have hp := List.pairwise_append.mp L.red
      have L' : Hws l.dropLast := ⟨fun r hr => L.nz r (List.mem_append_left _ hr), hp.1⟩
      refine .snoc (ih _ (by rw [List.length_dropLast, hl]; rfl) L') fun hs => ?_
      have z := L'.span.mp hs
      rw [clr_of_none fun r hr => hp.2.2 r hr _ (List.mem_singleton_self _)] at z
      exact L.nz _ (List.mem_append_right _ (List.mem_singleton_self _)) z
  exact this _ rows rfl R
theorem rws_hws (ws : List Nat) : Hws (rws ws) := snoc_rec (p := fun l => Hws (rws l)) Hws.nil (fun a x ih => by rw [rws_snoc]; exact ih.step x) ws
/-- a word against what is left of it -/
theorem span_trade {rows : List Nat} {w l : Nat} (h : Spn rows (w ^^^ l)) (x : Nat) : Spn (rows ++ [l]) x ↔ Spn (rows ++ [w]) x := by
  rw [span_snoc, span_snoc]
  have e : ∀ a c : Nat, Spn rows (a ^^^ c) → Spn rows (x ^^^ a) → Spn rows (x ^^^ c) := fun a c h1 h2 => by
    have := h2.xor h1
    rwa [Nat.xor_assoc, xor_cancel] at this
  constructor
  · rintro (z | z)
    · exact .inl z
    · exact .inr (e l w (by rw [Nat.xor_comm]; exact h) z)
  · rintro (z | z)
    · exact .inl z
    · exact .inr (e w l h z)
theorem rwstep_span (rows : List Nat) (w x : Nat) : Spn (rwstep rows w) x ↔ Spn (rows ++ [w]) x := by
  have hw := spn_clr rows w
  unfold rwstep
  split
  · rename_i h
    rw [h, Nat.xor_zero] at hw
    rw [span_snoc]
    constructor
    · exact .inl
    · rintro (z | z)
      · exact z
      · have := z.xor hw
        rwa [xor_cancel_right] at this
  · exact span_trade hw x
theorem rws_span (ws : List Nat) : ∀ x, Spn (rws ws) x ↔ Spn ws x := snoc_rec (p := fun l => ∀ x, Spn (rws l) x ↔ Spn l x) (fun x => Iff.rfl) (fun a w ih x => by rw [rws_snoc, rwstep_span, span_app ih]) ws
theorem rws_len (ws : List Nat) : (rws ws).length = rk ws := by rw [← (rws_hws ws).ind.rk]; exact rk_eq (rws_span ws)
theorem rws_len_le (ws : List Nat) : (rws ws).length ≤ ws.length := by rw [rws_len]; exact rk_len ws
/-! ### all sums of some words -/
def sev (rows : List Nat) : List Nat := rows.foldl (fun f w => f ++ f.map fun x => x ^^^ w) [0]
theorem sev_snoc (a : List Nat) (w : Nat) : sev (a ++ [w]) = sev a ++ (sev a).map fun x => x ^^^ w := List.foldl_append ..
theorem sev_len (rows : List Nat) : (sev rows).length = 2 ^ rows.length := snoc_rec (p := fun l => (sev l).length = 2 ^ l.length) rfl (fun a w ih => by
  rw [sev_snoc, List.length_append, List.length_map, ih, List.length_append, List.length_singleton, Nat.pow_succ]; omega) rows
theorem sev_mem (rows : List Nat) : ∀ x, x ∈ sev rows ↔ Spn rows x := snoc_rec (p := fun l => ∀ x, x ∈ sev l ↔ Spn l x) (fun x => by
    show x ∈ [0] ↔ _
    rw [List.mem_singleton]
    exact ⟨fun h => by rw [h]; exact .zero, fun h => h.nil⟩) (fun a w ih x => by
  rw [sev_snoc, List.mem_append, ih, span_snoc]
  constructor
  · rintro (h | h)
    · exact .inl h
    · obtain ⟨y, hy, rfl⟩ := List.mem_map.mp h
      rw [xor_cancel_right]
      exact .inr ((ih y).mp hy)
  · rintro (h | h)
    · exact .inl h
    · exact .inr (List.mem_map.mpr ⟨_, (ih _).mpr h, xor_cancel_right x w⟩)) rows
theorem nodup_xor {l : List Nat} (h : l.Nodup) (w : Nat) : (l.map fun x => x ^^^ w).Nodup := by
  unfold List.Nodup
  rw [List.pairwise_map]
  exact h.imp fun n e => n (by have := congrArg (· ^^^ w) e; simpa [xor_cancel_right] using this)
theorem nodup_xorL {l : List Nat} (h : l.Nodup) (w : Nat) : (l.map fun x => w ^^^ x).Nodup := by
  have : (l.map fun x => w ^^^ x) = l.map fun x => x ^^^ w := List.map_congr_left fun x _ => Nat.xor_comm w x
  rw [this]; exact nodup_xor h w
theorem sev_nodup {rows : List Nat} (h : Ind rows) : (sev rows).Nodup := by
  induction h with
  | nil => show [0].Nodup; simp
  | @snoc a w _ hw ih =>
    rw [sev_snoc]
    refine List.nodup_append.mpr ⟨ih, nodup_xor ih w, fun x hx y hy e => hw ?_⟩
    subst e
    obtain ⟨z, hz, e⟩ := List.mem_map.mp hy
    have c := ((sev_mem a _).mp hx).xor ((sev_mem a _).mp hz)
    rw [← e] at c
    have e2 : z ^^^ w ^^^ z = w := by rw [Nat.xor_comm z w, xor_cancel_right]
    rwa [e2] at c
/-! ### the meet, as a span -/
theorem mtd_span {b : Nat} {A B : List Nat} (lt : ∀ x ∈ A, x < 2 ^ b) (x : Nat) : Spn (mtd b A B) x ↔ Spn A x ∧ Spn B x := by
  have L1 : Lin (fun r => (r <<< b) ^^^ r) := ⟨by simp, fun a c => by rw [Nat.shiftLeft_xor_distrib, xor4]⟩
  have L2 : Lin (fun r => r <<< b) := ⟨by simp, fun a c => Nat.shiftLeft_xor_distrib⟩
  have e1 : (A.map fun r => (r <<< b) + r) = A.map fun r => (r <<< b) ^^^ r := List.map_congr_left fun r hr => add_eq_xor (lt r hr)
  unfold mtd
  rw [(spn_rws _).low_span, spn_span]
  unfold mts
  rw [e1]
  constructor
  · rintro ⟨h, hx⟩
    obtain ⟨p, q, h1, h2, rfl⟩ := span_split h
    obtain ⟨y, hy, rfl⟩ := L1.back h1
    obtain ⟨z, hz, rfl⟩ := L2.back h2
    have hyb := hy.lt lt
    have e2 : (y <<< b ^^^ y) ^^^ z <<< b = ((y ^^^ z) <<< b) ^^^ y := by
      rw [Nat.shiftLeft_xor_distrib, Nat.xor_assoc, Nat.xor_comm y, ← Nat.xor_assoc]
    have hx' : ((y ^^^ z) <<< b) ^^^ y < 2 ^ b := by rw [← e2]; exact hx
    have hs : (y ^^^ z) <<< b < 2 ^ b := by
      have := Nat.xor_lt_two_pow hx' hyb
      rwa [xor_cancel_right] at this
    have z0 : y ^^^ z = 0 := by
      rw [Nat.shiftLeft_eq] at hs
      have pb := Nat.two_pow_pos b
      rcases Nat.eq_zero_or_pos (y ^^^ z) with h0 | h0
      · exact h0
      · have : 1 * 2 ^ b ≤ (y ^^^ z) * 2 ^ b := Nat.mul_le_mul_right _ h0
        omega
    show Spn A ((y <<< b ^^^ y) ^^^ z <<< b) ∧ Spn B ((y <<< b ^^^ y) ^^^ z <<< b)
    rw [e2, z0, Nat.zero_shiftLeft, Nat.zero_xor]
    exact ⟨hy, by rw [xor_eq_zero z0]; exact hz⟩
  · rintro ⟨h1, h2⟩
    refine ⟨?_, h1.lt lt⟩
    have a := (L1.spn h1).sub (vs := A.map (fun r => (r <<< b) ^^^ r) ++ B.map fun r => r <<< b) fun z hz => List.mem_append_left _ hz
    have c := (L2.spn h2).sub (vs := A.map (fun r => (r <<< b) ^^^ r) ++ B.map fun r => r <<< b) fun z hz => List.mem_append_right _ hz
    have d := a.xor c
    have e3 : (x <<< b ^^^ x) ^^^ x <<< b = x := by rw [Nat.xor_comm (x <<< b) x, xor_cancel_right]
    have d' : Spn (A.map (fun r => (r <<< b) ^^^ r) ++ B.map fun r => r <<< b) ((x <<< b ^^^ x) ^^^ x <<< b) := d
    rwa [e3] at d'
/-! ### what a lane lacks, by counting -/
theorem len_of_mem {l m : List Nat} (h1 : l.Nodup) (h2 : m.Nodup) (h : ∀ x, x ∈ l ↔ x ∈ m) : l.length = m.length :=
  Nat.le_antisymm (nodup_sub_len h1 fun x hx => (h x).mp hx) (nodup_sub_len h2 fun x hx => (h x).mpr hx)
theorem filter_not_len (l : List Nat) (p : Nat → Bool) : (l.filter fun x => !p x).length = l.length - (l.filter p).length := by
  have := filter_two p l
  omega
section
variable {b : Nat} {ss os : List Nat}
def shr (ss os : List Nat) : Nat := rk ss + rk os - rk (ss ++ os)
theorem mtd_shr (hs : ∀ x ∈ ss, x < 2 ^ b) : (mtd b (spn ss) (spn os)).length = shr ss os := by
  have a := mtd_len (b := b) (spn_rws ss) (spn_rws os) (spn_lt hs)
  have e : rk (spn ss ++ spn os) = rk (ss ++ os) := rk_eq fun x => span_app2 (spn_span ss) (spn_span os)
  rw [e] at a
  unfold shr
  have h1 : (spn ss).length = rk ss := rfl
  have h2 : (spn os).length = rk os := rfl
  omega
/-- of the sums of os those that lie in a coset of ss -/
theorem count_in (hs : ∀ x ∈ ss, x < 2 ^ b) {T : List Nat} (nd : T.Nodup) (mem : ∀ x, x ∈ T ↔ Spn os x) {d : Nat} (hd : Spn (ss ++ os) d) {q : Nat → Bool} (hq : ∀ w, q w = true ↔ Spn ss (d ^^^ w)) : (T.filter q).length = 2 ^ shr ss os := by
  obtain ⟨s, o, h1, h2, rfl⟩ := span_split hd
  rw [← mtd_shr hs, ← sev_len]
  have e : (sev (mtd b (spn ss) (spn os))).length = ((sev (mtd b (spn ss) (spn os))).map fun x => x ^^^ o).length := by simp
  rw [e]
  refine len_of_mem (nd.filter _) (nodup_xor (sev_nodup (mtd_rws _ _ _).ind) o) fun x => ?_
  rw [List.mem_filter, mem, hq, List.mem_map]
  have key : ∀ y, Spn (mtd b (spn ss) (spn os)) y ↔ Spn ss y ∧ Spn os y := fun y => by rw [mtd_span (spn_lt hs), spn_span, spn_span]
  constructor
  · rintro ⟨h3, h4⟩
    refine ⟨x ^^^ o, (sev_mem _ _).mpr ((key _).mpr ⟨?_, h3.xor h2⟩), xor_cancel_right _ _⟩
    have := h1.xor h4
    rw [Nat.xor_assoc, xor_cancel, Nat.xor_comm] at this
    exact this
  · rintro ⟨y, hy, rfl⟩
    have := (key y).mp ((sev_mem _ _).mp hy)
    refine ⟨this.2.xor h2, ?_⟩
    have e : s ^^^ o ^^^ (y ^^^ o) = s ^^^ y := by rw [xor4, Nat.xor_self, Nat.xor_zero]
    rw [e]
    exact h1.xor this.1
theorem count_out {T : List Nat} (mem : ∀ x, x ∈ T ↔ Spn os x) {d : Nat} (hd : ¬ Spn (ss ++ os) d) {q : Nat → Bool} (hq : ∀ w, q w = true ↔ Spn ss (d ^^^ w)) : (T.filter q).length = 0 := by
  rw [List.length_eq_zero_iff, List.filter_eq_nil_iff]
  intro w hw z
  refine hd ?_
  have a := ((hq w).mp z).sub (vs := ss ++ os) fun y hy => List.mem_append_left _ hy
  have c := ((mem w).mp hw).sub (vs := ss ++ os) fun y hy => List.mem_append_right _ hy
  have := a.xor c
  rwa [xor_cancel_right] at this
end
/-- the entries of a lane, by listing -/
def lot (ss ls : List Nat) (L : Nat) : List Nat := (sev (rws ss)).map fun w => img ls L ^^^ w
theorem sevr_mem (ss : List Nat) (x : Nat) : x ∈ sev (rws ss) ↔ Spn ss x := by rw [sev_mem, rws_span]
theorem lot_mem (ss ls : List Nat) (L e : Nat) : e ∈ lot ss ls L ↔ Spn ss (img ls L ^^^ e) := by
  unfold lot
  rw [List.mem_map]
  constructor
  · rintro ⟨w, hw, rfl⟩
    rw [xor_cancel]; exact (sevr_mem ss w).mp hw
  · intro h
    exact ⟨_, (sevr_mem ss _).mpr h, xor_cancel _ _⟩
def lsm (ls ps : List Nat) : List Nat := (List.range ls.length).map fun i => ls.getD i 0 ^^^ ps.getD i 0
theorem lsm_len (ls ps : List Nat) : (lsm ls ps).length = ls.length := by simp [lsm]
theorem img_lsm {ls ps : List Nat} (h : ls.length = ps.length) (L : Nat) : img (lsm ls ps) L = img ls L ^^^ img ps L := by
  unfold img
  rw [lsm_len, ← h]
  exact imf_add fun i hi => map_range_getD _ hi
def due (ss ls os ps : List Nat) (L : Nat) : Nat := ((lot os ps L).filter fun e => !decide (e ∈ lot ss ls L)).length
open Classical in
theorem due_eq {b : Nat} {ss ls os ps : List Nat} (hs : ∀ x ∈ ss, x < 2 ^ b) (h : ls.length = ps.length) (L : Nat) : due ss ls os ps L = if Spn (ss ++ os) (img (lsm ls ps) L) then 2 ^ rk os - 2 ^ shr ss os else 2 ^ rk os := by
  unfold due
  rw [filter_not_len]
  have nd := sev_nodup (rws_hws os).ind
  have hq : ∀ w, (fun w => decide (img ps L ^^^ w ∈ lot ss ls L)) w = true ↔ Spn ss (img (lsm ls ps) L ^^^ w) := fun w => by
    rw [decide_eq_true_iff, lot_mem, img_lsm h, Nat.xor_assoc]
  have e : ((lot os ps L).filter fun e => decide (e ∈ lot ss ls L)).length = ((sev (rws os)).filter fun w => decide (img ps L ^^^ w ∈ lot ss ls L)).length := by
    unfold lot
    rw [List.filter_map, List.length_map]
    rfl
  have l : (lot os ps L).length = 2 ^ rk os := by
    unfold lot
    rw [List.length_map, sev_len, rws_len]
  rw [e, l]
  split
  · rename_i hd
    rw [count_in hs nd (sevr_mem os) hd hq]
  · rename_i hd
    rw [count_out (sevr_mem os) hd hq, Nat.sub_zero]
/-! ### the least lane that keeps nothing -/
/-- j is the least bit that is no row's highest -/
def Mis (rows : List Nat) (j : Nat) : Prop := (∀ i, i < j → ∃ r ∈ rows, blen r - 1 = i) ∧ ∀ r ∈ rows, blen r - 1 ≠ j
theorem mis_le {rows : List Nat} {j : Nat} (h : ∀ i, i < j → ∃ r ∈ rows, blen r - 1 = i) : j ≤ rows.length := by
  have := nodup_sub_len (l := List.range j) (m := rows.map fun r => blen r - 1) List.nodup_range fun i hi => by
    obtain ⟨r, hr, e⟩ := h i (List.mem_range.mp hi)
    exact List.mem_map.mpr ⟨r, hr, e⟩
  simpa using this
theorem Mis.below {rows : List Nat} (R : Rws rows) {j : Nat} (h : Mis rows j) {x : Nat} (hx : x < 2 ^ j) : Spn rows x := by
  have F := R.low j
  have l : j ≤ (rows.filter fun r => decide (blen r ≤ j)).length := mis_le fun i hi => by
    obtain ⟨r, hr, e⟩ := h.1 i hi
    have := blen_pos (R.nz r hr)
    exact ⟨r, List.mem_filter.mpr ⟨hr, decide_eq_true (by omega)⟩, e⟩
  have := in_full (ws := rows.filter fun r => decide (blen r ≤ j)) (b := j) (fun w hw => blen_le.mp (of_decide_eq_true (List.mem_filter.mp hw).2)) (by rw [spn_id F]; exact l) hx
  exact this.sub fun z hz => (List.mem_filter.mp hz).1
theorem Mis.at_ {rows : List Nat} (R : Rws rows) {j : Nat} (h : Mis rows j) : ¬ Spn rows (2 ^ j) := fun z => by
  obtain ⟨r, hr, e⟩ := R.top_mem z (Nat.ne_of_gt (Nat.two_pow_pos j))
  have e2 : blen (2 ^ j) = j + 1 := by rw [← Nat.one_shiftLeft]; exact blen_unit j
  exact h.2 r hr (by omega)
theorem allin_img {S W : List Nat} (h : ∀ w ∈ W, Spn S w) (L : Nat) : Spn S (img W L) := by
  unfold img
  generalize W.length = n
  induction n with
  | zero => exact .zero
  | succ n ih =>
    rw [imf_succ]
    split
    · refine ih.xor ?_
      by_cases hn : n < W.length
      · exact h _ (getD_mem hn)
      · rw [List.getD_eq_getElem?_getD, List.getElem?_eq_none (by omega)]; exact .zero
    · exact ih
open Classical in
/-- fewest rounds -/
noncomputable def fwr (ss ls os ps : List Nat) : Nat := if ∀ w ∈ lsm ls ps, Spn (ss ++ os) w then 2 ^ rk os - 2 ^ shr ss os else 2 ^ rk os
section
variable {b : Nat} {ss ls os ps : List Nat} (hs : ∀ x ∈ ss, x < 2 ^ b) (hl : ls.length = ps.length)
include hs hl
open Classical in
theorem due_le (L : Nat) : due ss ls os ps L ≤ fwr ss ls os ps := by
  rw [due_eq hs hl]
  unfold fwr
  by_cases h : ∀ w ∈ lsm ls ps, Spn (ss ++ os) w
  · rw [if_pos h, if_pos (allin_img h L)]; exact Nat.le_refl _
  · rw [if_neg h]
    split
    · exact Nat.sub_le _ _
    · exact Nat.le_refl _
theorem due_all (h : ∀ w ∈ lsm ls ps, Spn (ss ++ os) w) (L : Nat) : due ss ls os ps L = fwr ss ls os ps := by
  rw [due_eq hs hl]
  unfold fwr
  rw [if_pos h, if_pos (allin_img h L)]
theorem due_short {j : Nat} (h : ¬ ∀ w ∈ lsm ls ps, Spn (ss ++ os) w) (hj : Mis (ker ((lsm ls ps).map (clr (spn (ss ++ os))))) j) :
    j < ls.length ∧ due ss ls os ps (2 ^ j) = fwr ss ls os ps ∧ ∀ L, L < 2 ^ j → due ss ls os ps L ≠ fwr ss ls os ps := by
  have R := ker_rws ((lsm ls ps).map (clr (spn (ss ++ os))))
  have sp := span_clr_img (ss ++ os) (lsm ls ps)
  rw [lsm_len] at sp
  have jl : j < ls.length := by
    refine Nat.lt_of_not_le fun q => h fun w hw => ?_
    obtain ⟨i, hi, rfl⟩ := List.mem_map.mp hw
    have hi := List.mem_range.mp hi
    have u := (sp (2 ^ i)).mp (hj.below R (Nat.pow_lt_pow_right (by decide) (by omega)))
    have e := img_unit (lsm ls ps) (i := i) (by rw [lsm_len]; exact hi)
    have u2 := u.2
    rw [e] at u2
    have e2 : (lsm ls ps).getD i 0 = ls.getD i 0 ^^^ ps.getD i 0 := map_range_getD _ hi
    rwa [e2] at u2
  refine ⟨jl, ?_, fun L hL => ?_⟩
  · rw [due_eq hs hl]
    unfold fwr
    rw [if_neg h, if_neg fun z => hj.at_ R ((sp _).mpr ⟨Nat.pow_lt_pow_right (by decide) jl, z⟩)]
  · rw [due_eq hs hl]
    unfold fwr
    rw [if_neg h, if_pos ((sp _).mp (hj.below R hL)).2]
    have := Nat.two_pow_pos (rk os)
    have := Nat.two_pow_pos (shr ss os)
    omega
end
end LaneX
set_option linter.all false
namespace LaneX
/-! ### the lane of a word; steps of hops (k24) -/
theorem slv_xor (cs : List Nat) (g h : Nat) : slv cs (g ^^^ h) = slv cs g ^^^ slv cs h := by
  unfold slv
  rw [Nat.shiftLeft_xor_distrib, clr_xor]
theorem slv_zero (cs : List Nat) : slv cs 0 = 0 := by unfold slv; rw [Nat.zero_shiftLeft, clr_zero]
theorem lin_slv (cs : List Nat) : Lin (slv cs) := ⟨slv_zero cs, slv_xor cs⟩
/-- the columns of the lanes, beside the slots -/
def lcs (ss ls : List Nat) : List Nat := ls.map (clr (spn ss))
theorem lcs_len (ss ls : List Nat) : (lcs ss ls).length = ls.length := by simp [lcs]
/-- the least lane that holds a word -/
def lno (ss ls : List Nat) (w : Nat) : Nat := slv (lcs ss ls) (clr (spn ss) w)
theorem lin_lno (ss ls : List Nat) : Lin (lno ss ls) := (lin_slv _).comp (lin_clr _)
/-- a lane's word beside the slots -/
def lph (ss ls : List Nat) (x : Nat) : Nat := clr (spn ss) (img ls x)
theorem lin_lph (ss ls : List Nat) : Lin (lph ss ls) := (lin_clr _).comp (lin_img ls)
theorem lph_zero {ss ls : List Nat} {x : Nat} : lph ss ls x = 0 ↔ Spn ss (img ls x) := clr_spn_zero
theorem img_lcs (ss ls : List Nat) (x : Nat) : img (lcs ss ls) x = lph ss ls x := img_map (lin_clr _) ls x
section
variable {b : Nat} {ss ls : List Nat} (hs : ∀ x ∈ ss, x < 2 ^ b) (hl : ∀ x ∈ ls, x < 2 ^ b) (hb : b ≤ rk (ss ++ ls))
include hs hl hb
theorem lcs_span {w : Nat} (hw : w < 2 ^ b) : Spn (lcs ss ls) (clr (spn ss) w) := by
  refine ((red_clr ss).mem w).mpr (in_full (fun z hz => ?_) hb hw)
  rcases List.mem_append.mp hz with hz | hz
  · exact hs z hz
  · exact hl z hz
theorem lno_ok {w : Nat} (hw : w < 2 ^ b) : lno ss ls w < 2 ^ ls.length ∧ lph ss ls (lno ss ls w) = clr (spn ss) w := by
  have a := slv_ok (lcs_span hs hl hb hw)
  rw [lcs_len, img_lcs] at a
  exact a
theorem lno_span {w : Nat} (hw : w < 2 ^ b) : Spn ss (img ls (lno ss ls w) ^^^ w) := by
  have a := (lno_ok hs hl hb hw).2
  unfold lph at a
  rw [← clr_spn_zero, clr_xor, a, Nat.xor_self]
end
/-- the distances that hops must go -/
def dst (ss ls os ps : List Nat) : List Nat := os.map (lno ss ls) ++ (List.range ps.length).map fun i => lno ss ls (ps.getD i 0) ^^^ 2 ^ i
def nst (ss ls os ps : List Nat) : List Nat := cmpl (twn ss ls) (spn (twn ss ls ++ dst ss ls os ps))
theorem map_span {φ : Nat → Nat} (L : Lin φ) {A B : List Nat} (h : ∀ x, Spn A x ↔ Spn B x) (z : Nat) : Spn (A.map φ) z ↔ Spn (B.map φ) z := by
  constructor
  · intro hz
    obtain ⟨y, hy, rfl⟩ := L.back hz
    exact L.spn ((h y).mp hy)
  · intro hz
    obtain ⟨y, hy, rfl⟩ := L.back hz
    exact L.spn ((h y).mpr hy)
theorem twn_lt {ss ls : List Nat} {x : Nat} (h : Spn (twn ss ls) x) : x < 2 ^ ls.length := ((twn_span ss ls x).mp h).1
theorem twn_ker {ss ls : List Nat} {x : Nat} (h : Spn (twn ss ls) x) : lph ss ls x = 0 := lph_zero.mpr ((twn_span ss ls x).mp h).2
section
variable {b : Nat} {ss ls os ps : List Nat} (hs : ∀ x ∈ ss, x < 2 ^ b) (hl : ∀ x ∈ ls, x < 2 ^ b) (hb : b ≤ rk (ss ++ ls)) (ho : ∀ x ∈ os, x < 2 ^ b) (hp : ∀ x ∈ ps, x < 2 ^ b) (hn : ls.length = ps.length)
include hs hl hb ho hp hn
theorem dst_lt : ∀ x ∈ dst ss ls os ps, x < 2 ^ ls.length := fun x hx => by
  rcases List.mem_append.mp hx with hx | hx
  · obtain ⟨w, hw, rfl⟩ := List.mem_map.mp hx
    exact (lno_ok hs hl hb (ho w hw)).1
  · obtain ⟨i, hi, rfl⟩ := List.mem_map.mp hx
    have hi := List.mem_range.mp hi
    exact Nat.xor_lt_two_pow (lno_ok hs hl hb (hp _ (getD_mem hi))).1 (Nat.pow_lt_pow_right (by decide) (by omega))
theorem dst_lph : (dst ss ls os ps).map (lph ss ls) = (os ++ lsm ls ps).map (clr (spn ss)) := by
  unfold dst
  rw [List.map_append, List.map_map, List.map_append]
  congr 1
  · exact List.map_congr_left fun w hw => (lno_ok hs hl hb (ho w hw)).2
  · unfold lsm
    rw [List.map_map, List.map_map, hn]
    refine List.map_congr_left fun i hi => ?_
    have hi := List.mem_range.mp hi
    show lph ss ls (lno ss ls (ps.getD i 0) ^^^ 2 ^ i) = clr (spn ss) (ls.getD i 0 ^^^ ps.getD i 0)
    rw [(lin_lph ss ls).x, (lno_ok hs hl hb (hp _ (getD_mem hi))).2, clr_xor, Nat.xor_comm]
    congr 1
    unfold lph
    rw [img_unit ls (by omega)]
theorem all_lt {x : Nat} (h : Spn (twn ss ls ++ dst ss ls os ps) x) : x < 2 ^ ls.length := h.lt fun w hw => by
  rcases List.mem_append.mp hw with hw | hw
  · exact twn_lt (.of hw)
  · exact dst_lt hs hl hb ho hp hn w hw
/-- as many steps as the words that slots do not lead to -/
theorem nst_len : (nst ss ls os ps).length = rk (ss ++ (os ++ lsm ls ps)) - rk ss := by
  have R : Rws (twn ss ls) := spn_rws _
  have i := cmpl_ind R (spn (twn ss ls ++ dst ss ls os ps)) (lin_lph ss ls) fun y hy z => by
    have hy := (spn_span _ y).mp hy
    exact (twn_span ss ls y).mpr ⟨all_lt hs hl hb ho hp hn hy, lph_zero.mp z⟩
  have a : rk ((nst ss ls os ps).map (lph ss ls)) = (nst ss ls os ps).length := by
    have := i.rk
    rw [List.length_map] at this
    exact this
  have e : ∀ z, Spn ((nst ss ls os ps).map (lph ss ls)) z ↔ Spn ((dst ss ls os ps).map (lph ss ls)) z := fun z => by
    have cs := cms_span R (spn (twn ss ls ++ dst ss ls os ps))
    have key : ∀ x, Spn (twn ss ls ++ nst ss ls os ps) x ↔ Spn (twn ss ls ++ dst ss ls os ps) x := fun x => by
      have c1 := cs.1 x
      have c2 := cs.2 x
      have c3 : Spn (twn ss ls ++ spn (twn ss ls ++ dst ss ls os ps)) x ↔ Spn (twn ss ls ++ dst ss ls os ps) x := by
        constructor
        · refine fun h => h.mono fun y hy => ?_
          rcases List.mem_append.mp hy with hy | hy
          · exact .of (List.mem_append_left _ hy)
          · exact (spn_span _ y).mp (.of hy)
        · exact fun h => ((spn_span _ x).mpr h).sub fun y hy => List.mem_append_right _ hy
      exact c2.symm.trans (c1.trans c3)
    have dropT : ∀ (D : List Nat), Spn ((twn ss ls ++ D).map (lph ss ls)) z ↔ Spn (D.map (lph ss ls)) z := fun D => by
      rw [List.map_append]
      constructor
      · refine fun h => h.mono fun y hy => ?_
        rcases List.mem_append.mp hy with hy | hy
        · obtain ⟨t, ht, rfl⟩ := List.mem_map.mp hy
          rw [twn_ker (.of ht)]; exact .zero
        · exact .of hy
      · exact fun h => h.sub fun y hy => List.mem_append_right _ hy
    rw [← dropT, map_span (lin_lph ss ls) key, dropT]
  have r := rk_eq e
  rw [dst_lph hs hl hb ho hp hn] at r
  have q := (red_clr ss).rk (os ++ lsm ls ps)
  omega
theorem nst_mem : ∀ x ∈ nst ss ls os ps, x < 2 ^ ls.length := fun x hx => all_lt hs hl hb ho hp hn ((spn_span _ x).mp (.of (cmpl_mem _ x hx)))
theorem nst_span (x : Nat) : Spn (nst ss ls os ps ++ twn ss ls) x ↔ Spn (twn ss ls ++ dst ss ls os ps) x := by
  have R : Rws (twn ss ls) := spn_rws _
  have cs := cms_span R (spn (twn ss ls ++ dst ss ls os ps))
  rw [span_swap]
  refine (cs.2 x).symm.trans ((cs.1 x).trans ?_)
  constructor
  · refine fun h => h.mono fun y hy => ?_
    rcases List.mem_append.mp hy with hy | hy
    · exact .of (List.mem_append_left _ hy)
    · exact (spn_span _ y).mp (.of hy)
  · exact fun h => ((spn_span _ x).mpr h).sub fun y hy => List.mem_append_right _ hy
/-- a wanted entry's lane is reached by the steps -/
theorem reach {lane e : Nat} (h : lane < 2 ^ ls.length) (he : Spn os (e ^^^ img ps lane)) : Spn (nst ss ls os ps ++ twn ss ls) (lane ^^^ lno ss ls e) := by
  rw [nst_span hs hl hb ho hp hn]
  -- lane ^ lno (img ps lane) by the distances of the lanes
  have a : ∀ n, n ≤ ps.length → ∀ x, x < 2 ^ n → Spn (dst ss ls os ps) (x ^^^ lno ss ls (img ps x)) := by
    intro n
    induction n with
    | zero =>
      intro _ x hx
      have : x = 0 := by simpa using hx
      subst this
      rw [(lin_img ps).z, (lin_lno ss ls).z, Nat.xor_zero]; exact .zero
    | succ n ih =>
      intro hn' x hx
      rcases bit_split hx with q | ⟨q, hb'⟩
      · exact ih (by omega) x q
      · have i1 := ih (by omega) _ q
        have i2 : Spn (dst ss ls os ps) (lno ss ls (ps.getD n 0) ^^^ 2 ^ n) := .of (List.mem_append_right _ (List.mem_map.mpr ⟨n, List.mem_range.mpr (by omega), rfl⟩))
        have i3 := i1.xor i2
        rw [(lin_img ps).x, img_unit ps (by omega), (lin_lno ss ls).x] at i3
        have e1 : x ^^^ 2 ^ n ^^^ (lno ss ls (img ps x) ^^^ lno ss ls (ps.getD n 0)) ^^^ (lno ss ls (ps.getD n 0) ^^^ 2 ^ n) = x ^^^ lno ss ls (img ps x) := by
          rw [Nat.xor_comm (lno ss ls (ps.getD n 0)) (2 ^ n), xor4, xor_cancel_right, xor_cancel_right]
        rwa [e1] at i3
  have b1 := a ps.length (Nat.le_refl _) lane (by rw [← hn]; exact h)
  have b2 : Spn (dst ss ls os ps) (lno ss ls (e ^^^ img ps lane)) := ((lin_lno ss ls).spn he).sub fun z hz => List.mem_append_left _ hz
  have c := b1.xor b2
  rw [(lin_lno ss ls).x] at c
  have e2 : lane ^^^ lno ss ls (img ps lane) ^^^ (lno ss ls e ^^^ lno ss ls (img ps lane)) = lane ^^^ lno ss ls e := by rw [xor4, Nat.xor_self, Nat.xor_zero]
  rw [e2] at c
  exact c.sub fun z hz => List.mem_append_right _ hz
end
/-! ### a route -/
/-- the lanes of a route -/
def rte (st : List Nat) (lane c : Nat) (k : Nat) : Nat := (lane ^^^ img st c) ^^^ imf st c k
theorem rte_zero (st : List Nat) (lane c : Nat) : rte st lane c 0 = lane ^^^ img st c := by
  unfold rte
  have : imf st c 0 = 0 := rfl
  rw [this, Nat.xor_zero]
theorem rte_last (st : List Nat) (lane c : Nat) : rte st lane c st.length = lane := by
  unfold rte
  have : imf st c st.length = img st c := rfl
  rw [this, xor_cancel_right]
theorem rte_step (st : List Nat) (lane c k : Nat) : rte st lane c (k + 1) = if c.testBit k = true then rte st lane c k ^^^ st.getD k 0 else rte st lane c k := by
  unfold rte
  rw [imf_succ]
  split
  · rw [Nat.xor_assoc (lane ^^^ img st c)]
  · rfl
theorem rte_lt {st : List Nat} {n lane c : Nat} (h : ∀ x ∈ st, x < 2 ^ n) (hl : lane < 2 ^ n) (k : Nat) : rte st lane c k < 2 ^ n :=
  Nat.xor_lt_two_pow (Nat.xor_lt_two_pow hl (imf_lt h _ _)) (imf_lt h _ _)
/-- the first part of a sum -/
theorem img_mask {P Q : List Nat} {x : Nat} (h : x < 2 ^ (P ++ Q).length) : ∃ y, y < 2 ^ Q.length ∧ img (P ++ Q) x = img P (x &&& (2 ^ P.length - 1)) ^^^ img Q y := by
  have e1 : x &&& (2 ^ P.length - 1) = x % 2 ^ P.length := Nat.and_two_pow_sub_one_eq_mod x P.length
  have lt : x % 2 ^ P.length < 2 ^ P.length := Nat.mod_lt _ (Nat.two_pow_pos _)
  refine ⟨x >>> P.length, ?_, ?_⟩
  · rw [Nat.shiftRight_eq_div_pow, Nat.div_lt_iff_lt_mul (Nat.two_pow_pos _), ← Nat.pow_add, Nat.add_comm, ← List.length_append]
    exact h
  · rw [e1, ← img_app lt]
    congr 1
    apply Nat.eq_of_testBit_eq
    intro i
    rw [Nat.testBit_xor, Nat.testBit_mod_two_pow, Nat.testBit_shiftLeft, Nat.testBit_shiftRight]
    by_cases hi : i < P.length
    · have : decide (i ≥ P.length) = false := by simp; omega
      rw [this]; simp [hi]
    · have : decide (i ≥ P.length) = true := by simp; omega
      rw [this, show P.length + (i - P.length) = i by omega]; simp [hi]
end LaneX
set_option linter.all false
namespace LaneX
/-! ### plans of rounds (k18, k19) -/
theorem img_inj {A : List Nat} (h : rk A = A.length) {x : Nat} (hx : x < 2 ^ A.length) (z : img A x = 0) : x = 0 := by
  have k := ker_len_eq A
  have e : ker A = [] := List.length_eq_zero_iff.mp (by omega)
  have := (ker_span A x).mpr ⟨hx, z⟩
  rw [e] at this
  exact this.nil
theorem img_inj2 {A : List Nat} (h : rk A = A.length) {x y : Nat} (hx : x < 2 ^ A.length) (hy : y < 2 ^ A.length) (z : img A x = img A y) : x = y :=
  xor_eq_zero (img_inj h (Nat.xor_lt_two_pow hx hy) (by rw [(lin_img A).x, z, Nat.xor_self]))
/-- what solved tells of a word that is no sum -/
theorem slv_none {cs : List Nat} {g : Nat} (h : ¬ Spn cs g) : 2 ^ cs.length ≤ slv cs g := by
  refine Nat.le_of_not_lt fun z => h ?_
  have a := spn_clr (prd cs) (g <<< cs.length)
  have a : Spn (prs cs) (g <<< cs.length ^^^ slv cs g) := (spn_span _ _).mp a
  obtain ⟨x, hx, e⟩ := prs_fwd cs a
  have e2 := congrArg (fun y => y >>> cs.length) e
  simp only [Nat.shiftRight_xor_distrib, shl_shr] at e2
  rw [Nat.shiftRight_eq_zero _ _ z, Nat.shiftRight_eq_zero _ _ hx, Nat.xor_zero, Nat.xor_zero] at e2
  rw [e2]
  exact img_in cs hx
/-- the part of a word in the first rows -/
def pin (R O : List Nat) (w : Nat) : Nat := img R (slv (R ++ O) w &&& (2 ^ R.length - 1))
theorem pin_ok {R O : List Nat} {w : Nat} (h : Spn (R ++ O) w) : Spn R (pin R O w) ∧ Spn O (w ^^^ pin R O w) := by
  obtain ⟨a, e⟩ := slv_ok h
  obtain ⟨y, hy, e2⟩ := img_mask a
  rw [e] at e2
  have lt : slv (R ++ O) w &&& (2 ^ R.length - 1) < 2 ^ R.length := by
    rw [Nat.and_two_pow_sub_one_eq_mod]; exact Nat.mod_lt _ (Nat.two_pow_pos _)
  refine ⟨img_in R lt, ?_⟩
  have e3 : w ^^^ pin R O w = img O y := by
    unfold pin
    conv => lhs; lhs; rw [e2]
    rw [Nat.xor_comm, xor_cancel]
  rw [e3]
  exact img_in O hy
theorem img_diff {A B S : List Nat} (hl : A.length = B.length) (h : ∀ i, i < A.length → Spn S (A.getD i 0 ^^^ B.getD i 0)) (x : Nat) : Spn S (img A x ^^^ img B x) := by
  rw [← img_lsm hl]
  refine allin_img (fun w hw => ?_) x
  obtain ⟨i, hi, rfl⟩ := List.mem_map.mp hw
  exact h i (List.mem_range.mp hi)
theorem imf_at {A B : List Nat} {x : Nat} : ∀ {n}, (∀ i, i < n → x.testBit i = true → A.getD i 0 = B.getD i 0) → imf A x n = imf B x n
  | 0, _ => rfl
  | n + 1, h => by
    rw [imf_succ, imf_succ, imf_at fun i hi => h i (by omega)]
    split
    · rename_i z
      rw [h n (by omega) z]
    · rfl
theorem img_at {A B : List Nat} {x : Nat} (hl : A.length = B.length) (h : ∀ i, i < A.length → x.testBit i = true → A.getD i 0 = B.getD i 0) : img A x = img B x := by
  unfold img
  rw [← hl]
  exact imf_at h
theorem Rws.rk {R : List Nat} (h : Rws R) : rk R = R.length := spn_id h
/-- A with what completes it to B -/
theorem base_of {A B : List Nat} (R : Rws A) (h : ∀ x ∈ A, Spn B x) : (∀ x, Spn (A ++ cmpl A B) x ↔ Spn B x) ∧ LaneX.rk (A ++ cmpl A B) = (A ++ cmpl A B).length ∧ (A ++ cmpl A B).length = LaneX.rk B := by
  have cs := cms_span R B
  have e : ∀ x, Spn (A ++ B) x ↔ Spn B x := fun x => ⟨fun z => z.mono fun y hy => by
    rcases List.mem_append.mp hy with hy | hy
    · exact h y hy
    · exact .of hy, fun z => z.sub fun y hy => List.mem_append_right _ hy⟩
  have e2 : ∀ x, Spn (A ++ cmpl A B) x ↔ Spn B x := fun x => ((cs.2 x).symm.trans (cs.1 x)).trans (e x)
  have l := cmpl_len R B
  rw [rk_eq e, R.rk] at l
  have l2 : (A ++ cmpl A B).length = LaneX.rk B := by rw [List.length_append]; omega
  exact ⟨e2, (rk_eq e2).trans l2.symm, l2⟩
/-! ### starts that lanes keep -/
def kst (R O ls ps : List Nat) : List Nat := (List.range ls.length).map fun i => ls.getD i 0 ^^^ pin R O ((lsm ls ps).getD i 0)
theorem kst_len (R O ls ps : List Nat) : (kst R O ls ps).length = ls.length := by simp [kst]
theorem kst_at (R O ls ps : List Nat) {i : Nat} (h : i < ls.length) : (kst R O ls ps).getD i 0 = ls.getD i 0 ^^^ pin R O ((lsm ls ps).getD i 0) := map_range_getD _ h
theorem lsm_at {ls ps : List Nat} {i : Nat} (h : i < ls.length) : (lsm ls ps).getD i 0 = ls.getD i 0 ^^^ ps.getD i 0 := map_range_getD _ h
theorem kst_ok {ss ls os ps : List Nat} (hl : ls.length = ps.length) (h : ∀ w ∈ lsm ls ps, Spn (ss ++ os) w) (x : Nat) :
    Spn ss (img (kst (spn ss) (spn os) ls ps) x ^^^ img ls x) ∧ Spn os (img (kst (spn ss) (spn os) ls ps) x ^^^ img ps x) := by
  have key : ∀ i, i < ls.length → Spn ss (pin (spn ss) (spn os) ((lsm ls ps).getD i 0)) ∧ Spn os ((lsm ls ps).getD i 0 ^^^ pin (spn ss) (spn os) ((lsm ls ps).getD i 0)) := fun i hi => by
    have m : (lsm ls ps).getD i 0 ∈ lsm ls ps := getD_mem (by rw [lsm_len]; exact hi)
    have p := pin_ok (R := spn ss) (O := spn os) ((span_app2 (spn_span ss) (spn_span os)).mpr (h _ m))
    exact ⟨(spn_span ss _).mp p.1, (spn_span os _).mp p.2⟩
  constructor
  · refine img_diff (kst_len _ _ _ _) (fun i hi => ?_) x
    rw [kst_len] at hi
    rw [kst_at _ _ _ _ hi, Nat.xor_comm (ls.getD i 0), xor_cancel_right]
    exact (key i hi).1
  · refine img_diff (by rw [kst_len, hl]) (fun i hi => ?_) x
    rw [kst_len] at hi
    have k2 := (key i hi).2
    rw [lsm_at hi] at k2
    rw [kst_at _ _ _ _ hi, lsm_at hi, Nat.xor_assoc, Nat.xor_comm (pin _ _ _), ← Nat.xor_assoc]
    exact k2
theorem kst_lt {b : Nat} {ss ls os ps : List Nat} (hs : ∀ x ∈ ss, x < 2 ^ b) (hL : ∀ x ∈ ls, x < 2 ^ b) (h : ∀ w ∈ lsm ls ps, Spn (ss ++ os) w) : ∀ x ∈ kst (spn ss) (spn os) ls ps, x < 2 ^ b := fun x hx => by
  obtain ⟨i, hi, rfl⟩ := List.mem_map.mp hx
  have hi := List.mem_range.mp hi
  have m : (lsm ls ps).getD i 0 ∈ lsm ls ps := getD_mem (by rw [lsm_len]; exact hi)
  have p := pin_ok (R := spn ss) (O := spn os) ((span_app2 (spn_span ss) (spn_span os)).mpr (h _ m))
  exact Nat.xor_lt_two_pow (hL _ (getD_mem hi)) (((spn_span ss _).mp p.1).lt hs)
/-! ### starts that span, with the slots, all -/
def wvl (ps I G W : List Nat) (i : Nat) : Nat := G.getD i 0 ^^^ W.getD i 0 ^^^ img ps (I.getD i 0 ^^^ 1 <<< (blen (I.getD i 0) - 1))
def wsf (ps I G W : List Nat) (k : Nat) : List Nat := (List.range k).foldl (fun st i => st.set (blen (I.getD i 0) - 1) (wvl ps I G W i)) ps
theorem wsf_succ (ps I G W : List Nat) (k : Nat) : wsf ps I G W (k + 1) = (wsf ps I G W k).set (blen (I.getD k 0) - 1) (wvl ps I G W k) := by
  unfold wsf
  rw [List.range_succ, List.foldl_append]
  rfl
theorem wsf_len (ps I G W : List Nat) : ∀ k, (wsf ps I G W k).length = ps.length
  | 0 => rfl
  | k + 1 => by rw [wsf_succ, List.length_set, wsf_len ps I G W k]
theorem getD_set' (F : List Nat) (i j v : Nat) (hi : i < F.length) : (F.set i v).getD j 0 = if j = i then v else F.getD j 0 := by
  simp only [List.getD_eq_getElem?_getD, List.getElem?_set]
  by_cases h : i = j
  · subst h; simp [hi]
  · rw [if_neg h, if_neg (fun z => h z.symm)]
theorem tops_ne {I : List Nat} (R : Rws I) {i j : Nat} (hi : i < I.length) (hj : j < I.length) (h : i ≠ j) : blen (I.getD i 0) - 1 ≠ blen (I.getD j 0) - 1 := fun z => by
  have n1 := blen_pos (R.nz _ (getD_mem hi))
  have n2 := blen_pos (R.nz _ (getD_mem hj))
  have e : blen (I.getD i 0) = blen (I.getD j 0) := by omega
  have nd := R.tops_nodup
  have e1 : (I.map blen)[i]? = some (blen (I.getD i 0)) := by
    rw [List.getElem?_map, List.getElem?_eq_getElem hi, List.getD_eq_getElem?_getD, List.getElem?_eq_getElem hi]; rfl
  have e2 : (I.map blen)[j]? = some (blen (I.getD j 0)) := by
    rw [List.getElem?_map, List.getElem?_eq_getElem hj, List.getD_eq_getElem?_getD, List.getElem?_eq_getElem hj]; rfl
  exact h ((List.getElem?_inj (by rw [List.length_map]; exact hi) nd).mp (by rw [e1, e2, e]))
theorem tops_bit {I : List Nat} (R : Rws I) {i j : Nat} (hi : i < I.length) (hj : j < I.length) (h : i ≠ j) : (I.getD i 0).testBit (blen (I.getD j 0) - 1) = false := by
  have p := R.red
  rw [List.pairwise_iff_getElem] at p
  have e1 : I.getD i 0 = I[i] := by rw [List.getD_eq_getElem?_getD, List.getElem?_eq_getElem hi]; rfl
  have e2 : I.getD j 0 = I[j] := by rw [List.getD_eq_getElem?_getD, List.getElem?_eq_getElem hj]; rfl
  rw [e1, e2]
  rcases Nat.lt_or_gt_of_ne h with z | z
  · exact (p i j hi hj z).1
  · exact (p j i hj hi z).2
section
variable {ps I G W : List Nat} (R : Rws I) (hI : ∀ x ∈ I, x < 2 ^ ps.length)
include R hI
theorem wsf_at : ∀ k, k ≤ I.length → (∀ i, i < k → (wsf ps I G W k).getD (blen (I.getD i 0) - 1) 0 = wvl ps I G W i) ∧ ∀ j, (∀ i, i < k → j ≠ blen (I.getD i 0) - 1) → (wsf ps I G W k).getD j 0 = ps.getD j 0
  | 0, _ => ⟨fun i hi => absurd hi (Nat.not_lt_zero _), fun j _ => rfl⟩
  | k + 1, hk => by
    obtain ⟨h1, h2⟩ := wsf_at k (by omega)
    have tl : blen (I.getD k 0) - 1 < (wsf ps I G W k).length := by
      rw [wsf_len]
      have a := blen_le.mpr (hI _ (getD_mem (show k < I.length by omega)))
      have b := blen_pos (R.nz _ (getD_mem (show k < I.length by omega)))
      omega
    rw [wsf_succ]
    refine ⟨fun i hi => ?_, fun j hj => ?_⟩
    · rw [getD_set' _ _ _ _ tl]
      by_cases e : i = k
      · subst e; rw [if_pos rfl]
      · rw [if_neg (tops_ne R (by omega) (by omega) e)]
        exact h1 i (by omega)
    · rw [getD_set' _ _ _ _ tl, if_neg (hj k (by omega))]
      exact h2 j fun i hi => hj i (by omega)
theorem wsf_row {k i : Nat} (hk : k ≤ I.length) (hi : i < k) : img (wsf ps I G W k) (I.getD i 0) = G.getD i 0 ^^^ W.getD i 0 := by
  obtain ⟨h1, h2⟩ := wsf_at R hI k hk
  have nz := R.nz _ (getD_mem (show i < I.length by omega))
  have lt := hI _ (getD_mem (show i < I.length by omega))
  have a := blen_le.mpr lt
  have b := blen_pos nz
  have tb := testBit_top nz
  generalize hx : I.getD i 0 = x at *
  generalize ht : blen x - 1 = t at *
  have e1 : x = 2 ^ t ^^^ (x ^^^ 2 ^ t) := by rw [Nat.xor_comm x, xor_cancel]
  have e2 : img (wsf ps I G W k) (2 ^ t) = wvl ps I G W i := by
    rw [img_unit _ (by rw [wsf_len]; omega)]
    have := h1 i hi
    rwa [hx, ht] at this
  have e3 : img (wsf ps I G W k) (x ^^^ 2 ^ t) = img ps (x ^^^ 2 ^ t) := by
    refine img_at (wsf_len _ _ _ _ _) fun j _ hb => h2 j fun m hm z => ?_
    rw [Nat.testBit_xor, Nat.testBit_two_pow] at hb
    by_cases e : m = i
    · subst e
      rw [hx, ht] at z
      subst z
      rw [tb] at hb
      simp at hb
    · have q := tops_bit R (show i < I.length by omega) (show m < I.length by omega) (Ne.symm e)
      have q2 := tops_ne R (show i < I.length by omega) (show m < I.length by omega) (Ne.symm e)
      rw [hx, ← z] at q
      rw [hx, ht, ← z] at q2
      rw [q] at hb
      simp [q2] at hb
  conv => lhs; rw [e1]
  rw [(lin_img _).x, e2, e3]
  unfold wvl
  rw [hx, ht, Nat.one_shiftLeft, xor_cancel_right]
theorem wsf_to {O : List Nat} {k : Nat} (hk : k ≤ I.length) (h : ∀ i, i < k → Spn O (img ps (I.getD i 0) ^^^ G.getD i 0) ∧ Spn O (W.getD i 0)) : ∀ j, j < ps.length → Spn O ((wsf ps I G W k).getD j 0 ^^^ ps.getD j 0) := fun j hj => by
  obtain ⟨h1, h2⟩ := wsf_at (G := G) (W := W) R hI k hk
  by_cases e : ∃ i, i < k ∧ j = blen (I.getD i 0) - 1
  · obtain ⟨i, hi, rfl⟩ := e
    rw [h1 i hi]
    unfold wvl
    have a := h i hi
    rw [← img_unit ps hj, Nat.xor_assoc, ← (lin_img ps).x, Nat.one_shiftLeft, Nat.xor_assoc (I.getD i 0), Nat.xor_self, Nat.xor_zero]
    have := a.1.xor a.2
    have e : G.getD i 0 ^^^ W.getD i 0 ^^^ img ps (I.getD i 0) = img ps (I.getD i 0) ^^^ G.getD i 0 ^^^ W.getD i 0 := by
      rw [Nat.xor_comm, ← Nat.xor_assoc]
    rw [e]
    exact this
  · rw [h2 j fun i hi z => e ⟨i, hi, z⟩, Nat.xor_self]
    exact .zero
end
/-- the lanes that want what slots of both lead to -/
def wdi (ss os ps : List Nat) : List Nat := ker (ps.map (clr (spn (spn ss ++ spn os))))
def wdg (ss os ps : List Nat) : List Nat := (wdi ss os ps).map fun x => pin (spn ss) (spn os) (img ps x)
def wdw (ss os : List Nat) : List Nat := cmpl (spn ss) (spn os)
def wds (ss os ps : List Nat) : List Nat := wsf ps (wdi ss os ps) (wdg ss os ps) (wdw ss os) (wdw ss os).length
theorem both_sp (ss os : List Nat) (x : Nat) : Spn (spn ss ++ spn os) x ↔ Spn (ss ++ os) x := span_app2 (spn_span ss) (spn_span os)
theorem wdi_span (ss os ps : List Nat) (x : Nat) : Spn (wdi ss os ps) x ↔ x < 2 ^ ps.length ∧ Spn (ss ++ os) (img ps x) := by
  unfold wdi
  rw [span_clr_img, both_sp]
theorem wdi_rws (ss os ps : List Nat) : Rws (wdi ss os ps) := ker_rws _
theorem wds_len (ss os ps : List Nat) : (wds ss os ps).length = ps.length := wsf_len _ _ _ _ _
theorem wdg_at {ss os ps : List Nat} {i : Nat} (h : i < (wdi ss os ps).length) : (wdg ss os ps).getD i 0 = pin (spn ss) (spn os) (img ps ((wdi ss os ps).getD i 0)) := by
  unfold wdg
  simp only [List.getD_eq_getElem?_getD, List.getElem?_map, List.getElem?_eq_getElem h]
  rfl
section
variable {b : Nat} {ss ls os ps : List Nat} (hs : ∀ x ∈ ss, x < 2 ^ b) (hL : ∀ x ∈ ls, x < 2 ^ b) (ho : ∀ x ∈ os, x < 2 ^ b) (hp : ∀ x ∈ ps, x < 2 ^ b) (hl : ls.length = ps.length) (hb : b ≤ rk (ss ++ ls)) (hb2 : b ≤ rk (os ++ ps))
include hs ho hp hl hb in
theorem wdw_le : (wdw ss os).length ≤ (wdi ss os ps).length := by
  have a := ksz (spn ss ++ spn os) ps
  have e1 : (spn (ker (ps.map (clr (spn (spn ss ++ spn os)))))).length = (wdi ss os ps).length := (wdi_rws ss os ps).rk
  have c := cmpl_len (spn_rws ss) (spn os)
  have e2 : rk (spn ss ++ spn os ++ ps) ≤ b := rk_le_bits fun x hx => by
    rcases List.mem_append.mp hx with hx | hx
    · rcases List.mem_append.mp hx with hx | hx
      · exact spn_lt hs x hx
      · exact spn_lt ho x hx
    · exact hp x hx
  have e3 := rk_app_len ss ls
  rw [rk_spn] at c
  have e4 : (wdw ss os).length = (cmpl (spn ss) (spn os)).length := rfl
  omega
theorem wdi_in {i : Nat} (h : i < (wdi ss os ps).length) : Spn ss ((wdg ss os ps).getD i 0) ∧ Spn os (img ps ((wdi ss os ps).getD i 0) ^^^ (wdg ss os ps).getD i 0) := by
  have a := ((wdi_span ss os ps _).mp (.of (getD_mem h))).2
  have p := pin_ok (R := spn ss) (O := spn os) ((both_sp ss os _).mpr a)
  rw [wdg_at h]
  exact ⟨(spn_span ss _).mp p.1, (spn_span os _).mp p.2⟩
theorem wdw_in {i : Nat} (h : i < (wdw ss os).length) : Spn os ((wdw ss os).getD i 0) := (spn_span os _).mp (.of (cmpl_mem _ _ (getD_mem h)))
theorem wdi_lt : ∀ x ∈ wdi ss os ps, x < 2 ^ ps.length := fun x hx => ((wdi_span ss os ps x).mp (.of hx)).1
include hs ho hp hl hb
theorem wds_to (x : Nat) : Spn os (img (wds ss os ps) x ^^^ img ps x) := by
  have le := wdw_le hs ho hp hl hb
  refine img_diff (wds_len ss os ps) (fun i hi => ?_) x
  rw [wds_len] at hi
  exact wsf_to (wdi_rws ss os ps) wdi_lt le (fun m hm => ⟨(wdi_in (by omega)).2, wdw_in hm⟩) i hi
theorem wds_at {i : Nat} (hi : i < ps.length) : Spn os ((wds ss os ps).getD i 0 ^^^ ps.getD i 0) :=
  wsf_to (wdi_rws ss os ps) wdi_lt (wdw_le hs ho hp hl hb) (fun m hm => ⟨(wdi_in (by have := wdw_le hs ho hp hl hb; omega)).2, wdw_in hm⟩) i hi
theorem wds_lt : ∀ x ∈ wds ss os ps, x < 2 ^ b := fun x hx => by
  obtain ⟨i, hi, rfl⟩ := List.mem_iff_getElem.mp hx
  have hi' : i < ps.length := by rwa [wds_len] at hi
  have a := wds_at hs ho hp hl hb hi'
  have e : (wds ss os ps).getD i 0 = (wds ss os ps)[i] := by rw [List.getD_eq_getElem?_getD, List.getElem?_eq_getElem hi]; rfl
  rw [e] at a
  have q := Nat.xor_lt_two_pow (a.lt ho) (hp _ (getD_mem hi'))
  rwa [xor_cancel_right] at q
include hb2
/-- with the slots they span all -/
theorem wds_all : b ≤ rk (ss ++ wds ss os ps) := by
  have le := wdw_le hs ho hp hl hb
  have key : ∀ i, i < (wdw ss os).length → Spn (ss ++ wds ss os ps) ((wdw ss os).getD i 0) := fun i hi => by
    have r := wsf_row (G := wdg ss os ps) (W := wdw ss os) (wdi_rws ss os ps) wdi_lt le hi
    have a : Spn (ss ++ wds ss os ps) (img (wds ss os ps) ((wdi ss os ps).getD i 0)) := by
      refine (img_in _ ?_).sub fun y hy => List.mem_append_right _ hy
      rw [wds_len]
      exact wdi_lt _ (getD_mem (by omega))
    have r' : img (wds ss os ps) ((wdi ss os ps).getD i 0) = (wdg ss os ps).getD i 0 ^^^ (wdw ss os).getD i 0 := r
    rw [r'] at a
    have g : Spn (ss ++ wds ss os ps) ((wdg ss os ps).getD i 0) := (wdi_in (ss := ss) (os := os) (ps := ps) (i := i) (by omega)).1.sub fun y hy => List.mem_append_left _ hy
    have := g.xor a
    rwa [xor_cancel] at this
  have cs := cms_span (spn_rws ss) (spn os)
  have os_in : ∀ x, Spn os x → Spn (ss ++ wds ss os ps) x := fun x hx => by
    have h1 : Spn (spn ss ++ spn os) x := ((spn_span os x).mpr hx).sub fun y hy => List.mem_append_right _ hy
    have h2 := (cs.2 x).mp ((cs.1 x).mpr h1)
    refine h2.mono fun y hy => ?_
    rcases List.mem_append.mp hy with hy | hy
    · exact ((spn_span ss y).mp (.of hy)).sub fun z hz => List.mem_append_left _ hz
    · obtain ⟨i, hi, rfl⟩ := List.mem_iff_getElem.mp hy
      have e : (wdw ss os).getD i 0 = (cms (spn ss) (spn os)).2[i] := by
        have hi' : i < (wdw ss os).length := hi
        rw [List.getD_eq_getElem?_getD, List.getElem?_eq_getElem hi']; rfl
      rw [← e]
      exact key i hi
  refine Nat.le_trans hb2 (rk_le fun x hx => ?_)
  rcases List.mem_append.mp hx with hx | hx
  · exact os_in x (.of hx)
  · obtain ⟨i, hi, rfl⟩ := List.mem_iff_getElem.mp hx
    have a := os_in _ (wds_at hs ho hp hl hb hi)
    have c : Spn (ss ++ wds ss os ps) ((wds ss os ps).getD i 0) := (Spn.of (getD_mem (by rw [wds_len]; exact hi))).sub fun z hz => List.mem_append_right _ hz
    have d := c.xor a
    rw [xor_cancel] at d
    have e : ps.getD i 0 = ps[i] := by rw [List.getD_eq_getElem?_getD, List.getElem?_eq_getElem hi]; rfl
    rwa [e] at d
end
/-! ### lanes that show -/
def shi (b : Nat) (ss st : List Nat) : List Nat := mtd b (spn st) (spn ss)
def sho (b : Nat) (ss st : List Nat) : List Nat := cmpl (shi b ss st) (spn st)
def shL (b : Nat) (ss ls st : List Nat) : List Nat := (twn ss ls).take (shi b ss st).length ++ (sho b ss st).map (lno ss ls)
def shn (b : Nat) (ss ls st : List Nat) : List Nat := st.map fun w => img (shL b ss ls st) (slv (shi b ss st ++ sho b ss st) w)
section
variable {b : Nat} {ss ls st : List Nat} (hs : ∀ x ∈ ss, x < 2 ^ b) (hL : ∀ x ∈ ls, x < 2 ^ b) (hS : ∀ x ∈ st, x < 2 ^ b) (hl : st.length = ls.length) (hb : b ≤ rk (ss ++ ls)) (hst : b ≤ rk (ss ++ st))
include hS in
theorem shi_span (x : Nat) : Spn (shi b ss st) x ↔ Spn st x ∧ Spn ss x := by
  unfold shi
  rw [mtd_span (spn_lt hS), spn_span, spn_span]
include hS in
theorem sh_base : (∀ x, Spn (shi b ss st ++ sho b ss st) x ↔ Spn st x) ∧ rk (shi b ss st ++ sho b ss st) = (shi b ss st ++ sho b ss st).length := by
  have a := base_of (A := shi b ss st) (B := spn st) (mtd_rws _ _ _) fun x hx => (spn_span st x).mpr ((shi_span hS x).mp (.of hx)).1
  exact ⟨fun x => (a.1 x).trans (spn_span st x), a.2.1⟩
include hs hL hS hl hb hst
theorem shi_le : (shi b ss st).length ≤ (twn ss ls).length := by
  have a := mtd_len (b := b) (spn_rws st) (spn_rws ss) (spn_lt hS)
  have t := twn_size ss ls
  have e : rk (spn st ++ spn ss) = rk (ss ++ st) := rk_eq fun x => (both_sp st ss x).trans (span_swap st ss x)
  have e1 : (spn st).length = rk st := rfl
  have e2 : (spn ss).length = rk ss := rfl
  have e3 := rk_len st
  have e4 : (shi b ss st).length = (mtd b (spn st) (spn ss)).length := rfl
  have e5 : rk (ss ++ ls) ≤ b := rk_le_bits fun x hx => by
    rcases List.mem_append.mp hx with hx | hx
    · exact hs x hx
    · exact hL x hx
  omega
theorem shL_len : (shL b ss ls st).length = (shi b ss st ++ sho b ss st).length := by
  have := shi_le hs hL hS hl hb hst
  unfold shL
  rw [List.length_append, List.length_append, List.length_take, List.length_map]
  omega
theorem sho_lt : ∀ x ∈ sho b ss st, x < 2 ^ b := fun x hx => ((spn_span st x).mp (.of (cmpl_mem _ x hx))).lt hS
theorem shL_lt : ∀ x ∈ shL b ss ls st, x < 2 ^ ls.length := fun x hx => by
  rcases List.mem_append.mp hx with hx | hx
  · exact twn_lt (.of (List.mem_of_mem_take hx))
  · obtain ⟨w, hw, rfl⟩ := List.mem_map.mp hx
    exact (lno_ok hs hL hb (sho_lt hs hL hS hl hb hst w hw)).1
theorem sh_from (c : Nat) : Spn ss (img ls (img (shL b ss ls st) c) ^^^ img (shi b ss st ++ sho b ss st) c) := by
  have le := shi_le hs hL hS hl hb hst
  rw [← img_map (lin_img ls)]
  refine img_diff (by rw [List.length_map, shL_len hs hL hS hl hb hst]) (fun i hi => ?_) c
  rw [List.length_map, shL_len hs hL hS hl hb hst, List.length_append] at hi
  have tl : ((twn ss ls).take (shi b ss st).length).length = (shi b ss st).length := by rw [List.length_take]; omega
  by_cases z : i < (shi b ss st).length
  · have e1 : (shL b ss ls st).getD i 0 = (twn ss ls).getD i 0 := by
      unfold shL
      simp only [List.getD_eq_getElem?_getD, List.getElem?_append_left (show i < ((twn ss ls).take (shi b ss st).length).length by omega), List.getElem?_take, if_pos z]
    have e2 : (shi b ss st ++ sho b ss st).getD i 0 = (shi b ss st).getD i 0 := by
      simp only [List.getD_eq_getElem?_getD, List.getElem?_append_left z]
    have e3 : ((shL b ss ls st).map (img ls)).getD i 0 = img ls ((shL b ss ls st).getD i 0) := by
      have : i < (shL b ss ls st).length := by rw [shL_len hs hL hS hl hb hst, List.length_append]; omega
      simp only [List.getD_eq_getElem?_getD, List.getElem?_map, List.getElem?_eq_getElem this]; rfl
    rw [e3, e1, e2]
    exact ((twn_span ss ls _).mp (.of (getD_mem (by omega)))).2.xor ((shi_span hS _).mp (.of (getD_mem z))).2
  · have e1 : (shL b ss ls st).getD i 0 = lno ss ls ((sho b ss st).getD (i - (shi b ss st).length) 0) := by
      unfold shL
      have : i - (shi b ss st).length < (sho b ss st).length := by omega
      simp only [List.getD_eq_getElem?_getD, List.getElem?_append_right (show ((twn ss ls).take (shi b ss st).length).length ≤ i by omega), tl, List.getElem?_map, List.getElem?_eq_getElem this]
      rfl
    have e2 : (shi b ss st ++ sho b ss st).getD i 0 = (sho b ss st).getD (i - (shi b ss st).length) 0 := by
      simp only [List.getD_eq_getElem?_getD, List.getElem?_append_right (show (shi b ss st).length ≤ i by omega)]
    have e3 : ((shL b ss ls st).map (img ls)).getD i 0 = img ls ((shL b ss ls st).getD i 0) := by
      have : i < (shL b ss ls st).length := by rw [shL_len hs hL hS hl hb hst, List.length_append]; omega
      simp only [List.getD_eq_getElem?_getD, List.getElem?_map, List.getElem?_eq_getElem this]; rfl
    rw [e3, e1, e2]
    exact lno_span hs hL hb (sho_lt hs hL hS hl hb hst _ (getD_mem (by omega)))
theorem lin_sh : Lin fun w => img (shL b ss ls st) (slv (shi b ss st ++ sho b ss st) w) := (lin_img _).comp (lin_slv _)
theorem shn_img (x : Nat) : img (shn b ss ls st) x = img (shL b ss ls st) (slv (shi b ss st ++ sho b ss st) (img st x)) := img_map (lin_sh hs hL hS hl hb hst) st x
theorem shn_from {x : Nat} (hx : x < 2 ^ st.length) : Spn ss (img ls (img (shn b ss ls st) x) ^^^ img st x) := by
  rw [shn_img hs hL hS hl hb hst]
  have a := slv_ok (((sh_base (b := b) (ss := ss) hS).1 _).mpr (img_in st hx))
  have c := sh_from hs hL hS hl hb hst (slv (shi b ss st ++ sho b ss st) (img st x))
  rwa [a.2] at c
theorem shn_lt : ∀ x ∈ shn b ss ls st, x < 2 ^ ls.length := fun x hx => by
  obtain ⟨w, _, rfl⟩ := List.mem_map.mp hx
  exact imf_lt (shL_lt hs hL hS hl hb hst) _ _
theorem shn_inj {x y : Nat} (hx : x < 2 ^ st.length) (hy : y < 2 ^ st.length) (h : img (shn b ss ls st) x = img (shn b ss ls st) y) : img st x = img st y := by
  have z : x ^^^ y < 2 ^ st.length := Nat.xor_lt_two_pow hx hy
  have e : img (shn b ss ls st) (x ^^^ y) = 0 := by rw [(lin_img _).x, h, Nat.xor_self]
  have fr := shn_from hs hL hS hl hb hst z
  rw [e, (lin_img ls).z, Nat.zero_xor] at fr
  rw [shn_img hs hL hS hl hb hst] at e
  have inst := img_in st z
  obtain ⟨c1, c2⟩ := slv_ok (((sh_base (b := b) (ss := ss) hS).1 _).mpr inst)
  have inner : Spn (shi b ss st) (img st (x ^^^ y)) := (shi_span hS _).mpr ⟨inst, fr⟩
  obtain ⟨w, hw, e2⟩ := span_img (cols := shi b ss st) (Nat.le_refl _) (by rw [List.take_length]; exact inner)
  have e3 : img (shi b ss st ++ sho b ss st) w = img (shi b ss st) w := by
    have := img_app (P := shi b ss st) (Q := sho b ss st) (y := 0) hw
    rwa [Nat.zero_shiftLeft, Nat.xor_zero, (lin_img _).z, Nat.xor_zero] at this
  have hw2 : w < 2 ^ (shi b ss st ++ sho b ss st).length := Nat.lt_of_lt_of_le hw (Nat.pow_le_pow_right (by decide) (by rw [List.length_append]; omega))
  have e4 : slv (shi b ss st ++ sho b ss st) (img st (x ^^^ y)) = w := img_inj2 (sh_base hS).2 c1 hw2 (by rw [c2, e3, e2])
  rw [e4] at e
  have le := shi_le hs hL hS hl hb hst
  have tl : ((twn ss ls).take (shi b ss st).length).length = (shi b ss st).length := by rw [List.length_take]; omega
  have e5 : img (shL b ss ls st) w = img ((twn ss ls).take (shi b ss st).length) w := by
    have := img_app (P := (twn ss ls).take (shi b ss st).length) (Q := (sho b ss st).map (lno ss ls)) (x := w) (y := 0) (by rw [tl]; exact hw)
    rwa [Nat.zero_shiftLeft, Nat.xor_zero, (lin_img _).z, Nat.xor_zero] at this
  rw [e5] at e
  have R : Rws ((twn ss ls).take (shi b ss st).length) := by
    have A : Rws (twn ss ls) := spn_rws _
    exact ⟨fun r hr => A.nz r (List.mem_of_mem_take hr), A.red.sublist (List.take_sublist _ _)⟩
  have w0 := img_inj R.rk (by rw [tl]; exact hw) e
  rw [w0, (lin_img _).z] at e2
  have := e2.symm
  rw [(lin_img st).x] at this
  exact xor_eq_zero this
end
/-! ### a plan -/
structure Pln (b : Nat) (ss ls os ps st sh wd : List Nat) (sk : Nat) : Prop where
  sl : st.length = ls.length
  hl : sh.length = ls.length
  wl : wd.length = rk os
  sm : ∀ x ∈ st, x < 2 ^ b
  hm : ∀ x ∈ sh, x < 2 ^ ls.length
  wm : ∀ x ∈ wd, x < 2 ^ b
  wi : rk wd = wd.length
  ws : ∀ x, Spn wd x ↔ Spn os x
  to : ∀ x, Spn os (img st x ^^^ img ps x)
  fr : ∀ x, x < 2 ^ ls.length → Spn ss (img ls (img sh x) ^^^ img st x)
  inj : ∀ x y, x < 2 ^ ls.length → y < 2 ^ ls.length → img sh x = img sh y → img st x = img st y
  sk1 : 2 ^ wd.length - sk = fwr ss ls os ps
  sk2 : sk ≤ 2 ^ wd.length
  low : ∀ f x, f < sk → Spn ss (img wd f ^^^ (img st x ^^^ img ls x))
  high : ∀ f x, sk ≤ f → f < 2 ^ wd.length → x < 2 ^ ls.length → sk ≠ 0 → ¬ Spn ss (img wd f ^^^ (img st x ^^^ img ls x))
theorem img_units {n x : Nat} (h : x < 2 ^ n) : img ((List.range n).map fun i => 1 <<< i) x = x := by
  have key : ∀ m, m ≤ n → imf ((List.range n).map fun i => 1 <<< i) x m = x % 2 ^ m := by
    intro m
    induction m with
    | zero => intro _; simp [imf, Nat.mod_one]
    | succ m ih =>
      intro hm
      rw [imf_succ, ih (by omega), map_range_getD _ (by omega), Nat.one_shiftLeft]
      apply Nat.eq_of_testBit_eq
      intro j
      rw [Nat.testBit_mod_two_pow]
      split
      · rename_i z
        rw [Nat.testBit_xor, Nat.testBit_mod_two_pow, Nat.testBit_two_pow]
        by_cases e : m = j
        · subst e; simp [z]
        · by_cases e2 : j < m
          · simp [e, e2, show j < m + 1 by omega]
          · simp [e, e2, show ¬ j < m + 1 by omega]
      · rename_i z
        rw [Nat.testBit_mod_two_pow]
        by_cases e : j = m
        · subst e; simp [z]
        · by_cases e2 : j < m
          · simp [e2, show j < m + 1 by omega]
          · simp [e2, show ¬ j < m + 1 by omega]
  unfold img
  rw [List.length_map, List.length_range, key n (Nat.le_refl _), Nat.mod_eq_of_lt h]
section
variable {b : Nat} {ss ls os ps : List Nat} (hs : ∀ x ∈ ss, x < 2 ^ b) (hL : ∀ x ∈ ls, x < 2 ^ b) (ho : ∀ x ∈ os, x < 2 ^ b) (hp : ∀ x ∈ ps, x < 2 ^ b) (hl : ls.length = ps.length) (hb : b ≤ rk (ss ++ ls)) (hb2 : b ≤ rk (os ++ ps))
def kwd (b : Nat) (ss os : List Nat) : List Nat := mtd b (spn ss) (spn os) ++ cmpl (mtd b (spn ss) (spn os)) (spn os)
include hs hL ho hl
theorem pln_keep (h : ∀ w ∈ lsm ls ps, Spn (ss ++ os) w) : Pln b ss ls os ps (kst (spn ss) (spn os) ls ps) ((List.range ls.length).map fun i => 1 <<< i) (kwd b ss os) (2 ^ (mtd b (spn ss) (spn os)).length) := by
  have key : ∀ y, Spn (mtd b (spn ss) (spn os)) y ↔ Spn ss y ∧ Spn os y := fun y => by rw [mtd_span (spn_lt hs), spn_span, spn_span]
  have B := base_of (A := mtd b (spn ss) (spn os)) (B := spn os) (mtd_rws _ _ _) fun x hx => (spn_span os x).mpr ((key x).mp (.of hx)).2
  have wl : (kwd b ss os).length = rk os := B.2.2.trans (rk_spn os)
  have ws : ∀ x, Spn (kwd b ss os) x ↔ Spn os x := fun x => (B.1 x).trans (spn_span os x)
  have ml := mtd_shr (os := os) hs
  have mle : (mtd b (spn ss) (spn os)).length ≤ (kwd b ss os).length := by unfold kwd; rw [List.length_append]; omega
  have ap : ∀ f, f < 2 ^ (mtd b (spn ss) (spn os)).length → img (kwd b ss os) f = img (mtd b (spn ss) (spn os)) f := fun f hf => by
    have := img_app (P := mtd b (spn ss) (spn os)) (Q := cmpl (mtd b (spn ss) (spn os)) (spn os)) (y := 0) hf
    rwa [Nat.zero_shiftLeft, Nat.xor_zero, (lin_img _).z, Nat.xor_zero] at this
  have ks := fun x => kst_ok hl h x
  refine ⟨kst_len _ _ _ _, by simp, wl, kst_lt hs hL h, fun x hx => ?_, fun x hx => ((ws x).mp (.of hx)).lt ho, B.2.1, ws, fun x => (ks x).2, fun x hx => ?_, fun x y hx hy z => ?_, ?_, Nat.pow_le_pow_right (by decide) mle, fun f x hf => ?_, fun f x h1 h2 hx _ z => ?_⟩
  · obtain ⟨i, hi, rfl⟩ := List.mem_map.mp hx
    rw [Nat.one_shiftLeft]
    exact Nat.pow_lt_pow_right (by decide) (List.mem_range.mp hi)
  · rw [img_units hx, Nat.xor_comm]
    exact (ks x).1
  · rw [img_units hx, img_units hy] at z
    rw [z]
  · rw [wl, ml]
    unfold fwr
    rw [if_pos h]
  · rw [ap f hf]
    exact ((key _).mp (img_in _ hf)).1.xor (ks x).1
  · have z1 := z.xor (ks x).1
    rw [xor_cancel_right] at z1
    have z2 : Spn (mtd b (spn ss) (spn os)) (img (kwd b ss os) f) := (key _).mpr ⟨z1, (ws _).mp (img_in _ h2)⟩
    obtain ⟨w, hw, e⟩ := span_img (cols := mtd b (spn ss) (spn os)) (Nat.le_refl _) (by rw [List.take_length]; exact z2)
    have hw2 : w < 2 ^ (kwd b ss os).length := Nat.lt_of_lt_of_le hw (Nat.pow_le_pow_right (by decide) mle)
    have := img_inj2 B.2.1 h2 hw2 (e.symm.trans (ap w hw).symm)
    omega
include hp hb hb2
theorem pln_wide (h : ¬ ∀ w ∈ lsm ls ps, Spn (ss ++ os) w) : Pln b ss ls os ps (wds ss os ps) (shn b ss ls (wds ss os ps)) (spn os) 0 := by
  have hS := wds_lt hs ho hp hl hb
  have hl2 : (wds ss os ps).length = ls.length := (wds_len ss os ps).trans hl.symm
  have al := wds_all hs ho hp hl hb hb2
  refine ⟨hl2, by unfold shn; rw [List.length_map, hl2], rfl, hS, shn_lt hs hL hS hl2 hb al, spn_lt ho, (spn_rws os).rk, spn_span os, wds_to hs ho hp hl hb, fun x hx => shn_from hs hL hS hl2 hb al (by rw [hl2]; exact hx), fun x y hx hy z => shn_inj hs hL hS hl2 hb al (by rw [hl2]; exact hx) (by rw [hl2]; exact hy) z, ?_, Nat.zero_le _, fun f x hf => absurd hf (Nat.not_lt_zero _), fun f x _ _ _ z => absurd rfl z⟩
  unfold fwr
  rw [if_neg h, Nat.sub_zero]
  rfl
end
end LaneX
set_option linter.all false
namespace LaneX
/-! ### what a plan of rounds tells -/
section
variable {b : Nat} {ss ls os ps st sh wd : List Nat} {sk : Nat} (pn : Pln b ss ls os ps st sh wd sk) (hs : ∀ x ∈ ss, x < 2 ^ b) (hL : ∀ x ∈ ls, x < 2 ^ b) (hb : b ≤ rk (ss ++ ls))
include pn
theorem Pln.wlt (n : Nat) : img wd n < 2 ^ b := imf_lt pn.wm _ _
theorem Pln.win {n : Nat} (h : n < 2 ^ wd.length) : Spn os (img wd n) := (pn.ws _).mp (img_in _ h)
theorem Pln.want {L n : Nat} (h : n < 2 ^ wd.length) : Spn os ((img st L ^^^ img wd n) ^^^ img ps L) := by
  have a := (pn.to L).xor (pn.win h)
  have e : img st L ^^^ img ps L ^^^ img wd n = (img st L ^^^ img wd n) ^^^ img ps L := by
    rw [Nat.xor_assoc, Nat.xor_comm (img ps L), ← Nat.xor_assoc]
  rwa [e] at a
theorem Pln.one {f g : Nat} (hf : f < 2 ^ wd.length) (hg : g < 2 ^ wd.length) (h : img wd f = img wd g) : f = g := img_inj2 pn.wi hf hg h
theorem Pln.in_wanted {L e : Nat} : Spn os (e ^^^ img st L) ↔ Spn os (e ^^^ img ps L) := by
  constructor
  · intro h
    have := h.xor (pn.to L)
    have e2 : e ^^^ img st L ^^^ (img st L ^^^ img ps L) = e ^^^ img ps L := by rw [Nat.xor_assoc, xor_cancel]
    rwa [e2] at this
  · intro h
    have := h.xor (pn.to L)
    have e2 : e ^^^ img ps L ^^^ (img st L ^^^ img ps L) = e ^^^ img st L := by rw [xor4, Nat.xor_self, Nat.xor_zero]
    rwa [e2] at this
include hs hL hb
theorem Pln.src {L : Nat} (n : Nat) : img sh L ^^^ lno ss ls (img wd n) < 2 ^ ls.length :=
  Nat.xor_lt_two_pow (imf_lt pn.hm _ _) (lno_ok hs hL hb (pn.wlt n)).1
theorem Pln.hold {L : Nat} (n : Nat) (h : L < 2 ^ ls.length) : Spn ss ((img st L ^^^ img wd n) ^^^ img ls (img sh L ^^^ lno ss ls (img wd n))) := by
  rw [(lin_img ls).x]
  have a := (pn.fr L h).xor (lno_span hs hL hb (pn.wlt n))
  have e : img ls (img sh L) ^^^ img st L ^^^ (img ls (lno ss ls (img wd n)) ^^^ img wd n) = (img st L ^^^ img wd n) ^^^ (img ls (img sh L) ^^^ img ls (lno ss ls (img wd n))) := by
    rw [xor4, Nat.xor_comm]
  rwa [e] at a
end
/-! ### the least lane that keeps nothing -/
/-- the lanes of one bit that keep nothing -/
def sty (ss ls os ps : List Nat) : List Nat := (List.range ls.length).filter fun i => !decide (clr (rws (ss ++ os)) (ls.getD i 0 ^^^ ps.getD i 0) = 0)
theorem clr_rws' {ws : List Nat} {x : Nat} : clr (rws ws) x = 0 ↔ Spn ws x := by rw [← (rws_hws ws).span, rws_span]
section
variable {b : Nat} {ss ls os ps : List Nat} (hs : ∀ x ∈ ss, x < 2 ^ b) (hl : ls.length = ps.length)
theorem sty_nil : sty ss ls os ps = [] ↔ ∀ w ∈ lsm ls ps, Spn (ss ++ os) w := by
  unfold sty
  rw [List.filter_eq_nil_iff]
  constructor
  · intro h w hw
    obtain ⟨i, hi, rfl⟩ := List.mem_map.mp hw
    have := h i hi
    simp only [Bool.not_eq_true', Bool.not_eq_true, decide_eq_false_iff_not, Decidable.not_not] at this
    exact clr_rws'.mp (by simpa using this)
  · intro h i hi
    have := clr_rws'.mpr (h _ (List.mem_map.mpr ⟨i, hi, rfl⟩))
    rw [decide_eq_true this]; decide
theorem head_least : ∀ {l : List Nat} {n : Nat} {p : Nat → Bool} {j : Nat} {r : List Nat}, (List.range n).filter p = j :: r → j < n ∧ p j = true ∧ ∀ i, i < j → p i = false := by
  intro l n p j r h
  have m : j ∈ (List.range n).filter p := by rw [h]; exact .head _
  have m' := List.mem_filter.mp m
  refine ⟨List.mem_range.mp m'.1, m'.2, fun i hi => ?_⟩
  cases q : p i with
  | false => rfl
  | true =>
    have mi : i ∈ (List.range n).filter p := List.mem_filter.mpr ⟨List.mem_range.mpr (by have := List.mem_range.mp m'.1; omega), q⟩
    rw [h] at mi
    have sorted : ((List.range n).filter p).Pairwise (· < ·) := List.Pairwise.filter _ List.pairwise_lt_range
    rw [h] at sorted
    rcases List.mem_cons.mp mi with e | e
    · omega
    · have := (List.pairwise_cons.mp sorted).1 i e
      omega
include hs hl
theorem sty_due {j : Nat} {r : List Nat} (h : sty ss ls os ps = j :: r) : j < ls.length ∧ due ss ls os ps (2 ^ j) = fwr ss ls os ps ∧ ∀ L, L < 2 ^ j → due ss ls os ps L ≠ fwr ss ls os ps := by
  obtain ⟨h1, h2, h3⟩ := head_least (l := []) h
  have at_ : ∀ i, i < ls.length → img (lsm ls ps) (2 ^ i) = ls.getD i 0 ^^^ ps.getD i 0 := fun i hi => by rw [img_unit _ (by rw [lsm_len]; exact hi), lsm_at hi]
  have out : ¬ Spn (ss ++ os) (img (lsm ls ps) (2 ^ j)) := by
    rw [at_ j h1, ← clr_rws']
    simpa using h2
  have nall : ¬ ∀ w ∈ lsm ls ps, Spn (ss ++ os) w := fun z => by
    rw [← sty_nil, h] at z
    cases z
  have e1 : fwr ss ls os ps = 2 ^ rk os := by unfold fwr; rw [if_neg nall]
  refine ⟨h1, ?_, fun L hL => ?_⟩
  · rw [due_eq hs hl, if_neg out, e1]
  · have inn : Spn (ss ++ os) (img (lsm ls ps) L) := by
      have key : ∀ n, n ≤ j → ∀ x, x < 2 ^ n → Spn (ss ++ os) (img (lsm ls ps) x) := by
        intro n
        induction n with
        | zero =>
          intro _ x hx
          have : x = 0 := by simpa using hx
          subst this
          rw [(lin_img _).z]; exact .zero
        | succ n ih =>
          intro hn x hx
          rcases bit_split hx with q | ⟨q, _⟩
          · exact ih (by omega) x q
          · have a := ih (by omega) _ q
            have c : Spn (ss ++ os) (img (lsm ls ps) (2 ^ n)) := by
              rw [at_ n (by omega), ← clr_rws']
              simpa using h3 n (by omega)
            have d := a.xor c
            rwa [← (lin_img _).x, xor_cancel_right] at d
      exact key j (Nat.le_refl _) L hL
    rw [due_eq hs hl, if_pos inn, e1]
    have := Nat.two_pow_pos (shr ss os)
    have := Nat.two_pow_pos (rk os)
    omega
/-- the short lane is told -/
theorem short_is {L : Nat} (h1 : due ss ls os ps L = fwr ss ls os ps) (h2 : ∀ i, i < L → due ss ls os ps i ≠ fwr ss ls os ps) : L = match sty ss ls os ps with | [] => 0 | j :: _ => 2 ^ j := by
  cases q : sty ss ls os ps with
  | nil =>
    have a := sty_nil.mp q
    refine Classical.byContradiction fun z => ?_
    exact h2 0 (by simp at z; omega) (due_all hs hl a 0)
  | cons j r =>
    obtain ⟨_, d1, d2⟩ := sty_due hs hl q
    show L = 2 ^ j
    rcases Nat.lt_trichotomy L (2 ^ j) with z | z | z
    · exact absurd h1 (d2 L z)
    · exact z
    · exact absurd d1 (h2 _ z)
end
end LaneX
set_option Elab.async false
set_option linter.all false
set_option maxRecDepth 100000
set_option maxHeartbeats 4000000
namespace LaneX
open PySem PySem.Spec PyProof.Rows L2

/-! ### natural numbers as values -/
abbrev vN (n : Nat) : V := .int (n : Int)
theorem nnAnd (n m : Nat) : Builtin.bitAnd (n : Int) (m : Int) = ((n &&& m : Nat) : Int) := by
  unfold Builtin.bitAnd
  have h1 : decide (0 ≤ (n : Int)) = true := decide_eq_true (Int.natCast_nonneg _)
  have h2 : decide (0 ≤ (m : Int)) = true := decide_eq_true (Int.natCast_nonneg _)
  simp
theorem nnOr (n m : Nat) : Builtin.bitOr (n : Int) (m : Int) = ((n ||| m : Nat) : Int) := by
  rw [bitOr_nn (Int.natCast_nonneg _) (Int.natCast_nonneg _)]
  simp
theorem and_or_xor (n m : Nat) : (n ||| m) = (n ^^^ m) + (n &&& m) := by
  have h : (n ^^^ m) &&& (n &&& m) = 0 := by
    apply Nat.eq_of_testBit_eq
    intro i
    simp only [Nat.testBit_and, Nat.testBit_xor, Nat.zero_testBit]
    cases n.testBit i <;> cases m.testBit i <;> rfl
  have h2 : (n ^^^ m) ||| (n &&& m) = n ||| m := by
    apply Nat.eq_of_testBit_eq
    intro i
    simp only [Nat.testBit_and, Nat.testBit_xor, Nat.testBit_or]
    cases n.testBit i <;> cases m.testBit i <;> rfl
  have add : ∀ (k a b : Nat), a < 2 ^ k → a &&& b = 0 → a + b = a ||| b := by
    intro k
    induction k with
    | zero =>
      intro a b ha _
      have : a = 0 := by simpa using ha
      subst this
      simp
    | succ k ih =>
      intro a b ha hab
      have e1 : a / 2 &&& b / 2 = 0 := by
        rw [← Nat.and_div_two, hab]
      have e2 := ih (a / 2) (b / 2) (by rw [Nat.pow_succ] at ha; omega) e1
      have e3 : (a ||| b) / 2 = a / 2 ||| b / 2 := Nat.or_div_two
      have e8 : a / 2 + b / 2 = (a ||| b) / 2 := by rw [e3]; exact e2
      clear e1 e2 e3 ih
      have e5 : (a &&& b).testBit 0 = false := by rw [hab]; simp
      have e6 : (a ||| b).testBit 0 = (a.testBit 0 || b.testBit 0) := Nat.testBit_or ..
      have e7 : (a.testBit 0 && b.testBit 0) = false := by rw [← Nat.testBit_and]; exact e5
      have t : ∀ x : Nat, x % 2 = if x.testBit 0 = true then 1 else 0 := by
        intro x
        rw [Nat.testBit_zero]
        split <;> simp_all
      have ta := t a
      have tb := t b
      have to := t (a ||| b)
      rw [e6] at to
      cases h1 : a.testBit 0 <;> cases h2 : b.testBit 0 <;> rw [h1] at ta to e7 <;> rw [h2] at tb to e7
      · simp only [Bool.or_false, Bool.false_eq_true, if_false] at ta tb to; omega
      · simp only [Bool.or_true, Bool.false_eq_true, if_false, if_true] at ta tb to; omega
      · simp only [Bool.or_false, Bool.false_eq_true, if_false, if_true] at ta tb to; omega
      · cases e7
  have := add ((n ^^^ m) + 1) (n ^^^ m) (n &&& m) (Nat.lt_of_lt_of_le Nat.lt_two_pow_self (Nat.pow_le_pow_right (by decide) (Nat.le_succ _))) h
  rw [h2] at this
  exact this.symm
theorem nnXor (n m : Nat) : Builtin.bitXor (n : Int) (m : Int) = ((n ^^^ m : Nat) : Int) := by
  unfold Builtin.bitXor
  rw [nnOr, nnAnd, and_or_xor]
  omega
theorem blen_bits (n : Nat) : Builtin.Int.intBits (n : Int) = blen n := by
  unfold Builtin.Int.intBits blen
  by_cases h : n = 0
  · subst h; rfl
  · have : ((n : Int) == 0) = false := by simp [h]
    rw [this]
    simp [h]

section
variable {X : Cx}
/-- two naturals, a condition, a natural -/
def rN (C : Nat → Nat → Prop) (g : Nat → Nat → Nat) : R2 := fun x y H Q => ∃ n m : Nat, x = .int (n : Int) ∧ y = .int (m : Int) ∧ C n m ∧ Q (.int (g n m : Nat)) H
def rN0 (g : Nat → Nat → Nat) : R2 := fun x y H Q => ∃ n m : Nat, x = .int (n : Int) ∧ y = .int (m : Int) ∧ Q (.int (g n m : Nat)) H
theorem on_xor : OpR X (binaryOp .BitXor) (fun x y H Q => ∃ n m : Nat, x = .int (n : Int) ∧ y = .int (m : Int) ∧ Q (.int ((n ^^^ m : Nat) : Int)) H) := by
  intro pins s σ H x y v u Q I rx ry h
  obtain ⟨n, m, rfl, rfl, q⟩ := h
  rw [← nnXor] at q
  exact op_xor pins s σ H _ _ v u Q I rx ry ⟨_, _, rfl, rfl, q⟩
theorem on_and : OpR X (binaryOp .BitAnd) (fun x y H Q => ∃ n m : Nat, x = .int (n : Int) ∧ y = .int (m : Int) ∧ Q (.int ((n &&& m : Nat) : Int)) H) := by
  intro pins s σ H x y v u Q I rx ry h
  obtain ⟨n, m, rfl, rfl, q⟩ := h
  rw [← nnAnd] at q
  exact op_and pins s σ H _ _ v u Q I rx ry ⟨_, _, rfl, rfl, q⟩
theorem on_or : OpR X (binaryOp .BitOr) (fun x y H Q => ∃ n m : Nat, x = .int (n : Int) ∧ y = .int (m : Int) ∧ Q (.int ((n ||| m : Nat) : Int)) H) := by
  intro pins s σ H x y v u Q I rx ry h
  obtain ⟨n, m, rfl, rfl, q⟩ := h
  rw [← nnOr] at q
  exact op_or pins s σ H _ _ v u Q I rx ry ⟨_, _, rfl, rfl, q⟩
theorem on_add : OpR X (binaryOp .Add) (fun x y H Q => ∃ n m : Nat, x = .int (n : Int) ∧ y = .int (m : Int) ∧ Q (.int ((n + m : Nat) : Int)) H) := op_addN
theorem on_sub : OpR X (binaryOp .Sub) (fun x y H Q => ∃ n m : Nat, x = .int (n : Int) ∧ y = .int (m : Int) ∧ (m ≤ n) ∧ Q (.int ((n - m : Nat) : Int)) H) := op_subN
theorem on_shr : OpR X (binaryOp .RShift) (fun x y H Q => ∃ n m : Nat, x = .int (n : Int) ∧ y = .int (m : Int) ∧ Q (.int ((n >>> m : Nat) : Int)) H) := by
  intro pins s σ H x y v u Q I rx ry h
  obtain ⟨n, m, rfl, rfl, q⟩ := h
  refine op_shrN pins s σ H _ _ v u Q I rx ry ⟨_, _, rfl, rfl, ?_⟩
  have e : ((n >>> m : Nat) : Int) = (n : Int) / 2 ^ m := by
    rw [Nat.shiftRight_eq_div_pow, Int.natCast_ediv]
    simp
  rw [← e]
  exact q
/-- a shift to the left: few bits in all -/
def CShN (n m : Nat) : Prop := blen n + m ≤ 100000000
theorem on_shl : OpR X (binaryOp .LShift) (fun x y H Q => ∃ n m : Nat, x = .int (n : Int) ∧ y = .int (m : Int) ∧ CShN n m ∧ Q (.int ((n <<< m : Nat) : Int)) H) := by
  intro pins s σ H x y v u Q I rx ry h
  obtain ⟨n, m, rfl, rfl, hc, q⟩ := h
  refine op_shlN pins s σ H _ _ v u Q I rx ry ⟨_, _, rfl, rfl, ⟨by omega, ?_⟩, ?_⟩
  · rw [blen_bits]
    have : blen n + m ≤ 100000000 := hc
    omega
  · have e : ((n <<< m : Nat) : Int) = (n : Int) * 2 ^ m := by
      rw [Nat.shiftLeft_eq]
      simp
    rw [← e]
    exact q
theorem on_mul : OpR X (binaryOp .Mult) (fun x y H Q => ∃ n m : Nat, x = .int (n : Int) ∧ y = .int (m : Int) ∧ (n < 2 ^ 64) ∧ Q (.int ((n * m : Nat) : Int)) H) := by
  intro pins s σ H x y v u Q I rx ry h
  obtain ⟨n, m, rfl, rfl, c, q⟩ := h
  rw [Int.natCast_mul] at q
  exact op_mul pins s σ H _ _ v u Q I rx ry ⟨_, _, rfl, rfl, show CMul (n : Int) (m : Int) from Or.inl ⟨by omega, by have : n < 18446744073709551616 := c; omega⟩, q⟩
theorem on_fdiv : OpR X (binaryOp .FloorDiv) (fun x y H Q => ∃ n m : Nat, x = .int (n : Int) ∧ y = .int (m : Int) ∧ (0 < m ∧ m < 1073741824) ∧ Q (.int ((n / m : Nat) : Int)) H) := op_fdivNN
/-- the left one any size, the divisor below 2 ^ 9000 -/
theorem on_fdivW : OpR X (binaryOp .FloorDiv) (fun x y H Q => ∃ n m : Nat, x = .int (n : Int) ∧ y = .int (m : Int) ∧ (0 < m ∧ m < 2 ^ 8999) ∧ Q (.int ((n / m : Nat) : Int)) H) := by
  intro pins s σ H x y v u Q I rx ry h
  obtain ⟨n, m, rfl, rfl, ⟨c1, c2⟩, q⟩ := h
  rw [Int.natCast_ediv] at q
  refine op_fdivW pins s σ H _ _ v u Q I rx ry ⟨_, _, rfl, rfl, wide_div (b := 8999) (by omega) ?_ (by decide) (by decide), q⟩
  simpa using c2
theorem on_mod : OpR X (binaryOp .Mod) (fun x y H Q => ∃ n m : Nat, x = .int (n : Int) ∧ y = .int (m : Int) ∧ (0 < m) ∧ Q (.int ((n % m : Nat) : Int)) H) := by
  intro pins s σ H x y v u Q I rx ry h
  obtain ⟨n, m, rfl, rfl, c, q⟩ := h
  rw [Int.natCast_emod] at q
  exact op_mod pins s σ H _ _ v u Q I rx ry ⟨_, _, rfl, rfl, show (0 : Int) < (m : Int) by have : 0 < m := c; omega, q⟩
end
end LaneX
set_option Elab.async false
set_option linter.all false
set_option maxRecDepth 100000
set_option maxHeartbeats 4000000
namespace LaneX
open PySem PySem.Spec PyProof.Rows L2

/-! ### defs, methods, classes by their names -/
section
variable (P : Program) (w : World) (K : PySem.W.Frag) (mg : Str → Option Value) (base : Heap)
/-- the def x keeps the promise sp at level k -/
structure Dn (k : Nat) (x : Str) (ps : List Str) (sp : Sp) : Prop where
  ex : ∃ (f : Addr) (fd : FuncData), mg x = some (.ref f) ∧ PySem.W.keepIn K (.ref f) = true ∧ Binds K fd ps [] ∧ FnOk P w K mg base CX0 k f fd ps sp
/-- the method m of the class at C -/
structure Mn (k : Nat) (C : Addr) (m : Str) (ps : List Str) (sp : Sp) : Prop where
  cl : Cls K C
  ex : ∃ (f : Addr) (fd : FuncData), Meth K C m f ∧ Binds K fd ps [] ∧ FnOk P w K mg base CX0 k f fd ps sp
/-- the class x at C, made by its __init__ -/
structure Kn (k : Nat) (C : Addr) (x : Str) (ps : List Str) (sp : Sp) : Prop where
  gl : mg x = some (.ref C)
  ex : ∃ (f : Addr) (fd : FuncData), Mk K C f ∧ Binds K fd ps [] ∧ FnOk P w K mg base CX0 k f fd ps sp
end
section
variable {X : Cx} {k j : Nat} {x m : Str} {ps : List Str} {sp : Sp} {C : Addr} {p pos apos : Pos} {e o : Expr} {es : List Expr} {t : TA} {to : TE}
theorem pe_d (D : Dn X.prog X.w X.K X.mg X.base k x ps sp) (hr : Room j X.A) (ha : PA X (e :: es) t) (hk : k ≤ j := by decide) (hg : Gl X x := by rfl) (hdb : (x == ("__debug__" : Str)) = false := by decide)
    (he : starEach (e :: es) X.env = (false, eval e X.env) :: starEach es X.env := by rfl) (hpl : (backTo pos (starEach es X.env)).any (·.1) = false := by rfl) :
    PE X (.Call (.Name x p) (e :: es) [] pos) (tCall sp [] E0 t) := by
  obtain ⟨f, fd, h1, h2, h3, h4⟩ := D.ex
  exact pe_call h4 (hr.mono hk) hg h1 h2 h3 .nil pass0 ha hdb he hpl
theorem pe_k (D : Kn X.prog X.w X.K X.mg X.base k C x ps sp) (hr : Room j X.A) (ha : PA X (e :: es) t) (hk : k + 1 ≤ j := by decide) (hg : Gl X x := by rfl) (hdb : (x == ("__debug__" : Str)) = false := by decide)
    (he : starEach (e :: es) X.env = (false, eval e X.env) :: starEach es X.env := by rfl) (hpl : (backTo pos (starEach es X.env)).any (·.1) = false := by rfl) :
    PE X (.Call (.Name x p) (e :: es) [] pos) (tMake C sp [] E0 t) := by
  obtain ⟨f, fd, h1, h3, h4⟩ := D.ex
  exact pe_make h1 h4 (hr.mono hk) hg D.gl h3 .nil pass0 ha hdb he hpl
theorem pe_m {pl : Sem Bool} (ho : PE X o to) (D : Mn X.prog X.w X.K X.mg X.base k C m ps sp) (hr : Room j X.A) (ha : PA X (e :: es) t) (hk : k ≤ j := by decide)
    (hst : starEach (e :: es) X.env = (false, eval e X.env) :: starEach es X.env := by rfl) (hpl : (backTo pos (starEach es X.env)).any (·.1) = false := by rfl)
    (ht : eval (.Call (.Attribute o m apos) (e :: es) [] pos) X.env = (do
      let ov ← eval o X.env
      standAt apos.atName
      let (f, first) ← holding [ov] (getMethod ov m pl)
      callWith pos f first (backTo pos (starEach (e :: es) X.env)) (backToKw pos (keywordEach [] X.env))) := by rfl) :
    PE X (.Call (.Attribute o m apos) (e :: es) [] pos) (tMeth C m sp [] E0 to t) := by
  obtain ⟨f, fd, h1, h3, h4⟩ := D.ex
  exact pe_meth ho D.cl h1 h4 (hr.mono hk) h3 .nil pass0 ha hst hpl ht
theorem pe_m0 {pl : Sem Bool} (ho : PE X o to) (D : Mn X.prog X.w X.K X.mg X.base k C m ps sp) (hr : Room j X.A) (hk : k ≤ j := by decide)
    (ht : eval (.Call (.Attribute o m apos) [] [] pos) X.env = (do
      let ov ← eval o X.env
      standAt apos.atName
      let (f, first) ← holding [ov] (getMethod ov m pl)
      callWith pos f first (backTo pos (starEach [] X.env)) (backToKw pos (keywordEach [] X.env))) := by rfl) :
    PE X (.Call (.Attribute o m apos) [] [] pos) (tMeth C m sp [] E0 to tNil) := by
  obtain ⟨f, fd, h1, h3, h4⟩ := D.ex
  exact pe_meth0 ho D.cl h1 h4 (hr.mono hk) h3 .nil pass0 ht
end
/-- a def of the text (no defaults) -/
abbrev FnP (K : PySem.W.Frag) (x qual : Str) (st : Stmt) (f : Addr) (fd : FuncData) : Prop := FunD K x qual (defArgs st) (defBody st) (defScope st) [] [] f fd
section
variable {P : Program} {w : World} {K : PySem.W.Frag} {mg : Str → Option Value} {base : Heap}
theorem fnok {x qual : Str} {st : Stmt} {f : Addr} {fd : FuncData} {N ps : List Str} {k : Nat} {sp : Sp} (F : FnP K x qual st f fd) (S : FnScope N ps (defScope st)) (len : ∀ vs H Q E, sp vs H Q E → vs.length = ps.length)
    (hbody : ∀ (cdv : Value) (A : Around) (outer : List Env) (s : Shared) (H : Hp) (vs : List V) (Q : VK) (E : XK), Room k (A.deeper (envOfC qual (defScope st) s.heap.objs.size f cdv)) → sp vs H Q E →
      ∃ t, PSs (cxOf CX0 P w K mg base N qual (defScope st) f cdv A outer s H E).nox (defBody st) t ∧ t { nx := fun _ H' => Q .non H', rt := Q } (start N vs) H) : FnOk P w K mg base CX0 (k + 1) f fd ps sp := by
  refine F.ok S len (fun cdv A outer s H vs Q E hr h => ?_)
  obtain ⟨t, h1, h2⟩ := hbody cdv A outer s H vs Q E hr h
  exact ⟨t, PSs.nox h1, h2⟩
end

/-! ### lists and tuples alike -/
def Sq (K : PySem.W.Frag) (H : Hp) (a : Addr) (xs : List V) : Prop := SqL K H a xs ∨ SqT K H a xs
def iSeq (K : PySem.W.Frag) (tl : TE) : TI := fun σ H R => tl σ H fun x H1 => ∃ (a : Addr) (xs : List V), x = .ref a ∧ ((SqL K H1 a xs ∧ R (Itl K a) H1) ∨ (SqT K H1 a xs ∧ R (Itt K a) H1))
theorem pi_seq {X : Cx} {tg : Expr} {l : Expr} {tl : TE} (hl : PE X l tl) : PI X tg l (iSeq X.K tl) := by
  refine ⟨fun pins s σ H R I h => ?_⟩
  refine thn (hl.run pins s σ H _ I h) fun v s1 hh => ?_
  obtain ⟨x, H1, I1, r1, a, xs, e, q⟩ := hh
  subst e
  cases r1
  have fp : ∀ b ∈ [s1.heap.objs.size], FpOk X pins H1 b := fun b hb => by
    have e : b = s1.heap.objs.size := by simpa using hb
    subst e
    exact I1.fpOk (Nat.le_refl _) (I1.hok.fresh (Nat.le_refl _))
  rcases q with ⟨hq, q⟩ | ⟨hq, q⟩
  · obtain ⟨its, rv, p, hz⟩ := I1.list hq
    exact wpAny_pyIter_list p.isList ⟨_, _, _, _, H1, rfl, I1.kept (t' := s1.toks) fun b o e => Heap.get?_push_of_some _ e, turn_list a _, ⟨_, Heap.get?_push_size _ rfl, rfl, rfl⟩, fp, q⟩
  · obtain ⟨its, rv, p, hz⟩ := I1.tuple hq
    exact wpAny_pyIter_tuple (show s1.heap.IsTuple a its.toArray from p) ⟨_, _, _, _, H1, rfl, I1.kept (t' := s1.toks) fun b o e => Heap.get?_push_of_some _ e, turn_tuple a _, ⟨_, Heap.get?_push_size _ rfl, rfl, rfl⟩, fp, q⟩

/-! ### heaps: all is kept; all but dicts is kept -/
/-- all but a dict whose first key is a text (the pen) -/
def notD : HO → Bool
  | .dK ((.inr _, _) :: _) => false
  | _ => true
structure Kp (H H' : Hp) : Prop where
  keep : ∀ b o, H b = some o → notD o = true → H' b = some o
  free : ∀ b, H' b = none → H b = none
instance {H H' : Hp} : CoeFun (Kp H H') (fun _ => ∀ b o, H b = some o → notD o = true → H' b = some o) := ⟨Kp.keep⟩
theorem Kp.refl (H : Hp) : Kp H H := ⟨fun _ _ h _ => h, fun _ h => h⟩
theorem Kp.of {H H' : Hp} (s : Same H H') : Kp H H' := ⟨fun b o h _ => s b o h, fun b h => s.free h⟩
theorem Kp.trans {H H1 H2 : Hp} (a : Kp H H1) (b : Kp H1 H2) : Kp H H2 := ⟨fun c o h n => b.keep c o (a.keep c o h n) n, fun c h => a.free c (b.free c h)⟩
theorem upd_new {H : Hp} {p a : Addr} {o u : HO} (n : H p = none) (h : H a = some u) : upd H p o a = some u := (upd_ne (ne_of_none h n)).trans h
theorem same_new {H H' : Hp} {p : Addr} {o : HO} (s : Same H H') (n : H' p = none) : Same H (upd H' p o) := fun b u e => upd_new n (s b u e)
theorem same_new0 {H : Hp} {p : Addr} {o : HO} (n : H p = none) : Same H (upd H p o) := fun b u e => upd_new n e
/-- a list of one's own is written -/
theorem same_put {H H' : Hp} {p : Addr} {o : HO} (s : Same H H') (n : H p = none) : Same H (upd H' p o) := fun b u e => (upd_ne (ne_of_none e n)).trans (s b u e)
theorem upd_free {H : Hp} {p b : Addr} {o : HO} (h : upd H p o b = none) : H b = none := by
  by_cases e : b = p
  · subst e; rw [upd_same] at h; cases h
  · rw [upd_ne e] at h; exact h
theorem kp_new {H H' : Hp} {p : Addr} {o : HO} (s : Kp H H') (n : H' p = none) : Kp H (upd H' p o) := ⟨fun b u e q => upd_new n (s.keep b u e q), fun b h => s.free b (upd_free h)⟩
theorem kp_put {H H' : Hp} {p : Addr} {o : HO} (s : Kp H H') (n : H p = none) : Kp H (upd H' p o) := ⟨fun b u e q => (upd_ne (ne_of_none e n)).trans (s.keep b u e q), fun b h => s.free b (upd_free h)⟩
theorem same_l {H H' : Hp} (s : Same H H') {a : Addr} {xs : List V} (h : H a = some (.lst xs)) : H' a = some (.lst xs) := s _ _ h
theorem same_sq {K : PySem.W.Frag} {H H' : Hp} (s : Same H H') {a : Addr} {xs : List V} (h : Sq K H a xs) : Sq K H' a xs := by
  rcases h with h | h
  · exact .inl (s.seq h)
  · refine .inr ?_
    rcases h with (h | ⟨o, h⟩) | h
    · exact .inl (.inl (s _ _ h))
    · exact .inl (.inr ⟨o, s _ _ h⟩)
    · exact .inr h
theorem kp_sqL {K : PySem.W.Frag} {H H' : Hp} (s : Kp H H') {a : Addr} {xs : List V} (h : SqL K H a xs) : SqL K H' a xs := by
  rcases h with (h | ⟨o, h⟩) | h
  · exact .inl (.inl (s _ _ h rfl))
  · exact .inl (.inr ⟨o, s _ _ h rfl⟩)
  · exact .inr h
theorem kp_sqT {K : PySem.W.Frag} {H H' : Hp} (s : Kp H H') {a : Addr} {xs : List V} (h : SqT K H a xs) : SqT K H' a xs := by
  rcases h with (h | ⟨o, h⟩) | h
  · exact .inl (.inl (s _ _ h rfl))
  · exact .inl (.inr ⟨o, s _ _ h rfl⟩)
  · exact .inr h
theorem kp_sq {K : PySem.W.Frag} {H H' : Hp} (s : Kp H H') {a : Addr} {xs : List V} (h : Sq K H a xs) : Sq K H' a xs := h.elim (fun h => .inl (kp_sqL s h)) fun h => .inr (kp_sqT s h)
theorem Sq.l {K : PySem.W.Frag} {H : Hp} {a : Addr} {xs : List V} (h : H a = some (.lst xs)) : Sq K H a xs := .inl (SqL.of h)
theorem Sq.t {K : PySem.W.Frag} {H : Hp} {a : Addr} {xs : List V} (h : H a = some (.tup xs)) : Sq K H a xs := .inr (SqT.of h)

/-- a tracked list or tuple -/
def Tq (H : Hp) (a : Addr) (xs : List V) : Prop := H a = some (.lst xs) ∨ H a = some (.tup xs)
theorem Tq.sq {K : PySem.W.Frag} {H : Hp} {a : Addr} {xs : List V} (h : Tq H a xs) : Sq K H a xs := h.elim Sq.l Sq.t
theorem Tq.l {H : Hp} {a : Addr} {xs : List V} (h : H a = some (.lst xs)) : Tq H a xs := .inl h
theorem Tq.t {H : Hp} {a : Addr} {xs : List V} (h : H a = some (.tup xs)) : Tq H a xs := .inr h
theorem same_tq {H H' : Hp} (s : Same H H') {a : Addr} {xs : List V} (h : Tq H a xs) : Tq H' a xs := h.elim (fun h => .inl (s _ _ h)) fun h => .inr (s _ _ h)
theorem kp_tq {H H' : Hp} (s : Kp H H') {a : Addr} {xs : List V} (h : Tq H a xs) : Tq H' a xs := h.elim (fun h => .inl (s _ _ h rfl)) fun h => .inr (s _ _ h rfl)
theorem Tq.new {H : Hp} {a p : Addr} {o : HO} {xs : List V} (h : Tq H a xs) (n : H p = none) : Tq (upd H p o) a xs := h.elim (fun h => .inl (upd_new n h)) fun h => .inr (upd_new n h)
theorem Tq.sqlt {K : PySem.W.Frag} {H : Hp} {a : Addr} {xs : List V} (h : Tq H a xs) : SqL K H a xs ∨ SqT K H a xs := h.elim (fun h => .inl (SqL.of h)) fun h => .inr (SqT.of h)
theorem Tq.ty {K : PySem.W.Frag} {H : Hp} {a : Addr} {xs : List V} (h : Tq H a xs) : ∃ t, TyX K H (.ref a) t ∧ PySem.W.kitAny K t [.type "list", .type "tuple"] = some true := by
  rcases h with h | h
  · exact ⟨_, .base (.lst h), kitAny_cons (b := true) (kit_ty (by decide +kernel)) (fun z => by cases z) (fun _ => rfl)⟩
  · exact ⟨_, .base (.tup h), kitAny_cons (b := false) (kit_ty (by decide +kernel)) (fun _ => kitAny_cons (b := true) (kit_ty (by decide +kernel)) (fun z => by cases z) (fun _ => rfl)) (fun z => by cases z)⟩

theorem same_free {H H' : Hp} (e : Same H H') {l : Addr} (h : H' l = none) : H l = none := e.free h
theorem map_get {α : Type} {g : α → V} {l : List α} {i : Nat} {x : V} (h : (l.map g)[i]? = some x) : ∃ n, l[i]? = some n ∧ x = g n := by
  rw [List.getElem?_map] at h
  cases e : l[i]? with
  | none => rw [e] at h; cases h
  | some n => rw [e] at h; exact ⟨n, rfl, (Option.some.inj h).symm⟩
/-! ### a for, a comprehension over a list or tuple, over a range -/
def ForR (g : TG) (tb : TS) (D : Ends) (σ : L2.St) : It → Hp → Prop := fun J H => ∃ W : Nat → Nat → L2.St → Hp → Prop, (∃ m, W 0 m σ H) ∧ ∀ i m σ H, W i m σ H →
  (J.stop i H ∧ D.nx σ H) ∨ (J.go i H ∧ ∃ N : L2.St → Hp → Prop, (∀ σ' H', N σ' H' → ∃ m', m' < m ∧ W (i + 1) m' σ' H') ∧ ∀ x H', J.yld i H x H' → g x σ H' fun σ2 H2 => tb { D with nx := N, ct := N, bk := D.nx } σ2 H2)
def LcR (g : TG) (tt : TT) (te : TE) (vs : List Nat) (σ : L2.St) (Q : Addr → Hp → Prop) : It → Hp → Prop := fun J H1 => ∀ D, H1 D = none → ∃ W : Nat → Nat → Hp → Prop, (∃ m, W 0 m (upd H1 D (.lst []))) ∧ ∀ i m H, W i m H →
  (J.stop i H ∧ Q D H) ∨ (J.go i H ∧ ∃ Nx : Hp → Prop, (∀ H', Nx H' → ∃ m', m' < m ∧ W (i + 1) m' H') ∧ ∀ x H', J.yld i H x H' → g x (wipe σ vs) H' fun σ2 H2 => wipe σ2 vs = wipe σ vs ∧ tt σ2 H2 fun b H3 =>
    if b = true then te σ2 H3 fun y H4 => ∃ acc, H4 D = some (.lst acc) ∧ acc.length < sizeLine ∧ Nx (upd H4 D (.lst (acc ++ [y]))) else Nx H3)
theorem for_seq {K : PySem.W.Frag} {a : Addr} {xs : List V} {g : TG} {tb : TS} {D : Ends} {σ : L2.St} {H : Hp} (hS : Sq K H a xs) (Pv : Nat → L2.St → Hp → Prop) (h0 : Pv 0 σ H) (hk : ∀ i σ' H', Pv i σ' H' → Kp H H')
    (hs : ∀ i x σ H, xs[i]? = some x → Pv i σ H → g x σ H fun σ2 H2 => tb { D with nx := Pv (i + 1), ct := Pv (i + 1), bk := D.nx } σ2 H2) (hd : ∀ σ H, Pv xs.length σ H → D.nx σ H) :
    ∃ (a' : Addr) (xs' : List V), V.ref a = .ref a' ∧ ((SqL K H a' xs' ∧ ForR g tb D σ (Itl K a') H) ∨ (SqT K H a' xs' ∧ ForR g tb D σ (Itt K a') H)) := by
  refine ⟨a, xs, rfl, ?_⟩
  rcases hS with h | h
  · exact .inl ⟨h, for_it walk_list Pv h0 (fun i σ' H' hi p => kp_sqL (hk i σ' H' p) h) (fun i x σ' H' H'' _ p y => by obtain ⟨e, hx⟩ := y; subst e; exact hs i x σ' _ hx p) hd⟩
  · exact .inr ⟨h, for_it walk_tup Pv h0 (fun i σ' H' hi p => kp_sqT (hk i σ' H' p) h) (fun i x σ' H' H'' _ p y => by obtain ⟨e, hx⟩ := y; subst e; exact hs i x σ' _ hx p) hd⟩
/-- .. where what is walked alone must stay -/
theorem for_sq2 {K : PySem.W.Frag} {a : Addr} {xs : List V} {g : TG} {tb : TS} {D : Ends} {σ : L2.St} {H : Hp} (hS : Tq H a xs) (Pv : Nat → L2.St → Hp → Prop) (h0 : Pv 0 σ H) (hk : ∀ i σ' H', Pv i σ' H' → ∀ o, H a = some o → H' a = some o)
    (hs : ∀ i x σ H, xs[i]? = some x → Pv i σ H → g x σ H fun σ2 H2 => tb { D with nx := Pv (i + 1), ct := Pv (i + 1), bk := D.nx } σ2 H2) (hd : ∀ σ H, Pv xs.length σ H → D.nx σ H) :
    ∃ (a' : Addr) (xs' : List V), V.ref a = .ref a' ∧ ((SqL K H a' xs' ∧ ForR g tb D σ (Itl K a') H) ∨ (SqT K H a' xs' ∧ ForR g tb D σ (Itt K a') H)) := by
  refine ⟨a, xs, rfl, ?_⟩
  rcases hS with h | h
  · exact .inl ⟨SqL.of h, for_it walk_list Pv h0 (fun i σ' H' hi p => SqL.of (hk i σ' H' p _ h)) (fun i x σ' H' H'' _ p y => by obtain ⟨e, hx⟩ := y; subst e; exact hs i x σ' _ hx p) hd⟩
  · exact .inr ⟨SqT.of h, for_it walk_tup Pv h0 (fun i σ' H' hi p => SqT.of (hk i σ' H' p _ h)) (fun i x σ' H' H'' _ p y => by obtain ⟨e, hx⟩ := y; subst e; exact hs i x σ' _ hx p) hd⟩
/-- what stood under the loop stands, by what stood ahead -/
theorem stay_of {H HB H2 : Hp} {a : Addr} {u : HO} (h : H a = some u) (s0 : Same H HB) (s2 : ∀ c o, H c = some o → H2 c = some o) : ∀ o, HB a = some o → H2 a = some o := fun o ho => by
  rw [s0 _ _ h] at ho
  cases ho
  exact s2 _ _ h
/-- Pv speaks of the heap and the new list at D -/
theorem lc_seq {K : PySem.W.Frag} {a : Addr} {xs : List V} {g : TG} {tt : TT} {te : TE} {vs : List Nat} {σ : L2.St} {H : Hp} {Q : Addr → Hp → Prop} (hS : Sq K H a xs) (Pv : Addr → Nat → Hp → Prop) (h0 : ∀ D, H D = none → Pv D 0 (upd H D (.lst [])))
    (hk : ∀ D i H', H D = none → Pv D i H' → Kp H H')
    (hs : ∀ D i x H', H D = none → xs[i]? = some x → Pv D i H' → g x (wipe σ vs) H' fun σ2 H2 => wipe σ2 vs = wipe σ vs ∧ tt σ2 H2 fun b H3 =>
      if b = true then te σ2 H3 fun y H4 => ∃ acc, H4 D = some (.lst acc) ∧ acc.length < sizeLine ∧ Pv D (i + 1) (upd H4 D (.lst (acc ++ [y]))) else Pv D (i + 1) H3) (hd : ∀ D H', H D = none → Pv D xs.length H' → Q D H') :
    ∃ (a' : Addr) (xs' : List V), V.ref a = .ref a' ∧ ((SqL K H a' xs' ∧ LcR g tt te vs σ Q (Itl K a') H) ∨ (SqT K H a' xs' ∧ LcR g tt te vs σ Q (Itt K a') H)) := by
  refine ⟨a, xs, rfl, ?_⟩
  rcases hS with h | h
  · exact .inl ⟨h, fun D hD => lc_it walk_list (Pv D) (h0 D hD) (fun i H' _ p => kp_sqL (hk D i H' hD p) h) (fun i x H' H'' _ p y => by obtain ⟨e, hx⟩ := y; subst e; exact hs D i x _ hD hx p) fun H' p => hd D H' hD p⟩
  · exact .inr ⟨h, fun D hD => lc_it walk_tup (Pv D) (h0 D hD) (fun i H' _ p => kp_sqT (hk D i H' hD p) h) (fun i x H' H'' _ p y => by obtain ⟨e, hx⟩ := y; subst e; exact hs D i x _ hD hx p) fun H' p => hd D H' hD p⟩
/-! ### pure comprehensions -/
theorem br {b : Bool} {A B : Prop} (h1 : b = true → A) (h2 : b = false → B) : if b = true then A else B := by
  cases b with
  | true => exact iteT (h1 rfl)
  | false => exact iteF (h2 rfl)
theorem take_succ {α : Type} {l : List α} {i : Nat} {x : α} (h : l[i]? = some x) : l.take (i + 1) = l.take i ++ [x] := by
  rw [List.take_succ, h]
  rfl
theorem size6 {n : Nat} (h : n ≤ 1000000) : n < sizeLine := by rw [sizeLine_eq]; omega
theorem size6' {n : Nat} (h : n ≤ 1000000) : n ≤ sizeLine := Nat.le_of_lt (size6 h)
section
variable {α : Type} {K : PySem.W.Frag} {g : TG} {tt : TT} {te : TE} {vs : List Nat} {σ : L2.St} {H : Hp} {Q : Addr → Hp → Prop}
/-- one turn of a comprehension: all is kept, the item is v n if p n -/
def LcT (g : TG) (tt : TT) (te : TE) (vs : List Nat) (σ : L2.St) (x : V) (H' : Hp) (p : Bool) (v : V) : Prop :=
  ∀ (Z : VK) (Nx : Hp → Prop), (p = true → ∀ H4, Same H' H4 → Z v H4) → (p = false → ∀ H4, Same H' H4 → Nx H4) →
    g x (wipe σ vs) H' fun σ2 H2 => wipe σ2 vs = wipe σ vs ∧ tt σ2 H2 fun b H3 => if b = true then te σ2 H3 Z else Nx H3
theorem lc_turn {l : List α} {ι : α → V} {p : α → Bool} {v : α → V} (hlen : l.length ≤ 1000000) {D : Addr} {i : Nat} {n : α} {H' : Hp} (hD : H D = none) (hn : l[i]? = some n) (s : Same H H') (hH : H' D = some (.lst (((l.take i).filter p).map v)))
    (hs : LcT g tt te vs σ (ι n) H' (p n) (v n)) :
    g (ι n) (wipe σ vs) H' fun σ2 H2 => wipe σ2 vs = wipe σ vs ∧ tt σ2 H2 fun b H3 =>
      if b = true then te σ2 H3 fun y H4 => ∃ acc, H4 D = some (.lst acc) ∧ acc.length < sizeLine ∧ (Same H (upd H4 D (.lst (acc ++ [y]))) ∧ upd H4 D (.lst (acc ++ [y])) D = some (.lst (((l.take (i + 1)).filter p).map v))) else (Same H H3 ∧ H3 D = some (.lst (((l.take (i + 1)).filter p).map v))) := by
  have e1 := take_succ hn
  refine hs _ _ (fun hp H4 s4 => ⟨_, s4 _ _ hH, ?_, same_put (s.trans s4) hD, ?_⟩) (fun hp H4 s4 => ⟨s.trans s4, ?_⟩)
  · refine size6 (Nat.le_trans ?_ hlen)
    rw [List.length_map]
    exact Nat.le_trans (List.length_filter_le _ _) (by rw [List.length_take]; omega)
  · rw [upd_same, e1, List.filter_append, List.map_append]
    simp [hp]
  · rw [s4 _ _ hH, e1, List.filter_append, List.map_append]
    simp [hp]
theorem lc_pure {a : Addr} (l : List α) (ι : α → V) (p : α → Bool) (v : α → V) (hS : Tq H a (l.map ι)) (hlen : l.length ≤ 1000000) (hs : ∀ n H', n ∈ l → Same H H' → LcT g tt te vs σ (ι n) H' (p n) (v n))
    (hd : ∀ D H', H D = none → Same H H' → H' D = some (.lst ((l.filter p).map v)) → Q D H') :
    ∃ (a' : Addr) (xs' : List V), V.ref a = .ref a' ∧ ((SqL K H a' xs' ∧ LcR g tt te vs σ Q (Itl K a') H) ∨ (SqT K H a' xs' ∧ LcR g tt te vs σ Q (Itt K a') H)) := by
  refine lc_seq hS.sq (fun D i H' => Same H H' ∧ H' D = some (.lst (((l.take i).filter p).map v))) (fun D hD => ⟨same_new0 hD, upd_same⟩) (fun D i H' hD hp => Kp.of hp.1) (fun D i x H' hD hx hp => ?_) (fun D H' hD hp => ?_)
  · obtain ⟨n, hn, rfl⟩ := map_get hx
    exact lc_turn hlen hD hn hp.1 hp.2 (hs n H' (List.mem_of_getElem? hn) hp.1)
  · obtain ⟨h1, h2⟩ := hp
    rw [List.length_map, List.take_length] at h2
    exact hd D H' hD h1 h2
theorem range_get {n i : Nat} (h : i < n) : (List.range n)[i]? = some i := by simp [h]
/-- .. over range(n) -/
theorem lc_pureR {n : Nat} (p : Nat → Bool) (v : Nat → V) (hlen : n ≤ 1000000) (hs : ∀ i H', i < n → Same H H' → LcT g tt te vs σ (vN i) H' (p i) (v i))
    (hd : ∀ D H', H D = none → Same H H' → H' D = some (.lst (((List.range n).filter p).map v)) → Q D H') : LcR g tt te vs σ Q (Itr 0 n) H := by
  intro D hD
  refine lc_range (fun i H' => Same H H' ∧ H' D = some (.lst ((((List.range n).take i).filter p).map v))) ⟨same_new0 hD, by simpa using upd_same⟩ (fun i H' hi hp => ?_) (fun H' hp => ?_)
  · have q := lc_turn (ι := vN) (l := List.range n) (by simpa using hlen) hD (range_get hi) hp.1 hp.2 (hs i H' hi hp.1)
    rw [show (0 : Int) + (i : Int) = (i : Int) by omega]
    exact q
  · obtain ⟨h1, h2⟩ := hp
    rw [List.take_of_length_le (by simp)] at h2
    exact hd D H' hD h1 h2
end
section
variable {X : Cx}
/-- sorted(xs), naturals -/
theorem cr_sortedN : CallR X (.builtin "sorted") (fun xs H Q => ∃ (a : Addr) (ns : List Nat), xs = [.ref a] ∧ H a = some (.lst (ns.map vN)) ∧ ∀ p, H p = none → Q (.ref p) (upd H p (.lst ((srt ns).map vN)))) := by
  intro pins s σ H xs us Q I r h
  obtain ⟨a, ns, rfl, hS, h⟩ := h
  have em : ∀ l : List Nat, l.map vN = (l.map Int.ofNat).map V.int := fun l => by rw [List.map_map]; rfl
  refine cr_sortedI pins s σ H _ us Q I r ⟨a, ns.map Int.ofNat, rfl, SqL.of (by rw [← em]; exact hS), fun ns' p hp hs hn => ?_⟩
  have e : ns' = (srt ns).map Int.ofNat := by
    have e1 : ns' = (ns'.map Int.toNat).map Int.ofNat := by
      rw [List.map_map]
      have : ∀ z ∈ ns', (Int.ofNat ∘ Int.toNat) z = z := fun z hz => by
        obtain ⟨k, _, hk⟩ := List.mem_map.mp (hp.mem_iff.mp hz)
        subst hk
        rfl
      rw [List.map_congr_left this, List.map_id']
    have e2 : ns'.map Int.toNat = srt ns := by
      refine srt_of ?_ ?_
      · have := hp.map Int.toNat
        rw [List.map_map] at this
        have e3 : ns.map (Int.toNat ∘ Int.ofNat) = ns := by
          exact (List.map_congr_left (g := id) (fun z _ => rfl)).trans (List.map_id _)
        rw [e3] at this
        exact this
      · rw [List.pairwise_map]
        exact hs.imp fun h => by omega
    rw [← e2]
    exact e1
  rw [e, ← em]
  exact h p hn
end
/-! ### items by place, ranges -/
section
variable {X : Cx}
def rIxQ : R2 := fun x y H Q => ∃ (p : Addr) (xs : List V) (n : Nat) (v : V), x = .ref p ∧ y = .int (n : Int) ∧ Tq H p xs ∧ xs[n]? = some v ∧ Q v H
theorem ix_q : IxR X rIxQ := by
  intro value slice pins s σ H x y v u Q I rx ry h hs
  obtain ⟨p, xs, n, z, rfl, rfl, hq, he, q⟩ := h
  refine ix_seq value slice pins s σ H _ _ v u Q I rx ry ?_ hs
  rcases hq with hq | hq
  · exact .inl ⟨p, xs, n, z, rfl, rfl, SqL.of hq, atI_nat he, q⟩
  · exact .inr (.inl ⟨p, xs, n, z, rfl, rfl, SqT.of hq, atI_nat he, q⟩)
theorem call_lenQ : CallR X (.builtin "len") (fun xs H Q => ∃ (p : Addr) (ys : List V), xs = [.ref p] ∧ Tq H p ys ∧ Q (.int (ys.length : Nat)) H) := by
  intro pins s σ H xs us Q I r h
  obtain ⟨p, ys, rfl, hq, q⟩ := h
  exact call_len_seq pins s σ H _ us Q I r ⟨p, ys, rfl, hq.sqlt, q⟩
theorem call_listQ : CallR X (.type "list") (fun xs H Q => ∃ (p : Addr) (ys : List V), xs = [.ref p] ∧ Tq H p ys ∧ ∀ l, H l = none → Q (.ref l) (upd H l (.lst ys))) := by
  intro pins s σ H xs us Q I r h
  obtain ⟨p, ys, rfl, hq, q⟩ := h
  exact call_list_of pins s σ H _ us Q I r ⟨p, ys, rfl, hq.sqlt, q⟩
/-- tuple(xs), xs a list -/
theorem call_tupleQ : CallR X (.type "tuple") (fun xs H Q => ∃ (p : Addr) (ys : List V), xs = [.ref p] ∧ H p = some (.lst ys) ∧ ∀ l, H l = none → Q (.ref l) (upd H l (.tup ys))) := by
  intro pins s σ H xs us Q I r h
  obtain ⟨p, ys, rfl, hq, q⟩ := h
  exact call_tuple_of pins s σ H _ us Q I r ⟨p, ys, rfl, .inl ⟨SqL.of hq, q⟩⟩
end
end LaneX
set_option Elab.async false
set_option linter.all false
set_option maxRecDepth 100000
set_option maxHeartbeats 4000000
namespace LaneX
open PySem PySem.Spec PyProof.Rows L2
/-! ### an operator of an own class, both operands of that class -/
def rOwn (C : Addr) (sp : Sp) : R2 := fun x y H Q => ∃ (a b dx dy : Addr) (fs gs : List (Str × V)), x = .ref a ∧ y = .ref b ∧ H a = some (.ins C dx fs) ∧ H b = some (.ins C dy gs) ∧ sp [.ref a, .ref b] H Q E0
section
variable {X : Cx}
theorem back_of {pins : List (Addr × Obj)} {σ : L2.St} {Q : VK} {v : Value} {s : Shared} (h : EP X pins σ Q v s) : PySem.W.CmpBack (EP X pins σ Q) v s := by
  have h' := h
  obtain ⟨x, H', I, r, q⟩ := h'
  have nn : v ≠ Value.notImplemented := fun z => by
    subst z
    cases x with
    | non => exact absurd (show Value.notImplemented = Value.none from r) (fun z => nomatch z)
    | bl b => exact absurd (show Value.notImplemented = Value.bool b from r) (fun z => nomatch z)
    | int i => obtain ⟨t, z⟩ := (show ∃ t, Value.notImplemented = Value.int i t from r); exact nomatch z
    | str i => obtain ⟨t, z⟩ := (show ∃ t, Value.notImplemented = Value.str i t from r); exact nomatch z
    | byt i => obtain ⟨t, z⟩ := (show ∃ t, Value.notImplemented = Value.bytes i t from r); exact nomatch z
    | flt i => obtain ⟨t, z⟩ := (show ∃ t, Value.notImplemented = Value.float i t from r); exact nomatch z
    | ref a => exact absurd (show Value.notImplemented = Value.ref a from r) (fun z => nomatch z)
    | ty n => exact absurd (show Value.notImplemented = Value.type n from r) (fun z => nomatch z)
  cases v <;> first | exact h | exact absurd rfl nn
theorem op_own {op : Operator} {m : Str} {k j : Nat} {C : Addr} {ps : List Str} {sp : Sp} (hm : m = PySem.dunder op.info.2) (D : Mn X.prog X.w X.K X.mg X.base k C m ps sp) (hc : PySem.W.selfFirst X.K C = true) (hr : Room j X.A) (hk : k ≤ j := by decide) : OpR X (binaryOp op) (rOwn C sp) := by
  intro pins s σ H x y v u Q I rx ry h
  obtain ⟨a, b, dx, dy, fs, gs, rfl, rfl, ha, hb, hsp⟩ := h
  obtain ⟨f, fd, h1, h3, h4⟩ := D.ex
  cases (show v = Value.ref a from rx)
  cases (show u = Value.ref b from ry)
  obtain ⟨mA, O, _⟩ := ins_get I.hok ha
  obtain ⟨od, J, _⟩ := O.look
  obtain ⟨mB, O2, _⟩ := ins_get I.hok hb
  obtain ⟨od2, J2, _⟩ := O2.look
  obtain ⟨mm, F⟩ := I.fr
  subst hm
  refine PySem.W.binop_K F I.mod.kin J J2.type hc h1.at_ h1.fn ?_
  exact wpAny_mono (run_fn h4 (hr.mono hk) h3 .nil pass0 I (vs := [.ref a, .ref b]) (.cons rfl (.cons rfl .nil)) hsp) (fun v s' hq => back_of hq) fun _ _ z => z
end
end LaneX
set_option Elab.async false
set_option linter.all false
set_option maxRecDepth 100000
set_option maxHeartbeats 4000000
namespace LaneX
open PySem PySem.Spec PyProof.Rows L2
/-! ### lists of ints compared -/
theorem dpAll_ints {K : PySem.W.Frag} {H : Hp} : ∀ ns : List Int, DpAll K H (ns.map V.int) (ns.map PyData.int)
  | [] => .nil
  | n :: r => .cons (.int n) (dpAll_ints r)
theorem eqvAll_ints : ∀ ns ms : List Int, PyData.eqvAll (ns.map PyData.int) (ms.map PyData.int) = decide (ns = ms)
  | [], [] => rfl
  | [], _ :: _ => rfl
  | _ :: _, [] => rfl
  | n :: r, m :: q => by
    show (PyData.eqv (.int n) (.int m) && PyData.eqvAll (r.map PyData.int) (q.map PyData.int)) = _
    rw [eqvAll_ints r q]
    show ((n == m) && decide (r = q)) = _
    by_cases h : n = m
    · subst h; simp
    · simp [h]
theorem shaped_tints (ns : List Int) : SeqAt.shaped (.tuple (ns.map PyData.int)) = true := by
  have h := PySem.W.ke_shaped_ints ns
  unfold SeqAt.shaped at h ⊢
  exact h
section
variable {X : Cx}
theorem op_neL (hu : X.A.units + 64 < cLine) : OpR X (compareOp .NotEq) (fun x y H Q => ∃ (a b : Addr) (ns ms : List Int), x = .ref a ∧ y = .ref b ∧ H a = some (.lst (ns.map V.int)) ∧ H b = some (.lst (ms.map V.int)) ∧ Q (.bl (!decide (ns = ms))) H) := by
  intro pins s σ H x y v u Q I rx ry h
  obtain ⟨a, b, ns, ms, rfl, rfl, ha, hb, q⟩ := h
  refine op_neD hu pins s σ H _ _ v u Q I rx ry ⟨.list (ns.map .int), .list (ms.map .int), .lst (SqL.of ha) (dpAll_ints ns), .lst (SqL.of hb) (dpAll_ints ms), PySem.W.ke_shaped_ints ns, PySem.W.ke_shaped_ints ms, ?_⟩
  show Q (.bl (!PyData.eqvAll (ns.map .int) (ms.map .int))) H
  rw [eqvAll_ints]
  exact q
theorem op_eqL (hu : X.A.units + 64 < cLine) : OpR X (compareOp .Eq) (fun x y H Q => ∃ (a b : Addr) (ns ms : List Int), x = .ref a ∧ y = .ref b ∧ H a = some (.lst (ns.map V.int)) ∧ H b = some (.lst (ms.map V.int)) ∧ Q (.bl (decide (ns = ms))) H) := by
  intro pins s σ H x y v u Q I rx ry h
  obtain ⟨a, b, ns, ms, rfl, rfl, ha, hb, q⟩ := h
  refine op_eqD hu pins s σ H _ _ v u Q I rx ry ⟨.list (ns.map .int), .list (ms.map .int), .lst (SqL.of ha) (dpAll_ints ns), .lst (SqL.of hb) (dpAll_ints ms), PySem.W.ke_shaped_ints ns, PySem.W.ke_shaped_ints ms, ?_⟩
  show Q (.bl (PyData.eqvAll (ns.map .int) (ms.map .int))) H
  rw [eqvAll_ints]
  exact q
theorem vN_ints (l : List Nat) : l.map vN = (l.map Int.ofNat).map V.int := by rw [List.map_map]; rfl
/-- a list of naturals against the empty list -/
theorem op_neE (hu : X.A.units + 64 < cLine) : OpR X (compareOp .NotEq) (fun x y H Q => ∃ (a b : Addr) (ns : List Nat), x = .ref a ∧ y = .ref b ∧ H a = some (.lst (ns.map vN)) ∧ H b = some (.lst []) ∧ Q (.bl (!ns.isEmpty)) H) := by
  intro pins s σ H x y v u Q I rx ry h
  obtain ⟨a, b, ns, rfl, rfl, ha, hb, q⟩ := h
  rw [vN_ints] at ha
  refine op_neL hu pins s σ H _ _ v u Q I rx ry ⟨a, b, _, [], rfl, rfl, ha, hb, ?_⟩
  have e : (!decide (ns.map Int.ofNat = [])) = !ns.isEmpty := by cases ns <;> simp
  rw [e]
  exact q
theorem op_eqE (hu : X.A.units + 64 < cLine) : OpR X (compareOp .Eq) (fun x y H Q => ∃ (a b : Addr) (ns : List Nat), x = .ref a ∧ y = .ref b ∧ H a = some (.lst (ns.map vN)) ∧ H b = some (.lst []) ∧ Q (.bl ns.isEmpty) H) := by
  intro pins s σ H x y v u Q I rx ry h
  obtain ⟨a, b, ns, rfl, rfl, ha, hb, q⟩ := h
  rw [vN_ints] at ha
  refine op_eqL hu pins s σ H _ _ v u Q I rx ry ⟨a, b, _, [], rfl, rfl, ha, hb, ?_⟩
  have e : decide (ns.map Int.ofNat = []) = ns.isEmpty := by cases ns <;> simp
  rw [e]
  exact q
/-- min and max of two naturals -/
theorem call_minN (hc : X.calm = true) : CallR X (.builtin "min") (fun xs H Q => ∃ n m : Nat, xs = [.int (n : Int), .int (m : Int)] ∧ Q (.int ((min n m : Nat) : Int)) H) := by
  intro pins s σ H xs us Q I r h
  obtain ⟨n, m, rfl, q⟩ := h
  refine call_min2 hc pins s σ H _ us Q I r ⟨_, _, rfl, ?_⟩
  have e : (if (m : Int) < (n : Int) then (m : Int) else (n : Int)) = ((min n m : Nat) : Int) := by split <;> omega
  rw [e]
  exact q
/-! ### numbers -/
theorem call_intQ : CallR X (.type "int") (fun xs H Q => ∃ i : Int, xs = [.int i] ∧ Q (.int i) H) := by
  intro pins s σ H xs us Q I r h
  obtain ⟨i, rfl, q⟩ := h
  exact call_int1 pins s σ H _ us Q I r (.inl ⟨i, rfl, q⟩)
theorem call_absN : CallR X (.builtin "abs") (fun xs H Q => ∃ i : Int, xs = [.int i] ∧ Q (.int (i.natAbs : Nat)) H) := by
  intro pins s σ H xs us Q I r h
  obtain ⟨i, rfl, q⟩ := h
  refine call_abs pins s σ H _ us Q I r ⟨i, rfl, ?_⟩
  have e : (if i < 0 then -i else i) = (i.natAbs : Int) := by split <;> omega
  rw [e]
  exact q
theorem on_pow : OpR X (binaryOp .Pow) (fun x y H Q => ∃ n m : Nat, x = .int (n : Int) ∧ y = .int (m : Int) ∧ (n < 2 ^ 64 ∧ m ≤ 1000000) ∧ Q (.int ((n ^ m : Nat) : Int)) H) := by
  intro pins s σ H x y v u Q I rx ry h
  obtain ⟨n, m, rfl, rfl, ⟨c1, c2⟩, q⟩ := h
  refine op_pow pins s σ H _ _ v u Q I rx ry ⟨_, _, rfl, rfl, ⟨by omega, by omega, by simpa using c1⟩, ?_⟩
  rw [Int.natCast_pow] at q
  exact q
/-- an int of any sign, a positive divisor -/
theorem on_modI : OpR X (binaryOp .Mod) (fun x y H Q => ∃ (i : Int) (m : Nat), x = .int i ∧ y = .int (m : Int) ∧ 0 < m ∧ Q (.int ((i % (m : Int)).toNat : Nat)) H) := by
  intro pins s σ H x y v u Q I rx ry h
  obtain ⟨i, m, rfl, rfl, c, q⟩ := h
  have e : (((i % (m : Int)).toNat : Nat) : Int) = i % (m : Int) := by
    have := Int.emod_nonneg i (b := (m : Int)) (by omega)
    omega
  rw [e] at q
  exact op_mod pins s σ H _ _ v u Q I rx ry ⟨_, _, rfl, rfl, show (0 : Int) < (m : Int) by omega, q⟩
end
section
variable {X : Cx}
theorem and_neg (n : Nat) : Builtin.bitAnd (n : Int) (-(n : Int)) = ((lwb n : Nat) : Int) := by
  unfold Builtin.bitAnd lwb
  by_cases h : n = 0
  · subst h
    rfl
  · have h1 : decide (0 ≤ (n : Int)) = true := decide_eq_true (Int.natCast_nonneg _)
    have h2 : decide (0 ≤ -(n : Int)) = false := decide_eq_false (by omega)
    rw [h1, h2]
    show (n : Int) - (((n : Int).toNat &&& (Builtin.bitNot (-(n : Int))).toNat : Nat) : Int) = _
    have e : (Builtin.bitNot (-(n : Int))).toNat = n - 1 := by
      unfold Builtin.bitNot
      omega
    rw [e, Int.toNat_natCast]
    have le : n &&& (n - 1) ≤ n := Nat.and_le_left
    omega
/-- n & -n -/
theorem on_low : OpR X (binaryOp .BitAnd) (fun x y H Q => ∃ n : Nat, x = .int (n : Int) ∧ y = .int (-(n : Int)) ∧ Q (.int ((lwb n : Nat) : Int)) H) := by
  intro pins s σ H x y v u Q I rx ry h
  obtain ⟨n, rfl, rfl, q⟩ := h
  rw [← and_neg] at q
  exact op_and pins s σ H _ _ v u Q I rx ry ⟨_, _, rfl, rfl, q⟩
end
/-! ### the pen -/
def pen (a b c : Str) (lc : Addr) (n m : Nat) : List (Key × V) := [(.inr a, .ref lc), (.inr b, vN n), (.inr c, vN m)]
structure PenN (a b c : Str) : Prop where
  ab : a ≠ b
  ac : a ≠ c
  bc : b ≠ c
def PenAt (a b c : Str) (H : Hp) (p lc : Addr) (N : Nat) : Prop := ∃ (cs : List Int) (n m : Nat), H p = some (.dK (pen a b c lc n m)) ∧ H lc = some (.lst (cs.map V.int)) ∧ n ≤ N
section
variable {a b c : Str} {H H' : Hp} {p lc : Addr} {N M : Nat}
theorem PenAt.mono (h : PenAt a b c H p lc N) (l : N ≤ M) : PenAt a b c H p lc M := by
  obtain ⟨cs, n, m, h1, h2, h3⟩ := h
  exact ⟨cs, n, m, h1, h2, Nat.le_trans h3 l⟩
theorem PenAt.same (h : PenAt a b c H p lc N) (s : Same H H') : PenAt a b c H' p lc N := by
  obtain ⟨cs, n, m, h1, h2, h3⟩ := h
  exact ⟨cs, n, m, s _ _ h1, s _ _ h2, h3⟩
theorem PenAt.ne (h : PenAt a b c H p lc N) {l : Addr} (hl : H l = none) : lc ≠ l ∧ p ≠ l := by
  obtain ⟨cs, n, m, h1, h2, h3⟩ := h
  exact ⟨ne_of_none h2 hl, ne_of_none h1 hl⟩
/-- a list of one's own is written -/
theorem PenAt.put {l : Addr} {o : HO} (h : PenAt a b c H p lc N) (h1 : lc ≠ l ∧ p ≠ l) : PenAt a b c (upd H l o) p lc N := by
  obtain ⟨cs, n, m, g1, g2, g3⟩ := h
  exact ⟨cs, n, m, (upd_ne h1.2).trans g1, (upd_ne h1.1).trans g2, g3⟩
theorem pen_a (n m : Nat) : valV (pen a b c lc n m) (.inr a) = some (.ref lc) := valV_pos rfl
theorem pen_b (hN : PenN a b c) (n m : Nat) : valV (pen a b c lc n m) (.inr b) = some (vN n) := by
  unfold pen valV
  simp [hN.ab]
theorem pen_c (hN : PenN a b c) (n m : Nat) : valV (pen a b c lc n m) (.inr c) = some (vN m) := by
  unfold pen valV
  simp [hN.ac, hN.bc]
theorem pen_pb (hN : PenN a b c) (n m k : Nat) : putK (pen a b c lc n m) (.inr b) (vN k) = pen a b c lc k m := by
  unfold pen putK
  simp [hN.ab, hN.bc.symm]
theorem pen_pc (hN : PenN a b c) (n m k : Nat) : putK (pen a b c lc n m) (.inr c) (vN k) = pen a b c lc n k := by
  unfold pen putK
  simp [hN.ac, hN.bc]
theorem pen_len (n m : Nat) : (pen a b c lc n m).length < sizeLine := by
  show 3 < sizeLine
  decide
end
end LaneX
set_option Elab.async false
set_option linter.all false
set_option maxRecDepth 100000
set_option maxHeartbeats 4000000
namespace LaneX
open PySem PySem.Spec PyProof.Rows L2
/-! ### == and != of own classes -/
section
variable {X : Cx}
/-- an own def, called somewhere below the running body -/
theorem call_below {k : Nat} {f : Addr} {fd : FuncData} {ps : List Str} {sp : Sp} {A : Around} {pins : List (Addr × Obj)} {σ : L2.St} {H : Hp} {s : Shared} {vs : List V} {us : List Value} {Q : VK} (F : FnOk X.prog X.w X.K X.mg X.base CX0 k f fd ps sp) (hb : Binds X.K fd ps [])
    (sb : Sub X k A) (I : Inv X pins σ H s) (r : Vals vs us) (hsp : sp vs H Q E0) : wpAny (model X.prog X.w) A (call (.ref f) us) (EP X pins σ Q) X.xe s := by
  have e0 : Env0 X.prog X.w X.K X.mg X.base A X.stack s H := by
    have e := I.env0
    exact ⟨by rw [sb.fr]; exact e.frames, e.mod, e.bs, e.bsz, e.funs, e.frf, e.hok, e.bare⟩
  have hl := F.len _ _ _ _ hsp
  refine wpAny_call (codeAny_mono (F.run A X.stack s H ⟨us, []⟩ us vs _ E0 sb.room e0 (by
    have := hb s us I.kIn (by have := r.length; simp; omega)
    simpa using this) r hsp) fun r s' hq => ?_)
  cases r with
  | error e => exact pass0 pins σ H s e s' I hq
  | ok fl =>
    cases fl with
    | ret w =>
      obtain ⟨z, H', I', rz, q⟩ := I.after hq
      exact ⟨z, H', I', rz, q⟩
    | next => exact False.elim hq
    | brk => exact False.elim hq
    | cont => exact False.elim hq
/-- x == y, both of the class at C, by its own __eq__ -/
theorem op_eqO {k j : Nat} {C : Addr} {ps : List Str} {sp : Sp} (D : Mn X.prog X.w X.K X.mg X.base k C "__eq__" ps sp) (hr : Room j X.A) (hk : k ≤ j := by decide) : OpR X (compareOp .Eq) (rOwn C sp) := by
  intro pins s σ H x y v u Q I rx ry h
  obtain ⟨a, b, dx, dy, fs, gs, rfl, rfl, ha, hb, hsp⟩ := h
  obtain ⟨f, fd, h1, h3, h4⟩ := D.ex
  cases (show v = Value.ref a from rx)
  cases (show u = Value.ref b from ry)
  obtain ⟨mA, O, _⟩ := ins_get I.hok ha
  obtain ⟨od, J, _⟩ := O.look
  obtain ⟨mB, O2, _⟩ := ins_get I.hok hb
  obtain ⟨od2, J2, _⟩ := O2.look
  obtain ⟨mm, F⟩ := I.fr
  show wpAny (model X.prog X.w) X.A (richCompare .Eq (.ref a) (.ref b)) (EP X pins σ Q) X.xe s
  refine PySem.W.cmp_K (op := .Eq) (tb := .ref C) hr.units0 F I.mod.kin J J2.type (by simp [PySem.W.notFirst]) h1.at_ h1.fn ?_
  exact wpAny_mono (call_below (vs := [.ref a, .ref b]) (us := [Value.ref a, Value.ref b]) h4 h3 ⟨hr.mono hk, rfl⟩ I (.cons rfl (.cons rfl .nil)) hsp) (fun v s' hq => back_of hq) fun _ _ z => z
/-- x != y, both of the class at C, by its own __eq__ (no own __ne__) -/
def rNeO (C : Addr) (sp : Sp) : R2 := fun x y H Q => ∃ (a b dx dy : Addr) (fs gs : List (Str × V)), x = .ref a ∧ y = .ref b ∧ H a = some (.ins C dx fs) ∧ H b = some (.ins C dy gs) ∧ sp [.ref a, .ref b] H (fun v H' => ∃ r : Bool, v = .bl r ∧ Q (.bl (!r)) H') E0
theorem ifBound_ne {M : Model} {A : Around} {E : Value → Shared → Prop} {s : Shared} {K : PySem.W.Frag} {x C : Addr} {ox : Obj} {od : Option Obj} {args : List Value} {Q : Option Value → Shared → Prop} (X : K.In s.heap) (I : PySem.W.InstAt s.heap x ox C od)
    (hs : PySem.W.findIn K (.ref C) "__ne__" = some (some (.builtin "object.__ne__"))) (h : wpAny M A (call (.builtin "object.__ne__") (.ref x :: args)) (fun v => Q (some v)) E s) : wpAny M A (callSpecialIfBound? (.ref x) "__ne__" args) Q E s := by
  simp only [callSpecialIfBound?, bindSpecialIfBound?]
  refine wpAny_holding (wpAny_bind (wpAny_bind (wpAny_bind (I.type.here ((PySem.W.looks_findIn X hs).here ?_)))))
  refine wpAny_bind (wpAny_askSetting (wpAny_ite ?_))
  have fin : wpAny M A (call (.builtin "object.__ne__") ([.ref x] ++ args) >>= fun v => pure (some v)) Q E s := wpAny_bind (wpAny_mono h (fun v s' h' => wpAny_pure h') fun _ _ h' => h')
  split
  · exact wpAny_bind (wpAny_of_eq (F.cmp_object.ne.bind _) (wpAny_pure (by exact fin)))
  · exact wpAny_tryCatch (wpAny_bind (wpAny_of_eq (F.cmp_object.ne.bind _) (wpAny_pure (by exact fin))))
theorem op_neO {k j : Nat} {C : Addr} {ps : List Str} {sp : Sp} (D : Mn X.prog X.w X.K X.mg X.base k C "__eq__" ps sp) (hne : PySem.W.findIn X.K (.ref C) "__ne__" = some (some (.builtin "object.__ne__"))) (hm : PySem.W.mroIn X.K C (.type "object") = some true) (hr : Room j X.A) (hk : k + 1 ≤ j := by decide) :
    OpR X (compareOp .NotEq) (rNeO C sp) := by
  intro pins s σ H x y v u Q I rx ry h
  obtain ⟨a, b, dx, dy, fs, gs, rfl, rfl, ha, hb, hsp⟩ := h
  obtain ⟨f, fd, h1, h3, h4⟩ := D.ex
  cases (show v = Value.ref a from rx)
  cases (show u = Value.ref b from ry)
  obtain ⟨mA, O, _⟩ := ins_get I.hok ha
  obtain ⟨od, J, _⟩ := O.look
  obtain ⟨mB, O2, _⟩ := ins_get I.hok hb
  obtain ⟨od2, J2, _⟩ := O2.look
  have KX := I.kIn
  have r1 : Room (k + 1) X.A := hr.mono hk
  have rb := call_below (A := X.A.in1) h4 h3 ⟨r1.in1, rfl⟩ I (.cons rfl (.cons rfl .nil)) hsp (vs := [.ref a, .ref b]) (us := [Value.ref a, Value.ref b])
  have hu1 : X.A.in1.units < cLine := r1.in1.units0
  have one : wpAny (model X.prog X.w) X.A (tryCompare (.ref a) "__ne__" (.ref b)) (fun r s' => ∃ v, r = some v ∧ EP X pins σ Q v s') X.xe s := by
    unfold tryCompare
    refine wpAny_bind (ifBound_ne KX J hne (wpAny_call (codeAny_call_builtin F.cmp_object.ne.plain F.cmpEntry_ne (PySem.W.check_slot F.cmpKind_ne F.cmpSplit_ne (J.type.andThen (PySem.W.looks_mroIn KX hm)) (F.cmpArgs_ne _ _) ?_))))
    unfold Builtin.«object.__ne__»
    repeat (first | with_reducible refine wpAny_cRoomFor hu1 ?_ | (with_reducible refine PySem.W.ifBound_K KX J h1.at_ h1.fn ?_; refine wpAny_mono rb ?_ ?_) | wp_step)
    · intro v s' hq
      obtain ⟨z, H', I', rz, r, ez, q⟩ := hq
      subst ez
      cases (show v = Value.bool r from rz)
      refine wpAny_bind (wpAny_truthy_bool (wpAny_pure ?_))
      exact wpAny_pure ⟨_, rfl, .bl (!r), H', I', rfl, q⟩
    · exact fun _ _ z => z
  show wpAny (model X.prog X.w) X.A (richCompare .NotEq (.ref a) (.ref b)) (EP X pins σ Q) X.xe s
  unfold richCompare
  simp only [oneThing_ref]
  refine wpAny_holding (wpAny_bind (wpAny_cRoomFor hr.units0 ?_))
  refine wpAny_bind (J.type.here (wpAny_bind (J2.type.here ?_)))
  rw [if_neg (by simp)]
  refine wpAny_bind (wpAny_pure ?_)
  simp only [Bool.false_eq_true, if_false]
  refine wpAny_bind (wpAny_mono one (fun r s' z => ?_) fun _ _ e => e)
  obtain ⟨v, rfl, hq⟩ := z
  exact wpAny_pure hq
/-- x == y of two instances of one class without an own __eq__ -/
def rEqI (C : Addr) : R2 := fun x y H Q => ∃ (a b dx dy : Addr) (fs gs : List (Str × V)), x = .ref a ∧ y = .ref b ∧ a ≠ b ∧ H a = some (.ins C dx fs) ∧ H b = some (.ins C dy gs) ∧ Q (.bl false) H
theorem op_eqI {j : Nat} {C : Addr} (heq : PySem.W.findIn X.K (.ref C) "__eq__" = some (some (.builtin "object.__eq__"))) (hm : PySem.W.mroIn X.K C (.type "object") = some true) (hr : Room j X.A) : OpR X (compareOp .Eq) (rEqI C) := by
  intro pins s σ H x y v u Q I rx ry h
  obtain ⟨a, b, dx, dy, fs, gs, rfl, rfl, hne, ha, hb, q⟩ := h
  cases (show v = Value.ref a from rx)
  cases (show u = Value.ref b from ry)
  obtain ⟨mA, O, _⟩ := ins_get I.hok ha
  obtain ⟨od, J, _⟩ := O.look
  obtain ⟨mB, O2, _⟩ := ins_get I.hok hb
  obtain ⟨od2, J2, _⟩ := O2.look
  have KX := I.kIn
  have one : ∀ {x y : Addr} {ox oy : Obj} {ex ey : Option Obj}, x ≠ y → PySem.W.InstAt s.heap x ox C ex → PySem.W.InstAt s.heap y oy C ey → wpAny (model X.prog X.w) X.A (tryCompare (.ref x) "__eq__" (.ref y)) (fun r s' => r = none ∧ s' = s) X.xe s := by
    intro x y ox oy ex ey nxy Jx Jy
    unfold tryCompare
    refine wpAny_bind (HN.ifBound_objEq KX Jx heq (wpAny_call (codeAny_call_builtin F.cmp_object.eq.plain F.cmpEntry_eq (PySem.W.check_slot F.cmpKind_eq F.cmpSplit_eq (Jx.type.andThen (PySem.W.looks_mroIn KX hm)) (F.cmpArgs_eq _ _) ?_))))
    exact objEq_entry_other nxy Jx.at_ Jy.at_ (by rw [Jx.cls]; intro z; cases z) (wpAny_pure ⟨rfl, rfl⟩)
  show wpAny (model X.prog X.w) X.A (richCompare .Eq (.ref a) (.ref b)) (EP X pins σ Q) X.xe s
  simp only [richCompare, cmpInfo_Eq, oneThing_ref]
  refine wpAny_holding (wpAny_bind (wpAny_cRoomFor hr.units0 ?_))
  refine wpAny_bind (J.type.here (wpAny_bind (J2.type.here ?_)))
  rw [if_neg (by simp)]
  refine wpAny_bind (wpAny_pure ?_)
  simp only [Bool.false_eq_true, if_false, Bool.not_false, if_true]
  refine wpAny_bind (wpAny_mono (one hne J J2) (fun r s1 z => ?_) fun _ _ e => e)
  obtain ⟨z1, z2⟩ := z
  subst z1
  subst z2
  refine wpAny_bind (wpAny_mono (one hne.symm J2 J) (fun r s2 z => ?_) fun _ _ e => e)
  obtain ⟨z1, z2⟩ := z
  subst z1
  subst z2
  exact wpAny_bind (wpAny_rule (wpAny_bind (wpAny_isSame_ref_other hne J.at_ J2.at_ (by rw [J.cls]; intro z; cases z) (wpAny_pure ⟨.bl false, H, I, rfl, q⟩))))
end
end LaneX
set_option Elab.async false
set_option linter.all false
set_option maxRecDepth 100000
set_option maxHeartbeats 4000000
namespace LaneX
open PySem PySem.Spec PyProof.Rows L2
/-! ### enumerate(t), t a tuple -/
theorem meets_enumT {v : Value} {o : Obj} {H : Heap → Prop} (B : Begins v o H) :
    Meets (Builtin.«enumerate.__new__» ⟨[.type "enumerate", v], []⟩) (fun _ R s => H s.heap ∧
      R (.ok (.ret (.ref (s.heap.push o).objs.size))) { s with heap := (s.heap.push o).push { cls := .type "enumerate", data := .fields #[.none, .bool false, .ref s.heap.objs.size, rawInt 0, .none, .none] } }) := by
  refine .of_wp fun prog w A R s h => ?_
  obtain ⟨hp, g, d, tk, os⟩ := s
  obtain ⟨h1, h2⟩ := h
  have subE := sub_enumerate
  have itE : ∀ {A1 : Around} {E1 : Value → Shared → Prop} {Q1 : Value → Shared → Prop}, Q1 (.ref hp.objs.size) ⟨hp.push o, g, d, tk, os⟩ → wpAny (model prog w) A1 (pyIter v) Q1 E1 ⟨hp, g, d, tk, os⟩ := fun q => B.iter prog w _ _ ⟨hp, g, d, tk, os⟩ _ h1 q
  wp_walk using itE
  refine wpAny_stack_any fun st => wpAny_pure ?_
  split
  · rename_i c _ _ _ _ _
    cases (c == Value.type "enumerate") <;> (wp_walk using itE; exact ⟨_, rfl, h2⟩)
  · wp_walk using itE
    exact ⟨_, rfl, h2⟩
theorem call_enumT {P : Program} {w : World} {A : Around} {E : Value → Shared → Prop} {s : Shared} {t : Addr} {items : Array Value} {Q : Value → Shared → Prop} (hT : s.heap.IsTuple t items)
    (h : ∀ h', IsEnum h' (s.heap.objs.size + 1) s.heap.objs.size 0 .none → h'.IsTupleIter s.heap.objs.size t 0 → (∀ b o, s.heap.get? b = some o → h'.get? b = some o) → Q (.ref (s.heap.objs.size + 1)) { s with heap := h' }) :
    wpAny (model P w) A (call (.type "enumerate") [.ref t]) Q E s := by
  refine callType_new F.called_enumerate (by decide) (F.typeCall_enumerate_1 _) (F.newCall_enumerate_1 _) (fun obj => F.args_object_init_2 obj _) F.entry_enumerate_new (meets_enumT (begins_tuple t items)) ⟨hT, ?_⟩
  have sz : ∀ o : Obj, (s.heap.push o).objs.size = s.heap.objs.size + 1 := fun o => Heap.size_push ..
  show _ ∧ _
  rw [sz]
  have e1 : ∀ (o u : Obj), u.isFreed = false → ((s.heap.push o).push u).get? (s.heap.objs.size + 1) = some u := fun o u hu => by
    have := Heap.get?_push_size (s.heap.push o) (o := u) hu
    rwa [sz] at this
  have he := e1 { cls := .type "tuple_iterator", data := .fields #[.ref t, .int 0 0] } { cls := .type "enumerate", data := .fields #[.none, .bool false, .ref s.heap.objs.size, rawInt 0, .none, .none] } rfl
  exact ⟨⟨_, he, rfl⟩, h _ he ⟨_, Heap.get?_push_of_some _ (Heap.get?_push_size _ rfl), rfl, rfl⟩ fun b o z => Heap.get?_push_of_some _ (Heap.get?_push_of_some _ z)⟩
def Itu (K : PySem.W.Frag) (a : Addr) : It :=
  ⟨fun i H => ∃ (xs : List V) (x : V), SqT K H a xs ∧ xs[i]? = some x, fun i H v H' => ∃ T x, v = .ref T ∧ H T = none ∧ H' = upd H T (.tup [.int (i : Nat), x]) ∧ ∀ xs, SqT K H a xs → xs[i]? = some x, fun i H => ∃ xs : List V, SqT K H a xs ∧ xs.length ≤ i⟩
theorem turn_enumT {P : Program} {w : World} {K : PySem.W.Frag} {elts : List Expr} {kk : Nat} {tpos : Pos} (a e it : Addr) :
    Turn P w K (.Tuple elts kk tpos) (Itu K a) [e, it] e (fun i h => (∃ old, IsEnum h e it ((i : Nat) : Int) old) ∧ h.IsTupleIter it a i ∧ e ≠ it) where
  mem := List.mem_cons_self
  obj := fun i h st b hb => by
    obtain ⟨⟨old, he⟩, ⟨o, ho, hc, hd⟩, _⟩ := st
    rcases List.mem_cons.mp hb with z | z
    · subst z; exact ⟨_, he, fun v q => nomatch q⟩
    · rcases List.mem_singleton.mp z with z
      subst z; exact ⟨o, ho, fun v q => by rw [hd] at q; cases q⟩
  keep := fun i h h' st k => by
    obtain ⟨⟨old, he⟩, hi, hne⟩ := st
    exact ⟨⟨old, k e List.mem_cons_self _ he⟩, hi.at fun o q => k it (List.mem_cons_of_mem _ List.mem_cons_self) o q, hne⟩
  item := by
    intro X hP hw hK hc i pins s σ H E I hf st hg
    subst hP hw hK
    obtain ⟨⟨old, he⟩, hit, hne⟩ := st
    obtain ⟨xs, x, hq, hx⟩ := hg
    obtain ⟨its, rv, p, hz⟩ := I.tuple hq
    have p' : s.heap.IsTuple a its.toArray := p
    obtain ⟨u, hu, ru⟩ := rv.get hx
    have hel : e < s.heap.objs.size := Heap.lt_size he
    have hil : it < s.heap.objs.size := by obtain ⟨_, q, _⟩ := hit; exact Heap.lt_size q
    have nai : a ≠ it := fun z => by
      obtain ⟨o1, q1, c1, _⟩ := hit
      obtain ⟨o2, q2, c2, _⟩ := p'
      rw [z, q1] at q2; cases q2; rw [c1] at c2; exact absurd c2 (by decide)
    have nea : e ≠ a := fun z => by
      obtain ⟨o2, q2, c2, _⟩ := p'
      rw [← z, show s.heap.get? e = _ from he] at q2; cases q2; exact absurd (show Value.type "enumerate" = Value.type "tuple" from c2) (by decide)
    have hlt : i < its.toArray.size := by
      rw [List.size_toArray]
      exact (List.getElem?_eq_some_iff.mp hu).1
    refine wpAny_pyNext_enum_itemD (Draws.tuple (A := X.A.in1) (by simpa using I.ok.hd hc) it a nai its.toArray) he ⟨hit, p'⟩ hlt hne (by simp [hne, nea]) fun y h' tk hy ho st' hT hsz hk => ?_
    have ey : y = u := by
      rw [List.getElem?_toArray, hu] at hy
      exact (Option.some.inj hy).symm
    subst ey
    refine ⟨_, rfl, wpAny_letOwnedTupleGo_enum (s := { s with heap := h', toks := tk + 1 }) ho fun h'' he' sb => ?_⟩
    have hT2 : h''.get? s.heap.objs.size = some { cls := .type "tuple", data := .seq #[.int i tk, y] } := (sb.2 _ (Nat.ne_of_gt hel)).trans hT
    have new : ObjOk X.prog X.w (upd H s.heap.objs.size (.tup [.int (i : Nat), x])) h'' s.heap.objs.size (.tup [.int (i : Nat), x]) :=
      ⟨(by show 2 ≤ sizeLine; decide), [.int i tk, y], .cons ⟨_, rfl⟩ (.cons ru .nil), ⟨_, hT2, rfl, _, rfl⟩⟩
    have I1 : Inv X pins σ (upd H s.heap.objs.size (.tup [.int (i : Nat), x])) { s with heap := h'', toks := tk + 1 } :=
      I.turnedNew (ch := [e, it]) (fun b ob hb q => (sb.2 b (fun z => hb (by simp [z]))).trans (hk b ob (fun z => hb (by simp [z])) (fun z => hb (by simp [z])) q)) hf (Nat.le_refl _) new
    refine ⟨.ref s.heap.objs.size, _, I1, rfl, ⟨_, x, rfl, I.hok.fresh (Nat.le_refl _), rfl, fun ys hy => ?_⟩, ⟨⟨y, ?_⟩, st'.1.at fun o q => (sb.2 it (Ne.symm hne)).trans q, hne⟩, fun b hb => ?_⟩
    · rw [I.tuple_inj hy hq]; exact hx
    · rw [show ((i + 1 : Nat) : Int) = (i : Int) + 1 by omega]; exact he'
    · have hb' : b < s.heap.objs.size := by
        rcases List.mem_cons.mp hb with z | z
        · rw [z]; exact hel
        · rw [List.mem_singleton.mp z]; exact hil
      rw [upd_ne (Nat.ne_of_lt hb')]
      exact (hf b hb).1
  done := by
    intro X hP hw hK hc i pins s σ H E I hf st hg
    subst hP hw hK
    obtain ⟨⟨old, he⟩, hit, hne⟩ := st
    obtain ⟨xs, hq, hx⟩ := hg
    obtain ⟨its, rv, p, hz⟩ := I.tuple hq
    have p' : s.heap.IsTuple a its.toArray := p
    have nai : a ≠ it := fun z => by
      obtain ⟨o1, q1, c1, _⟩ := hit
      obtain ⟨o2, q2, c2, _⟩ := p'
      rw [z, q1] at q2; cases q2; rw [c1] at c2; exact absurd c2 (by decide)
    obtain ⟨f0, f1, f2, f3, f4, f5⟩ := hf it (List.mem_cons_of_mem _ List.mem_cons_self)
    have hn : its.toArray[i]? = none := by
      have := rv.length
      rw [List.getElem?_toArray]
      exact List.getElem?_eq_none (by omega)
    have tyE : s.TypeIs (.ref e) "enumerate" := ⟨_, he, rfl⟩
    unfold pyNext
    refine wpAny_bind (wpAny_attempt (wpAny_callSpecial?_slot (name := Str.ofString "__next__") tyE F.slot_enumerate_next (wpAny_call_entry F.slot_enumerate_next tyE F.entry_enumerate_next ?_ (F.args_enumerate_next_1 _))))
    show wpAny _ _ (field (.ref e) 2 >>= _) _ _ _
    refine wpAny_bind (wpAny_field he rfl (x := .ref it) rfl (wpAny_bind (wpAny_nextOf_tuple_end (by simpa using I.ok.hd hc) hit p' hn fun h' y he' hy' => ?_)))
    obtain ⟨o, ho, hcl⟩ := hy'
    refine wpAny_bind (wpAny_isInstance (T := "StopIteration") (b := true) ⟨o, ho, hcl⟩ isSubtype_stop (wpAny_pure ?_))
    exact ⟨rfl, I.turned (t' := s.toks) (fun b o hb q => he' b o hb q) f0 f1 f3 f4 f5⟩
  self := fun A i s Q E st h => let ⟨⟨_, he⟩, _⟩ := st; wpAny_pyIter_enum he h
def iEnumT (K : PySem.W.Frag) (ta : TA) : TI := fun σ H R => ta σ H fun vs H1 => ∃ a xs, vs = [.ref a] ∧ SqT K H1 a xs ∧ R (Itu K a) H1
theorem pi_enumT {X : Cx} {e : Expr} {ta : TA} {p pos tpos : Pos} {elts : List Expr} {kk : Nat} (hg : Gl X "enumerate") (hm : X.mg "enumerate" = none) (ha : PA X [e] ta) (hs : starEach [e] X.env = [(false, eval e X.env)] := by rfl) :
    PI X (.Tuple elts kk tpos) (.Call (.Name "enumerate" p) [e] [] pos) (iEnumT X.K ta) := by
  refine ⟨fun pins s σ H R I h => Call_ (ld_blt I hg hm boot_enumerate (PyProof.Rows.callWith_type1 (thn (ha.run pos pins s σ H _ I h) fun us s1 ⟨vs, H1, I1, r1, a, xs, ex, hq, q⟩ => ?_) hs rfl))⟩
  subst ex
  rw [Vals.ref1 r1]
  obtain ⟨its, rv, p', hz⟩ := I1.tuple hq
  refine call_enumT (show s1.heap.IsTuple a its.toArray from p') fun h' he hit hk => wpAny_pyIter_enum he ?_
  refine ⟨s1.heap.objs.size + 1, [s1.heap.objs.size + 1, s1.heap.objs.size], _, _, H1, rfl, I1.kept (t' := s1.toks) hk, turn_enumT a (s1.heap.objs.size + 1) s1.heap.objs.size, ⟨⟨.none, he⟩, hit, Nat.succ_ne_self _⟩, fun b hb => ?_, q⟩
  have le : s1.heap.objs.size ≤ b := by
    rcases List.mem_cons.mp hb with z | z
    · rw [z]; exact Nat.le_succ _
    · rw [List.mem_singleton.mp z]; exact Nat.le_refl _
  exact I1.fpOk le (I1.hok.fresh le)
theorem walk_enumT {K : PySem.W.Frag} {a : Addr} {xs : List V} : Walk (Itu K a) xs.length (fun H => SqT K H a xs) (YPair (fun i => some (.int (i : Nat))) (fun i => xs[i]?)) := by
  refine ⟨fun i _ hi q => ⟨xs, xs[i], q, List.getElem?_eq_getElem hi⟩, fun _ q => ⟨xs, q, Nat.le_refl _⟩, fun i H v H' _ q y => ?_⟩
  obtain ⟨T, x, y1, y2, y3, y4⟩ := y
  exact ⟨T, .int (i : Nat), x, y1, y2, y3, rfl, y4 xs q⟩
section
variable {K : PySem.W.Frag} {g : TG} {tt : TT} {te : TE} {vs : List Nat} {σ : L2.St} {H : Hp} {Q : Addr → Hp → Prop}
/-- a pure comprehension over enumerate(t) -/
theorem lc_pureE {a : Addr} {xs : List V} (v : Nat → V) (hS : H a = some (.tup xs)) (hlen : xs.length ≤ 1000000) (hs : ∀ i x H' T, xs[i]? = some x → Same H H' → H' T = some (.tup [vN i, x]) → LcT g tt te vs σ (.ref T) H' true (v i))
    (hd : ∀ D H', H D = none → Same H H' → H' D = some (.lst ((List.range xs.length).map v)) → Q D H') : LcR g tt te vs σ Q (Itu K a) H := by
  intro D hD
  refine lc_it walk_enumT (fun i H' => Same H H' ∧ H' D = some (.lst ((((List.range xs.length).take i).filter fun _ => true).map v))) ⟨same_new0 hD, by simpa using upd_same⟩ (fun i H' _ hp => SqT.of (hp.1 _ _ hS)) (fun i x H' H2 hi hp y => ?_) (fun H' hp => ?_)
  · obtain ⟨T, x1, x2, rfl, nT, rfl, e1, e2⟩ := y
    cases e1
    have s2 : Same H (upd H' T (.tup [vN i, x2])) := same_new hp.1 nT
    exact lc_turn (l := List.range xs.length) (ι := fun _ => .ref T) (p := fun _ => true) (v := v) (by simpa using hlen) hD (range_get hi) s2 (upd_new nT hp.2) (hs i x2 _ T e2 s2 upd_same)
  · obtain ⟨h1, h2⟩ := hp
    rw [List.take_of_length_le (by simp), List.filter_eq_self.mpr fun _ _ => rfl] at h2
    exact hd D H' hD h1 h2
end
end LaneX
set_option Elab.async false
set_option linter.all false
set_option maxRecDepth 100000
set_option maxHeartbeats 4000000
namespace LaneX
open PySem PySem.Spec PyProof.Rows L2
/-! ### naturals in lists: in, index, max; further numbers -/
theorem inV_nat {n : Nat} {l : List Nat} : inV (vN n) (l.map vN) = decide (n ∈ l) := by
  unfold inV
  rw [List.any_map, Bool.eq_iff_iff, List.any_eq_true, decide_eq_true_iff]
  have e : ∀ x : Nat, ((fun y => eqV y (vN n)) ∘ vN) x = true ↔ x = n := fun x => by
    show (((x : Int) == (n : Int)) = true) ↔ _
    rw [beq_iff_eq]; omega
  constructor
  · rintro ⟨x, hx, h⟩
    rw [← (e x).mp h]; exact hx
  · exact fun h => ⟨n, h, (e n).mpr rfl⟩
theorem flat_nats (l : List Nat) : (l.map vN).all flatV = true := by
  rw [List.all_eq_true]
  intro v hv
  obtain ⟨x, _, rfl⟩ := List.mem_map.mp hv
  rfl
section
variable {X : Cx}
theorem on_in : OpR X (compareOp .In) (fun x y H Q => ∃ (n : Nat) (p : Addr) (ns : List Nat), x = vN n ∧ y = .ref p ∧ Tq H p (ns.map vN) ∧ Q (.bl (decide (n ∈ ns))) H) := by
  intro pins s σ H x y v u Q I rx ry h
  obtain ⟨n, p, ns, rfl, rfl, hS, q⟩ := h
  refine op_in_seq pins s σ H _ _ v u Q I rx ry ⟨p, _, rfl, hS.sqlt, rfl, flat_nats ns, ?_⟩
  simp only [Bool.false_eq_true, if_false, inV_nat]
  exact q
theorem on_notIn : OpR X (compareOp .NotIn) (fun x y H Q => ∃ (n : Nat) (p : Addr) (ns : List Nat), x = vN n ∧ y = .ref p ∧ Tq H p (ns.map vN) ∧ Q (.bl (!decide (n ∈ ns))) H) := by
  intro pins s σ H x y v u Q I rx ry h
  obtain ⟨n, p, ns, rfl, rfl, hS, q⟩ := h
  refine op_notIn_seq pins s σ H _ _ v u Q I rx ry ⟨p, _, rfl, hS.sqlt, rfl, flat_nats ns, ?_⟩
  simp only [if_true, inV_nat]
  exact q
/-- the right factor below 2 ^ 64 -/
theorem on_mulR : OpR X (binaryOp .Mult) (fun x y H Q => ∃ n m : Nat, x = .int (n : Int) ∧ y = .int (m : Int) ∧ (m < 2 ^ 64) ∧ Q (.int ((n * m : Nat) : Int)) H) := by
  intro pins s σ H x y v u Q I rx ry h
  obtain ⟨n, m, rfl, rfl, c, q⟩ := h
  rw [Int.natCast_mul] at q
  exact op_mul pins s σ H _ _ v u Q I rx ry ⟨_, _, rfl, rfl, show CMul (n : Int) (m : Int) from Or.inr ⟨by omega, by have : m < 18446744073709551616 := c; omega⟩, q⟩
/-- an int of any sign times a natural -/
theorem on_mulI : OpR X (binaryOp .Mult) (fun x y H Q => ∃ (i : Int) (m : Nat), x = .int i ∧ y = .int (m : Int) ∧ (m < 2 ^ 64) ∧ Q (.int (i * (m : Int))) H) := by
  intro pins s σ H x y v u Q I rx ry h
  obtain ⟨n, m, rfl, rfl, c, q⟩ := h
  exact op_mul pins s σ H _ _ v u Q I rx ry ⟨_, _, rfl, rfl, show CMul n (m : Int) from Or.inr ⟨by omega, by have : m < 18446744073709551616 := c; omega⟩, q⟩
theorem on_addI : OpR X (binaryOp .Add) (fun x y H Q => ∃ i j : Int, x = .int i ∧ y = .int j ∧ Q (.int (i + j)) H) := op_add
/-- a difference that is a natural -/
theorem on_subD : OpR X (binaryOp .Sub) (fun x y H Q => ∃ (i j : Int) (d : Nat), x = .int i ∧ y = .int j ∧ i - j = (d : Int) ∧ Q (vN d) H) := by
  intro pins s σ H x y v u Q I rx ry h
  obtain ⟨i, j, d, rfl, rfl, e, q⟩ := h
  refine op_sub pins s σ H _ _ v u Q I rx ry ⟨i, j, rfl, rfl, ?_⟩
  show Q (V.int (i - j)) H
  rw [e]
  exact q
/-- int(True), int(False) -/
theorem call_intB : CallR X (.type "int") (fun xs H Q => ∃ b : Bool, xs = [.bl b] ∧ Q (vN (if b = true then 1 else 0)) H) := by
  intro pins s σ H xs us Q I r h
  obtain ⟨b, rfl, q⟩ := h
  refine call_int1 pins s σ H _ us Q I r (.inr ⟨b, rfl, ?_⟩)
  cases b <;> exact q
/-- max(xs), naturals -/
theorem cr_maxN (hc : X.calm = true) : CallR X (.builtin "max") (fun xs H Q => ∃ (a : Addr) (ns : List Nat), xs = [.ref a] ∧ H a = some (.lst (ns.map vN)) ∧ 0 < ns.length ∧ ∀ m, m ∈ ns → (∀ x ∈ ns, x ≤ m) → Q (vN m) H) := by
  intro pins s σ H xs us Q I r h
  obtain ⟨a, ns, rfl, hS, h0, q⟩ := h
  rw [vN_ints] at hS
  refine cr_max hc pins s σ H _ us Q I r ⟨a, ns.map Int.ofNat, rfl, SqL.of hS, by simpa using h0, fun m hm hle => ?_⟩
  obtain ⟨k, hk, rfl⟩ := List.mem_map.mp hm
  refine q k hk fun x hx => ?_
  have := hle (x : Int) (List.mem_map.mpr ⟨x, hx, rfl⟩)
  have e : Int.ofNat k = (k : Int) := rfl
  omega
theorem call_maxN (hc : X.calm = true) : CallR X (.builtin "max") (fun xs H Q => ∃ n m : Nat, xs = [.int (n : Int), .int (m : Int)] ∧ Q (.int ((max n m : Nat) : Int)) H) := by
  intro pins s σ H xs us Q I r h
  obtain ⟨n, m, rfl, q⟩ := h
  refine call_max2 hc pins s σ H _ us Q I r ⟨_, _, rfl, ?_⟩
  have e : (if (m : Int) > (n : Int) then (m : Int) else (n : Int)) = ((max n m : Nat) : Int) := by split <;> omega
  rw [e]
  exact q
end
end LaneX
set_option Elab.async false
set_option linter.all false
set_option maxRecDepth 100000
set_option maxHeartbeats 4000000
namespace LaneX
open PySem PySem.Spec PyProof.Rows L2
def top (i : Nat) : Stmt := PySem.Challenge.pw_laneswap_k18_whole_rounds_walked.main.body.getD i (.Pass ⟨0, 0, 0, 0⟩)
abbrev s_is_whole : Stmt := top 9
theorem sc_is_whole : FnScope ["value"] ["value"] (defScope s_is_whole) := ⟨rfl, rfl, rfl, by decide +kernel, rfl, by decide +kernel, by decide +kernel⟩
abbrev s_need_whole : Stmt := top 10
theorem sc_need_whole : FnScope ["value"] ["value"] (defScope s_need_whole) := ⟨rfl, rfl, rfl, by decide +kernel, rfl, by decide +kernel, by decide +kernel⟩
abbrev s_need_items : Stmt := top 11
theorem sc_need_items : FnScope ["value"] ["value"] (defScope s_need_items) := ⟨rfl, rfl, rfl, by decide +kernel, rfl, by decide +kernel, by decide +kernel⟩
abbrev s_need_word : Stmt := top 12
theorem sc_need_word : FnScope ["value", "bits"] ["value", "bits"] (defScope s_need_word) := ⟨rfl, rfl, rfl, by decide +kernel, rfl, by decide +kernel, by decide +kernel⟩
abbrev s_need_words : Stmt := top 13
theorem sc_need_words : FnScope ["values", "bits", "value"] ["values", "bits"] (defScope s_need_words) := ⟨rfl, rfl, rfl, by decide +kernel, rfl, by decide +kernel, by decide +kernel⟩
abbrev s_ones : Stmt := top 15
theorem sc_ones : FnScope ["word", "found", "left", "low"] ["word"] (defScope s_ones) := ⟨rfl, rfl, rfl, by decide +kernel, rfl, by decide +kernel, by decide +kernel⟩
abbrev s_cleared : Stmt := top 17
theorem sc_cleared : FnScope ["rows", "word", "left", "row"] ["rows", "word"] (defScope s_cleared) := ⟨rfl, rfl, rfl, by decide +kernel, rfl, by decide +kernel, by decide +kernel⟩
abbrev s_grown : Stmt := top 18
theorem sc_grown : FnScope ["rows", "word", "left", "top", "row"] ["rows", "word"] (defScope s_grown) := ⟨rfl, rfl, rfl, by decide +kernel, rfl, by decide +kernel, by decide +kernel⟩
abbrev s_spanned : Stmt := top 19
theorem sc_spanned : FnScope ["words", "rows", "word"] ["words"] (defScope s_spanned) := ⟨rfl, rfl, rfl, by decide +kernel, rfl, by decide +kernel, by decide +kernel⟩
abbrev s_tops_of : Stmt := top 20
theorem sc_tops_of : FnScope ["rows", "row"] ["rows"] (defScope s_tops_of) := ⟨rfl, rfl, rfl, by decide +kernel, rfl, by decide +kernel, by decide +kernel⟩
abbrev s_missing : Stmt := top 21
theorem sc_missing : FnScope ["rows", "tops", "bit"] ["rows"] (defScope s_missing) := ⟨rfl, rfl, rfl, by decide +kernel, rfl, by decide +kernel, by decide +kernel⟩
abbrev s_image_of : Stmt := top 22
theorem sc_image_of : FnScope ["columns", "word", "total", "bit"] ["columns", "word"] (defScope s_image_of) := ⟨rfl, rfl, rfl, by decide +kernel, rfl, by decide +kernel, by decide +kernel⟩
abbrev s_paired : Stmt := top 23
theorem sc_paired : FnScope ["columns", "source", "bit"] ["columns"] (defScope s_paired) := ⟨rfl, rfl, rfl, by decide +kernel, rfl, by decide +kernel, by decide +kernel⟩
abbrev s_kernel_rows : Stmt := top 24
theorem sc_kernel_rows : FnScope ["columns", "row"] ["columns"] (defScope s_kernel_rows) := ⟨rfl, rfl, rfl, by decide +kernel, rfl, by decide +kernel, by decide +kernel⟩
abbrev s_solved : Stmt := top 25
theorem sc_solved : FnScope ["pairs", "source", "word", "left"] ["pairs", "source", "word"] (defScope s_solved) := ⟨rfl, rfl, rfl, by decide +kernel, rfl, by decide +kernel, by decide +kernel⟩
abbrev s_met : Stmt := top 26
theorem sc_met : FnScope ["bits", "rows", "others", "both", "row"] ["bits", "rows", "others"] (defScope s_met) := ⟨rfl, rfl, rfl, by decide +kernel, rfl, by decide +kernel, by decide +kernel⟩
abbrev s_Space_init : Stmt := inClass (top 28) 0
theorem sc_Space_init : FnScope ["self", "bits", "words"] ["self", "bits", "words"] (defScope s_Space_init) := ⟨rfl, rfl, rfl, by decide +kernel, rfl, by decide +kernel, by decide +kernel⟩
abbrev s_Spread_init : Stmt := inClass (top 31) 0
theorem sc_Spread_init : FnScope ["self", "bits", "slots", "lanes", "rows"] ["self", "bits", "slots", "lanes"] (defScope s_Spread_init) := ⟨rfl, rfl, rfl, by decide +kernel, rfl, by decide +kernel, by decide +kernel⟩
abbrev s_Spread_lane_of : Stmt := inClass (top 31) 5
theorem sc_Spread_lane_of : FnScope ["self", "entry", "rows", "pairs", "word"] ["self", "entry"] (defScope s_Spread_lane_of) := ⟨rfl, rfl, rfl, by decide +kernel, rfl, by decide +kernel, by decide +kernel⟩
abbrev s_Spread_twins : Stmt := inClass (top 31) 10
theorem sc_Spread_twins : FnScope ["self", "rows", "word"] ["self"] (defScope s_Spread_twins) := ⟨rfl, rfl, rfl, by decide +kernel, rfl, by decide +kernel, by decide +kernel⟩
abbrev s_any_spread : Stmt := top 32
theorem sc_any_spread : FnScope ["value"] ["value"] (defScope s_any_spread) := ⟨rfl, rfl, rfl, by decide +kernel, rfl, by decide +kernel, by decide +kernel⟩
abbrev s_need_fit : Stmt := top 38
theorem sc_need_fit : FnScope ["one", "other"] ["one", "other"] (defScope s_need_fit) := ⟨rfl, rfl, rfl, by decide +kernel, rfl, by decide +kernel, by decide +kernel⟩
abbrev s_lane_sums : Stmt := top 39
theorem sc_lane_sums : FnScope ["one", "other", "at", "word"] ["one", "other"] (defScope s_lane_sums) := ⟨rfl, rfl, rfl, by decide +kernel, rfl, by decide +kernel, by decide +kernel⟩
abbrev s_added_rows : Stmt := top 40
theorem sc_added_rows : FnScope ["rows", "words", "left", "found", "word"] ["rows", "words"] (defScope s_added_rows) := ⟨rfl, rfl, rfl, by decide +kernel, rfl, by decide +kernel, by decide +kernel⟩
abbrev s_parts_in : Stmt := top 41
theorem sc_parts_in : FnScope ["rows", "others", "words", "columns", "pairs", "low", "word"] ["rows", "others", "words"] (defScope s_parts_in) := ⟨rfl, rfl, rfl, by decide +kernel, rfl, by decide +kernel, by decide +kernel⟩
abbrev s_both_rows : Stmt := top 42
theorem sc_both_rows : FnScope ["one", "other", "rows", "others"] ["one", "other"] (defScope s_both_rows) := ⟨rfl, rfl, rfl, by decide +kernel, rfl, by decide +kernel, by decide +kernel⟩
abbrev s_all_hold : Stmt := top 43
theorem sc_all_hold : FnScope ["one", "other", "sums", "both", "word"] ["one", "other"] (defScope s_all_hold) := ⟨rfl, rfl, rfl, by decide +kernel, rfl, by decide +kernel, by decide +kernel⟩
abbrev s_fewest_rounds : Stmt := top 44
theorem sc_fewest_rounds : FnScope ["one", "other", "rows", "others", "both", "shared"] ["one", "other"] (defScope s_fewest_rounds) := ⟨rfl, rfl, rfl, by decide +kernel, rfl, by decide +kernel, by decide +kernel⟩
abbrev s_kept_starts : Stmt := top 45
theorem sc_kept_starts : FnScope ["one", "other", "rows", "others", "both", "shared", "parts", "at", "word"] ["one", "other"] (defScope s_kept_starts) := ⟨rfl, rfl, rfl, by decide +kernel, rfl, by decide +kernel, by decide +kernel⟩
abbrev s_wide_starts : Stmt := top 46
theorem sc_wide_starts : FnScope ["one", "other", "rows", "others", "both", "shared", "starts", "inner", "parts", "at", "word", "lane", "held", "top"] ["one", "other"] (defScope s_wide_starts) := ⟨rfl, rfl, rfl, by decide +kernel, rfl, by decide +kernel, by decide +kernel⟩
abbrev s_showing_lanes : Stmt := top 47
theorem sc_showing_lanes : FnScope ["one", "starts", "words", "inner", "outer", "lanes", "pairs", "word"] ["one", "starts"] (defScope s_showing_lanes) := ⟨rfl, rfl, rfl, by decide +kernel, rfl, by decide +kernel, by decide +kernel⟩
abbrev s_RoundPlan_init : Stmt := inClass (top 48) 0
theorem sc_RoundPlan_init : FnScope ["self", "one", "other", "rows", "others", "both", "shared", "at"] ["self", "one", "other"] (defScope s_RoundPlan_init) := ⟨rfl, rfl, rfl, by decide +kernel, rfl, by decide +kernel, by decide +kernel⟩
abbrev s_RoundPlan_take : Stmt := inClass (top 48) 1
theorem sc_RoundPlan_take : FnScope ["self", "number", "lane", "word", "shown"] ["self", "number", "lane"] (defScope s_RoundPlan_take) := ⟨rfl, rfl, rfl, by decide +kernel, rfl, by decide +kernel, by decide +kernel⟩
abbrev s_RoundPlan_when : Stmt := inClass (top 48) 2
theorem sc_RoundPlan_when : FnScope ["self", "lane", "entry", "word", "found"] ["self", "lane", "entry"] (defScope s_RoundPlan_when) := ⟨rfl, rfl, rfl, by decide +kernel, rfl, by decide +kernel, by decide +kernel⟩
abbrev s_plan_rounds : Stmt := top 49
theorem sc_plan_rounds : FnScope ["one", "other"] ["one", "other"] (defScope s_plan_rounds) := ⟨rfl, rfl, rfl, by decide +kernel, rfl, by decide +kernel, by decide +kernel⟩
abbrev s_beginL : Stmt := top 51
theorem sc_beginL : FnScope ["_law_script"] ["_law_script"] (defScope s_beginL) := ⟨rfl, rfl, rfl, by decide +kernel, rfl, by decide +kernel, by decide +kernel⟩
abbrev s_drawL : Stmt := top 52
theorem sc_drawL : FnScope ["_law_tape", "_law_limit", "_law_at", "_law_span", "_law_cell", "_law_mixed", "_law_found"] ["_law_tape", "_law_limit"] (defScope s_drawL) := ⟨rfl, rfl, rfl, by decide +kernel, rfl, by decide +kernel, by decide +kernel⟩
abbrev s_pickL : Stmt := top 53
theorem sc_pickL : FnScope ["_law_tape", "_law_some"] ["_law_tape", "_law_some"] (defScope s_pickL) := ⟨rfl, rfl, rfl, by decide +kernel, rfl, by decide +kernel, by decide +kernel⟩
abbrev s_whole_isL : Stmt := top 54
theorem sc_whole_isL : FnScope ["_law_value", "_law_due"] ["_law_value", "_law_due"] (defScope s_whole_isL) := ⟨rfl, rfl, rfl, by decide +kernel, rfl, by decide +kernel, by decide +kernel⟩
abbrev s_numberL : Stmt := top 55
theorem sc_numberL : FnScope ["_law_value", "_law_limit"] ["_law_value", "_law_limit"] (defScope s_numberL) := ⟨rfl, rfl, rfl, by decide +kernel, rfl, by decide +kernel, by decide +kernel⟩
abbrev s_lessL : Stmt := top 56
theorem sc_lessL : FnScope ["_law_rows_here", "_law_word_here", "_law_left", "_law_row"] ["_law_rows_here", "_law_word_here"] (defScope s_lessL) := ⟨rfl, rfl, rfl, by decide +kernel, rfl, by decide +kernel, by decide +kernel⟩
abbrev s_rowsL : Stmt := top 57
theorem sc_rowsL : FnScope ["_law_words", "_law_found", "_law_word_here", "_law_left"] ["_law_words"] (defScope s_rowsL) := ⟨rfl, rfl, rfl, by decide +kernel, rfl, by decide +kernel, by decide +kernel⟩
abbrev s_sumL : Stmt := top 58
theorem sc_sumL : FnScope ["_law_words", "_law_number_here", "_law_found", "_law_at"] ["_law_words", "_law_number_here"] (defScope s_sumL) := ⟨rfl, rfl, rfl, by decide +kernel, rfl, by decide +kernel, by decide +kernel⟩
abbrev s_wordL : Stmt := top 59
theorem sc_wordL : FnScope ["_law_tape", "_law_bits", "_law_sort"] ["_law_tape", "_law_bits"] (defScope s_wordL) := ⟨rfl, rfl, rfl, by decide +kernel, rfl, by decide +kernel, by decide +kernel⟩
abbrev s_orderL : Stmt := top 60
theorem sc_orderL : FnScope ["_law_tape", "_law_many", "_law_found", "_law_k"] ["_law_tape", "_law_many"] (defScope s_orderL) := ⟨rfl, rfl, rfl, by decide +kernel, rfl, by decide +kernel, by decide +kernel⟩
abbrev s_mixtureL : Stmt := top 61
theorem sc_mixtureL : FnScope ["_law_tape", "_law_bits", "_law_sort", "_law_order_here", "_law_high", "_law_low", "_law_at", "_law_word_here", "_law_mixed"] ["_law_tape", "_law_bits"] (defScope s_mixtureL) := ⟨rfl, rfl, rfl, by decide +kernel, rfl, by decide +kernel, by decide +kernel⟩
abbrev s_blendL : Stmt := top 62
theorem sc_blendL : FnScope ["_law_tape", "_law_words", "_law_extra", "_law_mixture_here", "_law_found", "_law_k", "_law_number_here"] ["_law_tape", "_law_words", "_law_extra"] (defScope s_blendL) := ⟨rfl, rfl, rfl, by decide +kernel, rfl, by decide +kernel, by decide +kernel⟩
abbrev s_severalL : Stmt := top 63
theorem sc_severalL : FnScope ["_law_words", "_law_found", "_law_word_here", "_law_one"] ["_law_words"] (defScope s_severalL) := ⟨rfl, rfl, rfl, by decide +kernel, rfl, by decide +kernel, by decide +kernel⟩
abbrev s_twoL : Stmt := top 64
theorem sc_twoL : FnScope ["_law_tape", "_law_most", "_law_lanes", "_law_shared", "_law_one", "_law_other", "_law_rest", "_law_many", "_law_bits", "_law_units", "_law_blocks", "_law_slots", "_law_lists", "_law_mixture_here", "_law_stays", "_law_mixtures", "_law_found", "_law_k", "_law_number_here"] ["_law_tape", "_law_most", "_law_lanes"] (defScope s_twoL) := ⟨rfl, rfl, rfl, by decide +kernel, rfl, by decide +kernel, by decide +kernel⟩
abbrev s_fairL : Stmt := top 65
theorem sc_fairL : FnScope ["_law_tape", "_law_many", "_law_rest", "_law_own", "_law_slots", "_law_found", "_law_places", "_law_k", "_law_word_here", "_law_at"] ["_law_tape", "_law_many", "_law_rest", "_law_own", "_law_slots"] (defScope s_fairL) := ⟨rfl, rfl, rfl, by decide +kernel, rfl, by decide +kernel, by decide +kernel⟩
abbrev s_lotsL : Stmt := top 66
theorem sc_lotsL : FnScope ["_law_slots", "_law_lanes", "_law_words", "_law_found", "_law_lane", "_law_word_here"] ["_law_slots", "_law_lanes"] (defScope s_lotsL) := ⟨rfl, rfl, rfl, by decide +kernel, rfl, by decide +kernel, by decide +kernel⟩
abbrev s_round_rightL : Stmt := top 67
theorem sc_round_rightL : FnScope ["_law_plan", "_law_number_here", "_law_lots_here", "_law_wants", "_law_got", "_law_shown", "_law_lane", "_law_pair", "_law_source", "_law_entry", "_law_lot"] ["_law_plan", "_law_number_here", "_law_lots_here", "_law_wants", "_law_got"] (defScope s_round_rightL) := ⟨rfl, rfl, rfl, by decide +kernel, rfl, by decide +kernel, by decide +kernel⟩
abbrev s_plan_rightL : Stmt := top 68
theorem sc_plan_rightL : FnScope ["_law_one", "_law_other", "_law_lots_here", "_law_wants", "_law_entries", "_law_plan", "_law_many", "_law_got", "_law_number_here", "_law_lane", "_law_k", "_law_entry", "_law_lot"] ["_law_one", "_law_other", "_law_lots_here", "_law_wants", "_law_entries"] (defScope s_plan_rightL) := ⟨rfl, rfl, rfl, by decide +kernel, rfl, by decide +kernel, by decide +kernel⟩
abbrev s_law : Stmt := top 69
theorem sc_law : FnScope ["_law_script", "_law_tape", "_law_size", "_law_bits", "_law_slots", "_law_lanes", "_law_others", "_law_places", "_law_one", "_law_other", "_law_lots_here", "_law_wants", "_law_entries", "_law_k"] ["_law_script"] (defScope s_law) := ⟨rfl, rfl, rfl, by decide +kernel, rfl, by decide +kernel, by decide +kernel⟩
structure Bt (mg : Str → Option Value) : Prop where
  all : mg "all" = none
  any : mg "any" = none
  bool : mg "bool" = none
  enumerate : mg "enumerate" = none
  int : mg "int" = none
  isinstance : mg "isinstance" = none
  len : mg "len" = none
  list : mg "list" = none
  max : mg "max" = none
  min : mg "min" = none
  range : mg "range" = none
  sorted : mg "sorted" = none
  sum : mg "sum" = none
  tuple : mg "tuple" = none
end LaneX
set_option Elab.async false
set_option linter.all false
set_option maxRecDepth 100000
set_option maxHeartbeats 4000000
namespace LaneX
open PySem PySem.Spec PyProof.Rows L2

/-! ### what the checks promise, for values that are as described -/
def sp_is_whole : Sp := fun vs H Q _ => ∃ n : Nat, vs = [vN n] ∧ Q (.bl true) H
def sp_need_whole : Sp := fun vs H Q _ => ∃ n : Nat, vs = [vN n] ∧ Q .non H
def sp_need_items : Sp := fun vs H Q _ => ∃ (a : Addr) (xs : List V), vs = [.ref a] ∧ Tq H a xs ∧ ∀ H', Same H H' → Q .non H'
def sp_need_word : Sp := fun vs H Q _ => ∃ n b : Nat, vs = [vN n, vN b] ∧ blen n ≤ b ∧ Q .non H
def sp_need_words : Sp := fun vs H Q _ => ∃ (a : Addr) (ns : List Nat) (b : Nat), vs = [.ref a, vN b] ∧ Tq H a (ns.map vN) ∧ (∀ n ∈ ns, blen n ≤ b) ∧ ∀ H' p, Same H H' → H p = none → H' p = some (.lst (ns.map vN)) → Q (.ref p) H'
theorem ok_is_whole {P : Program} {w : World} {K : PySem.W.Frag} {mg : Str → Option Value} {base : Heap} {f : Addr} {fd : FuncData} (T : Bt mg) (F : FnP K "is_whole" "is_whole" s_is_whole f fd) : FnOk P w K mg base CX0 1 f fd ["value"] sp_is_whole := by
  have nd := sc_is_whole.nd
  refine fnok F sc_is_whole (fun vs H Q E h => ?_) (fun cdv A outer s H vs Q E hr h => ?_)
  · obtain ⟨n, rfl, _⟩ := h
    rfl
  · obtain ⟨n, rfl, k⟩ := h
    refine ⟨_, (pss_one (ps_ret (pe_and (pe_callB call_isi (by rfl) T.isinstance (by decide +kernel) (pa_cons (pv 0) (pa_cons (pe_bltn (v := .ty "int") (by rfl) T.int (by decide +kernel) rfl) pa_nil))) (pe_and (pe_not (pe_callB call_isi (by rfl) T.isinstance (by decide +kernel) (pa_cons (pv 0) (pa_cons (pe_bltn (v := .ty "bool") (by rfl) T.bool (by decide +kernel) rfl) pa_nil)))) (pe_one (pe_cmpR op_ge (pv 0) pe_int (nomark _))))))), ?_⟩
    refine ⟨_, rfl, _, _, _, _, _, rfl, .ty _, .base (.int _), kit_ty (r := true) (by decide +kernel), _, rfl, iteT ?_⟩
    refine ⟨_, rfl, _, _, _, _, _, rfl, .ty _, .base (.int _), kit_ty (r := false) (by decide +kernel), _, rfl, _, rfl, iteT ?_⟩
    refine ⟨_, rfl, _, _, rfl, rfl, ?_⟩
    have e : decide ((0 : Int) ≤ (n : Int)) = true := decide_eq_true (by omega)
    show Q (.bl (decide ((0 : Int) ≤ (n : Int)))) H
    rw [e]
    exact k
theorem ok_need_whole {P : Program} {w : World} {K : PySem.W.Frag} {mg : Str → Option Value} {base : Heap} {f : Addr} {fd : FuncData} (T : Bt mg) (F : FnP K "need_whole" "need_whole" s_need_whole f fd) (D_is_whole : Dn P w K mg base 1 "is_whole" ["value"] sp_is_whole) : FnOk P w K mg base CX0 2 f fd ["value"] sp_need_whole := by
  have nd := sc_need_whole.nd
  refine fnok F sc_need_whole (fun vs H Q E h => ?_) (fun cdv A outer s H vs Q E hr h => ?_)
  · obtain ⟨n, rfl, _⟩ := h
    rfl
  · obtain ⟨n, rfl, k⟩ := h
    refine ⟨_, (pss_one (ps_if (pt_not (pt_val (pe_d D_is_whole hr (pa_cons (pv 0) pa_nil))))
      (pss_one ps_never)
      pss_nil)), ?_⟩
    exact ⟨_, rfl, n, rfl, _, rfl, iteF k⟩
theorem ok_need_items {P : Program} {w : World} {K : PySem.W.Frag} {mg : Str → Option Value} {base : Heap} {f : Addr} {fd : FuncData} (T : Bt mg) (F : FnP K "need_items" "need_items" s_need_items f fd) : FnOk P w K mg base CX0 1 f fd ["value"] sp_need_items := by
  have nd := sc_need_items.nd
  refine fnok F sc_need_items (fun vs H Q E h => ?_) (fun cdv A outer s H vs Q E hr h => ?_)
  · obtain ⟨a, xs, rfl, _⟩ := h
    rfl
  · obtain ⟨a, xs, rfl, hS, k⟩ := h
    refine ⟨_, (pss_one (ps_if (pt_not (pt_val (pe_callB call_isiT (by rfl) T.isinstance (by decide +kernel) (pa_cons (pv 0) (pa_cons (pe_tup (pa_cons (pe_bltn (v := .ty "list") (by rfl) T.list (by decide +kernel) rfl) (pa_cons (pe_bltn (v := .ty "tuple") (by rfl) T.tuple (by decide +kernel) rfl) pa_nil))) pa_nil)))))
      (pss_one ps_never)
      pss_nil)), ?_⟩
    refine ⟨_, rfl, (by show 2 ≤ sizeLine; decide), fun p hp => ?_⟩
    obtain ⟨t, ht, hk⟩ := (hS.new (o := .tup [.ty "list", .ty "tuple"]) hp).ty (K := K)
    refine ⟨_, _, _, _, _, _, rfl, upd_same, .cons (.ty _) (.cons (.ty _) .nil), ht, hk, _, rfl, iteF ?_⟩
    exact k _ (same_new0 hp)
theorem ok_need_word {P : Program} {w : World} {K : PySem.W.Frag} {mg : Str → Option Value} {base : Heap} {f : Addr} {fd : FuncData} (T : Bt mg) (F : FnP K "need_word" "need_word" s_need_word f fd) (D_is_whole : Dn P w K mg base 1 "is_whole" ["value"] sp_is_whole) : FnOk P w K mg base CX0 2 f fd ["value", "bits"] sp_need_word := by
  have nd := sc_need_word.nd
  refine fnok F sc_need_word (fun vs H Q E h => ?_) (fun cdv A outer s H vs Q E hr h => ?_)
  · obtain ⟨n, b, rfl, _⟩ := h
    rfl
  · obtain ⟨n, b, rfl, hb, k⟩ := h
    refine ⟨_, (pss_one (ps_if (PW.pt (pw_or (pt_not (pt_val (pe_d D_is_whole hr (pa_cons (pv 0) pa_nil)))) (pw_or1 (pt_cmpR op_gt (pe_bits (pv 0)) (pv 1) (nomark _)))))
      (pss_one ps_never)
      pss_nil)), ?_⟩
    refine ⟨_, rfl, n, rfl, _, rfl, iteF ?_⟩
    refine ⟨_, rfl, _, rfl, _, rfl, _, _, rfl, rfl, _, rfl, ?_⟩
    rw [blen_bits]
    have e : decide ((b : Int) < (blen n : Int)) = false := decide_eq_false (by omega)
    rw [e]
    exact iteF k
theorem ok_need_words {P : Program} {w : World} {K : PySem.W.Frag} {mg : Str → Option Value} {base : Heap} {f : Addr} {fd : FuncData} (T : Bt mg) (F : FnP K "need_words" "need_words" s_need_words f fd) (D_need_items : Dn P w K mg base 1 "need_items" ["value"] sp_need_items) (D_need_word : Dn P w K mg base 2 "need_word" ["value", "bits"] sp_need_word) :
    FnOk P w K mg base CX0 3 f fd ["values", "bits"] sp_need_words := by
  have nd := sc_need_words.nd
  refine fnok F sc_need_words (fun vs H Q E h => ?_) (fun cdv A outer s H vs Q E hr h => ?_)
  · obtain ⟨a, ns, b, rfl, _⟩ := h
    rfl
  · obtain ⟨a, ns, b, rfl, hS, hb, k⟩ := h
    refine ⟨_, (pss_cons (ps_expr (pe_d D_need_items hr (pa_cons (pv 0) pa_nil)))
      (pss_cons (ps_for PassesOwn.never rfl (pi_seq (pv 0)) (pg_name (i := 2) nd rfl (Or.inl rfl))
        (pss_one (ps_expr (pe_d D_need_word hr (pa_cons (pv 2) (pa_cons (pv 1) pa_nil))))))
      (pss_one (ps_ret (pe_callTy call_listQ (by rfl) T.list (by decide +kernel) (pa_cons (pv 0) pa_nil)))))), ?_⟩
    refine ⟨_, rfl, a, _, rfl, hS, fun H1 s1 => ?_⟩
    refine ⟨_, rfl, for_seq (K := K) (same_tq s1 hS).sq (fun i σ H2 => ∃ v, σ = [some (.ref a), some (vN b), v] ∧ H2 = H1) ⟨none, rfl, rfl⟩ (fun i σ H2 hp => by obtain ⟨_, _, rfl⟩ := hp; exact Kp.refl _) ?_ ?_⟩
    · rintro i x σ H2 hx ⟨v, rfl, rfl⟩
      obtain ⟨n, hn, rfl⟩ := map_get hx
      exact ⟨_, rfl, _, rfl, n, b, rfl, hb n (List.mem_of_getElem? hn), _, rfl, rfl⟩
    · rintro σ H2 ⟨v, rfl, rfl⟩
      refine ⟨_, rfl, a, _, rfl, (same_tq s1 hS), fun l hl => ?_⟩
      exact k _ _ (same_new s1 hl) (same_free s1 hl) upd_same
end LaneX
set_option Elab.async false
set_option linter.all false
set_option maxRecDepth 100000
set_option maxHeartbeats 4000000
namespace LaneX
open PySem PySem.Spec PyProof.Rows L2
theorem dec_int {a b : Int} : decide (V.int a = V.int b) = decide (a = b) := by
  by_cases h : a = b
  · subst h; simp
  · rw [decide_eq_false h, decide_eq_false (fun e => h (by cases e; rfl))]
theorem dec_nat {a b : Nat} : decide (V.int (a : Int) = V.int (b : Int)) = decide (a = b) := by
  rw [dec_int]
  by_cases h : a = b
  · subst h; simp
  · rw [decide_eq_false h, decide_eq_false (by omega)]
theorem clr_snoc (a : List Nat) (r w : Nat) : clr (a ++ [r]) w = if (clr a w).testBit (blen r - 1) = true then clr a w ^^^ r else clr a w := clr_append a [r] w
theorem dec_zero {n : Nat} (h : decide (V.int (n : Int) = V.int 0) = true) : n = 0 := by
  rw [show (V.int 0 : V) = V.int ((0 : Nat) : Int) from rfl, dec_nat] at h
  exact of_decide_eq_true h
theorem dec_nz {n : Nat} (h : decide (V.int (n : Int) = V.int 0) = false) : n ≠ 0 := by
  rw [show (V.int 0 : V) = V.int ((0 : Nat) : Int) from rfl, dec_nat] at h
  exact of_decide_eq_false h
theorem dec_bit (n b : Nat) : decide (V.int ((n >>> b &&& 1 : Nat) : Int) = V.int 1) = n.testBit b := by
  rw [show (V.int 1 : V) = V.int ((1 : Nat) : Int) from rfl, dec_nat]
  cases q : n.testBit b with
  | true => exact decide_eq_true ((shr_and_one _ _).mpr q)
  | false => exact decide_eq_false fun z => by rw [(shr_and_one _ _).mp z] at q; cases q
theorem size6'' {n : Nat} (h : n ≤ 1000000) : n + 1 ≤ sizeLine := by rw [sizeLine_eq]; omega
def sp_spanned : Sp := fun vs H Q _ => ∃ (a : Addr) (ws : List Nat), vs = [.ref a] ∧ Tq H a (ws.map vN) ∧ ws.length ≤ 1000000 ∧
  ∀ H' p, Same H H' → H p = none → H' p = some (.lst ((spn ws).map vN)) → Q (.ref p) H'
def sp_cleared : Sp := fun vs H Q _ => ∃ (a : Addr) (rows : List Nat) (x : Nat), vs = [.ref a, vN x] ∧ Tq H a (rows.map vN) ∧ (∀ r ∈ rows, r ≠ 0) ∧ Q (vN (clr rows x)) H
def sp_grown : Sp := fun vs H Q _ => ∃ (a : Addr) (rows : List Nat) (x : Nat), vs = [.ref a, vN x] ∧ Tq H a (rows.map vN) ∧ (∀ r ∈ rows, r ≠ 0) ∧ rows.length ≤ 1000000 ∧
  ∀ H' p, Same H H' → H p = none → H' p = some (.lst ((grw rows x).map vN)) → Q (.ref p) H'
section
variable {P : Program} {w : World} {K : PySem.W.Frag} {mg : Str → Option Value} {base : Heap} {f : Addr} {fd : FuncData} (T : Bt mg)
include T
theorem ok_cleared (F : FnP K "cleared" "cleared" s_cleared f fd) : FnOk P w K mg base CX0 1 f fd ["rows", "word"] sp_cleared := by
  have nd := sc_cleared.nd
  refine fnok F sc_cleared (fun vs H Q E h => ?_) (fun cdv A outer s H vs Q E hr h => ?_)
  · obtain ⟨a, rows, x, rfl, _⟩ := h
    rfl
  · obtain ⟨a, rows, x, rfl, hS, hn, k⟩ := h
    refine ⟨_, (pss_cons (ps_set (i := 2) nd rfl (Or.inl rfl) (pv 1))
      (pss_cons (ps_for PassesOwn.never rfl (pi_seq (pv 0)) (pg_name (i := 3) nd rfl (Or.inl rfl))
        (pss_one (ps_if (pt_cmpR op_eq (pe_op on_and (pe_op on_shr (pv 2) (pe_op on_sub (pe_bits (pv 3)) pe_int)) pe_int) pe_int (nomark _))
          (pss_one (ps_set (i := 2) nd rfl (Or.inl rfl) (pe_op on_xor (pv 2) (pv 3))))
          pss_nil)))
      (pss_one (ps_ret (pv 2))))), ?_⟩
    refine ⟨_, rfl, _, rfl, for_seq (K := K) hS.sq (fun i σ H2 => ∃ v, σ = [some (.ref a), some (vN x), some (vN (clr (rows.take i) x)), v] ∧ H2 = H) ⟨none, rfl, rfl⟩ (fun i σ H2 hp => by obtain ⟨_, _, rfl⟩ := hp; exact Kp.refl _) ?_ ?_⟩
    · rintro i y σ H2 hy ⟨v, rfl, rfl⟩
      obtain ⟨r, hr', rfl⟩ := map_get hy
      have rn := hn r (List.mem_of_getElem? hr')
      have rb := blen_pos rn
      refine ⟨_, rfl, _, rfl, _, rfl, _, 1, rfl, rfl, (by show 1 ≤ Builtin.Int.intBits (r : Int); rw [blen_bits]; exact rb), _, _, rfl, rfl, _, 1, rfl, rfl, rfl, _, rfl, ?_⟩
      rw [take_succ hr', clr_snoc]
      rw [blen_bits]
      have e : decide (V.int ((clr (rows.take i) x >>> (blen r - 1) &&& 1 : Nat) : Int) = V.int 1) = (clr (rows.take i) x).testBit (blen r - 1) := by
        rw [show (V.int 1 : V) = V.int ((1 : Nat) : Int) from rfl, dec_nat]
        cases q : (clr (rows.take i) x).testBit (blen r - 1) with
        | true => exact decide_eq_true ((shr_and_one _ _).mpr q)
        | false => exact decide_eq_false fun z => by rw [(shr_and_one _ _).mp z] at q; cases q
      rw [e]
      cases q : (clr (rows.take i) x).testBit (blen r - 1) with
      | true => exact iteT ⟨_, rfl, _, rfl, _, _, rfl, rfl, _, rfl, rfl⟩
      | false => exact iteF ⟨_, rfl, rfl⟩
    · rintro σ H2 ⟨v, rfl, rfl⟩
      refine ⟨_, rfl, ?_⟩
      rw [List.length_map, List.take_length]
      exact k
theorem ok_grown (F : FnP K "grown" "grown" s_grown f fd) (D_cleared : Dn P w K mg base 1 "cleared" ["rows", "word"] sp_cleared) : FnOk P w K mg base CX0 2 f fd ["rows", "word"] sp_grown := by
  have nd := sc_grown.nd
  refine fnok F sc_grown (fun vs H Q E h => ?_) (fun cdv A outer s H vs Q E hr h => ?_)
  · obtain ⟨a, rows, x, rfl, _⟩ := h
    rfl
  · obtain ⟨a, rows, x, rfl, hS, hn, hl, k⟩ := h
    refine ⟨_, (pss_cons (ps_set (i := 2) nd rfl (Or.inr rfl) (pe_d D_cleared hr (pa_cons (pv 0) (pa_cons (pv 1) pa_nil))))
  (pss_cons (ps_if (pt_cmpR op_eq (pv 2) pe_int (nomark _))
    (pss_one (ps_ret (pe_callTy call_listQ (by rfl) T.list (by decide +kernel) (pa_cons (pv 0) pa_nil))))
    pss_nil)
  (pss_cons (ps_set (i := 3) nd rfl (Or.inr rfl) (pe_op on_sub (pe_bits (pv 2)) pe_int))
  (pss_one (ps_ret (pe_callB cr_sortedN (by rfl) T.sorted (by decide +kernel) (pa_cons (pe_op op_cat (pe_lc (own := [("row", 4)]) (g := gName 4) (by rfl) nd (pi_seq (pv 0)) (blkOk_by (own := [("row", 4)]) (N := ["rows", "word", "left", "top", "row"]) (sc := defScope s_grown) (by decide +kernel)) (fun _ _ _ _ _ => (pg_name (i := 4) nd rfl (Or.inl rfl))) (fun _ _ _ _ _ => pts_nil) (fun _ _ _ _ _ => (pe_ifExp (pt_cmpR op_eq (pe_op on_and (pe_op on_shr (pv 4) (pv 3)) pe_int) pe_int (nomark _)) (pe_op on_xor (pv 4) (pv 2)) (pv 4)))) (pe_lst (pa_cons (pv 2) pa_nil))) pa_nil))))))), ?_⟩
    refine ⟨_, rfl, _, rfl, a, rows, x, rfl, hS, hn, ?_⟩
    refine ⟨_, rfl, rfl, _, rfl, ?_⟩
    refine br (fun e => ?_) (fun e => ?_)
    · have e0 : clr rows x = 0 := dec_zero e
      refine ⟨_, rfl, a, _, rfl, hS, fun l hl' => ?_⟩
      refine k _ _ (same_new0 hl') hl' ?_
      rw [grw_eq, if_pos e0]
      exact upd_same
    · have e0 : clr rows x ≠ 0 := dec_nz e
      have eb := blen_pos e0
      refine ⟨_, rfl, _, rfl, _, 1, rfl, rfl, (by show 1 ≤ Builtin.Int.intBits (clr rows x : Int); rw [blen_bits]; exact eb), ?_⟩
      refine ⟨_, rfl, lc_pure rows vN (fun _ => true) (fun r => vN (chg (clr rows x) r)) hS hl (fun n H' hn' s => ?_) (fun D H1 hD s1 h1 => ?_)⟩
      · intro Z Nx h1 h2
        refine ⟨rfl, _, rfl, _, rfl, _, _, rfl, rfl, _, 1, rfl, rfl, rfl, _, rfl, ?_⟩
        rw [blen_bits, dec_bit]
        have z := h1 rfl H' (Same.refl H')
        unfold chg at z
        cases q : n.testBit (blen (clr rows x) - 1) with
        | true =>
          rw [q] at z
          exact iteT ⟨_, rfl, _, rfl, _, _, rfl, rfl, z⟩
        | false =>
          rw [q] at z
          exact iteF ⟨_, rfl, z⟩
      · rw [List.filter_eq_self.mpr (fun _ _ => rfl)] at h1
        refine ⟨_, rfl, (by show 1 ≤ sizeLine; decide), fun l hl' => ?_⟩
        refine ⟨_, _, _, _, rfl, rfl, upd_new hl' h1, upd_same, (by show (rows.map _).length + 1 ≤ _; rw [List.length_map]; exact size6'' hl), fun q hq => ?_⟩
        refine ⟨q, rows.map (chg (clr rows x)) ++ [clr rows x], rfl, ?_, fun p hp => ?_⟩
        · rw [upd_same]
          simp [List.map_append]
        · have s3 := same_new (o := .lst [vN (clr rows x)]) s1 hl'
          have s4 := same_new (o := .lst (rows.map (fun r => vN (chg (clr rows x) r)) ++ [vN (clr rows x)])) s3 hq
          refine k _ _ (same_new s4 hp) (same_free s4 hp) ?_
          rw [upd_same, grw_eq, if_neg e0]
theorem ok_spanned (F : FnP K "spanned" "spanned" s_spanned f fd) (D_grown : Dn P w K mg base 2 "grown" ["rows", "word"] sp_grown) : FnOk P w K mg base CX0 3 f fd ["words"] sp_spanned := by
  have nd := sc_spanned.nd
  refine fnok F sc_spanned (fun vs H Q E h => ?_) (fun cdv A outer s H vs Q E hr h => ?_)
  · obtain ⟨a, ws, rfl, _⟩ := h
    rfl
  · obtain ⟨a, ws, rfl, hS, hl, k⟩ := h
    refine ⟨_, (pss_cons (ps_set (i := 1) nd rfl (Or.inl rfl) (pe_lst pa_nil))
      (pss_cons (ps_for PassesOwn.never rfl (pi_seq (pv 0)) (pg_name (i := 2) nd rfl (Or.inl rfl))
        (pss_one (ps_set (i := 1) nd rfl (Or.inl rfl) (pe_d D_grown hr (pa_cons (pv 1) (pa_cons (pv 2) pa_nil))))))
      (pss_one (ps_ret (pv 1))))), ?_⟩
    refine ⟨(by show 0 ≤ sizeLine; decide), fun l0 hl0 => ?_⟩
    have s0 : Same H (upd H l0 (.lst [])) := same_new0 hl0
    refine ⟨_, rfl, for_seq (K := K) (same_tq s0 hS).sq (fun i σ H2 => ∃ v l, σ = [some (.ref a), some (.ref l), v] ∧ Same (upd H l0 (.lst [])) H2 ∧ H l = none ∧ H2 l = some (.lst ((spn (ws.take i)).map vN))) ⟨none, l0, rfl, Same.refl _, hl0, upd_same⟩ (fun i σ H2 hp => ?_) ?_ ?_⟩
    · obtain ⟨_, l, _, s2, hn, h2⟩ := hp
      exact Kp.of s2
    · rintro i y σ H2 hy ⟨v, l, rfl, s2, hn, h2⟩
      obtain ⟨r, hr', rfl⟩ := map_get hy
      refine ⟨_, rfl, _, rfl, l, _, r, rfl, .inl h2, (spn_rws _).nz, Nat.le_trans (spn_len _) (Nat.le_trans (by rw [List.length_take]; omega) hl), fun H3 p s3 hp h3 => ?_⟩
      refine ⟨_, p, rfl, s2.trans s3, same_free s0 (same_free s2 hp), ?_⟩
      rw [take_succ hr', spn_append]
      exact h3
    · rintro σ H2 ⟨v, l, rfl, s2, hn, h2⟩
      rw [List.length_map, List.take_length] at h2
      exact ⟨_, rfl, k _ _ (s0.trans s2) hn h2⟩
end
end LaneX
set_option Elab.async false
set_option linter.all false
set_option maxRecDepth 100000
set_option maxHeartbeats 4000000
namespace LaneX
open PySem PySem.Spec PyProof.Rows L2
def sp_paired : Sp := fun vs H Q _ => ∃ (a : Addr) (cs : List Nat), vs = [.ref a] ∧ Tq H a (cs.map vN) ∧ cs.length ≤ 1000000 ∧ (∀ c ∈ cs, blen c ≤ 1000000) ∧
  ∀ H' p, Same H H' → H p = none → H' p = some (.lst ((prd cs).map vN)) → Q (.ref p) H'
def sp_kernel_rows : Sp := fun vs H Q _ => ∃ (a : Addr) (cs : List Nat), vs = [.ref a] ∧ Tq H a (cs.map vN) ∧ cs.length ≤ 1000000 ∧ (∀ c ∈ cs, blen c ≤ 1000000) ∧
  ∀ H' p, Same H H' → H p = none → H' p = some (.lst ((ker cs).map vN)) → Q (.ref p) H'
def sp_met : Sp := fun vs H Q _ => ∃ (b : Nat) (a c : Addr) (rs os : List Nat), vs = [vN b, .ref a, .ref c] ∧ Tq H a (rs.map vN) ∧ Tq H c (os.map vN) ∧ b ≤ 1000000 ∧ rs.length ≤ 400000 ∧ os.length ≤ 400000 ∧ (∀ r ∈ rs, blen r ≤ 1000000) ∧ (∀ r ∈ os, blen r ≤ 1000000) ∧
  ∀ H' p, Same H H' → H p = none → H' p = some (.lst ((mtd b rs os).map vN)) → Q (.ref p) H'
theorem shl_ok1 {n m : Nat} (h1 : blen n ≤ 1000000) (h2 : m ≤ 1000000) : CShN n m := by unfold CShN; omega
theorem blen_one : blen 1 = 1 := by decide
theorem dec_le (a b : Nat) : decide ((a : Int) ≤ (b : Int)) = decide (a ≤ b) := by
  by_cases h : a ≤ b
  · rw [decide_eq_true h, decide_eq_true (by omega)]
  · rw [decide_eq_false h, decide_eq_false (by omega)]
theorem filt_true {α : Type} (l : List α) : l.filter (fun _ => true) = l := List.filter_eq_self.mpr fun _ _ => rfl
section
variable {P : Program} {w : World} {K : PySem.W.Frag} {mg : Str → Option Value} {base : Heap} {f : Addr} {fd : FuncData} (T : Bt mg)
include T
theorem ok_paired (F : FnP K "paired" "paired" s_paired f fd) (D_spanned : Dn P w K mg base 3 "spanned" ["words"] sp_spanned) : FnOk P w K mg base CX0 4 f fd ["columns"] sp_paired := by
  have nd := sc_paired.nd
  refine fnok F sc_paired (fun vs H Q E h => ?_) (fun cdv A outer s H vs Q E hr h => ?_)
  · obtain ⟨a, cs, rfl, _⟩ := h
    rfl
  · obtain ⟨a, cs, rfl, hS, hl, hc, k⟩ := h
    refine ⟨_, (pss_cons (ps_set (i := 1) nd rfl (Or.inr rfl) (pe_callB call_lenQ (by rfl) T.len PySem.boot_len (pa_cons (pv 0) pa_nil)))
  (pss_one (ps_ret (pe_d D_spanned hr (pa_cons (pe_lc (own := [("bit", 2)]) (g := gName 2) (by rfl) nd (pi_range1 (by rfl) T.range (pa_cons (pv 1) pa_nil)) (blkOk_by (own := [("bit", 2)]) (N := ["columns", "source", "bit"]) (sc := defScope s_paired) (by decide +kernel)) (fun _ _ _ _ _ => (pg_name (i := 2) nd rfl (Or.inl rfl))) (fun _ _ _ _ _ => pts_nil) (fun _ _ _ _ _ => (pe_op on_add (pe_op on_shl (pe_ix ix_q (pv 0) (pv 2) (fun _ _ => rfl)) (pv 1)) (pe_op on_shl pe_int (pv 2))))) pa_nil))))), ?_⟩
    refine ⟨_, rfl, a, _, rfl, hS, _, rfl, _, rfl, (by omega), (by rw [List.length_map]; omega), lc_pureR (n := (cs.map vN).length) (fun _ => true) (fun i => vN ((cs.getD i 0 <<< cs.length) + (1 <<< i))) (by rw [List.length_map]; exact hl) (fun i H' hi s => ?_) (fun D H1 hD s1 h1 => ?_)⟩
    · intro Z Nx h1 h2
      rw [List.length_map] at hi
      have hg : (cs.map vN)[i]? = some (vN (cs.getD i 0)) := by
        rw [List.getElem?_map, List.getElem?_eq_getElem hi, List.getD_eq_getElem?_getD, List.getElem?_eq_getElem hi]
        rfl
      have hm : cs.getD i 0 ∈ cs := by
        rw [List.getD_eq_getElem?_getD, List.getElem?_eq_getElem hi]
        exact List.getElem_mem hi
      have z := h1 rfl H' (Same.refl H')
      rw [← List.length_map (f := vN)] at z
      exact ⟨rfl, _, rfl, _, rfl, a, _, i, _, rfl, rfl, same_tq s hS, hg, _, rfl, _, _, rfl, rfl, shl_ok1 (hc _ hm) (by rw [List.length_map]; exact hl), _, rfl, 1, _, rfl, rfl, shl_ok1 (by rw [blen_one]; decide) (by omega), _, _, rfl, rfl, z⟩
    · rw [filt_true, List.length_map] at h1
      refine ⟨D, prs cs, rfl, .inl ?_, by simp [prs]; omega, fun H2 p s2 hp h2 => k _ _ (s1.trans s2) (same_free s1 hp) h2⟩
      rw [h1]
      simp [prs]
theorem ok_kernel_rows (F : FnP K "kernel_rows" "kernel_rows" s_kernel_rows f fd) (D_paired : Dn P w K mg base 4 "paired" ["columns"] sp_paired) : FnOk P w K mg base CX0 5 f fd ["columns"] sp_kernel_rows := by
  have nd := sc_kernel_rows.nd
  refine fnok F sc_kernel_rows (fun vs H Q E h => ?_) (fun cdv A outer s H vs Q E hr h => ?_)
  · obtain ⟨a, cs, rfl, _⟩ := h
    rfl
  · obtain ⟨a, cs, rfl, hS, hl, hc, k⟩ := h
    refine ⟨_, (pss_one (ps_ret (pe_lc (own := [("row", 1)]) (g := gName 1) (by rfl) nd (pi_seq (pe_d D_paired hr (pa_cons (pv 0) pa_nil))) (blkOk_by (own := [("row", 1)]) (N := ["columns", "row"]) (sc := defScope s_kernel_rows) (by decide +kernel)) (fun _ _ _ _ _ => (pg_name (i := 1) nd rfl (Or.inl rfl))) (fun _ _ _ _ _ => (pts_one (pt_cmpR op_le (pe_bits (pv 1)) (pe_callB call_lenQ (by rfl) T.len PySem.boot_len (pa_cons (pv 0) pa_nil)) (nomark _)))) (fun _ _ _ _ _ => (pv 1))))), ?_⟩
    refine ⟨_, rfl, a, cs, rfl, hS, hl, hc, fun H1 p s1 hp h1 => ?_⟩
    have hlp : (prd cs).length ≤ 1000000 := Nat.le_trans (spn_len _) (by simp [prs]; exact hl)
    refine lc_pure (prd cs) vN (fun r => decide (blen r ≤ cs.length)) vN (.inl h1) hlp (fun n H' hn s => ?_) (fun D H2 hD s2 h2 => ?_)
    · intro Z Nx z1 z2
      refine ⟨rfl, _, rfl, _, rfl, _, rfl, a, _, rfl, (same_tq (s1.trans s) hS), _, _, rfl, rfl, _, rfl, ?_⟩
      rw [blen_bits, List.length_map, dec_le]
      exact br (fun e => ⟨_, rfl, z1 e _ (Same.refl _)⟩) (fun e => z2 e _ (Same.refl _))
    · exact k _ _ (s1.trans s2) (same_free s1 hD) h2
theorem ok_met (F : FnP K "met" "met" s_met f fd) (D_spanned : Dn P w K mg base 3 "spanned" ["words"] sp_spanned) : FnOk P w K mg base CX0 4 f fd ["bits", "rows", "others"] sp_met := by
  have nd := sc_met.nd
  refine fnok F sc_met (fun vs H Q E h => ?_) (fun cdv A outer s H vs Q E hr h => ?_)
  · obtain ⟨b, a, c, rs, os, rfl, _⟩ := h
    rfl
  · obtain ⟨b, a, c, rs, os, rfl, hA, hC, hb, hl1, hl2, hr1, hr2, k⟩ := h
    refine ⟨_, (pss_cons (ps_set (i := 3) nd rfl (Or.inl rfl) (pe_op op_cat (pe_lc (own := [("row", 4)]) (g := gName 4) (by rfl) nd (pi_seq (pv 1)) (blkOk_by (own := [("row", 4)]) (N := ["bits", "rows", "others", "both", "row"]) (sc := defScope s_met) (by decide +kernel)) (fun _ _ _ _ _ => (pg_name (i := 4) nd rfl (Or.inl rfl))) (fun _ _ _ _ _ => pts_nil) (fun _ _ _ _ _ => (pe_op on_add (pe_op on_shl (pv 4) (pv 0)) (pv 4)))) (pe_lc (own := [("row", 4)]) (g := gName 4) (by rfl) nd (pi_seq (pv 2)) (blkOk_by (own := [("row", 4)]) (N := ["bits", "rows", "others", "both", "row"]) (sc := defScope s_met) (by decide +kernel)) (fun _ _ _ _ _ => (pg_name (i := 4) nd rfl (Or.inl rfl))) (fun _ _ _ _ _ => pts_nil) (fun _ _ _ _ _ => (pe_op on_shl (pv 4) (pv 0))))))
  (pss_one (ps_ret (pe_lc (own := [("row", 4)]) (g := gName 4) (by rfl) nd (pi_seq (pe_d D_spanned hr (pa_cons (pv 3) pa_nil))) (blkOk_by (own := [("row", 4)]) (N := ["bits", "rows", "others", "both", "row"]) (sc := defScope s_met) (by decide +kernel)) (fun _ _ _ _ _ => (pg_name (i := 4) nd rfl (Or.inl rfl))) (fun _ _ _ _ _ => (pts_one (pt_cmpR op_le (pe_bits (pv 4)) (pv 0) (nomark _)))) (fun _ _ _ _ _ => (pv 4)))))), ?_⟩
    refine ⟨_, rfl, lc_pure rs vN (fun _ => true) (fun r => vN ((r <<< b) + r)) hA (by omega) (fun n H' hn s => ?_) (fun D1 H1 hD1 s1 h1 => ?_)⟩
    · intro Z Nx z1 z2
      exact ⟨rfl, _, rfl, _, rfl, _, _, rfl, rfl, shl_ok1 (hr1 n hn) hb, _, rfl, _, _, rfl, rfl, z1 rfl _ (Same.refl _)⟩
    · rw [filt_true] at h1
      refine ⟨_, rfl, lc_pure os vN (fun _ => true) (fun r => vN (r <<< b)) (same_tq s1 hC) (by omega) (fun n H' hn s => ?_) (fun D2 H2 hD2 s2 h2 => ?_)⟩
      · intro Z Nx z1 z2
        exact ⟨rfl, _, rfl, _, rfl, _, _, rfl, rfl, shl_ok1 (hr2 n hn) hb, z1 rfl _ (Same.refl _)⟩
      · rw [filt_true] at h2
        refine ⟨_, _, _, _, rfl, rfl, s2 _ _ h1, h2, (by rw [List.length_map, List.length_map, sizeLine_eq]; omega), fun q hq => ?_⟩
        have s3 := same_new (o := .lst (rs.map (fun r => vN ((r <<< b) + r)) ++ os.map (fun r => vN (r <<< b)))) (s1.trans s2) hq
        refine ⟨_, rfl, q, mts b rs os, rfl, .inl ?_, (by simp [mts]; omega), fun H3 p s4 hp h3 => ?_⟩
        · rw [upd_same]
          simp [mts]
          rfl
        · have hlp : (spn (mts b rs os)).length ≤ 1000000 := Nat.le_trans (spn_len _) (by simp [mts]; omega)
          refine lc_pure (spn (mts b rs os)) vN (fun r => decide (blen r ≤ b)) vN (.inl h3) hlp (fun n H' hn s => ?_) (fun D H4 hD s5 h4 => ?_)
          · intro Z Nx z1 z2
            refine ⟨rfl, _, rfl, _, rfl, _, rfl, _, _, rfl, rfl, _, rfl, ?_⟩
            rw [blen_bits, dec_le]
            exact br (fun e => ⟨_, rfl, z1 e _ (Same.refl _)⟩) (fun e => z2 e _ (Same.refl _))
          · exact k _ _ ((s3.trans s4).trans s5) (same_free (s3.trans s4) hD) h4
end
end LaneX
set_option Elab.async false
set_option linter.all false
set_option maxRecDepth 100000
set_option maxHeartbeats 4000000
namespace LaneX
open PySem PySem.Spec PyProof.Rows L2
/-! ### objects -/
structure ObjT (K : PySem.W.Frag) (C : Addr) : Prop where
  cl : Cls K C
  ha : PySem.W.findIn K (.ref C) "__class__" = some (some (.builtin "object.__class__"))
  hn : PySem.W.specialIn K (.builtin "object.__class__") "__get__" = some (some (.builtin "getset_descriptor.__get__"))
  htk : PySem.W.takesIn K (.builtin "object.__class__") = some true
  hm : PySem.W.mroIn K C (.type "object") = some true
  me : PySem.W.kitOne K (.ref C) (.ref C) = some true
theorem ObjT.ty {K : PySem.W.Frag} {C : Addr} (T : ObjT K C) {H : Hp} {a dx : Addr} {fs : List (Str × V)} (e : H a = some (.ins C dx fs)) : TyX K H (.ref a) (.ref C) := .base (.ins e T.cl T.ha T.hn T.htk T.hm)
structure SpaceT (K : PySem.W.Frag) (mg : Str → Option Value) (C : Addr) : Prop extends ObjT K C where
  gl : mg "Space" = some (.ref C)
  nb : NoAttr K C "bits"
  nr : NoAttr K C "rows"
  nd : NoAttr K C "dimension"
structure SpreadT (K : PySem.W.Frag) (mg : Str → Option Value) (C : Addr) : Prop extends ObjT K C where
  gl : mg "Spread" = some (.ref C)
  nb : NoAttr K C "bits"
  ns : NoAttr K C "slots"
  nl : NoAttr K C "lanes"
def spf (b : Nat) (t : Addr) (d : Nat) : List (Str × V) := [("bits", vN b), ("rows", .ref t), ("dimension", vN d)]
def srf (b : Nat) (s l : Addr) : List (Str × V) := [("bits", vN b), ("slots", .ref s), ("lanes", .ref l)]
theorem spf_b (b : Nat) (t : Addr) (d : Nat) : (spf b t d).lookup ("bits" : Str) = some (vN b) := rfl
theorem spf_r (b : Nat) (t : Addr) (d : Nat) : (spf b t d).lookup ("rows" : Str) = some (.ref t) := rfl
theorem spf_d (b : Nat) (t : Addr) (d : Nat) : (spf b t d).lookup ("dimension" : Str) = some (vN d) := rfl
theorem srf_b (b : Nat) (t d : Addr) : (srf b t d).lookup ("bits" : Str) = some (vN b) := rfl
theorem srf_s (b : Nat) (t d : Addr) : (srf b t d).lookup ("slots" : Str) = some (.ref t) := rfl
theorem srf_l (b : Nat) (t d : Addr) : (srf b t d).lookup ("lanes" : Str) = some (.ref d) := rfl
theorem spf_p (b : Nat) (t : Addr) (d : Nat) : putF "dimension" (vN d) (putF "rows" (.ref t) (putF "bits" (vN b) [])) = spf b t d := rfl
theorem srf_p (b : Nat) (t d : Addr) : putF "lanes" (.ref d) (putF "slots" (.ref t) (putF "bits" (vN b) [])) = srf b t d := rfl
def SpaceAt (C : Addr) (H : Hp) (p : Addr) (b : Nat) (rows : List Nat) : Prop := ∃ dx t, H p = some (.ins C dx (spf b t rows.length)) ∧ H t = some (.tup (rows.map vN))
def SpreadAt (C : Addr) (H : Hp) (p : Addr) (b : Nat) (ss ls : List Nat) : Prop := ∃ dx s l, H p = some (.ins C dx (srf b s l)) ∧ H s = some (.tup (ss.map vN)) ∧ H l = some (.tup (ls.map vN))
theorem SpaceAt.same {C : Addr} {H H' : Hp} {p : Addr} {b : Nat} {rows : List Nat} (h : SpaceAt C H p b rows) (s : Same H H') : SpaceAt C H' p b rows := by
  obtain ⟨dx, t, h1, h2⟩ := h
  exact ⟨dx, t, s _ _ h1, s _ _ h2⟩
theorem SpaceAt.kp {C : Addr} {H H' : Hp} {p : Addr} {b : Nat} {rows : List Nat} (h : SpaceAt C H p b rows) (s : Kp H H') : SpaceAt C H' p b rows := by
  obtain ⟨dx, t, h1, h2⟩ := h
  exact ⟨dx, t, s _ _ h1 rfl, s _ _ h2 rfl⟩
theorem SpreadAt.same {C : Addr} {H H' : Hp} {p : Addr} {b : Nat} {ss ls : List Nat} (h : SpreadAt C H p b ss ls) (s : Same H H') : SpreadAt C H' p b ss ls := by
  obtain ⟨dx, a, l, h1, h2, h3⟩ := h
  exact ⟨dx, a, l, s _ _ h1, s _ _ h2, s _ _ h3⟩
theorem SpreadAt.kp {C : Addr} {H H' : Hp} {p : Addr} {b : Nat} {ss ls : List Nat} (h : SpreadAt C H p b ss ls) (s : Kp H H') : SpreadAt C H' p b ss ls := by
  obtain ⟨dx, a, l, h1, h2, h3⟩ := h
  exact ⟨dx, a, l, s _ _ h1 rfl, s _ _ h2 rfl, s _ _ h3 rfl⟩

/-- a new instance, filled -/
theorem made_same {H H1 : Hp} {x dx C : Addr} (nx : H x = none) (nd : H dx = none) (k : ∀ b o, (upd (upd H dx (.own x)) x (.ins C dx [])) b = some o → b ≠ x → H1 b = some o) : Same H H1 := Same.made nx nd k
def sp_Space (C : Addr) : Sp := fun vs H Q _ => ∃ (p dx : Addr) (b : Nat) (a : Addr) (ws : List Nat), vs = [.ref p, vN b, .ref a] ∧ H p = some (.ins C dx []) ∧ Tq H a (ws.map vN) ∧ (∀ x ∈ ws, blen x ≤ b) ∧ ws.length ≤ 1000000 ∧
  ∀ H', SpaceAt C H' p b (spn ws) → (∀ c o, H c = some o → c ≠ p → H' c = some o) → Q .non H'
def sp_Spread (C : Addr) : Sp := fun vs H Q _ => ∃ (p dx : Addr) (b : Nat) (a c : Addr) (ss ls : List Nat), vs = [.ref p, vN b, .ref a, .ref c] ∧ H p = some (.ins C dx []) ∧ Tq H a (ss.map vN) ∧ Tq H c (ls.map vN) ∧ (∀ x ∈ ss, blen x ≤ b) ∧ (∀ x ∈ ls, blen x ≤ b) ∧
  ss.length ≤ 400000 ∧ ls.length ≤ 400000 ∧ b ≤ rk (ss ++ ls) ∧ ∀ H', SpreadAt C H' p b ss ls → (∀ c o, H c = some o → c ≠ p → H' c = some o) → Q .non H'
def sp_need_space (C : Addr) : Sp := fun vs H Q _ => ∃ (p : Addr) (b : Nat) (rows : List Nat), vs = [.ref p, vN b] ∧ SpaceAt C H p b rows ∧ Q .non H
def sp_any_spread (C : Addr) : Sp := fun vs H Q _ => ∃ (p : Addr) (b : Nat) (ss ls : List Nat), vs = [.ref p] ∧ SpreadAt C H p b ss ls ∧ Q .non H
theorem upd_put {H : Hp} {p a : Addr} {o u : HO} (h : H a = some u) (n : a ≠ p) : upd H p o a = some u := (upd_ne n).trans h
section
variable {P : Program} {w : World} {K : PySem.W.Frag} {mg : Str → Option Value} {base : Heap} {f : Addr} {fd : FuncData} {CS CR : Addr} (T : Bt mg) (TS : SpaceT K mg CS) (TR : SpreadT K mg CR)
include T
include TS in
theorem ok_Space (F : FnP K "__init__" "Space.__init__" s_Space_init f fd) (D_need_whole : Dn P w K mg base 2 "need_whole" ["value"] sp_need_whole) (D_need_words : Dn P w K mg base 3 "need_words" ["values", "bits"] sp_need_words) (D_spanned : Dn P w K mg base 3 "spanned" ["words"] sp_spanned) :
    FnOk P w K mg base CX0 4 f fd ["self", "bits", "words"] (sp_Space CS) := by
  have nd := sc_Space_init.nd
  refine fnok F sc_Space_init (fun vs H Q E h => ?_) (fun cdv A outer s H vs Q E hr h => ?_)
  · obtain ⟨p, dx, b, a, ws, rfl, _⟩ := h
    rfl
  · obtain ⟨p, dx, b, a, ws, rfl, hp, hS, hb, hl, k⟩ := h
    refine ⟨_, (pss_cons (ps_expr (pe_d D_need_whole hr (pa_cons (pv 1) pa_nil)))
  (pss_cons (ps_fld (pv 0) (pv 1) rfl)
  (pss_cons (ps_fld (pv 0) (pe_callTy call_tupleQ (by rfl) T.tuple (by decide +kernel) (pa_cons (pe_d D_spanned hr (pa_cons (pe_d D_need_words hr (pa_cons (pv 2) (pa_cons (pv 1) pa_nil))) pa_nil)) pa_nil)) rfl)
  (pss_one (ps_fld (pv 0) (pe_callB call_lenQ (by rfl) T.len PySem.boot_len (pa_cons (pe_fld (pv 0) rfl) pa_nil)) rfl))))), ?_⟩
    have nap : a ≠ p := by
      rcases hS with h | h
      · exact ne_of h hp (by intro z; cases z)
      · exact ne_of h hp (by intro z; cases z)
    have hS1 : Tq (upd H p (.ins CS dx (putF "bits" (vN b) []))) a (ws.map vN) := hS.elim (fun h => .inl (upd_put h nap)) fun h => .inr (upd_put h nap)
    refine ⟨_, rfl, b, rfl, _, rfl, _, rfl, p, CS, dx, [], rfl, hp, TS.cl, TS.nb, (by decide), ?_⟩
    refine ⟨_, rfl, _, rfl, a, ws, b, rfl, hS1, hb, fun H1 q1 s1 hq1 h1 => ?_⟩
    refine ⟨q1, ws, rfl, .inl h1, hl, fun H2 q2 s2 hq2 h2 => ?_⟩
    refine ⟨q2, _, rfl, h2, fun t ht => ?_⟩
    have hpt : p ≠ t := ne_of_none (s2 _ _ (s1 _ _ upd_same)) ht
    have hp3 : upd H2 t (.tup ((spn ws).map vN)) p = some (.ins CS dx (putF "bits" (vN b) [])) := upd_put (s2 _ _ (s1 _ _ upd_same)) hpt
    refine ⟨_, rfl, p, CS, dx, _, rfl, hp3, TS.cl, TS.nr, (by show 1 < 1000; decide), ?_⟩
    refine ⟨_, rfl, p, CS, dx, _, .ref t, rfl, upd_same, TS.cl, TS.nr, rfl, t, _, rfl, .inr (upd_put upd_same hpt.symm), ?_⟩
    refine ⟨_, rfl, p, CS, dx, _, rfl, upd_same, TS.cl, TS.nd, (by show 2 < 1000; decide), ?_⟩
    refine k _ ⟨dx, t, ?_, upd_put (upd_put upd_same hpt.symm) hpt.symm⟩ fun c o hc hcp => ?_
    · rw [upd_same, List.length_map]
      rfl
    · have e1 : upd H p (.ins CS dx (putF "bits" (vN b) [])) c = some o := upd_put hc hcp
      have e2 := s2 _ _ (s1 _ _ e1)
      exact upd_put (upd_put (upd_put e2 (ne_of_none e2 ht)) hcp) hcp
include TR in
theorem ok_Spread (F : FnP K "__init__" "Spread.__init__" s_Spread_init f fd) (D_need_whole : Dn P w K mg base 2 "need_whole" ["value"] sp_need_whole) (D_need_words : Dn P w K mg base 3 "need_words" ["values", "bits"] sp_need_words) (D_spanned : Dn P w K mg base 3 "spanned" ["words"] sp_spanned) :
    FnOk P w K mg base CX0 4 f fd ["self", "bits", "slots", "lanes"] (sp_Spread CR) := by
  have nd := sc_Spread_init.nd
  refine fnok F sc_Spread_init (fun vs H Q E h => ?_) (fun cdv A outer s H vs Q E hr h => ?_)
  · obtain ⟨p, dx, b, a, c, ss, ls, rfl, _⟩ := h
    rfl
  · obtain ⟨p, dx, b, a, c, ss, ls, rfl, hp, hS, hL, hb1, hb2, hl1, hl2, hk, k⟩ := h
    refine ⟨_, (pss_cons (ps_expr (pe_d D_need_whole hr (pa_cons (pv 1) pa_nil)))
  (pss_cons (ps_fld (pv 0) (pv 1) rfl)
  (pss_cons (ps_fld (pv 0) (pe_callTy call_tupleQ (by rfl) T.tuple (by decide +kernel) (pa_cons (pe_d D_need_words hr (pa_cons (pv 2) (pa_cons (pv 1) pa_nil))) pa_nil)) rfl)
  (pss_cons (ps_fld (pv 0) (pe_callTy call_tupleQ (by rfl) T.tuple (by decide +kernel) (pa_cons (pe_d D_need_words hr (pa_cons (pv 3) (pa_cons (pv 1) pa_nil))) pa_nil)) rfl)
  (pss_cons (ps_set (i := 4) nd rfl (Or.inl rfl) (pe_d D_spanned hr (pa_cons (pe_op op_cat (pe_callTy call_listQ (by rfl) T.list (by decide +kernel) (pa_cons (pe_fld (pv 0) rfl) pa_nil)) (pe_callTy call_listQ (by rfl) T.list (by decide +kernel) (pa_cons (pe_fld (pv 0) rfl) pa_nil))) pa_nil)))
  (pss_one (ps_if (pt_cmpR op_lt (pe_callB call_lenQ (by rfl) T.len PySem.boot_len (pa_cons (pv 4) pa_nil)) (pv 1) (nomark _))
    (pss_one ps_never)
    pss_nil))))))), ?_⟩
    have tqp : ∀ {H0 : Hp} {o : HO} {d : Addr} {fs : List (Str × V)} {e : Addr} {xs : List V}, Tq H0 e xs → H0 p = some (.ins CR d fs) → Tq (upd H0 p o) e xs := fun {H0 o d fs e xs} h hp => by
      rcases h with h | h
      · exact .inl (upd_put h (ne_of h hp (by intro z; cases z)))
      · exact .inr (upd_put h (ne_of h hp (by intro z; cases z)))
    refine ⟨_, rfl, b, rfl, _, rfl, _, rfl, p, CR, dx, [], rfl, hp, TR.cl, TR.nb, (by decide), ?_⟩
    refine ⟨_, rfl, _, rfl, a, ss, b, rfl, tqp hS hp, hb1, fun H1 q1 s1 hq1 h1 => ?_⟩
    refine ⟨q1, _, rfl, h1, fun t ht => ?_⟩
    have hpt : p ≠ t := ne_of_none (s1 _ _ upd_same) ht
    have hp1 : upd H1 t (.tup (ss.map vN)) p = some (.ins CR dx (putF "bits" (vN b) [])) := upd_put (s1 _ _ upd_same) hpt
    refine ⟨_, rfl, p, CR, dx, _, rfl, hp1, TR.cl, TR.ns, (by show 1 < 1000; decide), ?_⟩
    refine ⟨_, rfl, _, rfl, c, ls, b, rfl, tqp (same_tq (same_new s1 ht) (tqp hL hp)) hp1, hb2, fun H2 q2 s2 hq2 h2 => ?_⟩
    refine ⟨q2, _, rfl, h2, fun u hu => ?_⟩
    have hpu : p ≠ u := ne_of_none (s2 _ _ upd_same) hu
    have htu : t ≠ u := ne_of_none (s2 _ _ (upd_put upd_same hpt.symm)) hu
    have hp2 : upd H2 u (.tup (ls.map vN)) p = some (.ins CR dx (putF "slots" (.ref t) (putF "bits" (vN b) []))) := upd_put (s2 _ _ upd_same) hpu
    refine ⟨_, rfl, p, CR, dx, _, rfl, hp2, TR.cl, TR.nl, (by show 2 < 1000; decide), ?_⟩
    have ht3 : upd (upd H2 u (.tup (ls.map vN))) p (.ins CR dx (srf b t u)) t = some (.tup (ss.map vN)) := upd_put (upd_put (s2 _ _ (upd_put upd_same hpt.symm)) htu) hpt.symm
    have hu3 : upd (upd H2 u (.tup (ls.map vN))) p (.ins CR dx (srf b t u)) u = some (.tup (ls.map vN)) := upd_put upd_same hpu.symm
    have fin : ∀ cc o, H cc = some o → cc ≠ p → upd (upd H2 u (.tup (ls.map vN))) p (.ins CR dx (srf b t u)) cc = some o := fun cc o hc hcp => by
      have e1 : upd H p (.ins CR dx (putF "bits" (vN b) [])) cc = some o := upd_put hc hcp
      have e2 := s1 _ _ e1
      have e3 : upd (upd H1 t (.tup (ss.map vN))) p (.ins CR dx (putF "slots" (.ref t) (putF "bits" (vN b) []))) cc = some o := upd_put (upd_put e2 (ne_of_none e2 ht)) hcp
      have e4 := s2 _ _ e3
      exact upd_put (upd_put e4 (ne_of_none e4 hu)) hcp
    refine ⟨_, rfl, p, CR, dx, srf b t u, .ref t, rfl, upd_same, TR.cl, TR.ns, rfl, t, _, rfl, .inr ht3, fun l1 hl1' => ?_⟩
    refine ⟨_, rfl, p, CR, dx, srf b t u, .ref u, rfl, upd_new hl1' upd_same, TR.cl, TR.nl, rfl, u, _, rfl, .inr (upd_new hl1' hu3), fun l2 hl2' => ?_⟩
    refine ⟨l1, l2, _, _, rfl, rfl, upd_new hl2' upd_same, upd_same, (by rw [List.length_map, List.length_map, sizeLine_eq]; omega), fun l3 hl3' => ?_⟩
    refine ⟨l3, ss ++ ls, rfl, .inl (by rw [upd_same, List.map_append]), (by rw [List.length_append]; omega), fun H4 q4 s4 hq4 h4 => ?_⟩
    refine ⟨_, rfl, q4, _, rfl, .inl h4, _, rfl, _, _, rfl, rfl, _, rfl, ?_⟩
    have e : decide ((((spn (ss ++ ls)).map vN).length : Int) < (b : Int)) = false := decide_eq_false (by rw [List.length_map]; have : b ≤ (spn (ss ++ ls)).length := hk; omega)
    rw [e]
    refine iteF ?_
    have sN : Same (upd (upd H2 u (.tup (ls.map vN))) p (.ins CR dx (srf b t u))) H4 := ((same_new (same_new (same_new0 hl1') hl2') hl3').trans s4)
    exact k _ ⟨dx, t, u, sN _ _ upd_same, sN _ _ ht3, sN _ _ hu3⟩ fun cc o hc hcp => sN _ _ (fin cc o hc hcp)
end
end LaneX
set_option Elab.async false
set_option linter.all false
set_option maxRecDepth 100000
set_option maxHeartbeats 4000000
namespace LaneX
open PySem PySem.Spec PyProof.Rows L2
theorem mk_Space {C : Addr} {H1 : Hp} {b : Nat} {a : Addr} {ws : List Nat} {Q : VK} {E : XK} (hS : Tq H1 a (ws.map vN)) (hb : ∀ x ∈ ws, blen x ≤ b) (hl : ws.length ≤ 1000000) (k : ∀ H' p, Same H1 H' → H1 p = none → SpaceAt C H' p b (spn ws) → Q (.ref p) H') :
    ∀ x dx, H1 x = none → H1 dx = none → dx ≠ x → sp_Space C (.ref x :: ([vN b, .ref a] ++ [])) (upd (upd H1 dx (.own x)) x (.ins C dx [])) (fun v H2 => v = .non ∧ Q (.ref x) H2) E := by
  intro x dx nx ndx ne
  have nx' : upd H1 dx (.own x) x = none := (upd_ne ne.symm).trans nx
  refine ⟨x, dx, b, a, ws, rfl, upd_same, (hS.new ndx).new nx', hb, hl, fun H' hA kp => ⟨rfl, k _ _ (made_same nx ndx kp) nx hA⟩⟩
theorem mk_Spread {C : Addr} {H1 : Hp} {b : Nat} {a c : Addr} {ss ls : List Nat} {Q : VK} {E : XK} (hS : Tq H1 a (ss.map vN)) (hL : Tq H1 c (ls.map vN)) (wf : WfR b ss ls) (hk : b ≤ rk (ss ++ ls)) (k : ∀ H' p, Same H1 H' → H1 p = none → SpreadAt C H' p b ss ls → Q (.ref p) H') :
    ∀ x dx, H1 x = none → H1 dx = none → dx ≠ x → sp_Spread C (.ref x :: ([vN b, .ref a, .ref c] ++ [])) (upd (upd H1 dx (.own x)) x (.ins C dx [])) (fun v H2 => v = .non ∧ Q (.ref x) H2) E := by
  intro x dx nx ndx ne
  have nx' : upd H1 dx (.own x) x = none := (upd_ne ne.symm).trans nx
  refine ⟨x, dx, b, a, c, ss, ls, rfl, upd_same, (hS.new ndx).new nx', (hL.new ndx).new nx', wf.s, wf.l, wf.sl, wf.ll, hk, fun H' hA kp => ⟨rfl, k _ _ (made_same nx ndx kp) nx hA⟩⟩
/-- a def that gives a new Space -/
def spNewSpace (C : Addr) (b : Nat) (rows : List Nat) (H : Hp) (Q : VK) : Prop := ∀ H' p, Same H H' → H p = none → SpaceAt C H' p b rows → Q (.ref p) H'
def sp_every (C : Addr) : Sp := fun vs H Q _ => ∃ b : Nat, vs = [vN b] ∧ b ≤ 400000 ∧ spNewSpace C b (spn ((List.range b).map fun i => 1 <<< i)) H Q
def sp_and (C : Addr) : Sp := fun vs H Q _ => ∃ (p q : Addr) (b : Nat) (rs os : List Nat), vs = [.ref p, .ref q] ∧ SpaceAt C H p b rs ∧ SpaceAt C H q b os ∧ WfS b rs ∧ WfS b os ∧ spNewSpace C b (spn (mtd b rs os)) H Q
def sp_completing (C : Addr) : Sp := fun vs H Q _ => ∃ (p q : Addr) (b : Nat) (rs os : List Nat), vs = [.ref p, .ref q] ∧ SpaceAt C H p b rs ∧ SpaceAt C H q b os ∧ WfS b rs ∧ WfS b os ∧ ∀ H' t, Same H H' → H t = none → H' t = some (.tup ((cmpl rs os).map vN)) → Q (.ref t) H'
def sp_slot_space (CS CR : Addr) : Sp := fun vs H Q _ => ∃ (p : Addr) (b : Nat) (ss ls : List Nat), vs = [.ref p] ∧ SpreadAt CR H p b ss ls ∧ WfR b ss ls ∧ spNewSpace CS b (spn ss) H Q
def sp_twins (CS CR : Addr) : Sp := fun vs H Q _ => ∃ (p : Addr) (b : Nat) (ss ls : List Nat), vs = [.ref p] ∧ SpreadAt CR H p b ss ls ∧ WfR b ss ls ∧ spNewSpace CS ls.length (twn ss ls) H Q
def sp_need_pair (CS CR : Addr) : Sp := fun vs H Q _ => ∃ (p q : Addr) (b : Nat) (ss ls rows : List Nat), vs = [.ref p, .ref q] ∧ SpreadAt CR H p b ss ls ∧ SpaceAt CS H q b rows ∧ Q .non H
/-- what a spread and a space ask -/
def spPair (CS CR : Addr) (k : Nat → List Nat → List Nat → List Nat → Hp → VK → Prop) : Sp := fun vs H Q _ => ∃ (p q : Addr) (b : Nat) (ss ls rows : List Nat), vs = [.ref p, .ref q] ∧ SpreadAt CR H p b ss ls ∧ SpaceAt CS H q b rows ∧ WfR b ss ls ∧ WfS b rows ∧ k b ss ls rows H Q
def sp_partner_rows (CS CR : Addr) : Sp := spPair CS CR fun b ss ls rows H Q => ∀ H' t, Same H H' → H t = none → H' t = some (.lst ((prw ss ls rows).map vN)) → Q (.ref t) H'
def sp_partners (CS CR : Addr) : Sp := spPair CS CR fun b ss ls rows H Q => spNewSpace CS ls.length (prt ss ls rows) H Q
def sp_leaders (CS CR : Addr) : Sp := spPair CS CR fun b ss ls rows H Q => ∀ H' t, Same H H' → H t = none → H' t = some (.lst ((ldr ss ls rows).map vN)) → Q (.ref t) H'
def sp_kept_bits (CS CR : Addr) : Sp := spPair CS CR fun b ss ls rows H Q => ∀ H', Same H H' → Q (.int (kpt b ss rows)) H'
def sp_sum_rounds (CS CR : Addr) : Sp := spPair CS CR fun b ss ls rows H Q => ∀ H', Same H H' → Q (vN (smr b ss ls rows)) H'
def sp_sum_steps (CS CR : Addr) : Sp := spPair CS CR fun b ss ls rows H Q => ∀ H' t, Same H H' → H t = none → H' t = some (.tup ((ldr ss ls rows).map vN)) → Q (.ref t) H'
def sp_rounds_for : Sp := fun vs H Q _ => ∃ n m : Nat, vs = [vN n, vN m] ∧ n ≤ 400000 ∧ m ≤ 400000 ∧ Q (vN (rdf n m)) H
theorem dec_ne0 {n : Nat} : (!decide (V.int (n : Int) = V.int 0)) = !decide (n = 0) := by
  rw [show (V.int 0 : V) = V.int ((0 : Nat) : Int) from rfl, dec_nat]
section
variable {P : Program} {w : World} {K : PySem.W.Frag} {mg : Str → Option Value} {base : Heap} {f : Addr} {fd : FuncData} {CS CR : Addr} (T : Bt mg) (TS : SpaceT K mg CS) (TR : SpreadT K mg CR)
include T
include TR in
theorem ok_any_spread (F : FnP K "any_spread" "any_spread" s_any_spread f fd) : FnOk P w K mg base CX0 1 f fd ["value"] (sp_any_spread CR) := by
  have nd := sc_any_spread.nd
  refine fnok F sc_any_spread (fun vs H Q E h => ?_) (fun cdv A outer s H vs Q E hr h => ?_)
  · obtain ⟨p, b, ss, ls, rfl, _⟩ := h
    rfl
  · obtain ⟨p, b, ss, ls, rfl, ⟨dx, t, u, h1, h2, h3⟩, k⟩ := h
    refine ⟨_, (pss_one (ps_if (pt_not (pt_val (pe_callB call_isi (by rfl) T.isinstance (by decide +kernel) (pa_cons (pv 0) (pa_cons (pe_glob (v := .ref CR) (by rfl) TR.gl rfl) pa_nil)))))
    (pss_one ps_never)
    pss_nil)), ?_⟩
    exact ⟨_, rfl, _, _, _, _, _, rfl, .own _, TR.ty h1, TR.me, _, rfl, iteF k⟩
end
end LaneX
set_option Elab.async false
set_option linter.all false
set_option maxRecDepth 100000
set_option maxHeartbeats 4000000
namespace LaneX
open PySem PySem.Spec PyProof.Rows L2
section
variable {P : Program} {w : World} {K : PySem.W.Frag} {mg : Str → Option Value} {base : Heap} {f : Addr} {fd : FuncData} {CS CR : Addr} (T : Bt mg) (TS : SpaceT K mg CS) (TR : SpreadT K mg CR)
include T
include TR in
theorem ok_twins (F : FnP K "twins" "Spread.twins" s_Spread_twins f fd) (D_spanned : Dn P w K mg base 3 "spanned" ["words"] sp_spanned) (D_cleared : Dn P w K mg base 1 "cleared" ["rows", "word"] sp_cleared) (D_kernel_rows : Dn P w K mg base 5 "kernel_rows" ["columns"] sp_kernel_rows)
    (K_Space : Kn P w K mg base 4 CS "Space" ["self", "bits", "words"] (sp_Space CS)) : FnOk P w K mg base CX0 6 f fd ["self"] (sp_twins CS CR) := by
  have nd := sc_Spread_twins.nd
  refine fnok F sc_Spread_twins (fun vs H Q E h => ?_) (fun cdv A outer s H vs Q E hr h => ?_)
  · obtain ⟨p, b, ss, ls, rfl, _⟩ := h
    rfl
  · obtain ⟨p, b, ss, ls, rfl, ⟨dx, t, u, h1, h2, h3⟩, wf, k⟩ := h
    obtain ⟨bb, ws, wl, wsl, wll⟩ := id wf
    refine ⟨_, (pss_cons (ps_set (i := 1) nd rfl (Or.inr rfl) (pe_d D_spanned hr (pa_cons (pe_fld (pv 0) rfl) pa_nil)))
  (pss_one (ps_ret (pe_k K_Space hr (pa_cons (pe_callB call_lenQ (by rfl) T.len PySem.boot_len (pa_cons (pe_fld (pv 0) rfl) pa_nil)) (pa_cons (pe_d D_kernel_rows hr (pa_cons (pe_lc (own := [("word", 2)]) (g := gName 2) (by rfl) nd (pi_seq (pe_fld (pv 0) rfl)) (blkOk_by (own := [("word", 2)]) (N := ["self", "rows", "word"]) (sc := defScope s_Spread_twins) (by decide +kernel)) (fun _ _ _ _ _ => (pg_name (i := 2) nd rfl (Or.inl rfl))) (fun _ _ _ _ _ => pts_nil) (fun _ _ _ _ _ => (pe_d D_cleared hr (pa_cons (pv 1) (pa_cons (pv 2) pa_nil))))) pa_nil)) pa_nil)))))), ?_⟩
    refine ⟨_, rfl, p, CR, dx, _, .ref t, rfl, h1, TR.cl, TR.ns, rfl, t, ss, rfl, .inr h2, (by omega), fun H1 q1 s1 hq1 g1 => ?_⟩
    refine ⟨_, rfl, p, CR, dx, _, .ref u, rfl, s1 _ _ h1, TR.cl, TR.nl, rfl, u, _, rfl, .inr (s1 _ _ h3), ?_⟩
    refine ⟨_, rfl, p, CR, dx, _, .ref u, rfl, s1 _ _ h1, TR.cl, TR.nl, rfl, lc_pure ls vN (fun _ => true) (fun x => vN (clr (spn ss) x)) (.inr (s1 _ _ h3)) (by omega) (fun n H' hn s => ?_) (fun D H2 hD s2 g2 => ?_)⟩
    · intro Z Nx z1 z2
      exact ⟨rfl, _, rfl, _, rfl, q1, _, n, rfl, .inl (s _ _ g1), (spn_rws ss).nz, z1 rfl _ (Same.refl _)⟩
    · rw [filt_true] at g2
      refine ⟨D, ls.map (clr (spn ss)), rfl, .inl (by rw [g2, List.map_map]; rfl), (by rw [List.length_map]; omega), ?_, fun H3 q3 s3 hq3 g3 => ?_⟩
      · intro c hc
        obtain ⟨x, hx, rfl⟩ := List.mem_map.mp hc
        exact Nat.le_trans (clr_blen (spn_blen ws) (wl x hx)) (by omega)
      · rw [List.length_map]
        refine mk_Space (.inl g3) (fun x hx => ?_) ?_ (fun H' p s4 hp hA => k _ _ ((s1.trans s2).trans (s3.trans s4)) (same_free ((s1.trans s2).trans s3) hp) hA)
        · have := ker_blen _ x hx
          simpa using this
        · have := ker_len (ls.map (clr (spn ss)))
          rw [List.length_map] at this
          omega
end
end LaneX
set_option Elab.async false
set_option linter.all false
set_option maxRecDepth 100000
set_option maxHeartbeats 4000000
namespace LaneX
open PySem PySem.Spec PyProof.Rows L2
/-! ### the bits of a word -/
theorem lwb_le {n : Nat} : lwb n ≤ n := Nat.sub_le _ _
theorem lt_of_bit : ∀ (i : Nat) {n m : Nat}, n.testBit i = false → m.testBit i = true → (∀ j, i < j → n.testBit j = m.testBit j) → n < m
  | 0, n, m, h1, h2, h => by
    have e : n / 2 = m / 2 := Nat.eq_of_testBit_eq fun j => by
      have := h (j + 1) (Nat.succ_pos j)
      rwa [Nat.testBit_succ, Nat.testBit_succ] at this
    rw [Nat.testBit_zero] at h1 h2
    have := of_decide_eq_false h1
    have := of_decide_eq_true h2
    omega
  | i + 1, n, m, h1, h2, h => by
    rw [Nat.testBit_succ] at h1 h2
    have := lt_of_bit i h1 h2 fun j hj => by
      have := h (j + 1) (by omega)
      rwa [Nat.testBit_succ, Nat.testBit_succ] at this
    omega
theorem xor_lwb_lt {n : Nat} (h : n ≠ 0) : n ^^^ lwb n < n := by
  have hb := low_bit h
  rw [lwb_eq h]
  refine lt_of_bit (low n) ?_ hb fun j hj => ?_
  · rw [Nat.testBit_xor, hb, Nat.testBit_two_pow_self]; rfl
  · rw [Nat.testBit_xor, Nat.testBit_two_pow, decide_eq_false (by omega), Bool.xor_false]
def ons (n : Nat) : List Nat := if h : n = 0 then [] else low n :: ons (n ^^^ lwb n)
termination_by n
decreasing_by exact xor_lwb_lt h
theorem ons_zero : ons 0 = [] := by unfold ons; rfl
theorem ons_pos {n : Nat} (h : n ≠ 0) : ons n = low n :: ons (n ^^^ lwb n) := by
  conv => lhs; unfold ons
  rw [dif_neg h]
theorem low_lt {n k : Nat} (h : n ≠ 0) (hk : n < 2 ^ k) : low n < k := by
  refine Classical.byContradiction fun z => ?_
  have := low_bit h
  rw [Nat.testBit_lt_two_pow (Nat.lt_of_lt_of_le hk (Nat.pow_le_pow_right (by decide) (by omega)))] at this
  cases this
theorem lwb_lt {n k : Nat} (h : n ≠ 0) (hk : n < 2 ^ k) : n ^^^ lwb n < 2 ^ k := Nat.lt_trans (xor_lwb_lt h) hk
theorem ons_lt {k : Nat} : ∀ {n : Nat}, n < 2 ^ k → ∀ i ∈ ons n, i < k := by
  intro n
  induction n using Nat.strongRecOn with
  | _ n ih =>
    intro hk i hi
    by_cases h : n = 0
    · subst h; rw [ons_zero] at hi; cases hi
    · rw [ons_pos h] at hi
      rcases List.mem_cons.mp hi with rfl | hi
      · exact low_lt h hk
      · exact ih _ (xor_lwb_lt h) (lwb_lt h hk) i hi
theorem ons_len {k : Nat} : ∀ {n : Nat}, n < 2 ^ k → (ons n).length ≤ n := by
  intro n
  induction n using Nat.strongRecOn with
  | _ n ih =>
    intro hk
    by_cases h : n = 0
    · subst h; rw [ons_zero]; exact Nat.le_refl _
    · rw [ons_pos h]
      have := ih _ (xor_lwb_lt h) (lwb_lt h hk)
      have := xor_lwb_lt h
      simp only [List.length_cons]
      omega
theorem low_le_low {n i : Nat} (h : n.testBit i = true) : low n ≤ i := by
  induction n using Nat.strongRecOn generalizing i with
  | _ n ih =>
    have hn : n ≠ 0 := fun e => by rw [e] at h; simp at h
    unfold low
    rw [dif_neg hn]
    split
    · exact Nat.zero_le _
    · rename_i ho
      cases i with
      | zero => rw [Nat.testBit_zero] at h; exact absurd (of_decide_eq_true h) ho
      | succ i =>
        rw [Nat.testBit_succ] at h
        have := ih (n / 2) (by omega) h
        omega
theorem ons_sorted : ∀ {n : Nat}, (ons n).Pairwise (· < ·) := by
  intro n
  induction n using Nat.strongRecOn with
  | _ n ih =>
    by_cases h : n = 0
    · subst h; rw [ons_zero]; exact .nil
    · rw [ons_pos h]
      refine List.pairwise_cons.mpr ⟨fun i hi => ?_, ih _ (xor_lwb_lt h)⟩
      have bit : ∀ {m j : Nat}, j ∈ ons m → m.testBit j = true := by
        intro m
        induction m using Nat.strongRecOn with
        | _ m ihm =>
          intro j hj
          by_cases hm : m = 0
          · subst hm; rw [ons_zero] at hj; cases hj
          · rw [ons_pos hm] at hj
            rcases List.mem_cons.mp hj with rfl | hj
            · exact low_bit hm
            · have := ihm _ (xor_lwb_lt hm) hj
              rw [Nat.testBit_xor, lwb_eq hm, Nat.testBit_two_pow] at this
              by_cases e : low m = j
              · subst e; exact low_bit hm
              · simpa [e] using this
      have b := bit hi
      rw [Nat.testBit_xor, lwb_eq h, Nat.testBit_two_pow] at b
      by_cases e : low n = i
      · subst e
        rw [low_bit h] at b
        simp at b
      · have b2 : n.testBit i = true := by simpa [e] using b
        have := low_le_low b2
        omega
theorem pw_len : ∀ {l : List Nat} {b k : Nat}, l.Pairwise (· < ·) → (∀ i ∈ l, b ≤ i ∧ i < k) → l.length ≤ k - b
  | [], _, _, _, _ => Nat.zero_le _
  | x :: l, b, k, hp, h => by
    have hp' := List.pairwise_cons.mp hp
    have hx := h x (.head _)
    have := pw_len (b := x + 1) (k := k) hp'.2 fun i hi => ⟨hp'.1 i hi, (h i (.tail _ hi)).2⟩
    simp only [List.length_cons]
    omega
theorem ons_len2 {n k : Nat} (h : n < 2 ^ k) : (ons n).length ≤ k := by
  have := pw_len (b := 0) (k := k) (ons_sorted (n := n)) fun i hi => ⟨Nat.zero_le _, ons_lt h i hi⟩
  omega
/-- what image_of sums -/
def ims (cols : List Nat) (l : List Nat) : Nat := l.foldl (fun t i => t ^^^ cols.getD i 0) 0
theorem ims_from (cols : List Nat) : ∀ (l : List Nat) (t : Nat), l.foldl (fun t i => t ^^^ cols.getD i 0) t = t ^^^ ims cols l
  | [], t => by show t = t ^^^ 0; rw [Nat.xor_zero]
  | i :: l, t => by
    show l.foldl _ (t ^^^ cols.getD i 0) = t ^^^ (l.foldl _ (0 ^^^ cols.getD i 0))
    rw [ims_from cols l, ims_from cols l, Nat.zero_xor, Nat.xor_assoc]
theorem ims_ons (cols : List Nat) : ∀ {n : Nat}, n < 2 ^ cols.length → ims cols (ons n) = img cols n := by
  intro n
  induction n using Nat.strongRecOn with
  | _ n ih =>
    intro hk
    by_cases h : n = 0
    · subst h; rw [ons_zero, (lin_img cols).z]; rfl
    · rw [ons_pos h]
      have e := ih _ (xor_lwb_lt h) (lwb_lt h hk)
      show (ons (n ^^^ lwb n)).foldl _ (0 ^^^ cols.getD (low n) 0) = _
      rw [ims_from, e, Nat.zero_xor, (lin_img cols).x, lwb_eq h, img_unit cols (low_lt h hk), Nat.xor_comm (img cols n), xor_cancel]
def sp_ones : Sp := fun vs H Q _ => ∃ n k : Nat, vs = [vN n] ∧ n < 2 ^ k ∧ k ≤ 1000000 ∧ ∀ H' q, Same H H' → H q = none → H' q = some (.tup ((ons n).map vN)) → Q (.ref q) H'
def sp_image_of : Sp := fun vs H Q _ => ∃ (a : Addr) (cs : List Nat) (n : Nat), vs = [.ref a, vN n] ∧ Tq H a (cs.map vN) ∧ cs.length ≤ 1000000 ∧ n < 2 ^ cs.length ∧ ∀ H', Same H H' → Q (vN (img cs n)) H'
def sp_solved : Sp := fun vs H Q _ => ∃ (a : Addr) (ss : List Nat) (b g : Nat), vs = [.ref a, vN ss.length, vN g] ∧ Tq H a ((prd ss).map vN) ∧ ss.length ≤ 400000 ∧ g < 2 ^ b ∧ b ≤ 400000 ∧ Spn ss g ∧ Q (vN (slv ss g)) H
def sp_solvedO : Sp := fun vs H Q _ => ∃ (a : Addr) (ss : List Nat) (b g : Nat), vs = [.ref a, vN ss.length, vN g] ∧ Tq H a ((prd ss).map vN) ∧ ss.length ≤ 400000 ∧ g < 2 ^ b ∧ b ≤ 400000 ∧ (Spn ss g → Q (vN (slv ss g)) H) ∧ (¬ Spn ss g → Q .non H)
def sp_write_count (CR : Addr) : Sp := fun vs H Q _ => ∃ (p : Addr) (b : Nat) (ss ls : List Nat), vs = [.ref p] ∧ SpreadAt CR H p b ss ls ∧ b ≤ 400000 ∧ Q (vN (1 <<< (b - ls.length))) H
section
variable {P : Program} {w : World} {K : PySem.W.Frag} {mg : Str → Option Value} {base : Heap} {f : Addr} {fd : FuncData} {CS CR : Addr} (T : Bt mg) (TR : SpreadT K mg CR)
include T
theorem ok_ones (F : FnP K "ones" "ones" s_ones f fd) (D_need_whole : Dn P w K mg base 2 "need_whole" ["value"] sp_need_whole) : FnOk P w K mg base CX0 3 f fd ["word"] sp_ones := by
  have nd := sc_ones.nd
  refine fnok F sc_ones (fun vs H Q E h => ?_) (fun cdv A outer s H vs Q E hr h => ?_)
  · obtain ⟨n, k, rfl, _⟩ := h
    rfl
  · obtain ⟨n, k, rfl, hn, hk, q⟩ := h
    refine ⟨_, (pss_cons (ps_expr (pe_d D_need_whole hr (pa_cons (pv 0) pa_nil)))
  (pss_cons (ps_set (i := 1) nd rfl (Or.inl rfl) (pe_lst pa_nil))
  (pss_cons (ps_set (i := 2) nd rfl (Or.inl rfl) (pv 0))
  (pss_cons (ps_while PassesOwn.never (pt_cmpR op_gt (pv 2) pe_int (nomark _))
    (pss_cons (ps_set (i := 3) nd rfl (Or.inl rfl) (pe_op on_low (pv 2) (pe_un un_neg (pv 2))))
    (pss_cons (ps_expr (pe_bm PySem.F.plainAttrs_list PySem.F.slot_list_append PySem.F.type_list_append mt_append (pv 1) (pa_cons (pe_op on_sub (pe_bits (pv 3)) pe_int) pa_nil)))
    (pss_one (ps_set (i := 2) nd rfl (Or.inl rfl) (pe_op on_xor (pv 2) (pv 3)))))))
  (pss_one (ps_ret (pe_callTy call_tupleQ (by rfl) T.tuple (by decide +kernel) (pa_cons (pv 1) pa_nil)))))))), ?_⟩
    refine ⟨_, rfl, n, rfl, (by decide), fun l hl => ⟨_, rfl, ?_⟩⟩
    refine ⟨fun m σ H2 => ∃ v3 ds, σ = [some (vN n), some (.ref l), some (vN m), v3] ∧ Same H H2 ∧ H2 l = some (.lst (ds.map vN)) ∧ ds ++ ons m = ons n ∧ m < 2 ^ k, ⟨n, none, [], rfl, same_new0 hl, upd_same, rfl, hn⟩, ?_⟩
    rintro m σ H2 ⟨v3, ds, rfl, s2, h2, e, hm⟩
    have ld : ds.length ≤ k := by
      have := ons_len2 hn
      rw [← e, List.length_append] at this
      omega
    refine ⟨_, rfl, _, _, rfl, rfl, _, rfl, br (fun z => ?_) (fun z => ?_)⟩
    · have z0 : m ≠ 0 := by have := of_decide_eq_true z; omega
      refine ⟨fun σ' H' => ∃ v3 ds, σ' = [some (vN n), some (.ref l), some (vN (m ^^^ lwb m)), v3] ∧ Same H H' ∧ H' l = some (.lst (ds.map vN)) ∧ ds ++ ons (m ^^^ lwb m) = ons n ∧ (m ^^^ lwb m) < 2 ^ k, fun σ' H' hN => ⟨_, xor_lwb_lt z0, hN⟩, ?_⟩
      refine ⟨_, rfl, _, rfl, _, rfl, m, rfl, rfl, ?_⟩
      have bl : blen (lwb m) = low m + 1 := by rw [lwb_eq z0, ← Nat.one_shiftLeft]; exact blen_unit _
      refine ⟨_, rfl, .inl ⟨rfl, _, SqL.of h2⟩, _, rfl, lwb m, rfl, Builtin.Int.intBits (lwb m : Int), 1, rfl, rfl, (by rw [blen_bits]; omega), l, _, _, rfl, rfl, h2, (by rw [List.length_map, sizeLine_eq]; omega), ?_⟩
      refine ⟨_, rfl, _, rfl, m, lwb m, rfl, rfl, _, ds ++ [low m], rfl, same_put s2 hl, ?_, ?_, lwb_lt z0 hm⟩
      · rw [upd_same, List.map_append, blen_bits, bl, Nat.add_sub_cancel]; rfl
      · rw [List.append_assoc, ← e, ons_pos z0]; rfl
    · have z0 : m = 0 := by
        have := of_decide_eq_false z
        omega
      subst z0
      rw [ons_zero, List.append_nil] at e
      subst e
      exact ⟨_, rfl, l, _, rfl, h2, fun q' hq' => q _ _ (same_new s2 hq') (same_free s2 hq') upd_same⟩
theorem ok_image_of (F : FnP K "image_of" "image_of" s_image_of f fd) (D_ones : Dn P w K mg base 3 "ones" ["word"] sp_ones) : FnOk P w K mg base CX0 4 f fd ["columns", "word"] sp_image_of := by
  have nd := sc_image_of.nd
  refine fnok F sc_image_of (fun vs H Q E h => ?_) (fun cdv A outer s H vs Q E hr h => ?_)
  · obtain ⟨a, cs, n, rfl, _⟩ := h
    rfl
  · obtain ⟨a, cs, n, rfl, hS, hl, hn, k⟩ := h
    refine ⟨_, (pss_cons (ps_set (i := 2) nd rfl (Or.inl rfl) pe_int)
  (pss_cons (ps_for PassesOwn.never rfl (pi_seq (pe_d D_ones hr (pa_cons (pv 1) pa_nil))) (pg_name (i := 3) nd rfl (Or.inl rfl))
    (pss_one (ps_set (i := 2) nd rfl (Or.inl rfl) (pe_op on_xor (pv 2) (pe_ix ix_q (pv 0) (pv 3) (fun _ _ => rfl))))))
  (pss_one (ps_ret (pv 2))))), ?_⟩
    refine ⟨_, rfl, n, cs.length, rfl, hn, hl, fun H1 q s1 hq h1 => ?_⟩
    refine for_sq2 (K := K) (.inr h1) (fun i σ H2 => ∃ v3, σ = [some (.ref a), some (vN n), some (vN (ims cs ((ons n).take i))), v3] ∧ H2 = H1) ⟨none, rfl, rfl⟩ (fun i σ H2 hp o ho => by obtain ⟨_, _, rfl⟩ := hp; exact ho) ?_ ?_
    · rintro i y σ H2 hy ⟨v3, rfl, rfl⟩
      obtain ⟨d, hd, rfl⟩ := map_get hy
      have dl := ons_lt hn d (List.mem_of_getElem? hd)
      have hg : (cs.map vN)[d]? = some (vN (cs.getD d 0)) := by
        rw [List.getElem?_map, List.getElem?_eq_getElem dl, List.getD_eq_getElem?_getD, List.getElem?_eq_getElem dl]
        rfl
      refine ⟨_, rfl, _, rfl, _, rfl, a, _, d, _, rfl, rfl, same_tq s1 hS, hg, _, _, rfl, rfl, some (vN d), ?_, rfl⟩
      rw [take_succ hd]
      unfold ims
      rw [List.foldl_append]
      rfl
    · rintro σ H2 ⟨v3, rfl, rfl⟩
      rw [List.length_map, List.take_length, ims_ons cs hn]
      exact ⟨_, rfl, k _ s1⟩
theorem ok_solved (F : FnP K "solved" "solved" s_solved f fd) (D_cleared : Dn P w K mg base 1 "cleared" ["rows", "word"] sp_cleared) : FnOk P w K mg base CX0 2 f fd ["pairs", "source", "word"] sp_solved := by
  have nd := sc_solved.nd
  refine fnok F sc_solved (fun vs H Q E h => ?_) (fun cdv A outer s H vs Q E hr h => ?_)
  · obtain ⟨a, ss, b, g, rfl, _⟩ := h
    rfl
  · obtain ⟨a, ss, b, g, rfl, hS, hl, hg, hb, hs, k⟩ := h
    refine ⟨_, (pss_cons (ps_set (i := 3) nd rfl (Or.inl rfl) (pe_d D_cleared hr (pa_cons (pv 0) (pa_cons (pe_op on_shl (pv 2) (pv 1)) pa_nil))))
  (pss_cons (ps_if (pt_cmpR op_gt (pe_bits (pv 3)) (pv 1) (nomark _))
    (pss_one (ps_ret pe_non))
    pss_nil)
  (pss_one (ps_ret (pv 3))))), ?_⟩
    have R := spn_rws (prs ss)
    have bg : blen g ≤ b := blen_le.mpr hg
    obtain ⟨o1, o2⟩ := slv_ok hs
    have o3 : blen (slv ss g) ≤ ss.length := blen_le.mpr o1
    refine ⟨_, rfl, _, rfl, _, rfl, g, ss.length, rfl, rfl, shl_ok1 (by omega) (by omega), a, prd ss, g <<< ss.length, rfl, hS, R.nz, ?_⟩
    refine ⟨_, rfl, slv ss g, rfl, _, rfl, _, _, rfl, rfl, _, rfl, br (fun z => ?_) (fun _ => ⟨_, rfl, k⟩)⟩
    have e9 : slv ss g = clr (prd ss) (g <<< ss.length) := rfl
    rw [blen_bits] at z
    have := of_decide_eq_true z
    omega
theorem ok_solvedO (F : FnP K "solved" "solved" s_solved f fd) (D_cleared : Dn P w K mg base 1 "cleared" ["rows", "word"] sp_cleared) : FnOk P w K mg base CX0 2 f fd ["pairs", "source", "word"] sp_solvedO := by
  have nd := sc_solved.nd
  refine fnok F sc_solved (fun vs H Q E h => ?_) (fun cdv A outer s H vs Q E hr h => ?_)
  · obtain ⟨a, ss, b, g, rfl, _⟩ := h
    rfl
  · obtain ⟨a, ss, b, g, rfl, hS, hl, hg, hb, k, kn⟩ := h
    refine ⟨_, (pss_cons (ps_set (i := 3) nd rfl (Or.inl rfl) (pe_d D_cleared hr (pa_cons (pv 0) (pa_cons (pe_op on_shl (pv 2) (pv 1)) pa_nil))))
  (pss_cons (ps_if (pt_cmpR op_gt (pe_bits (pv 3)) (pv 1) (nomark _))
    (pss_one (ps_ret pe_non))
    pss_nil)
  (pss_one (ps_ret (pv 3))))), ?_⟩
    have R := spn_rws (prs ss)
    have bg : blen g ≤ b := blen_le.mpr hg
    have e9 : slv ss g = clr (prd ss) (g <<< ss.length) := rfl
    refine ⟨_, rfl, _, rfl, _, rfl, g, ss.length, rfl, rfl, shl_ok1 (by omega) (by omega), a, prd ss, g <<< ss.length, rfl, hS, R.nz, ?_⟩
    refine ⟨_, rfl, slv ss g, rfl, _, rfl, _, _, rfl, rfl, _, rfl, br (fun z => ?_) (fun z => ⟨_, rfl, ?_⟩)⟩
    · rw [blen_bits] at z
      have z := of_decide_eq_true z
      refine kn fun y => ?_
      have := blen_le.mpr (slv_ok y).1
      omega
    · rw [blen_bits] at z
      have z := of_decide_eq_false z
      refine k (Classical.byContradiction fun y => ?_)
      have a1 := slv_none y
      have a2 := blen_le.mp (show blen (slv ss g) ≤ ss.length by omega)
      omega
end
end LaneX
set_option Elab.async false
set_option linter.all false
set_option maxRecDepth 100000
set_option maxHeartbeats 4000000
namespace LaneX
open PySem PySem.Spec PyProof.Rows L2
/-! ### two spreads that fit -/
def tps (rows : List Nat) : List Nat := rows.map fun r => blen r - 1
def sp_tops_of : Sp := fun vs H Q _ => ∃ (a : Addr) (rows : List Nat), vs = [.ref a] ∧ Tq H a (rows.map vN) ∧ (∀ r ∈ rows, r ≠ 0) ∧ rows.length ≤ 1000000 ∧ ∀ H' q, Same H H' → H q = none → H' q = some (.lst ((tps rows).map vN)) → Q (.ref q) H'
def sp_missing : Sp := fun vs H Q _ => ∃ (a : Addr) (rows : List Nat), vs = [.ref a] ∧ Tq H a (rows.map vN) ∧ (∀ r ∈ rows, r ≠ 0) ∧ rows.length ≤ 1000000 ∧ ∀ H' j, Same H H' → Mis rows j → Q (vN (1 <<< j)) H'
/-- two spreads -/
def spTwo (CR : Addr) (k : Nat → List Nat → List Nat → List Nat → List Nat → Hp → VK → Prop) : Sp := fun vs H Q _ => ∃ (p q : Addr) (b : Nat) (ss ls os ps : List Nat), vs = [.ref p, .ref q] ∧ SpreadAt CR H p b ss ls ∧ SpreadAt CR H q b os ps ∧ WfR b ss ls ∧ WfR b os ps ∧ ls.length = ps.length ∧ k b ss ls os ps H Q
def sp_need_fit (CR : Addr) : Sp := spTwo CR fun b ss ls os ps H Q => Q .non H
def sp_lane_sums (CR : Addr) : Sp := spTwo CR fun b ss ls os ps H Q => ∀ H' t, Same H H' → H t = none → H' t = some (.lst ((lsm ls ps).map vN)) → Q (.ref t) H'
def sp_both_rows (CR : Addr) : Sp := spTwo CR fun b ss ls os ps H Q => ∀ H' t t1 t2 t3 t4, Same H H' → H' t = some (.tup [.ref t1, .ref t2, .ref t3, .ref t4]) → H' t1 = some (.lst ((spn ss).map vN)) → H' t2 = some (.lst ((spn os).map vN)) → H' t3 = some (.lst ((spn (spn ss ++ spn os)).map vN)) → H' t4 = some (.lst ((mtd b (spn ss) (spn os)).map vN)) → Q (.ref t) H'
open Classical in
noncomputable def ahd (ss ls os ps : List Nat) : Bool := decide (∀ w ∈ lsm ls ps, Spn (ss ++ os) w)
def sp_all_hold (CR : Addr) : Sp := spTwo CR fun b ss ls os ps H Q => ∀ H', Same H H' → Q (.bl (ahd ss ls os ps)) H'
def sp_fewest_rounds (CR : Addr) : Sp := spTwo CR fun b ss ls os ps H Q => ∀ H', Same H H' → Q (vN (fwr ss ls os ps)) H'
def sp_short_lane (CR : Addr) : Sp := spTwo CR fun b ss ls os ps H Q => ∀ H' L, Same H H' → L < 2 ^ ls.length → due ss ls os ps L = fwr ss ls os ps → (∀ i, i < L → due ss ls os ps i ≠ fwr ss ls os ps) → Q (vN L) H'
def sp_lacks (CR : Addr) : Sp := fun vs H Q _ => ∃ (p q : Addr) (b : Nat) (ss ls os ps : List Nat) (L : Nat), vs = [.ref p, .ref q, vN L] ∧ SpreadAt CR H p b ss ls ∧ SpreadAt CR H q b os ps ∧ WfR b ss ls ∧ WfR b os ps ∧ ls.length = ps.length ∧ L < 2 ^ ls.length ∧ ∀ H', Same H H' → Q (vN (due ss ls os ps L)) H'
theorem need_in {ws : List Nat} {x : Nat} : decide (vN (clr (spn ws) x) = .int 0) = true ↔ Spn ws x := by
  rw [decide_eq_true_iff, ← clr_spn_zero]
  constructor
  · intro h
    have := V.int.inj h
    omega
  · intro h
    rw [h]; rfl
theorem pe_fldK {X : Cx} {K : PySem.W.Frag} {e : Expr} {ta : TE} {f : Str} {pos : Pos} (he : PE X e ta) (hb : attributeBase e f X.env (eval e X.env) = eval e X.env) (hK : X.K = K := by rfl) : PE X (.Attribute e f pos) (tFld K ta f) := by
  subst hK
  exact pe_fld he hb
section
variable {P : Program} {w : World} {K : PySem.W.Frag} {mg : Str → Option Value} {base : Heap} {f : Addr} {fd : FuncData} {CR : Addr} (T : Bt mg) (TR : SpreadT K mg CR)
theorem ok_tops_of (F : FnP K "tops_of" "tops_of" s_tops_of f fd) : FnOk P w K mg base CX0 1 f fd ["rows"] sp_tops_of := by
  have nd := sc_tops_of.nd
  refine fnok F sc_tops_of (fun vs H Q E h => ?_) (fun cdv A outer s H vs Q E hr h => ?_)
  · obtain ⟨a, rows, rfl, _⟩ := h
    rfl
  · obtain ⟨a, rows, rfl, hS, nz, hl, k⟩ := h
    refine ⟨_, (pss_one (ps_ret (pe_lc (own := [("row", 1)]) (g := gName 1) (by rfl) nd (pi_seq (pv 0)) (blkOk_by (own := [("row", 1)]) (N := ["rows", "row"]) (sc := defScope s_tops_of) (by decide +kernel)) (fun _ _ _ _ _ => (pg_name (i := 1) nd rfl (Or.inl rfl))) (fun _ _ _ _ _ => pts_nil) (fun _ _ _ _ _ => (pe_op on_sub (pe_bits (pv 1)) pe_int))))), ?_⟩
    refine ⟨_, rfl, lc_pure rows vN (fun _ => true) (fun r => vN (blen r - 1)) hS hl (fun r H' hr' s => ?_) (fun D H' hD s h' => ?_)⟩
    · intro Z Nx z1 z2
      refine ⟨rfl, _, rfl, r, rfl, blen r, 1, ?_, rfl, blen_pos (nz r hr'), z1 rfl _ (Same.refl _)⟩
      rw [← blen_bits]
    · rw [filt_true] at h'
      exact k _ _ s hD (by rw [h']; simp [tps])
include T
theorem ok_missing (F : FnP K "missing" "missing" s_missing f fd) (D_tops_of : Dn P w K mg base 1 "tops_of" ["rows"] sp_tops_of) : FnOk P w K mg base CX0 2 f fd ["rows"] sp_missing := by
  have nd := sc_missing.nd
  refine fnok F sc_missing (fun vs H Q E h => ?_) (fun cdv A outer s H vs Q E hr h => ?_)
  · obtain ⟨a, rows, rfl, _⟩ := h
    rfl
  · obtain ⟨a, rows, rfl, hS, nz, hl, k⟩ := h
    refine ⟨_, (pss_cons (ps_set (i := 1) nd rfl (Or.inl rfl) (pe_d D_tops_of hr (pa_cons (pv 0) pa_nil)))
  (pss_cons (ps_set (i := 2) nd rfl (Or.inl rfl) pe_int)
  (pss_cons (ps_while PassesOwn.never (pt_cmpR on_in (pv 2) (pv 1) (by rfl))
    (pss_one (ps_aug (i := 2) nd rfl (.inl rfl) pe_int iop_addN)))
  (pss_one (ps_ret (pe_op on_shl pe_int (pv 2))))))), ?_⟩
    refine ⟨_, rfl, a, rows, rfl, hS, nz, hl, fun H1 q s1 hq h1 => ?_⟩
    refine ⟨fun m σ H2 => ∃ j, m = rows.length + 1 - j ∧ σ = [some (.ref a), some (.ref q), some (vN j)] ∧ H2 = H1 ∧ ∀ i, i < j → ∃ r ∈ rows, blen r - 1 = i, ⟨_, 0, rfl, rfl, rfl, fun i hi => absurd hi (Nat.not_lt_zero _)⟩, ?_⟩
    rintro m σ H2 ⟨j, rfl, rfl, rfl, hj⟩
    have jl := mis_le hj
    refine ⟨_, rfl, _, rfl, j, q, _, rfl, rfl, .inl h1, _, rfl, ?_⟩
    refine br (fun e => ?_) (fun e => ?_)
    · have e := of_decide_eq_true e
      refine ⟨fun σ' H' => ∃ j', j' = j + 1 ∧ σ' = [some (.ref a), some (.ref q), some (vN j')] ∧ H' = H2 ∧ ∀ i, i < j' → ∃ r ∈ rows, blen r - 1 = i, fun σ' H' hN => ?_, ?_⟩
      · obtain ⟨j', rfl, h2, h3, h4⟩ := hN
        exact ⟨_, by omega, j + 1, rfl, h2, h3, h4⟩
      · refine ⟨_, rfl, j, 1, rfl, rfl, _, rfl, rfl, rfl, fun i hi => ?_⟩
        by_cases z : i < j
        · exact hj i z
        · have : i = j := by omega
          subst this
          obtain ⟨r, hr', e'⟩ := List.mem_map.mp e
          exact ⟨r, hr', e'⟩
    · have e := of_decide_eq_false e
      refine ⟨_, rfl, 1, j, rfl, rfl, shl_ok1 (by rw [blen_one]; decide) (by omega), k _ _ s1 ⟨hj, fun r hr' z => e (List.mem_map.mpr ⟨r, hr', z⟩)⟩⟩
include TR in
theorem ok_need_fit (F : FnP K "need_fit" "need_fit" s_need_fit f fd) (D_any_spread : Dn P w K mg base 1 "any_spread" ["value"] (sp_any_spread CR)) : FnOk P w K mg base CX0 2 f fd ["one", "other"] (sp_need_fit CR) := by
  have nd := sc_need_fit.nd
  refine fnok F sc_need_fit (fun vs H Q E h => ?_) (fun cdv A outer s H vs Q E hr h => ?_)
  · obtain ⟨p, q, b, ss, ls, os, ps, rfl, _⟩ := h
    rfl
  · obtain ⟨p, q, b, ss, ls, os, ps, rfl, hp, hq, wf, wf2, hl, k⟩ := h
    refine ⟨_, (pss_cons (ps_expr (pe_d D_any_spread hr (pa_cons (pv 0) pa_nil)))
  (pss_cons (ps_expr (pe_d D_any_spread hr (pa_cons (pv 1) pa_nil)))
  (pss_one (ps_if (PW.pt (pw_or (pt_cmpR op_ne (pe_fld (pv 0) rfl) (pe_fld (pv 1) rfl) (nomark _)) (pw_or1 (pt_cmpR op_ne (pe_callB call_lenQ (by rfl) T.len PySem.boot_len (pa_cons (pe_fld (pv 0) rfl) pa_nil)) (pe_callB call_lenQ (by rfl) T.len PySem.boot_len (pa_cons (pe_fld (pv 1) rfl) pa_nil)) (nomark _)))))
    (pss_one ps_never)
    pss_nil)))), ?_⟩
    refine ⟨_, rfl, p, b, ss, ls, rfl, hp, _, rfl, q, b, os, ps, rfl, hq, ?_⟩
    obtain ⟨dx, t, u, h1, h2, h3⟩ := hp
    obtain ⟨dy, t', u', g1, g2, g3⟩ := hq
    refine ⟨_, rfl, p, CR, dx, _, vN b, rfl, h1, TR.cl, TR.nb, rfl, _, rfl, q, CR, dy, _, vN b, rfl, g1, TR.cl, TR.nb, rfl, rfl, _, rfl, ?_⟩
    rw [show (!decide (vN b = vN b)) = false by simp]
    refine iteF ⟨_, rfl, p, CR, dx, _, .ref u, rfl, h1, TR.cl, TR.nl, rfl, u, _, rfl, .inr h3, _, rfl, q, CR, dy, _, .ref u', rfl, g1, TR.cl, TR.nl, rfl, u', _, rfl, .inr g3, rfl, _, rfl, ?_⟩
    rw [List.length_map, List.length_map, hl, show (!decide (vN ps.length = vN ps.length)) = false by simp]
    exact iteF k
include TR in
theorem ok_lane_sums (F : FnP K "lane_sums" "lane_sums" s_lane_sums f fd) : FnOk P w K mg base CX0 1 f fd ["one", "other"] (sp_lane_sums CR) := by
  have nd := sc_lane_sums.nd
  refine fnok F sc_lane_sums (fun vs H Q E h => ?_) (fun cdv A outer s H vs Q E hr h => ?_)
  · obtain ⟨p, q, b, ss, ls, os, ps, rfl, _⟩ := h
    rfl
  · obtain ⟨p, q, b, ss, ls, os, ps, rfl, hp, hq, wf, wf2, hl, k⟩ := h
    refine ⟨_, (pss_one (ps_ret (pe_lc (own := [("at", 2), ("word", 3)]) (g := gTup K 2 (gCons (gName 2) (gCons (gName 3) gNil))) (by rfl) nd (pi_enumT (by rfl) T.enumerate (pa_cons (pe_fld (pv 0) rfl) pa_nil)) (blkOk_by (own := [("at", 2), ("word", 3)]) (N := ["one", "other", "at", "word"]) (sc := defScope s_lane_sums) (by decide +kernel)) (fun _ _ _ _ _ => (pg_tup (by rfl) (pgs_cons (pg_name (i := 2) nd rfl (Or.inl rfl)) (pgs_cons (pg_name (i := 3) nd rfl (Or.inl rfl)) pgs_nil)))) (fun _ _ _ _ _ => pts_nil) (fun _ _ _ _ _ => (pe_op on_xor (pv 3) (pe_ix ix_q (pe_fldK (K := K) (pv 1) rfl) (pv 2) (fun _ _ => rfl))))))), ?_⟩
    obtain ⟨dx, t, u, h1, h2, h3⟩ := hp
    obtain ⟨dy, t', u', g1, g2, g3⟩ := hq
    have wl := wf.ll
    refine ⟨_, rfl, p, CR, dx, _, .ref u, rfl, h1, TR.cl, TR.nl, rfl, u, _, rfl, SqT.of h3, lc_pureE (fun i => vN (ls.getD i 0 ^^^ ps.getD i 0)) h3 (by rw [List.length_map]; omega) (fun i x H' T' hx s hT => ?_) (fun D H' hD s h' => ?_)⟩
    · intro Z Nx z1 z2
      obtain ⟨y, hy, rfl⟩ := map_get hx
      have il := (List.getElem?_eq_some_iff.mp hy).1
      refine ⟨T', _, rfl, SqT.of hT, rfl, _, _, rfl, _, _, rfl, rfl, rfl, _, rfl, _, rfl, q, CR, dy, _, .ref u', rfl, s _ _ g1, TR.cl, TR.nl, rfl, _, rfl, u', _, i, vN (ps.getD i 0), rfl, rfl, .inr (s _ _ g3), ?_, _, ps.getD i 0, rfl, rfl, ?_⟩
      · rw [List.getElem?_map, List.getElem?_eq_getElem (by omega), List.getD_eq_getElem?_getD, List.getElem?_eq_getElem (by omega)]; rfl
      · have e : y = ls.getD i 0 := by rw [List.getD_eq_getElem?_getD, hy]; rfl
        rw [e]
        exact z1 rfl _ (Same.refl _)
    · rw [List.length_map] at h'
      exact k _ _ s hD (by rw [h']; simp [lsm])
include TR in
theorem ok_both_rows (F : FnP K "both_rows" "both_rows" s_both_rows f fd) (D_spanned : Dn P w K mg base 3 "spanned" ["words"] sp_spanned) (D_met : Dn P w K mg base 4 "met" ["bits", "rows", "others"] sp_met) : FnOk P w K mg base CX0 5 f fd ["one", "other"] (sp_both_rows CR) := by
  have nd := sc_both_rows.nd
  refine fnok F sc_both_rows (fun vs H Q E h => ?_) (fun cdv A outer s H vs Q E hr h => ?_)
  · obtain ⟨p, q, b, ss, ls, os, ps, rfl, _⟩ := h
    rfl
  · obtain ⟨p, q, b, ss, ls, os, ps, rfl, hp, hq, wf, wf2, hl, k⟩ := h
    refine ⟨_, (pss_cons (ps_par (i := 2) (j := 3) (by rfl) nd rfl rfl (by decide) rfl rfl (pa_cons (pe_d D_spanned hr (pa_cons (pe_fld (pv 0) rfl) pa_nil)) (pa_cons (pe_d D_spanned hr (pa_cons (pe_fld (pv 1) rfl) pa_nil)) pa_nil)) (by rfl))
  (pss_one (ps_ret (pe_tup (pa_cons (pv 2) (pa_cons (pv 3) (pa_cons (pe_d D_spanned hr (pa_cons (pe_op op_cat (pv 2) (pv 3)) pa_nil)) (pa_cons (pe_d D_met hr (pa_cons (pe_fld (pv 0) rfl) (pa_cons (pv 2) (pa_cons (pv 3) pa_nil)))) pa_nil)))))))), ?_⟩
    obtain ⟨dx, t, u, h1, h2, h3⟩ := hp
    obtain ⟨dy, t', u', g1, g2, g3⟩ := hq
    have wsl := wf.sl
    have wsl2 := wf2.sl
    have wb := wf.bb
    refine ⟨_, rfl, p, CR, dx, _, .ref t, rfl, h1, TR.cl, TR.ns, rfl, t, ss, rfl, .inr h2, (by omega), fun H1 r1 s1 hr1 e1 => ?_⟩
    refine ⟨_, rfl, q, CR, dy, _, .ref t', rfl, s1 _ _ g1, TR.cl, TR.ns, rfl, t', os, rfl, .inr (s1 _ _ g2), (by omega), fun H2 r2 s2 hr2 e2 => ⟨_, _, rfl, ?_⟩⟩
    have s02 := s1.trans s2
    have l1 := spn_len ss
    have l2 := spn_len os
    refine ⟨_, rfl, _, rfl, _, rfl, _, rfl, r1, r2, _, _, rfl, rfl, s2 _ _ e1, e2, (by rw [List.length_map, List.length_map, sizeLine_eq]; omega), fun x hx => ?_⟩
    have s3 := same_new0 (o := .lst ((spn ss).map vN ++ (spn os).map vN)) hx
    refine ⟨x, spn ss ++ spn os, rfl, .inl (by rw [upd_same, List.map_append]), (by rw [List.length_append]; omega), fun H4 r3 s4 hr3 e3 => ?_⟩
    have s24 := s3.trans s4
    have bl : ∀ r ∈ spn ss, blen r ≤ 1000000 := fun r hr => Nat.le_trans (spn_blen wf.s r hr) (by omega)
    have bl2 : ∀ r ∈ spn os, blen r ≤ 1000000 := fun r hr => Nat.le_trans (spn_blen wf2.s r hr) (by omega)
    refine ⟨_, rfl, p, CR, dx, _, vN b, rfl, s24 _ _ (s02 _ _ h1), TR.cl, TR.nb, rfl, _, rfl, _, rfl, b, r1, r2, spn ss, spn os, rfl, .inl (s24 _ _ (s2 _ _ e1)), .inl (s24 _ _ e2), (by omega), (by omega), (by omega), bl, bl2, fun H5 r4 s5 hr4 e4 => ?_⟩
    refine ⟨(by show 4 ≤ sizeLine; decide), fun y hy => ?_⟩
    have s6 := same_new0 (o := .tup [.ref r1, .ref r2, .ref r3, .ref r4]) hy
    have s25 := s24.trans s5
    exact k _ _ r1 r2 r3 r4 ((s02.trans s25).trans s6) upd_same (s6 _ _ (s25 _ _ (s2 _ _ e1))) (s6 _ _ (s25 _ _ e2)) (s6 _ _ (s5 _ _ e3)) (s6 _ _ e4)
end
end LaneX
set_option Elab.async false
set_option linter.all false
set_option maxRecDepth 100000
set_option maxHeartbeats 4000000
namespace LaneX
open PySem PySem.Spec PyProof.Rows L2
theorem both_span (ss os : List Nat) (x : Nat) : Spn (spn ss ++ spn os) x ↔ Spn (ss ++ os) x := span_app2 (spn_span ss) (spn_span os)
open Classical in
theorem ahd_all (ss ls os ps : List Nat) : ((lsm ls ps).map fun w => decide (vN (clr (spn (ss ++ os)) w) = .int 0)).all id = ahd ss ls os ps := by
  unfold ahd
  rw [Bool.eq_iff_iff, List.all_eq_true, decide_eq_true_iff]
  constructor
  · intro h w hw
    exact need_in.mp (h _ (List.mem_map.mpr ⟨w, hw, rfl⟩))
  · intro h b hb
    obtain ⟨w, hw, rfl⟩ := List.mem_map.mp hb
    exact need_in.mpr (h w hw)
open Classical in
theorem ahd_true {ss ls os ps : List Nat} : ahd ss ls os ps = true ↔ ∀ w ∈ lsm ls ps, Spn (ss ++ os) w := by
  unfold ahd
  exact decide_eq_true_iff
theorem lsm_blen {b : Nat} {ss ls os ps : List Nat} (wf : WfR b ss ls) (wf2 : WfR b os ps) (hl : ls.length = ps.length) : ∀ x ∈ lsm ls ps, blen x ≤ b := fun x hx => by
  obtain ⟨i, hi, rfl⟩ := List.mem_map.mp hx
  have hi := List.mem_range.mp hi
  exact blen_le.mpr (Nat.xor_lt_two_pow (blen_le.mp (wf.l _ (getD_mem hi))) (blen_le.mp (wf2.l _ (getD_mem (by omega)))))
theorem wf_lt {b : Nat} {ss ls : List Nat} (wf : WfR b ss ls) : ∀ x ∈ ss, x < 2 ^ b := fun x hx => blen_le.mp (wf.s x hx)
open Classical in
theorem fwr_ahd (ss ls os ps : List Nat) : fwr ss ls os ps = if ahd ss ls os ps = true then 2 ^ rk os - 2 ^ shr ss os else 2 ^ rk os := by
  unfold fwr ahd
  simp only [decide_eq_true_iff]
theorem shr_le (ss os : List Nat) : shr ss os ≤ rk os := by
  have := rk_left ss os
  unfold shr
  omega
section
variable {P : Program} {w : World} {K : PySem.W.Frag} {mg : Str → Option Value} {base : Heap} {f : Addr} {fd : FuncData} {CR : Addr} (T : Bt mg) (TR : SpreadT K mg CR)
include T TR
theorem ok_all_hold (F : FnP K "all_hold" "all_hold" s_all_hold f fd) (D_lane_sums : Dn P w K mg base 1 "lane_sums" ["one", "other"] (sp_lane_sums CR)) (D_spanned : Dn P w K mg base 3 "spanned" ["words"] sp_spanned) (D_cleared : Dn P w K mg base 1 "cleared" ["rows", "word"] sp_cleared) : FnOk P w K mg base CX0 4 f fd ["one", "other"] (sp_all_hold CR) := by
  have nd := sc_all_hold.nd
  refine fnok F sc_all_hold (fun vs H Q E h => ?_) (fun cdv A outer s H vs Q E hr h => ?_)
  · obtain ⟨p, q, b, ss, ls, os, ps, rfl, _⟩ := h
    rfl
  · obtain ⟨p, q, b, ss, ls, os, ps, rfl, hp, hq, wf, wf2, hl, k⟩ := h
    refine ⟨_, (pss_cons (ps_asg (pe_tup (pa_cons (pe_d D_lane_sums hr (pa_cons (pv 0) (pa_cons (pv 1) pa_nil))) (pa_cons (pe_d D_spanned hr (pa_cons (pe_op op_cat (pe_callTy call_listQ (by rfl) T.list (by decide +kernel) (pa_cons (pe_fld (pv 0) rfl) pa_nil)) (pe_callTy call_listQ (by rfl) T.list (by decide +kernel) (pa_cons (pe_fld (pv 1) rfl) pa_nil))) pa_nil)) pa_nil))) (pg_tup (by rfl) (pgs_cons (pg_name (i := 2) nd rfl (Or.inl rfl)) (pgs_cons (pg_name (i := 3) nd rfl (Or.inr rfl)) pgs_nil))))
  (pss_one (ps_ret (pe_callB (cr_all rfl) (by rfl) T.all (by decide +kernel) (pa_cons (pe_lc (own := [("word", 4)]) (g := gName 4) (by rfl) nd (pi_seq (pv 2)) (blkOk_by (own := [("word", 4)]) (N := ["one", "other", "sums", "both", "word"]) (sc := defScope s_all_hold) (by decide +kernel)) (fun _ _ _ _ _ => (pg_name (i := 4) nd rfl (Or.inl rfl))) (fun _ _ _ _ _ => pts_nil) (fun _ _ _ _ _ => (pe_cmpR op_eq (pe_d D_cleared hr (pa_cons (pv 3) (pa_cons (pv 4) pa_nil))) pe_int (nomark _)))) pa_nil))))), ?_⟩
    refine ⟨_, rfl, _, rfl, p, q, b, ss, ls, os, ps, rfl, hp, hq, wf, wf2, hl, fun H1 t s1 ht h1 => ?_⟩
    obtain ⟨dx, t1, u, h1', h2, h3⟩ := hp.same s1
    have wsl := wf.sl
    have wsl2 := wf2.sl
    refine ⟨_, rfl, p, CR, dx, _, .ref t1, rfl, h1', TR.cl, TR.ns, rfl, t1, _, rfl, .inr h2, fun x1 hx1 => ?_⟩
    have s2 := same_new0 (o := .lst (ss.map vN)) hx1
    obtain ⟨dy, t2, u', g1, g2, g3⟩ := (hq.same s1).same s2
    refine ⟨_, rfl, q, CR, dy, _, .ref t2, rfl, g1, TR.cl, TR.ns, rfl, t2, _, rfl, .inr g2, fun x2 hx2 => ?_⟩
    refine ⟨_, _, _, _, rfl, rfl, upd_new hx2 upd_same, upd_same, (by rw [List.length_map, List.length_map, sizeLine_eq]; omega), fun x3 hx3 => ?_⟩
    have s4 := same_new (o := .lst (ss.map vN ++ os.map vN)) (same_new (o := .lst (os.map vN)) s2 hx2) hx3
    refine ⟨x3, ss ++ os, rfl, .inl (by rw [upd_same, List.map_append]), (by rw [List.length_append]; omega), fun H5 r s5 hr5 e5 => ?_⟩
    have s15 := s4.trans s5
    refine ⟨(by show 2 ≤ sizeLine; decide), fun x4 hx4 => ⟨x4, _, rfl, SqT.of upd_same, rfl, _, _, rfl, _, _, rfl, rfl, ?_⟩⟩
    have s6 := same_new0 (o := .tup [.ref t, .ref r]) hx4
    have l1 := lsm_len ls ps
    have wll := wf.ll
    refine ⟨_, rfl, lc_pure (lsm ls ps) vN (fun _ => true) (fun w => .bl (decide (vN (clr (spn (ss ++ os)) w) = .int 0))) (.inl (s6 _ _ (s15 _ _ h1))) (by omega) (fun w H' hw s => ?_) (fun D H' hD s h' => ?_)⟩
    · intro Z Nx z1 z2
      exact ⟨rfl, _, rfl, _, rfl, r, _, w, rfl, .inl (s _ _ (s6 _ _ e5)), (spn_rws _).nz, rfl, z1 rfl _ (Same.refl _)⟩
    · rw [filt_true] at h'
      refine ⟨D, (lsm ls ps).map (fun w => decide (vN (clr (spn (ss ++ os)) w) = .int 0)), rfl, SqL.of (by rw [h', List.map_map]; rfl), ?_⟩
      rw [ahd_all]
      exact k _ (((s1.trans s15).trans s6).trans s)
theorem ok_fewest_rounds (F : FnP K "fewest_rounds" "fewest_rounds" s_fewest_rounds f fd) (D_need_fit : Dn P w K mg base 2 "need_fit" ["one", "other"] (sp_need_fit CR)) (D_both_rows : Dn P w K mg base 5 "both_rows" ["one", "other"] (sp_both_rows CR)) (D_all_hold : Dn P w K mg base 4 "all_hold" ["one", "other"] (sp_all_hold CR)) : FnOk P w K mg base CX0 6 f fd ["one", "other"] (sp_fewest_rounds CR) := by
  have nd := sc_fewest_rounds.nd
  refine fnok F sc_fewest_rounds (fun vs H Q E h => ?_) (fun cdv A outer s H vs Q E hr h => ?_)
  · obtain ⟨p, q, b, ss, ls, os, ps, rfl, _⟩ := h
    rfl
  · obtain ⟨p, q, b, ss, ls, os, ps, rfl, hp, hq, wf, wf2, hl, k⟩ := h
    refine ⟨_, (pss_cons (ps_expr (pe_d D_need_fit hr (pa_cons (pv 0) (pa_cons (pv 1) pa_nil))))
  (pss_cons (ps_asg (pe_d D_both_rows hr (pa_cons (pv 0) (pa_cons (pv 1) pa_nil))) (pg_tup (by rfl) (pgs_cons (pg_name (i := 2) nd rfl (Or.inl rfl)) (pgs_cons (pg_name (i := 3) nd rfl (Or.inl rfl)) (pgs_cons (pg_name (i := 4) nd rfl (Or.inl rfl)) (pgs_cons (pg_name (i := 5) nd rfl (Or.inl rfl)) pgs_nil))))))
  (pss_cons (ps_if (pt_val (pe_d D_all_hold hr (pa_cons (pv 0) (pa_cons (pv 1) pa_nil))))
    (pss_one (ps_ret (pe_op on_sub (pe_op on_shl pe_int (pe_callB call_lenQ (by rfl) T.len PySem.boot_len (pa_cons (pv 3) pa_nil))) (pe_op on_shl pe_int (pe_callB call_lenQ (by rfl) T.len PySem.boot_len (pa_cons (pv 5) pa_nil))))))
    pss_nil)
  (pss_one (ps_ret (pe_op on_shl pe_int (pe_callB call_lenQ (by rfl) T.len PySem.boot_len (pa_cons (pv 3) pa_nil)))))))), ?_⟩
    refine ⟨_, rfl, _, rfl, p, q, b, ss, ls, os, ps, rfl, hp, hq, wf, wf2, hl, ?_⟩
    refine ⟨_, rfl, _, rfl, p, q, b, ss, ls, os, ps, rfl, hp, hq, wf, wf2, hl, fun H1 t t1 t2 t3 t4 s1 e e1 e2 e3 e4 => ?_⟩
    refine ⟨t, _, rfl, SqT.of e, rfl, _, _, rfl, _, _, rfl, _, _, rfl, _, _, rfl, rfl, ?_⟩
    refine ⟨_, rfl, _, rfl, p, q, b, ss, ls, os, ps, rfl, hp.same s1, hq.same s1, wf, wf2, hl, fun H2 s2 => ?_⟩
    have o1 : blen 1 ≤ 1000000 := by rw [blen_one]; decide
    have wsl := wf2.sl
    have l1 : (spn os).length = rk os := rfl
    have l2 := rk_len os
    have l3 : (mtd b (spn ss) (spn os)).length = shr ss os := mtd_shr (wf_lt wf)
    have l4 := shr_le ss os
    have pw : 1 <<< shr ss os ≤ 1 <<< rk os := by rw [Nat.one_shiftLeft, Nat.one_shiftLeft]; exact Nat.pow_le_pow_right (by decide) l4
    have fe := fwr_ahd ss ls os ps
    refine ⟨_, rfl, br (fun z => ?_) (fun z => ?_)⟩
    · rw [if_pos z] at fe
      refine ⟨_, rfl, t2, _, rfl, .inl (s2 _ _ e2), 1, (spn os).length, rfl, (by rw [List.length_map]), shl_ok1 o1 (by omega), ?_⟩
      refine ⟨_, rfl, t4, _, rfl, .inl (s2 _ _ e4), 1, shr ss os, rfl, (by rw [List.length_map, l3]), shl_ok1 o1 (by omega), _, _, rfl, rfl, pw, ?_⟩
      rw [l1, Nat.one_shiftLeft, Nat.one_shiftLeft, ← fe]
      exact k _ (s1.trans s2)
    · rw [if_neg (by rw [z]; decide)] at fe
      refine ⟨_, rfl, t2, _, rfl, .inl (s2 _ _ e2), 1, (spn os).length, rfl, (by rw [List.length_map]), shl_ok1 o1 (by omega), ?_⟩
      rw [l1, Nat.one_shiftLeft, ← fe]
      exact k _ (s1.trans s2)
end
end LaneX
set_option Elab.async false
set_option linter.all false
set_option maxRecDepth 100000
set_option maxHeartbeats 4000000
namespace LaneX
open PySem PySem.Spec PyProof.Rows L2
/-! ### starts of rounds -/
def sp_added_rows : Sp := fun vs H Q _ => ∃ (p q : Addr) (rs os : List Nat), vs = [.ref p, .ref q] ∧ Tq H p (rs.map vN) ∧ Tq H q (os.map vN) ∧ Rws rs ∧ rs.length ≤ 400000 ∧ os.length ≤ 400000 ∧ ∀ H' t, Same H H' → H t = none → H' t = some (.lst ((cmpl rs os).map vN)) → Q (.ref t) H'
def sp_lane_of (CR : Addr) : Sp := fun vs H Q _ => ∃ (p : Addr) (b : Nat) (ss ls : List Nat) (x : Nat), vs = [.ref p, vN x] ∧ SpreadAt CR H p b ss ls ∧ WfR b ss ls ∧ b ≤ rk (ss ++ ls) ∧ blen x ≤ b ∧ ∀ H', Same H H' → Q (vN (lno ss ls x)) H'
def sp_parts_in : Sp := fun vs H Q _ => ∃ (a c d : Addr) (b : Nat) (R O ws : List Nat), vs = [.ref a, .ref c, .ref d] ∧ Tq H a (R.map vN) ∧ Tq H c (O.map vN) ∧ Tq H d (ws.map vN) ∧ R.length ≤ 100000 ∧ O.length ≤ 100000 ∧ ws.length ≤ 400000 ∧ b ≤ 400000 ∧ (∀ x ∈ R ++ O, x < 2 ^ b) ∧ (∀ x ∈ ws, Spn (R ++ O) x) ∧
  ∀ H' t, Same H H' → H t = none → H' t = some (.lst ((ws.map (pin R O)).map vN)) → Q (.ref t) H'
/-- both are whole, and small -/
structure Whl2 (b : Nat) (ss ls os ps : List Nat) : Prop where
  r1 : b ≤ rk (ss ++ ls)
  r2 : b ≤ rk (os ++ ps)
  sl : ss.length ≤ 100000
  ol : os.length ≤ 100000
  ll : ls.length ≤ 100000
def spFit (CR : Addr) (k : Nat → List Nat → List Nat → List Nat → List Nat → Hp → VK → Prop) : Sp := fun vs H Q _ => ∃ (p q : Addr) (b : Nat) (ss ls os ps : List Nat), vs = [.ref p, .ref q] ∧ SpreadAt CR H p b ss ls ∧ SpreadAt CR H q b os ps ∧ WfR b ss ls ∧ WfR b os ps ∧ ls.length = ps.length ∧ Whl2 b ss ls os ps ∧ k b ss ls os ps H Q
def sp_kept_starts (CR : Addr) : Sp := spFit CR fun b ss ls os ps H Q => (∀ w ∈ lsm ls ps, Spn (ss ++ os) w) ∧ ∀ H' t, Same H H' → H t = none → H' t = some (.lst ((kst (spn ss) (spn os) ls ps).map vN)) → Q (.ref t) H'
def sp_wide_starts (CR : Addr) : Sp := spFit CR fun b ss ls os ps H Q => ∀ H' t, Same H H' → H t = none → H' t = some (.lst ((wds ss os ps).map vN)) → Q (.ref t) H'
section
variable {K : PySem.W.Frag} {g : TG} {tt : TT} {te : TE} {vs : List Nat} {σ : L2.St} {H : Hp} {Q : Addr → Hp → Prop}
/-- a pure comprehension over enumerate(l) -/
theorem lc_pureL {a : Addr} {xs : List V} (v : Nat → V) (hS : H a = some (.lst xs)) (hlen : xs.length ≤ 1000000) (hs : ∀ i x H' T, xs[i]? = some x → Same H H' → H' T = some (.tup [vN i, x]) → LcT g tt te vs σ (.ref T) H' true (v i))
    (hd : ∀ D H', H D = none → Same H H' → H' D = some (.lst ((List.range xs.length).map v)) → Q D H') : LcR g tt te vs σ Q (Ite K a) H := by
  intro D hD
  refine lc_it walk_enum (fun i H' => Same H H' ∧ H' D = some (.lst ((((List.range xs.length).take i).filter fun _ => true).map v))) ⟨same_new0 hD, by simpa using upd_same⟩ (fun i H' _ hp => SqL.of (hp.1 _ _ hS)) (fun i x H' H2 hi hp y => ?_) (fun H' hp => ?_)
  · obtain ⟨T, x1, x2, rfl, nT, rfl, e1, e2⟩ := y
    cases e1
    have s2 : Same H (upd H' T (.tup [vN i, x2])) := same_new hp.1 nT
    exact lc_turn (l := List.range xs.length) (ι := fun _ => .ref T) (p := fun _ => true) (v := v) (by simpa using hlen) hD (range_get hi) s2 (upd_new nT hp.2) (hs i x2 _ T e2 s2 upd_same)
  · obtain ⟨h1, h2⟩ := hp
    rw [List.take_of_length_le (by simp), List.filter_eq_self.mpr fun _ _ => rfl] at h2
    exact hd D H' hD h1 h2
end
theorem wf_lt' {b : Nat} {l : List Nat} (h : ∀ x ∈ l, blen x ≤ b) : ∀ x ∈ l, x < 2 ^ b := fun x hx => blen_le.mp (h x hx)
section
variable {P : Program} {w : World} {K : PySem.W.Frag} {mg : Str → Option Value} {base : Heap} {f : Addr} {fd : FuncData} {CS CR : Addr} (T : Bt mg) (TS : SpaceT K mg CS) (TR : SpreadT K mg CR)
include T
theorem ok_added_rows (F : FnP K "added_rows" "added_rows" s_added_rows f fd) (D_cleared : Dn P w K mg base 1 "cleared" ["rows", "word"] sp_cleared) (D_grown : Dn P w K mg base 2 "grown" ["rows", "word"] sp_grown) : FnOk P w K mg base CX0 3 f fd ["rows", "words"] sp_added_rows := by
  have nd := sc_added_rows.nd
  refine fnok F sc_added_rows (fun vs H Q E h => ?_) (fun cdv A outer s H vs Q E hr h => ?_)
  · obtain ⟨p, q, rs, os, rfl, _⟩ := h
    rfl
  · obtain ⟨p, q, rs, os, rfl, hp, hq, w1, l1, l2, k⟩ := h
    refine ⟨_, (pss_cons (ps_par (i := 2) (j := 3) (by rfl) nd rfl rfl (by decide) rfl rfl (pa_cons (pe_callTy call_listQ (by rfl) T.list (by decide +kernel) (pa_cons (pv 0) pa_nil)) (pa_cons (pe_lst pa_nil) pa_nil)) (by rfl))
  (pss_cons (ps_for PassesOwn.never rfl (pi_seq (pv 1)) (pg_name (i := 4) nd rfl (Or.inl rfl))
    (pss_one (ps_if (pt_cmpR op_ne (pe_d D_cleared hr (pa_cons (pv 2) (pa_cons (pv 4) pa_nil))) pe_int (nomark _))
      (pss_cons (ps_set (i := 2) nd rfl (Or.inl rfl) (pe_d D_grown hr (pa_cons (pv 2) (pa_cons (pv 4) pa_nil))))
      (pss_one (ps_expr (pe_bm PySem.F.plainAttrs_list PySem.F.slot_list_append PySem.F.type_list_append mt_append (pv 3) (pa_cons (pv 4) pa_nil)))))
      pss_nil)))
  (pss_one (ps_ret (pv 3))))), ?_⟩
    refine ⟨_, rfl, p, _, rfl, hp, fun a0 ha0 => ?_⟩
    refine ⟨(by decide), fun c0 hc0 => ⟨_, _, rfl, ?_⟩⟩
    have na : a0 ≠ c0 := ne_of_none upd_same hc0
    have hc0' : H c0 = none := same_free (same_new0 ha0) hc0
    generalize hHB : upd (upd H a0 (.lst (rs.map vN))) c0 (.lst []) = HB at *
    have s0 : Same H HB := by rw [← hHB]; exact same_new (same_new0 ha0) hc0
    have hB1 : HB a0 = some (.lst (rs.map vN)) := by rw [← hHB]; exact upd_new hc0 upd_same
    have hB2 : HB c0 = some (.lst []) := by rw [← hHB]; exact upd_same
    refine ⟨_, rfl, for_sq2 (K := K) (same_tq s0 hq) (fun i σ H2 => ∃ v a, σ = [some (.ref p), some (.ref q), some (.ref a), some (.ref c0), v] ∧ (∀ c o, H c = some o → H2 c = some o) ∧ H a = none ∧ a ≠ c0 ∧ H2 a = some (.lst ((cms rs (os.take i)).1.map vN)) ∧ H2 c0 = some (.lst ((cms rs (os.take i)).2.map vN)))
      ⟨none, a0, rfl, s0, ha0, na, hB1, hB2⟩ (fun i σ H2 hp => ?_) ?_ ?_⟩
    · obtain ⟨_, _, _, s2, _⟩ := hp
      intro o ho
      have e1 : H q = some o := by
        rcases hq with z | z
        · rw [s0 _ _ z] at ho; rw [← ho]; exact z
        · rw [s0 _ _ z] at ho; rw [← ho]; exact z
      exact s2 _ _ e1
    · rintro i y σ H2 hy ⟨v, a, rfl, s2, han, nac, h3, h4⟩
      obtain ⟨r, hr', rfl⟩ := map_get hy
      have R := cms_rws w1 (os.take i)
      have L := cms_len rs (os.take i)
      have tl : (os.take i).length ≤ 400000 := Nat.le_trans (by rw [List.length_take]; omega) l2
      refine ⟨_, rfl, _, rfl, a, _, r, rfl, .inl h3, R.nz, rfl, _, rfl, ?_⟩
      rw [dec_ne0, take_succ hr', cms_snoc]
      refine br (fun e => ?_) (fun e => ?_)
      · have e0 : clr (cms rs (os.take i)).1 r ≠ 0 := by simpa using e
        rw [if_neg e0]
        refine ⟨_, rfl, _, rfl, a, _, r, rfl, .inl h3, R.nz, (by omega), fun H3 a1 s3 ha1 h5 => ?_⟩
        have na1 : a1 ≠ c0 := (ne_of_none h4 ha1).symm
        refine ⟨_, rfl, .inl ⟨rfl, _, SqL.of (s3 _ _ h4)⟩, _, rfl, c0, _, _, rfl, rfl, s3 _ _ h4, (by rw [List.length_map]; exact size6 (by omega)), ?_⟩
        refine ⟨_, a1, rfl, fun c o hc => upd_put (s3 _ _ (s2 _ _ hc)) (ne_of_none hc hc0'), ?_, na1, upd_put h5 na1, ?_⟩
        · cases z : H a1 with
          | none => rfl
          | some o => rw [s2 _ _ z] at ha1; cases ha1
        · rw [upd_same, List.map_append]
          rfl
      · have e0 : clr (cms rs (os.take i)).1 r = 0 := by simpa using e
        rw [if_pos e0]
        exact ⟨_, a, rfl, s2, han, nac, h3, h4⟩
    · rintro σ H2 ⟨v, a, rfl, s2, han, nac, h3, h4⟩
      rw [List.length_map, List.take_length] at h4
      exact ⟨_, rfl, k _ _ s2 hc0' h4⟩
include TR in
theorem ok_lane_of (F : FnP K "lane_of" "Spread.lane_of" s_Spread_lane_of f fd) (D_need_word : Dn P w K mg base 2 "need_word" ["value", "bits"] sp_need_word) (D_spanned : Dn P w K mg base 3 "spanned" ["words"] sp_spanned) (D_paired : Dn P w K mg base 4 "paired" ["columns"] sp_paired) (D_cleared : Dn P w K mg base 1 "cleared" ["rows", "word"] sp_cleared) (D_solved : Dn P w K mg base 2 "solved" ["pairs", "source", "word"] sp_solved) : FnOk P w K mg base CX0 5 f fd ["self", "entry"] (sp_lane_of CR) := by
  have nd := sc_Spread_lane_of.nd
  refine fnok F sc_Spread_lane_of (fun vs H Q E h => ?_) (fun cdv A outer s H vs Q E hr h => ?_)
  · obtain ⟨p, b, ss, ls, x, rfl, _⟩ := h
    rfl
  · obtain ⟨p, b, ss, ls, x, rfl, hp, wf, hb, nb, k⟩ := h
    refine ⟨_, (pss_cons (ps_expr (pe_d D_need_word hr (pa_cons (pv 1) (pa_cons (pe_fld (pv 0) rfl) pa_nil))))
  (pss_cons (ps_set (i := 2) nd rfl (Or.inr rfl) (pe_d D_spanned hr (pa_cons (pe_fld (pv 0) rfl) pa_nil)))
  (pss_cons (ps_set (i := 3) nd rfl (Or.inl rfl) (pe_d D_paired hr (pa_cons (pe_lc (own := [("word", 4)]) (g := gName 4) (by rfl) nd (pi_seq (pe_fld (pv 0) rfl)) (blkOk_by (own := [("word", 4)]) (N := ["self", "entry", "rows", "pairs", "word"]) (sc := defScope s_Spread_lane_of) (by decide +kernel)) (fun _ _ _ _ _ => (pg_name (i := 4) nd rfl (Or.inl rfl))) (fun _ _ _ _ _ => pts_nil) (fun _ _ _ _ _ => (pe_d D_cleared hr (pa_cons (pv 2) (pa_cons (pv 4) pa_nil))))) pa_nil)))
  (pss_one (ps_ret (pe_d D_solved hr (pa_cons (pv 3) (pa_cons (pe_callB call_lenQ (by rfl) T.len PySem.boot_len (pa_cons (pe_fld (pv 0) rfl) pa_nil)) (pa_cons (pe_d D_cleared hr (pa_cons (pv 2) (pa_cons (pv 1) pa_nil))) pa_nil))))))))), ?_⟩
    obtain ⟨bb, wss, wl, wsl, wll⟩ := id wf
    obtain ⟨dx, t, u, h1, h2, h3⟩ := hp
    refine ⟨_, rfl, _, rfl, p, CR, dx, _, vN b, rfl, h1, TR.cl, TR.nb, rfl, x, b, rfl, nb, ?_⟩
    refine ⟨_, rfl, p, CR, dx, _, .ref t, rfl, h1, TR.cl, TR.ns, rfl, t, ss, rfl, .inr h2, (by omega), fun H1 q1 s1 hq1 g1 => ?_⟩
    refine ⟨_, rfl, p, CR, dx, _, .ref u, rfl, s1 _ _ h1, TR.cl, TR.nl, rfl, lc_pure ls vN (fun _ => true) (fun x => vN (clr (spn ss) x)) (.inr (s1 _ _ h3)) (by omega) (fun n H' hn s => ?_) (fun D H2 hD s2 g2 => ?_)⟩
    · intro Z Nx z1 z2
      exact ⟨rfl, _, rfl, _, rfl, q1, _, n, rfl, .inl (s _ _ g1), (spn_rws ss).nz, z1 rfl _ (Same.refl _)⟩
    · rw [filt_true] at g2
      refine ⟨D, lcs ss ls, rfl, .inl (by rw [g2, lcs, List.map_map]; rfl), (by rw [lcs_len]; omega), ?_, fun H3 q3 s3 hq3 g3 => ?_⟩
      · intro c hc
        obtain ⟨x, hx, rfl⟩ := List.mem_map.mp hc
        exact Nat.le_trans (clr_blen (spn_blen wss) (wl x hx)) (by omega)
      have s13 := s1.trans (s2.trans s3)
      have e1 : clr (spn ss) x < 2 ^ b := blen_le.mp (clr_blen (spn_blen wss) nb)
      refine ⟨_, rfl, _, rfl, p, CR, dx, _, .ref u, rfl, s13 _ _ h1, TR.cl, TR.nl, rfl, u, _, rfl, .inr (s13 _ _ h3), _, rfl, _, rfl, q1, _, x, rfl, .inl (s3 _ _ (s2 _ _ g1)), (spn_rws ss).nz, q3, lcs ss ls, b, _, ?_, .inl g3, (by rw [lcs_len]; exact wll), e1, bb, lcs_span (wf_lt' wss) (wf_lt' wl) hb (blen_le.mp nb), k _ s13⟩
      rw [List.length_map, lcs_len]; rfl
theorem ok_parts_in (F : FnP K "parts_in" "parts_in" s_parts_in f fd) (D_paired : Dn P w K mg base 4 "paired" ["columns"] sp_paired) (D_image_of : Dn P w K mg base 4 "image_of" ["columns", "word"] sp_image_of) (D_solved : Dn P w K mg base 2 "solved" ["pairs", "source", "word"] sp_solved) : FnOk P w K mg base CX0 5 f fd ["rows", "others", "words"] sp_parts_in := by
  have nd := sc_parts_in.nd
  refine fnok F sc_parts_in (fun vs H Q E h => ?_) (fun cdv A outer s H vs Q E hr h => ?_)
  · obtain ⟨a, c, d, b, R, O, ws, rfl, _⟩ := h
    rfl
  · obtain ⟨a, c, d, b, R, O, ws, rfl, hR, hO, hW, rl, ol, wl, hb, lt, sp, k⟩ := h
    refine ⟨_, (pss_cons (ps_set (i := 3) nd rfl (Or.inr rfl) (pe_op op_cat (pe_callTy call_listQ (by rfl) T.list (by decide +kernel) (pa_cons (pv 0) pa_nil)) (pe_callTy call_listQ (by rfl) T.list (by decide +kernel) (pa_cons (pv 1) pa_nil))))
  (pss_cons (ps_asg (pe_tup (pa_cons (pe_d D_paired hr (pa_cons (pv 3) pa_nil)) (pa_cons (pe_op on_sub (pe_op on_shl pe_int (pe_callB call_lenQ (by rfl) T.len PySem.boot_len (pa_cons (pv 0) pa_nil))) pe_int) pa_nil))) (pg_tup (by rfl) (pgs_cons (pg_name (i := 4) nd rfl (Or.inr rfl)) (pgs_cons (pg_name (i := 5) nd rfl (Or.inr rfl)) pgs_nil))))
  (pss_one (ps_ret (pe_lc (own := [("word", 6)]) (g := gName 6) (by rfl) nd (pi_seq (pv 2)) (blkOk_by (own := [("word", 6)]) (N := ["rows", "others", "words", "columns", "pairs", "low", "word"]) (sc := defScope s_parts_in) (by decide +kernel)) (fun _ _ _ _ _ => (pg_name (i := 6) nd rfl (Or.inl rfl))) (fun _ _ _ _ _ => pts_nil) (fun _ _ _ _ _ => (pe_d D_image_of hr (pa_cons (pv 0) (pa_cons (pe_op on_and (pe_d D_solved hr (pa_cons (pv 4) (pa_cons (pe_callB call_lenQ (by rfl) T.len PySem.boot_len (pa_cons (pv 3) pa_nil)) (pa_cons (pv 6) pa_nil)))) (pv 5)) pa_nil))))))))), ?_⟩
    refine ⟨_, rfl, a, _, rfl, hR, fun l1 hl1 => ?_⟩
    have s1 := same_new0 (o := .lst (R.map vN)) hl1
    refine ⟨_, rfl, c, _, rfl, same_tq s1 hO, fun l2 hl2 => ?_⟩
    have s2 := same_new (o := .lst (O.map vN)) s1 hl2
    refine ⟨_, _, _, _, rfl, rfl, upd_new hl2 upd_same, upd_same, (by rw [List.length_map, List.length_map, sizeLine_eq]; omega), fun co hco => ?_⟩
    have s3 := same_new (o := .lst (R.map vN ++ O.map vN)) s2 hco
    have e3 : upd (upd (upd H l1 (.lst (R.map vN))) l2 (.lst (O.map vN))) co (.lst (R.map vN ++ O.map vN)) co = some (.lst ((R ++ O).map vN)) := by rw [upd_same, List.map_append]
    generalize upd (upd (upd H l1 (.lst (R.map vN))) l2 (.lst (O.map vN))) co (.lst (R.map vN ++ O.map vN)) = H3 at *
    have cl : (R ++ O).length = R.length + O.length := List.length_append
    refine ⟨_, rfl, co, R ++ O, rfl, .inl e3, (by omega), (fun x hx => Nat.le_trans (blen_le.mpr (lt x hx)) (by omega)), fun H4 pr s4 hpr e4 => ?_⟩
    have o1 : blen 1 ≤ 1000000 := by rw [blen_one]; decide
    have o2 : 1 ≤ 1 <<< R.length := by rw [Nat.one_shiftLeft]; exact Nat.two_pow_pos _
    have s34 := s3.trans s4
    refine ⟨_, rfl, a, _, rfl, same_tq s34 hR, 1, R.length, rfl, (by rw [List.length_map]), shl_ok1 o1 (by omega), 1 <<< R.length, 1, rfl, rfl, o2, (by show 2 ≤ sizeLine; decide), fun x hx => ⟨x, _, rfl, SqT.of upd_same, rfl, _, _, rfl, _, _, rfl, rfl, ?_⟩⟩
    have s5 := same_new (o := .tup [.ref pr, vN (1 <<< R.length - 1)]) s34 hx
    have e5 := upd_new (o := .tup [.ref pr, vN (1 <<< R.length - 1)]) hx e4
    have e6 := upd_new (o := .tup [.ref pr, vN (1 <<< R.length - 1)]) hx (s4 _ _ e3)
    generalize upd H4 x (.tup [.ref pr, vN (1 <<< R.length - 1)]) = H5 at *
    refine ⟨_, rfl, lc_pure ws vN (fun _ => true) (fun w => vN (pin R O w)) (same_tq s5 hW) (by omega) (fun n H' hn s => ?_) (fun D H6 hD s6 g6 => ?_)⟩
    · intro Z Nx z1 z2
      have ml : slv (R ++ O) n &&& (1 <<< R.length - 1) < 2 ^ R.length := by
        rw [Nat.one_shiftLeft, Nat.and_two_pow_sub_one_eq_mod]; exact Nat.mod_lt _ (Nat.two_pow_pos _)
      have e : pin R O n = img R (slv (R ++ O) n &&& (1 <<< R.length - 1)) := by unfold pin; rw [Nat.one_shiftLeft]
      rw [e] at z1
      refine ⟨rfl, _, rfl, _, rfl, _, rfl, co, _, rfl, .inl (s _ _ e6), _, rfl, pr, R ++ O, b, n, (by rw [List.length_map]; rfl), .inl (s _ _ e5), (by omega), (sp n hn).lt lt, hb, sp n hn, _, rfl, _, _, rfl, rfl, a, R, _, rfl, same_tq (s5.trans s) hR, (by omega), ml, fun H7 s7 => z1 rfl _ s7⟩
    · rw [filt_true] at g6
      exact k _ _ (s5.trans s6) (same_free s5 hD) (by rw [g6, List.map_map]; rfl)
include TR in
theorem ok_kept_starts (F : FnP K "kept_starts" "kept_starts" s_kept_starts f fd) (D_both_rows : Dn P w K mg base 5 "both_rows" ["one", "other"] (sp_both_rows CR)) (D_parts_in : Dn P w K mg base 5 "parts_in" ["rows", "others", "words"] sp_parts_in) (D_lane_sums : Dn P w K mg base 1 "lane_sums" ["one", "other"] (sp_lane_sums CR)) : FnOk P w K mg base CX0 6 f fd ["one", "other"] (sp_kept_starts CR) := by
  have nd := sc_kept_starts.nd
  refine fnok F sc_kept_starts (fun vs H Q E h => ?_) (fun cdv A outer s H vs Q E hr h => ?_)
  · obtain ⟨p, q, b, ss, ls, os, ps, rfl, _⟩ := h
    rfl
  · obtain ⟨p, q, b, ss, ls, os, ps, rfl, hp, hq, wf, wf2, hl, wh, all, k⟩ := h
    refine ⟨_, (pss_cons (ps_asg (pe_d D_both_rows hr (pa_cons (pv 0) (pa_cons (pv 1) pa_nil))) (pg_tup (by rfl) (pgs_cons (pg_name (i := 2) nd rfl (Or.inl rfl)) (pgs_cons (pg_name (i := 3) nd rfl (Or.inl rfl)) (pgs_cons (pg_name (i := 4) nd rfl (Or.inl rfl)) (pgs_cons (pg_name (i := 5) nd rfl (Or.inl rfl)) pgs_nil))))))
  (pss_cons (ps_set (i := 6) nd rfl (Or.inr rfl) (pe_d D_parts_in hr (pa_cons (pv 2) (pa_cons (pv 3) (pa_cons (pe_d D_lane_sums hr (pa_cons (pv 0) (pa_cons (pv 1) pa_nil))) pa_nil)))))
  (pss_one (ps_ret (pe_lc (own := [("at", 7), ("word", 8)]) (g := gTup K 2 (gCons (gName 7) (gCons (gName 8) gNil))) (by rfl) nd (pi_enumT (by rfl) T.enumerate (pa_cons (pe_fld (pv 0) rfl) pa_nil)) (blkOk_by (own := [("at", 7), ("word", 8)]) (N := ["one", "other", "rows", "others", "both", "shared", "parts", "at", "word"]) (sc := defScope s_kept_starts) (by decide +kernel)) (fun _ _ _ _ _ => (pg_tup (by rfl) (pgs_cons (pg_name (i := 7) nd rfl (Or.inl rfl)) (pgs_cons (pg_name (i := 8) nd rfl (Or.inl rfl)) pgs_nil)))) (fun _ _ _ _ _ => pts_nil) (fun _ _ _ _ _ => (pe_op on_xor (pv 8) (pe_ix ix_q (pv 6) (pv 7) (fun _ _ => rfl))))))))), ?_⟩
    obtain ⟨bb, wss, wl, wsl, wll⟩ := id wf
    obtain ⟨bb2, wss2, wl2, wsl2, wll2⟩ := id wf2
    have hp' := hp
    obtain ⟨dx, t, u, h1, h2, h3⟩ := hp
    refine ⟨_, rfl, _, rfl, p, q, b, ss, ls, os, ps, rfl, hp', hq, wf, wf2, hl, fun H1 t t1 t2 t3 t4 s1 e e1 e2 e3 e4 => ?_⟩
    refine ⟨t, _, rfl, SqT.of e, rfl, _, _, rfl, _, _, rfl, _, _, rfl, _, _, rfl, rfl, ?_⟩
    refine ⟨_, rfl, _, rfl, _, rfl, _, rfl, p, q, b, ss, ls, os, ps, rfl, hp'.same s1, hq.same s1, wf, wf2, hl, fun H2 g s2 hg e5 => ?_⟩
    have l1 := spn_len ss
    have l2 := spn_len os
    have l3 := lsm_len ls ps
    have w1 := wh.sl
    have w2 := wh.ol
    have w3 := wh.ll
    have s12 := s1.trans s2
    refine ⟨t1, t2, g, b, spn ss, spn os, lsm ls ps, rfl, .inl (s2 _ _ e1), .inl (s2 _ _ e2), .inl e5, (by omega), (by omega), (by omega), bb, (fun x hx => ?_), (fun x hx => (both_sp ss os x).mpr (all x hx)), fun H3 pa s3 hpa e6 => ?_⟩
    · rcases List.mem_append.mp hx with hx | hx
      · exact spn_lt (wf_lt' wss) x hx
      · exact spn_lt (wf_lt' wss2) x hx
    have s13 := s12.trans s3
    refine ⟨_, rfl, p, CR, dx, _, .ref u, rfl, s13 _ _ h1, TR.cl, TR.nl, rfl, u, _, rfl, SqT.of (s13 _ _ h3), lc_pureE (fun i => vN (ls.getD i 0 ^^^ pin (spn ss) (spn os) ((lsm ls ps).getD i 0))) (s13 _ _ h3) (by rw [List.length_map]; omega) (fun i x H' T' hx s hT => ?_) (fun D H4 hD s4 h' => ?_)⟩
    · intro Z Nx z1 z2
      obtain ⟨y, hy, rfl⟩ := map_get hx
      have il := (List.getElem?_eq_some_iff.mp hy).1
      have ey : y = ls.getD i 0 := by rw [List.getD_eq_getElem?_getD, hy]; rfl
      have g2 : (((lsm ls ps).map (pin (spn ss) (spn os))).map vN)[i]? = some (vN (pin (spn ss) (spn os) ((lsm ls ps).getD i 0))) := by
        have : i < (lsm ls ps).length := by omega
        rw [List.getElem?_map, List.getElem?_map, List.getElem?_eq_getElem this, List.getD_eq_getElem?_getD, List.getElem?_eq_getElem this]; rfl
      rw [← ey] at z1
      exact ⟨T', _, rfl, SqT.of hT, rfl, _, _, rfl, _, _, rfl, rfl, rfl, _, rfl, _, rfl, _, rfl, pa, _, i, _, rfl, rfl, .inl (s _ _ e6), g2, _, _, rfl, rfl, z1 rfl _ (Same.refl _)⟩
    · rw [List.length_map] at h'
      exact k _ _ (s13.trans s4) (same_free s13 hD) (by rw [h', kst, List.map_map]; rfl)
end
end LaneX
set_option Elab.async false
set_option linter.all false
set_option maxRecDepth 100000
set_option maxHeartbeats 4000000
namespace LaneX
open PySem PySem.Spec PyProof.Rows L2
theorem ix_okN {n i : Nat} (h : i < n) : ixN n (i : Int) = some i := by
  unfold ixN
  simp [h]
theorem cut_takeN (xs : List Nat) {k : Nat} (h : k ≤ xs.length) : cutV (xs.map vN) none (some (k : Int)) = (xs.take k).map vN := by
  unfold cutV
  rw [HT.sIx_nat, HT.sIx_none, List.length_map, Nat.min_eq_left h, List.map_take]
  rfl
theorem getN {l : List Nat} {i : Nat} (h : i < l.length) : (l.map vN)[i]? = some (vN (l.getD i 0)) := by
  rw [List.getElem?_map, List.getElem?_eq_getElem h, List.getD_eq_getElem?_getD, List.getElem?_eq_getElem h]; rfl
def sp_showing_lanes (CR : Addr) : Sp := fun vs H Q _ => ∃ (p sa : Addr) (b : Nat) (ss ls st : List Nat), vs = [.ref p, .ref sa] ∧ SpreadAt CR H p b ss ls ∧ Tq H sa (st.map vN) ∧ WfR b ss ls ∧ b ≤ rk (ss ++ ls) ∧ b ≤ rk (ss ++ st) ∧ (∀ x ∈ st, x < 2 ^ b) ∧ st.length = ls.length ∧ ss.length ≤ 100000 ∧ ls.length ≤ 100000 ∧ ∀ H' t, Same H H' → H t = none → H' t = some (.lst ((shn b ss ls st).map vN)) → Q (.ref t) H'
section
variable {P : Program} {w : World} {K : PySem.W.Frag} {mg : Str → Option Value} {base : Heap} {f : Addr} {fd : FuncData} {CS CR : Addr} (T : Bt mg) (TS : SpaceT K mg CS) (TR : SpreadT K mg CR)
include T
include TR in
theorem ok_wide_starts (F : FnP K "wide_starts" "wide_starts" s_wide_starts f fd) (D_both_rows : Dn P w K mg base 5 "both_rows" ["one", "other"] (sp_both_rows CR)) (D_kernel_rows : Dn P w K mg base 5 "kernel_rows" ["columns"] sp_kernel_rows) (D_cleared : Dn P w K mg base 1 "cleared" ["rows", "word"] sp_cleared) (D_parts_in : Dn P w K mg base 5 "parts_in" ["rows", "others", "words"] sp_parts_in) (D_image_of : Dn P w K mg base 4 "image_of" ["columns", "word"] sp_image_of) (D_added_rows : Dn P w K mg base 3 "added_rows" ["rows", "words"] sp_added_rows) : FnOk P w K mg base CX0 6 f fd ["one", "other"] (sp_wide_starts CR) := by
  have nd := sc_wide_starts.nd
  refine fnok F sc_wide_starts (fun vs H Q E h => ?_) (fun cdv A outer s H vs Q E hr h => ?_)
  · obtain ⟨p, q, b, ss, ls, os, ps, rfl, _⟩ := h
    rfl
  · obtain ⟨p, q, b, ss, ls, os, ps, rfl, hp, hq, wf, wf2, hl, wh, k⟩ := h
    refine ⟨_, (pss_cons (ps_asg (pe_d D_both_rows hr (pa_cons (pv 0) (pa_cons (pv 1) pa_nil))) (pg_tup (by rfl) (pgs_cons (pg_name (i := 2) nd rfl (Or.inl rfl)) (pgs_cons (pg_name (i := 3) nd rfl (Or.inl rfl)) (pgs_cons (pg_name (i := 4) nd rfl (Or.inr rfl)) (pgs_cons (pg_name (i := 5) nd rfl (Or.inl rfl)) pgs_nil))))))
  (pss_cons (ps_set (i := 6) nd rfl (Or.inl rfl) (pe_callTy call_listQ (by rfl) T.list (by decide +kernel) (pa_cons (pe_fld (pv 1) rfl) pa_nil)))
  (pss_cons (ps_set (i := 7) nd rfl (Or.inl rfl) (pe_d D_kernel_rows hr (pa_cons (pe_lc (own := [("word", 10)]) (g := gName 10) (by rfl) nd (pi_seq (pe_fld (pv 1) rfl)) (blkOk_by (own := [("word", 10)]) (N := ["one", "other", "rows", "others", "both", "shared", "starts", "inner", "parts", "at", "word", "lane", "held", "top"]) (sc := defScope s_wide_starts) (by decide +kernel)) (fun _ _ _ _ _ => (pg_name (i := 10) nd rfl (Or.inl rfl))) (fun _ _ _ _ _ => pts_nil) (fun _ _ _ _ _ => (pe_d D_cleared hr (pa_cons (pv 4) (pa_cons (pv 10) pa_nil))))) pa_nil)))
  (pss_cons (ps_set (i := 8) nd rfl (Or.inl rfl) (pe_d D_parts_in hr (pa_cons (pv 2) (pa_cons (pv 3) (pa_cons (pe_lc (own := [("lane", 11)]) (g := gName 11) (by rfl) nd (pi_seq (pv 7)) (blkOk_by (own := [("lane", 11)]) (N := ["one", "other", "rows", "others", "both", "shared", "starts", "inner", "parts", "at", "word", "lane", "held", "top"]) (sc := defScope s_wide_starts) (by decide +kernel)) (fun _ _ _ _ _ => (pg_name (i := 11) nd rfl (Or.inl rfl))) (fun _ _ _ _ _ => pts_nil) (fun _ _ _ _ _ => (pe_d D_image_of hr (pa_cons (pe_fldK (K := K) (pv 1) rfl) (pa_cons (pv 11) pa_nil))))) pa_nil)))))
  (pss_cons (ps_for PassesOwn.never rfl (pi_enum (by rfl) T.enumerate (pa_cons (pe_d D_added_rows hr (pa_cons (pv 2) (pa_cons (pv 3) pa_nil))) pa_nil)) (pg_tup (by rfl) (pgs_cons (pg_name (i := 9) nd rfl (Or.inl rfl)) (pgs_cons (pg_name (i := 10) nd rfl (Or.inl rfl)) pgs_nil)))
    (pss_cons (ps_par (i := 11) (j := 12) (by rfl) nd rfl rfl (by decide) rfl rfl (pa_cons (pe_ix ix_q (pv 7) (pv 9) (fun _ _ => rfl)) (pa_cons (pe_ix ix_q (pv 8) (pv 9) (fun _ _ => rfl)) pa_nil)) (by rfl))
    (pss_cons (ps_set (i := 13) nd rfl (Or.inl rfl) (pe_op on_sub (pe_bits (pv 11)) pe_int))
    (pss_one (ps_asg (pe_op on_xor (pe_op on_xor (pv 12) (pv 10)) (pe_d D_image_of hr (pa_cons (pe_fld (pv 1) rfl) (pa_cons (pe_op on_xor (pv 11) (pe_op on_shl pe_int (pv 13))) pa_nil)))) (pg_sub (pv 6) (pv 13) set_list))))))
  (pss_one (ps_ret (pv 6)))))))), ?_⟩
    obtain ⟨bb, wss, wl, wsl, wll⟩ := id wf
    obtain ⟨bb2, wss2, wl2, wsl2, wll2⟩ := id wf2
    have hq' := hq
    obtain ⟨dy, t', u', g1, g2, g3⟩ := hq
    have l1 := spn_len ss
    have l2 := spn_len os
    have w1 := wh.sl
    have w2 := wh.ol
    have w3 := wh.ll
    have o1 : blen 1 ≤ 1000000 := by rw [blen_one]; decide
    refine ⟨_, rfl, _, rfl, p, q, b, ss, ls, os, ps, rfl, hp, hq', wf, wf2, hl, fun H1 t t1 t2 t3 t4 s1 e e1 e2 e3 e4 => ?_⟩
    refine ⟨t, _, rfl, SqT.of e, rfl, _, _, rfl, _, _, rfl, _, _, rfl, _, _, rfl, rfl, ?_⟩
    refine ⟨_, rfl, q, CR, dy, _, .ref u', rfl, s1 _ _ g1, TR.cl, TR.nl, rfl, u', _, rfl, .inr (s1 _ _ g3), fun sa hsa => ?_⟩
    have s2 := same_new0 (o := .lst (ps.map vN)) hsa
    have hsaH : H sa = none := same_free s1 hsa
    have e5 : upd H1 sa (.lst (ps.map vN)) sa = some (.lst (ps.map vN)) := upd_same
    generalize upd H1 sa (.lst (ps.map vN)) = H2 at *
    have s12 := s1.trans s2
    -- inner
    have blb : ∀ x ∈ spn (spn ss ++ spn os), blen x ≤ b := spn_blen fun x hx => by
      rcases List.mem_append.mp hx with hx | hx
      · exact spn_blen wss x hx
      · exact spn_blen wss2 x hx
    refine ⟨_, rfl, q, CR, dy, _, .ref u', rfl, s12 _ _ g1, TR.cl, TR.nl, rfl, lc_pure ps vN (fun _ => true) (fun x => vN (clr (spn (spn ss ++ spn os)) x)) (.inr (s12 _ _ g3)) (by omega) (fun n H' hn s => ?_) (fun D H3 hD s3 f3 => ?_)⟩
    · intro Z Nx z1 z2
      exact ⟨rfl, _, rfl, _, rfl, t3, _, n, rfl, .inl (s _ _ (s2 _ _ e3)), (spn_rws _).nz, z1 rfl _ (Same.refl _)⟩
    rw [filt_true] at f3
    refine ⟨D, ps.map (clr (spn (spn ss ++ spn os))), rfl, .inl (by rw [f3, List.map_map]; rfl), (by rw [List.length_map]; omega), (fun c hc => ?_), fun H4 ia s4 hia e6 => ?_⟩
    · obtain ⟨x, hx, rfl⟩ := List.mem_map.mp hc
      exact Nat.le_trans (clr_blen blb (wl2 x hx)) (by omega)
    have e6 : H4 ia = some (.lst ((wdi ss os ps).map vN)) := e6
    have s24 := s3.trans s4
    have s14 := s12.trans s24
    have il := ker_len (ps.map (clr (spn (spn ss ++ spn os))))
    rw [List.length_map] at il
    have il : (wdi ss os ps).length ≤ ps.length := il
    -- parts
    refine ⟨_, rfl, _, rfl, _, rfl, lc_pure (wdi ss os ps) vN (fun _ => true) (fun x => vN (img ps x)) (.inl e6) (by omega) (fun n H' hn s => ?_) (fun D2 H5 hD2 s5 f5 => ?_)⟩
    · intro Z Nx z1 z2
      exact ⟨rfl, _, rfl, q, CR, dy, _, .ref u', rfl, s _ _ (s14 _ _ g1), TR.cl, TR.nl, rfl, _, rfl, u', ps, n, rfl, .inr (s _ _ (s14 _ _ g3)), (by omega), wdi_lt n hn, fun H6 s6 => z1 rfl _ s6⟩
    rw [filt_true] at f5
    have s25 := s24.trans s5
    refine ⟨t1, t2, D2, b, spn ss, spn os, (wdi ss os ps).map (img ps), rfl, .inl (s25 _ _ (s2 _ _ e1)), .inl (s25 _ _ (s2 _ _ e2)), .inl (by rw [f5, List.map_map]; rfl), (by omega), (by omega), (by rw [List.length_map]; omega), bb, (fun x hx => ?_), (fun x hx => ?_), fun H6 pa s6 hpa e7 => ?_⟩
    · rcases List.mem_append.mp hx with hx | hx
      · exact spn_lt (wf_lt' wss) x hx
      · exact spn_lt (wf_lt' wss2) x hx
    · obtain ⟨y, hy, rfl⟩ := List.mem_map.mp hx
      exact (both_sp ss os _).mpr ((wdi_span ss os ps y).mp (.of hy)).2
    have e7 : H6 pa = some (.lst ((wdg ss os ps).map vN)) := by rw [e7, wdg, List.map_map, List.map_map, List.map_map]; rfl
    have s26 := s25.trans s6
    -- the loop
    refine ⟨_, rfl, _, rfl, t1, t2, spn ss, spn os, rfl, .inl (s26 _ _ (s2 _ _ e1)), .inl (s26 _ _ (s2 _ _ e2)), spn_rws ss, (by omega), (by omega), fun H7 aa s7 haa e8 => ?_⟩
    have e8 : H7 aa = some (.lst ((wdw ss os).map vN)) := e8
    have s27 := s26.trans s7
    have s17 := s12.trans s27
    have e57 : H7 sa = some (.lst (ps.map vN)) := s27 _ _ e5
    have e67 : H7 ia = some (.lst ((wdi ss os ps).map vN)) := s7 _ _ (s6 _ _ (s5 _ _ e6))
    have e77 : H7 pa = some (.lst ((wdg ss os ps).map vN)) := s7 _ _ e7
    have nia : ia ≠ sa := (ne_of_none (s3 _ _ e5) hia).symm
    have npa : pa ≠ sa := (ne_of_none (s25 _ _ e5) hpa).symm
    have naa : aa ≠ sa := (ne_of_none (s26 _ _ e5) haa).symm
    have nq : q ≠ sa := ne_of_none g1 hsaH
    have nu : u' ≠ sa := ne_of_none g3 hsaH
    have le := wdw_le (wf_lt' wss) (wf_lt' wss2) (wf_lt' wl2) hl wh.r1
    have R := wdi_rws ss os ps
    have gl : (wdg ss os ps).length = (wdi ss os ps).length := by unfold wdg; rw [List.length_map]
    refine ⟨aa, _, rfl, SqL.of e8, for_it walk_enum (fun i σ Hi => ∃ v9 v10 v11 v12 v13, σ = [some (.ref p), some (.ref q), some (.ref t1), some (.ref t2), some (.ref t3), some (.ref t4), some (.ref sa), some (.ref ia), some (.ref pa), v9, v10, v11, v12, v13] ∧ (∀ c o, H7 c = some o → c ≠ sa → Hi c = some o) ∧ Hi sa = some (.lst ((wsf ps (wdi ss os ps) (wdg ss os ps) (wdw ss os) i).map vN)))
      ⟨none, none, none, none, none, rfl, fun c o hc _ => hc, e57⟩ (fun i σ Hi _ hp => by obtain ⟨_, _, _, _, _, _, z, _⟩ := hp; exact SqL.of (z _ _ e8 naa)) ?_ ?_⟩
    · rintro i x σ Hi Hj hi ⟨v9, v10, v11, v12, v13, rfl, ki, ei⟩ ⟨T', u, z, rfl, hT, rfl, q1, q2⟩
      rw [List.length_map] at hi
      cases q1
      have hz : z = vN ((wdw ss os).getD i 0) := by
        have q2 : ((wdw ss os).map vN)[i]? = some z := q2
        rw [getN hi] at q2
        exact (Option.some.inj q2).symm
      subst hz
      have sj := same_new0 (o := .tup [.int (i : Nat), vN ((wdw ss os).getD i 0)]) hT
      have eT : upd Hi T' (.tup [.int (i : Nat), vN ((wdw ss os).getD i 0)]) T' = some (.tup [.int (i : Nat), vN ((wdw ss os).getD i 0)]) := upd_same
      generalize upd Hi T' (.tup [.int (i : Nat), vN ((wdw ss os).getD i 0)]) = Hj at *
      have kj : ∀ c o, H7 c = some o → c ≠ sa → Hj c = some o := fun c o hc hn => sj _ _ (ki c o hc hn)
      have ej := sj _ _ ei
      have wll' := wsf_len ps (wdi ss os ps) (wdg ss os ps) (wdw ss os) i
      have ilt := wdi_lt (ss := ss) (os := os) (ps := ps) _ (getD_mem (show i < (wdi ss os ps).length by omega))
      have inz := R.nz _ (getD_mem (show i < (wdi ss os ps).length by omega))
      have b1 := blen_pos inz
      have b2 := blen_le.mpr ilt
      have succ := wsf_succ ps (wdi ss os ps) (wdg ss os ps) (wdw ss os) i
      unfold wvl at succ
      have gI := getN (l := wdi ss os ps) (i := i) (by omega)
      have gG := getN (l := wdg ss os ps) (i := i) (by omega)
      generalize (wdi ss os ps).getD i 0 = lane at *
      generalize (wdg ss os ps).getD i 0 = held at *
      generalize (wdw ss os).getD i 0 = word at *
      refine ⟨T', _, rfl, SqT.of eT, rfl, _, _, rfl, _, _, rfl, rfl, ?_⟩
      refine ⟨_, rfl, _, rfl, ia, _, i, _, rfl, rfl, .inl (kj _ _ e67 nia), gI, _, rfl, _, rfl, pa, _, i, _, rfl, rfl, .inl (kj _ _ e77 npa), gG, _, _, rfl, ?_⟩
      refine ⟨_, rfl, lane, rfl, blen lane, 1, (by rw [← blen_bits]), rfl, b1, ?_⟩
      have tlt : lane ^^^ 1 <<< (blen lane - 1) < 2 ^ ps.length := Nat.xor_lt_two_pow ilt (by rw [Nat.one_shiftLeft]; exact Nat.pow_lt_pow_right (by decide) (by omega))
      refine ⟨_, rfl, _, rfl, _, _, rfl, rfl, _, rfl, q, CR, dy, _, .ref u', rfl, kj _ _ (s17 _ _ g1) nq, TR.cl, TR.nl, rfl, _, rfl, _, rfl, 1, blen lane - 1, rfl, rfl, shl_ok1 o1 (by omega), _, _, rfl, rfl, u', ps, _, rfl, .inr (kj _ _ (s17 _ _ g3) nu), (by omega), tlt, fun H8 s8 => ?_⟩
      refine ⟨_, _, rfl, rfl, _, rfl, _, rfl, sa, _, _, blen lane - 1, rfl, rfl, s8 _ _ ej, ix_okN (by rw [List.length_map, wll']; omega), ?_⟩
      refine ⟨_, _, _, _, _, rfl, fun c o hc hn => upd_put (s8 _ _ (kj c o hc hn)) hn, ?_⟩
      rw [upd_same, succ, List.map_set]
    · rintro σ Hi ⟨v9, v10, v11, v12, v13, rfl, ki, ei⟩
      rw [List.length_map] at ei
      exact ⟨_, rfl, k _ _ (fun c o hc => ki c o (s17 _ _ hc) (ne_of_none hc hsaH)) hsaH ei⟩
include TS TR in
theorem ok_showing_lanes (F : FnP K "showing_lanes" "showing_lanes" s_showing_lanes f fd) (D_spanned : Dn P w K mg base 3 "spanned" ["words"] sp_spanned) (D_met : Dn P w K mg base 4 "met" ["bits", "rows", "others"] sp_met) (D_added_rows : Dn P w K mg base 3 "added_rows" ["rows", "words"] sp_added_rows) (M_Spread_twins : Mn P w K mg base 6 CR "twins" ["self"] (sp_twins CS CR)) (M_Spread_lane_of : Mn P w K mg base 5 CR "lane_of" ["self", "entry"] (sp_lane_of CR)) (D_paired : Dn P w K mg base 4 "paired" ["columns"] sp_paired) (D_image_of : Dn P w K mg base 4 "image_of" ["columns", "word"] sp_image_of) (D_solved : Dn P w K mg base 2 "solved" ["pairs", "source", "word"] sp_solved) : FnOk P w K mg base CX0 7 f fd ["one", "starts"] (sp_showing_lanes CR) := by
  have nd := sc_showing_lanes.nd
  refine fnok F sc_showing_lanes (fun vs H Q E h => ?_) (fun cdv A outer s H vs Q E hr h => ?_)
  · obtain ⟨p, sa, b, ss, ls, st, rfl, _⟩ := h
    rfl
  · obtain ⟨p, sa, b, ss, ls, st, rfl, hp, hS, wf, hb, hst, stb, stl, w1, w3, k⟩ := h
    refine ⟨_, (pss_cons (ps_set (i := 2) nd rfl (Or.inl rfl) (pe_d D_spanned hr (pa_cons (pv 1) pa_nil)))
  (pss_cons (ps_set (i := 3) nd rfl (Or.inl rfl) (pe_d D_met hr (pa_cons (pe_fld (pv 0) rfl) (pa_cons (pv 2) (pa_cons (pe_d D_spanned hr (pa_cons (pe_fld (pv 0) rfl) pa_nil)) pa_nil)))))
  (pss_cons (ps_set (i := 4) nd rfl (Or.inl rfl) (pe_d D_added_rows hr (pa_cons (pv 3) (pa_cons (pv 2) pa_nil))))
  (pss_cons (ps_set (i := 5) nd rfl (Or.inr rfl) (pe_op op_cat (pe_slice sl_list (pe_callTy call_listQ (by rfl) T.list (by decide +kernel) (pa_cons (pe_fld (pe_m0 (pv 0) M_Spread_twins hr) rfl) pa_nil)) po_none (po_some (pe_callB call_lenQ (by rfl) T.len PySem.boot_len (pa_cons (pv 3) pa_nil)))) (pe_lc (own := [("word", 7)]) (g := gName 7) (by rfl) nd (pi_seq (pv 4)) (blkOk_by (own := [("word", 7)]) (N := ["one", "starts", "words", "inner", "outer", "lanes", "pairs", "word"]) (sc := defScope s_showing_lanes) (by decide +kernel)) (fun _ _ _ _ _ => (pg_name (i := 7) nd rfl (Or.inl rfl))) (fun _ _ _ _ _ => pts_nil) (fun _ _ _ _ _ => (pe_m (pv 0) M_Spread_lane_of hr (pa_cons (pv 7) pa_nil))))))
  (pss_cons (ps_set (i := 6) nd rfl (Or.inr rfl) (pe_d D_paired hr (pa_cons (pe_op op_cat (pv 3) (pv 4)) pa_nil)))
  (pss_one (ps_ret (pe_lc (own := [("word", 7)]) (g := gName 7) (by rfl) nd (pi_seq (pv 1)) (blkOk_by (own := [("word", 7)]) (N := ["one", "starts", "words", "inner", "outer", "lanes", "pairs", "word"]) (sc := defScope s_showing_lanes) (by decide +kernel)) (fun _ _ _ _ _ => (pg_name (i := 7) nd rfl (Or.inl rfl))) (fun _ _ _ _ _ => pts_nil) (fun _ _ _ _ _ => (pe_d D_image_of hr (pa_cons (pv 5) (pa_cons (pe_d D_solved hr (pa_cons (pv 6) (pa_cons (pe_callB call_lenQ (by rfl) T.len PySem.boot_len (pa_cons (pv 5) pa_nil)) (pa_cons (pv 7) pa_nil)))) pa_nil)))))))))))), ?_⟩
    obtain ⟨bb, wss, wl, wsl, wll⟩ := id wf
    have hp' := hp
    obtain ⟨dx, t, u, h1, h2, h3⟩ := hp
    have l1 := spn_len ss
    have l2 := spn_len st
    have a1 := wf_lt' wss
    have a2 := wf_lt' wl
    refine ⟨_, rfl, sa, st, rfl, hS, (by omega), fun H1 wa s1 hwa e1 => ?_⟩
    refine ⟨_, rfl, p, CR, dx, _, vN b, rfl, s1 _ _ h1, TR.cl, TR.nb, rfl, _, rfl, _, rfl, p, CR, dx, _, .ref t, rfl, s1 _ _ h1, TR.cl, TR.ns, rfl, t, ss, rfl, .inr (s1 _ _ h2), (by omega), fun H2 ra s2 hra e2 => ?_⟩
    refine ⟨b, wa, ra, spn st, spn ss, rfl, .inl (s2 _ _ e1), .inl e2, (by omega), (by omega), (by omega), (fun x hx => Nat.le_trans (blen_le.mpr (spn_lt stb x hx)) (by omega)), (fun x hx => Nat.le_trans (spn_blen wss x hx) (by omega)), fun H3 ia s3 hia e3 => ?_⟩
    have e3 : H3 ia = some (.lst ((shi b ss st).map vN)) := e3
    have il : (shi b ss st).length ≤ b := (mtd_rws b (spn st) (spn ss)).len_le (mtd_blen b (spn st) (spn ss))
    have le := shi_le a1 a2 stb stl hb hst
    have tl : (twn ss ls).length ≤ ls.length := (spn_rws _).len_le fun x hx => blen_le.mpr (twn_lt (.of hx))
    have s13 := s1.trans (s2.trans s3)
    have e13 := s3 _ _ (s2 _ _ e1)
    refine ⟨_, rfl, _, rfl, ia, wa, shi b ss st, spn st, rfl, .inl e3, .inl e13, mtd_rws b (spn st) (spn ss), (by omega), (by omega), fun H4 oa s4 hoa e4 => ?_⟩
    have e4 : H4 oa = some (.lst ((sho b ss st).map vN)) := e4
    have ol : (sho b ss st).length ≤ (spn st).length := (cms_len _ _).2
    have s14 := s13.trans s4
    -- the lanes
    refine ⟨_, rfl, p, dx, _, rfl, s14 _ _ h1, rfl, p, b, ss, ls, rfl, hp'.same s14, wf, fun H5 x5 s5 hx5 g5 => ?_⟩
    obtain ⟨d5, t5, g51, g52⟩ := g5
    refine ⟨x5, CS, d5, _, .ref t5, rfl, g51, TS.cl, TS.nr, rfl, t5, _, rfl, .inr g52, fun l5 hl5 => ?_⟩
    have s6 := same_new (o := .lst ((twn ss ls).map vN)) (s14.trans s5) hl5
    have e6 : upd H5 l5 (.lst ((twn ss ls).map vN)) ia = some (.lst ((shi b ss st).map vN)) := upd_new hl5 (s5 _ _ (s4 _ _ e3))
    have e7 : upd H5 l5 (.lst ((twn ss ls).map vN)) oa = some (.lst ((sho b ss st).map vN)) := upd_new hl5 (s5 _ _ e4)
    have e8 : upd H5 l5 (.lst ((twn ss ls).map vN)) l5 = some (.lst ((twn ss ls).map vN)) := upd_same
    generalize upd H5 l5 (.lst ((twn ss ls).map vN)) = H6 at *
    refine ⟨_, rfl, ia, _, rfl, .inl e6, _, rfl, l5, _, rfl, SqL.of e8, fun l6 hl6 => ?_⟩
    rw [List.length_map, cut_takeN _ le]
    have s7 := same_new0 (o := .lst (((twn ss ls).take (shi b ss st).length).map vN)) hl6
    have e9 : upd H6 l6 (.lst (((twn ss ls).take (shi b ss st).length).map vN)) l6 = some (.lst (((twn ss ls).take (shi b ss st).length).map vN)) := upd_same
    generalize upd H6 l6 (.lst (((twn ss ls).take (shi b ss st).length).map vN)) = H7 at *
    have s17 := s6.trans s7
    have solt := sho_lt a1 a2 stb stl hb hst
    refine ⟨_, rfl, lc_pure (sho b ss st) vN (fun _ => true) (fun x => vN (lno ss ls x)) (.inl (s7 _ _ e7)) (by omega) (fun n H' hn s => ?_) (fun D H8 hD s8 f8 => ?_)⟩
    · intro Z Nx z1 z2
      exact ⟨rfl, _, rfl, p, dx, _, rfl, s _ _ (s17 _ _ h1), rfl, _, rfl, p, b, ss, ls, n, rfl, (hp'.same s17).same s, wf, hb, blen_le.mpr (solt n hn), fun H9 s9 => z1 rfl _ s9⟩
    rw [filt_true] at f8
    have f8 : H8 D = some (.lst (((sho b ss st).map (lno ss ls)).map vN)) := by rw [f8, List.map_map]; rfl
    refine ⟨_, _, _, _, rfl, rfl, s8 _ _ e9, f8, (by rw [List.length_map, List.length_map, List.length_map, List.length_take, sizeLine_eq]; omega), fun la hla => ?_⟩
    have s9 := same_new (o := .lst (((twn ss ls).take (shi b ss st).length).map vN ++ ((sho b ss st).map (lno ss ls)).map vN)) (s17.trans s8) hla
    have e10 : upd H8 la (.lst (((twn ss ls).take (shi b ss st).length).map vN ++ ((sho b ss st).map (lno ss ls)).map vN)) la = some (.lst ((shL b ss ls st).map vN)) := by rw [upd_same, shL, List.map_append]
    have e11 := upd_new (o := .lst (((twn ss ls).take (shi b ss st).length).map vN ++ ((sho b ss st).map (lno ss ls)).map vN)) hla (s8 _ _ (s7 _ _ e6))
    have e12 := upd_new (o := .lst (((twn ss ls).take (shi b ss st).length).map vN ++ ((sho b ss st).map (lno ss ls)).map vN)) hla (s8 _ _ (s7 _ _ e7))
    generalize upd H8 la (.lst (((twn ss ls).take (shi b ss st).length).map vN ++ ((sho b ss st).map (lno ss ls)).map vN)) = H9 at *
    -- pairs
    refine ⟨_, rfl, _, rfl, _, _, _, _, rfl, rfl, e11, e12, (by rw [List.length_map, List.length_map, sizeLine_eq]; omega), fun c0 hc0 => ?_⟩
    have s10 := same_new (o := .lst ((shi b ss st).map vN ++ (sho b ss st).map vN)) s9 hc0
    have e14 := upd_new (o := .lst ((shi b ss st).map vN ++ (sho b ss st).map vN)) hc0 e10
    have cl : (shi b ss st ++ sho b ss st).length = (shi b ss st).length + (sho b ss st).length := List.length_append
    have SL := shL_len a1 a2 stb stl hb hst
    refine ⟨c0, shi b ss st ++ sho b ss st, rfl, .inl (by rw [upd_same, List.map_append]), (by omega), (fun x hx => ?_), fun H11 pr s11 hpr e15 => ?_⟩
    · rcases List.mem_append.mp hx with hx | hx
      · exact Nat.le_trans (mtd_blen b (spn st) (spn ss) x hx) (by omega)
      · exact Nat.le_trans (blen_le.mpr (solt x hx)) (by omega)
    have s1c := s10.trans s11
    refine ⟨_, rfl, lc_pure st vN (fun _ => true) (fun x => vN (img (shL b ss ls st) (slv (shi b ss st ++ sho b ss st) x))) (same_tq s1c hS) (by omega) (fun n H' hn s => ?_) (fun D2 H12 hD2 s12 f12 => ?_)⟩
    · intro Z Nx z1 z2
      have inC := ((sh_base (b := b) (ss := ss) stb).1 n).mpr (.of hn)
      refine ⟨rfl, _, rfl, _, rfl, _, rfl, la, _, rfl, .inl (s _ _ (s11 _ _ e14)), _, rfl, pr, shi b ss st ++ sho b ss st, b, n, (by rw [List.length_map, SL]; rfl), .inl (s _ _ e15), (by omega), stb n hn, bb, inC, la, shL b ss ls st, _, rfl, .inl (s _ _ (s11 _ _ e14)), (by omega), (by rw [SL]; exact (slv_ok inC).1), fun H13 s13 => z1 rfl _ s13⟩
    · rw [filt_true] at f12
      exact k _ _ (s1c.trans s12) (same_free s1c hD2) (by rw [f12, shn, List.map_map]; rfl)
end
end LaneX
set_option Elab.async false
set_option linter.all false
set_option maxRecDepth 100000
set_option maxHeartbeats 4000000
namespace LaneX
open PySem PySem.Spec PyProof.Rows L2
/-! ### a plan of rounds -/
structure RoundT (K : PySem.W.Frag) (mg : Str → Option Value) (C : Addr) : Prop extends ObjT K C where
  gl : mg "RoundPlan" = some (.ref C)
  no : NoAttr K C "one"
  ns : NoAttr K C "starts"
  nh : NoAttr K C "shown"
  nw : NoAttr K C "words"
  nk : NoAttr K C "skipped"
  nd : NoAttr K C "rounds"
def rpf (a s h w : Addr) (sk r : Nat) : List (Str × V) := [("one", .ref a), ("starts", .ref s), ("shown", .ref h), ("words", .ref w), ("skipped", vN sk), ("rounds", vN r)]
def PlanAt (CR C : Addr) (H : Hp) (x : Addr) (b : Nat) (ss ls st sh wd : List Nat) (sk : Nat) : Prop := ∃ dx a s h w, H x = some (.ins C dx (rpf a s h w sk (2 ^ wd.length - sk))) ∧ SpreadAt CR H a b ss ls ∧ H s = some (.lst (st.map vN)) ∧ H h = some (.lst (sh.map vN)) ∧ H w = some (.lst (wd.map vN))
theorem PlanAt.same {CR C : Addr} {H H' : Hp} {x : Addr} {b : Nat} {ss ls st sh wd : List Nat} {sk : Nat} (h : PlanAt CR C H x b ss ls st sh wd sk) (s : Same H H') : PlanAt CR C H' x b ss ls st sh wd sk := by
  obtain ⟨dx, a, s1, h1, w1, q1, q2, q3, q4, q5⟩ := h
  exact ⟨dx, a, s1, h1, w1, s _ _ q1, q2.same s, s _ _ q3, s _ _ q4, s _ _ q5⟩
theorem PlanAt.kp {CR C : Addr} {H H' : Hp} {x : Addr} {b : Nat} {ss ls st sh wd : List Nat} {sk : Nat} (h : PlanAt CR C H x b ss ls st sh wd sk) (s : Kp H H') : PlanAt CR C H' x b ss ls st sh wd sk := by
  obtain ⟨dx, a, s1, h1, w1, q1, q2, q3, q4, q5⟩ := h
  exact ⟨dx, a, s1, h1, w1, s _ _ q1 rfl, q2.kp s, s _ _ q3 rfl, s _ _ q4 rfl, s _ _ q5 rfl⟩
theorem SpreadAt.put {CR C : Addr} {H : Hp} {p x dx : Addr} {b : Nat} {ss ls : List Nat} {fs : List (Str × V)} {o : HO} (h : SpreadAt CR H p b ss ls) (hx : H x = some (.ins C dx fs)) (np : p ≠ x) : SpreadAt CR (upd H x o) p b ss ls := by
  obtain ⟨d, s1, s2, e1, e2, e3⟩ := h
  exact ⟨d, s1, s2, upd_put e1 np, upd_put e2 (ne_of e2 hx (by intro z; cases z)), upd_put e3 (ne_of e3 hx (by intro z; cases z))⟩
def sp_RoundPlan (CR C : Addr) : Sp := fun vs H Q _ => ∃ (x dx : Addr) (p q : Addr) (b : Nat) (ss ls os ps : List Nat), vs = [.ref x, .ref p, .ref q] ∧ H x = some (.ins C dx []) ∧ SpreadAt CR H p b ss ls ∧ SpreadAt CR H q b os ps ∧ WfR b ss ls ∧ WfR b os ps ∧ ls.length = ps.length ∧ Whl2 b ss ls os ps ∧ ∀ H' st sh wd sk, PlanAt CR C H' x b ss ls st sh wd sk → Pln b ss ls os ps st sh wd sk → (∀ c o, H c = some o → c ≠ x → H' c = some o) → Q .non H'
def sp_plan_rounds (CR C : Addr) : Sp := spFit CR fun b ss ls os ps H Q => ∀ H' t st sh wd sk, Same H H' → H t = none → PlanAt CR C H' t b ss ls st sh wd sk → Pln b ss ls os ps st sh wd sk → Q (.ref t) H'
/-- a plan, asked -/
def spPlan (CR C : Addr) (k : Addr → Nat → List Nat → List Nat → List Nat → List Nat → List Nat → List Nat → List Nat → Nat → List V → Hp → VK → Prop) : Sp := fun vs H Q _ => ∃ (x : Addr) (b : Nat) (ss ls os ps st sh wd : List Nat) (sk u v : Nat), vs = [.ref x, vN u, vN v] ∧ PlanAt CR C H x b ss ls st sh wd sk ∧ Pln b ss ls os ps st sh wd sk ∧ WfR b ss ls ∧ b ≤ rk (ss ++ ls) ∧ ls.length ≤ 100000 ∧ os.length ≤ 100000 ∧ k x b ss ls os ps st sh wd sk vs H Q
def sp_take (CR C : Addr) : Sp := fun vs H Q _ => ∃ (x : Addr) (b : Nat) (ss ls os ps st sh wd : List Nat) (sk n L : Nat), vs = [.ref x, vN n, vN L] ∧ PlanAt CR C H x b ss ls st sh wd sk ∧ Pln b ss ls os ps st sh wd sk ∧ WfR b ss ls ∧ b ≤ rk (ss ++ ls) ∧ ls.length ≤ 100000 ∧ os.length ≤ 100000 ∧ n < 2 ^ wd.length - sk ∧ L < 2 ^ ls.length ∧
  ∀ H' t, Same H H' → H t = none → H' t = some (.tup [vN (img sh L ^^^ lno ss ls (img wd (n + sk))), vN (img st L ^^^ img wd (n + sk))]) → Q (.ref t) H'
def Whn (os st wd : List Nat) (sk L e : Nat) (v : V) : Prop := (∃ f, f < 2 ^ wd.length ∧ img wd f = e ^^^ img st L ∧ sk ≤ f ∧ v = vN (f - sk)) ∨ (v = .non ∧ (¬ Spn os (e ^^^ img st L) ∨ ∃ f, f < sk ∧ img wd f = e ^^^ img st L))
def sp_when (CR C : Addr) : Sp := fun vs H Q _ => ∃ (x : Addr) (b : Nat) (ss ls os ps st sh wd : List Nat) (sk L e : Nat), vs = [.ref x, vN L, vN e] ∧ PlanAt CR C H x b ss ls st sh wd sk ∧ Pln b ss ls os ps st sh wd sk ∧ WfR b ss ls ∧ ls.length ≤ 100000 ∧ os.length ≤ 100000 ∧ L < 2 ^ ls.length ∧ blen e ≤ b ∧
  ∀ H' v, Same H H' → Whn os st wd sk L e v → Q v H'
theorem mk_RoundPlan {CR C : Addr} {H1 : Hp} {b : Nat} {p q : Addr} {ss ls os ps : List Nat} {Q : VK} {E : XK} (hp : SpreadAt CR H1 p b ss ls) (hq : SpreadAt CR H1 q b os ps) (wf : WfR b ss ls) (wf2 : WfR b os ps) (hl : ls.length = ps.length) (wh : Whl2 b ss ls os ps) (k : ∀ H' t st sh wd sk, Same H1 H' → H1 t = none → PlanAt CR C H' t b ss ls st sh wd sk → Pln b ss ls os ps st sh wd sk → Q (.ref t) H') :
    ∀ x dx, H1 x = none → H1 dx = none → dx ≠ x → sp_RoundPlan CR C (.ref x :: ([.ref p, .ref q] ++ [])) (upd (upd H1 dx (.own x)) x (.ins C dx [])) (fun v H2 => v = .non ∧ Q (.ref x) H2) E := by
  intro x dx nx ndx ne
  have s : Same H1 (upd (upd H1 dx (.own x)) x (.ins C dx [])) := same_new (same_new0 ndx) ((upd_ne ne.symm).trans nx)
  refine ⟨x, dx, p, q, b, ss, ls, os, ps, rfl, upd_same, hp.same s, hq.same s, wf, wf2, hl, wh, fun H' st sh wd sk hA hP kp => ⟨rfl, k _ _ _ _ _ _ (made_same nx ndx kp) nx hA hP⟩⟩
section
variable {P : Program} {w : World} {K : PySem.W.Frag} {mg : Str → Option Value} {base : Heap} {f : Addr} {fd : FuncData} {CS CR CP : Addr} (T : Bt mg) (TR : SpreadT K mg CR) (TP : RoundT K mg CP)
include T
theorem ok_plan_rounds (F : FnP K "plan_rounds" "plan_rounds" s_plan_rounds f fd) (D_need_fit : Dn P w K mg base 2 "need_fit" ["one", "other"] (sp_need_fit CR)) (K_RoundPlan : Kn P w K mg base 8 CP "RoundPlan" ["self", "one", "other"] (sp_RoundPlan CR CP)) : FnOk P w K mg base CX0 10 f fd ["one", "other"] (sp_plan_rounds CR CP) := by
  have nd := sc_plan_rounds.nd
  refine fnok F sc_plan_rounds (fun vs H Q E h => ?_) (fun cdv A outer s H vs Q E hr h => ?_)
  · obtain ⟨p, q, b, ss, ls, os, ps, rfl, _⟩ := h
    rfl
  · obtain ⟨p, q, b, ss, ls, os, ps, rfl, hp, hq, wf, wf2, hl, wh, k⟩ := h
    refine ⟨_, (pss_cons (ps_expr (pe_d D_need_fit hr (pa_cons (pv 0) (pa_cons (pv 1) pa_nil))))
  (pss_one (ps_ret (pe_k K_RoundPlan hr (pa_cons (pv 0) (pa_cons (pv 1) pa_nil)))))), ?_⟩
    refine ⟨_, rfl, _, rfl, p, q, b, ss, ls, os, ps, rfl, hp, hq, wf, wf2, hl, ?_⟩
    exact ⟨_, rfl, _, rfl, mk_RoundPlan hp hq wf wf2 hl wh k⟩
include TR TP
theorem ok_take (F : FnP K "take" "RoundPlan.take" s_RoundPlan_take f fd) (D_is_whole : Dn P w K mg base 1 "is_whole" ["value"] sp_is_whole) (D_need_word : Dn P w K mg base 2 "need_word" ["value", "bits"] sp_need_word) (D_image_of : Dn P w K mg base 4 "image_of" ["columns", "word"] sp_image_of) (M_Spread_lane_of : Mn P w K mg base 5 CR "lane_of" ["self", "entry"] (sp_lane_of CR)) : FnOk P w K mg base CX0 6 f fd ["self", "number", "lane"] (sp_take CR CP) := by
  have nd := sc_RoundPlan_take.nd
  refine fnok F sc_RoundPlan_take (fun vs H Q E h => ?_) (fun cdv A outer s H vs Q E hr h => ?_)
  · obtain ⟨x, b, ss, ls, os, ps, st, sh, wd, sk, n, L, rfl, _⟩ := h
    rfl
  · obtain ⟨x, b, ss, ls, os, ps, st, sh, wd, sk, n, L, rfl, hA, pn, wf, hb, w3, w2, hn, hL, k⟩ := h
    refine ⟨_, (pss_cons (ps_if (PW.pt (pw_or (pt_not (pt_val (pe_d D_is_whole hr (pa_cons (pv 1) pa_nil)))) (pw_or1 (pt_cmpR op_ge (pv 1) (pe_fld (pv 0) rfl) (nomark _)))))
    (pss_one ps_never)
    pss_nil)
  (pss_cons (ps_expr (pe_d D_need_word hr (pa_cons (pv 2) (pa_cons (pe_callB call_lenQ (by rfl) T.len PySem.boot_len (pa_cons (pe_fld (pv 0) rfl) pa_nil)) pa_nil))))
  (pss_cons (ps_set (i := 3) nd rfl (Or.inl rfl) (pe_d D_image_of hr (pa_cons (pe_fld (pv 0) rfl) (pa_cons (pe_op on_add (pv 1) (pe_fld (pv 0) rfl)) pa_nil))))
  (pss_cons (ps_set (i := 4) nd rfl (Or.inl rfl) (pe_op on_xor (pe_d D_image_of hr (pa_cons (pe_fld (pv 0) rfl) (pa_cons (pv 2) pa_nil))) (pe_m (pe_fld (pv 0) rfl) M_Spread_lane_of hr (pa_cons (pv 3) pa_nil))))
  (pss_one (ps_ret (pe_tup (pa_cons (pv 4) (pa_cons (pe_op on_xor (pe_d D_image_of hr (pa_cons (pe_fld (pv 0) rfl) (pa_cons (pv 2) pa_nil))) (pv 3)) pa_nil))))))))), ?_⟩
    obtain ⟨dx, a, sa, ha, wa, hx, hR, hs, hh, hw⟩ := hA
    have hR' := hR
    obtain ⟨dr, ra, rb, h1, h2, h3⟩ := hR
    have l1 := pn.sl
    have l2 := pn.hl
    have l3 := pn.wl
    have l4 := rk_len os
    refine ⟨_, rfl, n, rfl, _, rfl, iteF ⟨_, rfl, _, rfl, x, CP, dx, _, vN (2 ^ wd.length - sk), rfl, hx, TP.cl, TP.nd, rfl, _, _, rfl, rfl, _, rfl, ?_⟩⟩
    rw [decide_eq_false (show ¬ (((2 ^ wd.length - sk : Nat) : Int) ≤ (n : Int)) by omega)]
    refine iteF ⟨_, rfl, _, rfl, x, CP, dx, _, .ref sa, rfl, hx, TP.cl, TP.ns, rfl, sa, _, rfl, .inl hs, L, (st.map vN).length, rfl, (by rw [List.length_map, l1]; exact blen_le.mpr hL), ?_⟩
    have nlt : n + sk < 2 ^ wd.length := by omega
    refine ⟨_, rfl, x, CP, dx, _, .ref wa, rfl, hx, TP.cl, TP.nw, rfl, _, rfl, _, rfl, x, CP, dx, _, vN sk, rfl, hx, TP.cl, TP.nk, rfl, n, sk, rfl, rfl, wa, wd, n + sk, rfl, .inl hw, (by omega), nlt, fun H1 s1 => ?_⟩
    refine ⟨_, rfl, x, CP, dx, _, .ref ha, rfl, s1 _ _ hx, TP.cl, TP.nh, rfl, _, rfl, ha, sh, L, rfl, .inl (s1 _ _ hh), (by omega), (by rw [l2]; exact hL), fun H2 s2 => ?_⟩
    have s12 := s1.trans s2
    have wlt : img wd (n + sk) < 2 ^ b := imf_lt pn.wm _ _
    refine ⟨_, rfl, x, CP, dx, _, .ref a, rfl, s12 _ _ hx, TP.cl, TP.no, rfl, a, dr, _, rfl, s12 _ _ h1, rfl, _, rfl, a, b, ss, ls, _, rfl, hR'.same s12, wf, hb, blen_le.mpr wlt, fun H3 s3 => ⟨_, _, rfl, rfl, ?_⟩⟩
    have s13 := s12.trans s3
    refine ⟨_, rfl, _, rfl, x, CP, dx, _, .ref sa, rfl, s13 _ _ hx, TP.cl, TP.ns, rfl, _, rfl, sa, st, L, rfl, .inl (s13 _ _ hs), (by omega), (by rw [l1]; exact hL), fun H4 s4 => ⟨_, rfl, _, _, rfl, rfl, (by show 2 ≤ sizeLine; decide), fun t ht => ?_⟩⟩
    have s14 := s13.trans s4
    exact k _ _ (same_new s14 ht) (same_free s14 ht) upd_same
theorem ok_when (F : FnP K "when" "RoundPlan.when" s_RoundPlan_when f fd) (D_need_word : Dn P w K mg base 2 "need_word" ["value", "bits"] sp_need_word) (D_image_of : Dn P w K mg base 4 "image_of" ["columns", "word"] sp_image_of) (D_paired : Dn P w K mg base 4 "paired" ["columns"] sp_paired) (D_solvedO : Dn P w K mg base 2 "solved" ["pairs", "source", "word"] sp_solvedO) : FnOk P w K mg base CX0 6 f fd ["self", "lane", "entry"] (sp_when CR CP) := by
  have nd := sc_RoundPlan_when.nd
  refine fnok F sc_RoundPlan_when (fun vs H Q E h => ?_) (fun cdv A outer s H vs Q E hr h => ?_)
  · obtain ⟨x, b, ss, ls, os, ps, st, sh, wd, sk, L, e, rfl, _⟩ := h
    rfl
  · obtain ⟨x, b, ss, ls, os, ps, st, sh, wd, sk, L, e, rfl, hA, pn, wf, w3, w2, hL, he, k⟩ := h
    refine ⟨_, (pss_cons (ps_expr (pe_d D_need_word hr (pa_cons (pv 1) (pa_cons (pe_callB call_lenQ (by rfl) T.len PySem.boot_len (pa_cons (pe_fld (pv 0) rfl) pa_nil)) pa_nil))))
  (pss_cons (ps_expr (pe_d D_need_word hr (pa_cons (pv 2) (pa_cons (pe_fld (pe_fld (pv 0) rfl) rfl) pa_nil))))
  (pss_cons (ps_set (i := 3) nd rfl (Or.inl rfl) (pe_op on_xor (pv 2) (pe_d D_image_of hr (pa_cons (pe_fld (pv 0) rfl) (pa_cons (pv 1) pa_nil)))))
  (pss_cons (ps_set (i := 4) nd rfl (Or.inl rfl) (pe_d D_solvedO hr (pa_cons (pe_d D_paired hr (pa_cons (pe_fld (pv 0) rfl) pa_nil)) (pa_cons (pe_callB call_lenQ (by rfl) T.len PySem.boot_len (pa_cons (pe_fld (pv 0) rfl) pa_nil)) (pa_cons (pv 3) pa_nil)))))
  (pss_cons (ps_if (PW.pt (pw_or (pt_cmpR op_isN (pv 4) pe_non (nomark _)) (pw_or1 (pt_cmpR op_lt (pv 4) (pe_fld (pv 0) rfl) (nomark _)))))
    (pss_one (ps_ret pe_non))
    pss_nil)
  (pss_one (ps_ret (pe_op on_sub (pv 4) (pe_fld (pv 0) rfl))))))))), ?_⟩
    obtain ⟨dx, a, sa, ha, wa, hx, hR, hs, hh, hw⟩ := hA
    obtain ⟨dr, ra, rb, h1, h2, h3⟩ := hR
    have l1 := pn.sl
    have l3 := pn.wl
    have l4 := rk_len os
    have bb := wf.bb
    refine ⟨_, rfl, _, rfl, x, CP, dx, _, .ref sa, rfl, hx, TP.cl, TP.ns, rfl, sa, _, rfl, .inl hs, L, (st.map vN).length, rfl, (by rw [List.length_map, l1]; exact blen_le.mpr hL), ?_⟩
    refine ⟨_, rfl, _, rfl, x, CP, dx, _, .ref a, rfl, hx, TP.cl, TP.no, rfl, a, CR, dr, _, vN b, rfl, h1, TR.cl, TR.nb, rfl, e, b, rfl, he, ?_⟩
    refine ⟨_, rfl, _, rfl, x, CP, dx, _, .ref sa, rfl, hx, TP.cl, TP.ns, rfl, _, rfl, sa, st, L, rfl, .inl hs, (by omega), (by rw [l1]; exact hL), fun H1 s1 => ⟨_, _, rfl, rfl, ?_⟩⟩
    refine ⟨_, rfl, x, CP, dx, _, .ref wa, rfl, s1 _ _ hx, TP.cl, TP.nw, rfl, wa, wd, rfl, .inl (s1 _ _ hw), (by omega), (fun y hy => Nat.le_trans (blen_le.mpr (pn.wm y hy)) (by omega)), fun H2 pr s2 hpr e2 => ?_⟩
    have s12 := s1.trans s2
    have wlt : e ^^^ img st L < 2 ^ b := Nat.xor_lt_two_pow (blen_le.mp he) (imf_lt pn.sm _ _)
    refine ⟨_, rfl, x, CP, dx, _, .ref wa, rfl, s12 _ _ hx, TP.cl, TP.nw, rfl, wa, _, rfl, .inl (s12 _ _ hw), _, rfl, pr, wd, b, _, (by rw [List.length_map]; rfl), .inl e2, (by omega), wlt, bb, fun y => ?_, fun y => ?_⟩
    · obtain ⟨c1, c2⟩ := slv_ok y
      refine ⟨_, rfl, rfl, _, rfl, iteF ⟨_, rfl, _, rfl, x, CP, dx, _, vN sk, rfl, s12 _ _ hx, TP.cl, TP.nk, rfl, _, _, rfl, rfl, _, rfl, br (fun z => ?_) (fun z => ?_)⟩⟩
      · have z := of_decide_eq_true z
        exact k _ _ s12 (.inr ⟨rfl, .inr ⟨_, by omega, c2⟩⟩)
      · have z := of_decide_eq_false z
        have le : sk ≤ slv wd (e ^^^ img st L) := by omega
        exact ⟨_, rfl, _, rfl, x, CP, dx, _, vN sk, rfl, s12 _ _ hx, TP.cl, TP.nk, rfl, _, sk, rfl, rfl, le, k _ _ s12 (.inl ⟨_, c1, c2, le, rfl⟩)⟩
    · exact ⟨_, rfl, rfl, _, rfl, iteT (k _ _ s12 (.inr ⟨rfl, .inl fun z => y ((pn.ws _).mpr z)⟩))⟩
end
end LaneX
set_option Elab.async false
set_option linter.all false
set_option maxRecDepth 100000
set_option maxHeartbeats 4000000
namespace LaneX
open PySem PySem.Spec PyProof.Rows L2
theorem rpf_put (a s h w : Addr) (sk r : Nat) : putF "rounds" (vN r) (putF "skipped" (vN sk) (putF "words" (.ref w) (putF "shown" (.ref h) (putF "starts" (.ref s) (putF "one" (.ref a) []))))) = rpf a s h w sk r := rfl
section
variable {P : Program} {w : World} {K : PySem.W.Frag} {mg : Str → Option Value} {base : Heap} {f : Addr} {fd : FuncData} {CS CR CP : Addr} (T : Bt mg) (TR : SpreadT K mg CR) (TP : RoundT K mg CP)
include T TR TP
theorem ok_RoundPlan_init (F : FnP K "__init__" "RoundPlan.__init__" s_RoundPlan_init f fd) (D_both_rows : Dn P w K mg base 5 "both_rows" ["one", "other"] (sp_both_rows CR)) (D_all_hold : Dn P w K mg base 4 "all_hold" ["one", "other"] (sp_all_hold CR)) (D_kept_starts : Dn P w K mg base 6 "kept_starts" ["one", "other"] (sp_kept_starts CR)) (D_added_rows : Dn P w K mg base 3 "added_rows" ["rows", "words"] sp_added_rows) (D_wide_starts : Dn P w K mg base 6 "wide_starts" ["one", "other"] (sp_wide_starts CR)) (D_showing_lanes : Dn P w K mg base 7 "showing_lanes" ["one", "starts"] (sp_showing_lanes CR)) : FnOk P w K mg base CX0 8 f fd ["self", "one", "other"] (sp_RoundPlan CR CP) := by
  have nd := sc_RoundPlan_init.nd
  refine fnok F sc_RoundPlan_init (fun vs H Q E h => ?_) (fun cdv A outer s H vs Q E hr h => ?_)
  · obtain ⟨x, dx, p, q, b, ss, ls, os, ps, rfl, _⟩ := h
    rfl
  · obtain ⟨x, dx, p, q, b, ss, ls, os, ps, rfl, hx, hp, hq, wf, wf2, hl, wh, k⟩ := h
    refine ⟨_, (pss_cons (ps_asg (pe_d D_both_rows hr (pa_cons (pv 1) (pa_cons (pv 2) pa_nil))) (pg_tup (by rfl) (pgs_cons (pg_name (i := 3) nd rfl (Or.inl rfl)) (pgs_cons (pg_name (i := 4) nd rfl (Or.inl rfl)) (pgs_cons (pg_name (i := 5) nd rfl (Or.inl rfl)) (pgs_cons (pg_name (i := 6) nd rfl (Or.inl rfl)) pgs_nil))))))
  (pss_cons (ps_fld (pv 0) (pv 1) rfl)
  (pss_cons (ps_if (pt_val (pe_d D_all_hold hr (pa_cons (pv 1) (pa_cons (pv 2) pa_nil))))
    (pss_cons (ps_fld (pv 0) (pe_d D_kept_starts hr (pa_cons (pv 1) (pa_cons (pv 2) pa_nil))) rfl)
    (pss_cons (ps_fld (pv 0) (pe_lc (own := [("at", 7)]) (g := gName 7) (by rfl) nd (pi_range1 (by rfl) T.range (pa_cons (pe_callB call_lenQ (by rfl) T.len PySem.boot_len (pa_cons (pe_fld (pv 1) rfl) pa_nil)) pa_nil)) (blkOk_by (own := [("at", 7)]) (N := ["self", "one", "other", "rows", "others", "both", "shared", "at"]) (sc := defScope s_RoundPlan_init) (by decide +kernel)) (fun _ _ _ _ _ => (pg_name (i := 7) nd rfl (Or.inl rfl))) (fun _ _ _ _ _ => pts_nil) (fun _ _ _ _ _ => (pe_op on_shl pe_int (pv 7)))) rfl)
    (pss_cons (ps_fld (pv 0) (pe_op op_cat (pv 6) (pe_d D_added_rows hr (pa_cons (pv 6) (pa_cons (pv 4) pa_nil)))) rfl)
    (pss_one (ps_fld (pv 0) (pe_op on_shl pe_int (pe_callB call_lenQ (by rfl) T.len PySem.boot_len (pa_cons (pv 6) pa_nil))) rfl)))))
    (pss_cons (ps_fld (pv 0) (pe_d D_wide_starts hr (pa_cons (pv 1) (pa_cons (pv 2) pa_nil))) rfl)
    (pss_cons (ps_fld (pv 0) (pe_d D_showing_lanes hr (pa_cons (pv 1) (pa_cons (pe_fld (pv 0) rfl) pa_nil))) rfl)
    (pss_cons (ps_fld (pv 0) (pv 4) rfl)
    (pss_one (ps_fld (pv 0) pe_int rfl))))))
  (pss_one (ps_fld (pv 0) (pe_op on_sub (pe_op on_shl pe_int (pe_callB call_lenQ (by rfl) T.len PySem.boot_len (pa_cons (pv 4) pa_nil))) (pe_fld (pv 0) rfl)) rfl))))), ?_⟩
    obtain ⟨bb, wss, wl, wsl, wll⟩ := id wf
    obtain ⟨bb2, wss2, wl2, wsl2, wll2⟩ := id wf2
    have l1 := spn_len ss
    have l2 := spn_len os
    have w1 := wh.sl
    have w2 := wh.ol
    have w3 := wh.ll
    have a1 := wf_lt' wss
    have a2 := wf_lt' wl
    have a3 := wf_lt' wss2
    have a4 := wf_lt' wl2
    have o1 : blen 1 ≤ 1000000 := by rw [blen_one]; decide
    have np : p ≠ x := by
      obtain ⟨d, s1, s2, e1, e2, e3⟩ := hp
      exact ne_of e1 hx (by intro z; cases z)
    have nq : q ≠ x := by
      obtain ⟨d, s1, s2, e1, e2, e3⟩ := hq
      exact ne_of e1 hx (by intro z; cases z)
    refine ⟨_, rfl, _, rfl, p, q, b, ss, ls, os, ps, rfl, hp, hq, wf, wf2, hl, fun H1 t t1 t2 t3 t4 s1 e e1 e2 e3 e4 => ?_⟩
    refine ⟨t, _, rfl, SqT.of e, rfl, _, _, rfl, _, _, rfl, _, _, rfl, _, _, rfl, rfl, ?_⟩
    have hx1 := s1 _ _ hx
    have n2 : t2 ≠ x := ne_of e2 hx1 (by intro z; cases z)
    have n4 : t4 ≠ x := ne_of e4 hx1 (by intro z; cases z)
    refine ⟨_, rfl, _, rfl, x, CP, dx, [], rfl, hx1, TP.cl, TP.no, (by decide), ?_⟩
    have R1 : SpreadAt CR (upd H1 x (.ins CP dx (putF "one" (.ref p) []))) p b ss ls := (hp.same s1).put hx1 np
    have R2 : SpreadAt CR (upd H1 x (.ins CP dx (putF "one" (.ref p) []))) q b os ps := (hq.same s1).put hx1 nq
    have K2 : ∀ c o, H1 c = some o → c ≠ x → upd H1 x (.ins CP dx (putF "one" (.ref p) [])) c = some o := fun c o hc hn => upd_put hc hn
    have X2 : upd H1 x (.ins CP dx (putF "one" (.ref p) [])) x = some (.ins CP dx (putF "one" (.ref p) [])) := upd_same
    generalize upd H1 x (.ins CP dx (putF "one" (.ref p) [])) = H2 at *
    refine ⟨_, rfl, _, rfl, p, q, b, ss, ls, os, ps, rfl, R1, R2, wf, wf2, hl, fun H3 s3 => ⟨_, rfl, br (fun z => ?_) (fun z => ?_)⟩⟩
    · have all := ahd_true.mp z
      have PN := pln_keep a1 a2 a3 hl all
      -- starts
      refine ⟨_, rfl, _, rfl, p, q, b, ss, ls, os, ps, rfl, R1.same s3, R2.same s3, wf, wf2, hl, wh, all, fun H4 sa s4 hsa e5 => ?_⟩
      have s34 := s3.trans s4
      have X4 := s34 _ _ X2
      have nsa : sa ≠ x := ne_of e5 X4 (by intro z; cases z)
      refine ⟨_, rfl, x, CP, dx, _, rfl, X4, TP.cl, TP.ns, (by show 1 < 1000; decide), ?_⟩
      have K5 : ∀ c o, H1 c = some o → c ≠ x → upd H4 x (.ins CP dx (putF "starts" (.ref sa) (putF "one" (.ref p) []))) c = some o := fun c o hc hn => upd_put (s34 _ _ (K2 c o hc hn)) hn
      have X5 : upd H4 x (.ins CP dx (putF "starts" (.ref sa) (putF "one" (.ref p) []))) x = some (.ins CP dx (putF "starts" (.ref sa) (putF "one" (.ref p) []))) := upd_same
      have E5 := upd_put (o := .ins CP dx (putF "starts" (.ref sa) (putF "one" (.ref p) []))) e5 nsa
      have R5 : SpreadAt CR (upd H4 x (.ins CP dx (putF "starts" (.ref sa) (putF "one" (.ref p) [])))) p b ss ls := (R1.same s34).put X4 np
      generalize upd H4 x (.ins CP dx (putF "starts" (.ref sa) (putF "one" (.ref p) []))) = H5 at *
      -- shown
      have R5' := R5
      obtain ⟨d5, m5, u5, f1, f2, f3⟩ := R5'
      refine ⟨_, rfl, p, CR, d5, _, .ref u5, rfl, f1, TR.cl, TR.nl, rfl, u5, _, rfl, .inr f3, _, rfl, (by rw [List.length_map]; omega), (by rw [List.length_map]; omega), ?_⟩
      rw [List.length_map]
      refine lc_pureR (n := ls.length) (fun _ => true) (fun i => vN (1 <<< i)) (by omega) (fun i H' hi s => ?_) (fun D H6 hD s6 h6 => ?_)
      · intro Z Nx z1 z2
        exact ⟨rfl, _, rfl, 1, i, rfl, rfl, shl_ok1 o1 (by omega), z1 rfl _ (Same.refl _)⟩
      rw [filt_true] at h6
      have h6 : H6 D = some (.lst (((List.range ls.length).map fun i => 1 <<< i).map vN)) := by rw [h6, List.map_map]; rfl
      have X6 := s6 _ _ X5
      have nD : D ≠ x := ne_of h6 X6 (by intro z; cases z)
      refine ⟨_, rfl, x, CP, dx, _, rfl, X6, TP.cl, TP.nh, (by show 2 < 1000; decide), ?_⟩
      have K7 : ∀ c o, H1 c = some o → c ≠ x → upd H6 x (.ins CP dx (putF "shown" (.ref D) (putF "starts" (.ref sa) (putF "one" (.ref p) [])))) c = some o := fun c o hc hn => upd_put (s6 _ _ (K5 c o hc hn)) hn
      have X7 : upd H6 x (.ins CP dx (putF "shown" (.ref D) (putF "starts" (.ref sa) (putF "one" (.ref p) [])))) x = some (.ins CP dx (putF "shown" (.ref D) (putF "starts" (.ref sa) (putF "one" (.ref p) [])))) := upd_same
      have E7 := upd_put (o := .ins CP dx (putF "shown" (.ref D) (putF "starts" (.ref sa) (putF "one" (.ref p) [])))) (s6 _ _ E5) nsa
      have D7 := upd_put (o := .ins CP dx (putF "shown" (.ref D) (putF "starts" (.ref sa) (putF "one" (.ref p) [])))) h6 nD
      have R7 : SpreadAt CR (upd H6 x (.ins CP dx (putF "shown" (.ref D) (putF "starts" (.ref sa) (putF "one" (.ref p) []))))) p b ss ls := (R5.same s6).put X6 np
      generalize upd H6 x (.ins CP dx (putF "shown" (.ref D) (putF "starts" (.ref sa) (putF "one" (.ref p) [])))) = H7 at *
      -- words
      have ml : (mtd b (spn ss) (spn os)).length ≤ b := (mtd_rws b (spn ss) (spn os)).len_le (mtd_blen b (spn ss) (spn os))
      have ml2 : (mtd b (spn ss) (spn os)).length ≤ (kwd b ss os).length := by unfold kwd; rw [List.length_append]; omega
      have kl := PN.wl
      have kl2 := rk_len os
      refine ⟨_, rfl, _, rfl, _, rfl, t4, t2, mtd b (spn ss) (spn os), spn os, rfl, .inl (K7 _ _ e4 n4), .inl (K7 _ _ e2 n2), mtd_rws b (spn ss) (spn os), (by omega), (by omega), fun H8 aa s8 haa e8 => ?_⟩
      have cl := (cms_len (mtd b (spn ss) (spn os)) (spn os)).2
      have cl : (cmpl (mtd b (spn ss) (spn os)) (spn os)).length ≤ (spn os).length := cl
      refine ⟨_, _, _, _, rfl, rfl, s8 _ _ (K7 _ _ e4 n4), e8, (by rw [List.length_map, List.length_map, sizeLine_eq]; omega), fun wa hwa => ?_⟩
      have s9 := same_new (o := .lst ((mtd b (spn ss) (spn os)).map vN ++ (cmpl (mtd b (spn ss) (spn os)) (spn os)).map vN)) s8 hwa
      have e9 : upd H8 wa (.lst ((mtd b (spn ss) (spn os)).map vN ++ (cmpl (mtd b (spn ss) (spn os)) (spn os)).map vN)) wa = some (.lst ((kwd b ss os).map vN)) := by rw [upd_same, kwd, List.map_append]
      generalize upd H8 wa (.lst ((mtd b (spn ss) (spn os)).map vN ++ (cmpl (mtd b (spn ss) (spn os)) (spn os)).map vN)) = H9 at *
      have X9 := s9 _ _ X7
      have nwa : wa ≠ x := ne_of e9 X9 (by intro z; cases z)
      refine ⟨_, rfl, x, CP, dx, _, rfl, X9, TP.cl, TP.nw, (by show 3 < 1000; decide), ?_⟩
      have K10 : ∀ {o1 : HO} c o, H1 c = some o → c ≠ x → upd H9 x o1 c = some o := fun c o hc hn => upd_put (s9 _ _ (K7 c o hc hn)) hn
      -- skipped
      refine ⟨_, rfl, t4, _, rfl, .inl (K10 _ _ e4 n4), 1, (mtd b (spn ss) (spn os)).length, rfl, (by rw [List.length_map]), shl_ok1 o1 (by omega), ?_⟩
      refine ⟨_, rfl, x, CP, dx, _, rfl, upd_same, TP.cl, TP.nk, (by show 4 < 1000; decide), ?_⟩
      rw [upd_upd]
      -- rounds
      have le : 1 <<< (mtd b (spn ss) (spn os)).length ≤ 1 <<< (spn os).length := by
        rw [Nat.one_shiftLeft, Nat.one_shiftLeft]
        exact Nat.pow_le_pow_right (by decide) (by have : (spn os).length = rk os := rfl; omega)
      refine ⟨_, rfl, t2, _, rfl, .inl (K10 _ _ e2 n2), 1, (spn os).length, rfl, (by rw [List.length_map]), shl_ok1 o1 (by omega), _, rfl, x, CP, dx, _, _, rfl, upd_same, TP.cl, TP.nk, rfl, 1 <<< (spn os).length, 1 <<< (mtd b (spn ss) (spn os)).length, rfl, rfl, le, ?_⟩
      refine ⟨_, rfl, x, CP, dx, _, rfl, upd_same, TP.cl, TP.nd, (by show 5 < 1000; decide), ?_⟩
      rw [upd_upd]
      have er : 1 <<< (spn os).length - 1 <<< (mtd b (spn ss) (spn os)).length = 2 ^ (kwd b ss os).length - 2 ^ (mtd b (spn ss) (spn os)).length := by
        rw [Nat.one_shiftLeft, Nat.one_shiftLeft, kl]; rfl
      refine k _ _ _ _ _ ⟨dx, p, sa, D, wa, ?_, (R7.same s9).put X9 np, upd_put (s9 _ _ E7) nsa, upd_put (s9 _ _ D7) nD, upd_put e9 nwa⟩ PN fun c o hc hn => K10 c o (s1 _ _ hc) hn
      rw [upd_same, er, rpf_put, Nat.one_shiftLeft]
    · have nall : ¬ ∀ w ∈ lsm ls ps, Spn (ss ++ os) w := fun y => by rw [ahd_true.mpr y] at z; cases z
      have PN := pln_wide a1 a2 a3 a4 hl wh.r1 wh.r2 nall
      -- starts
      refine ⟨_, rfl, _, rfl, p, q, b, ss, ls, os, ps, rfl, R1.same s3, R2.same s3, wf, wf2, hl, wh, fun H4 sa s4 hsa e5 => ?_⟩
      have s34 := s3.trans s4
      have X4 := s34 _ _ X2
      have nsa : sa ≠ x := ne_of e5 X4 (by intro z; cases z)
      refine ⟨_, rfl, x, CP, dx, _, rfl, X4, TP.cl, TP.ns, (by show 1 < 1000; decide), ?_⟩
      have K5 : ∀ c o, H1 c = some o → c ≠ x → upd H4 x (.ins CP dx (putF "starts" (.ref sa) (putF "one" (.ref p) []))) c = some o := fun c o hc hn => upd_put (s34 _ _ (K2 c o hc hn)) hn
      have X5 : upd H4 x (.ins CP dx (putF "starts" (.ref sa) (putF "one" (.ref p) []))) x = some (.ins CP dx (putF "starts" (.ref sa) (putF "one" (.ref p) []))) := upd_same
      have E5 := upd_put (o := .ins CP dx (putF "starts" (.ref sa) (putF "one" (.ref p) []))) e5 nsa
      have R5 : SpreadAt CR (upd H4 x (.ins CP dx (putF "starts" (.ref sa) (putF "one" (.ref p) [])))) p b ss ls := (R1.same s34).put X4 np
      generalize upd H4 x (.ins CP dx (putF "starts" (.ref sa) (putF "one" (.ref p) []))) = H5 at *
      -- shown
      have stl : (wds ss os ps).length = ls.length := (wds_len ss os ps).trans hl.symm
      refine ⟨_, rfl, _, rfl, x, CP, dx, _, .ref sa, rfl, X5, TP.cl, TP.ns, rfl, p, sa, b, ss, ls, wds ss os ps, rfl, R5, .inl E5, wf, wh.r1, wds_all a1 a3 a4 hl wh.r1 wh.r2, wds_lt a1 a3 a4 hl wh.r1, stl, w1, w3, fun H6 D s6 hD h6 => ?_⟩
      have X6 := s6 _ _ X5
      have nD : D ≠ x := ne_of h6 X6 (by intro z; cases z)
      refine ⟨_, rfl, x, CP, dx, _, rfl, X6, TP.cl, TP.nh, (by show 2 < 1000; decide), ?_⟩
      have K7 : ∀ {o1 : HO} c o, H1 c = some o → c ≠ x → upd H6 x o1 c = some o := fun c o hc hn => upd_put (s6 _ _ (K5 c o hc hn)) hn
      -- words, skipped
      refine ⟨_, rfl, _, rfl, x, CP, dx, _, rfl, upd_same, TP.cl, TP.nw, (by show 3 < 1000; decide), ?_⟩
      rw [upd_upd]
      refine ⟨_, rfl, x, CP, dx, _, rfl, upd_same, TP.cl, TP.nk, (by show 4 < 1000; decide), ?_⟩
      rw [upd_upd]
      -- rounds
      refine ⟨_, rfl, t2, _, rfl, .inl (K7 _ _ e2 n2), 1, (spn os).length, rfl, (by rw [List.length_map]), shl_ok1 o1 (by omega), _, rfl, x, CP, dx, _, _, rfl, upd_same, TP.cl, TP.nk, rfl, 1 <<< (spn os).length, 0, rfl, rfl, Nat.zero_le _, ?_⟩
      refine ⟨_, rfl, x, CP, dx, _, rfl, upd_same, TP.cl, TP.nd, (by show 5 < 1000; decide), ?_⟩
      rw [upd_upd]
      refine k _ _ _ _ _ ⟨dx, p, sa, D, t2, ?_, (R5.same s6).put X6 np, upd_put (s6 _ _ E5) nsa, upd_put h6 nD, K7 _ _ e2 n2⟩ PN fun c o hc hn => K7 c o (s1 _ _ hc) hn
      rw [upd_same, Nat.one_shiftLeft]
      rfl
end
end LaneX
set_option Elab.async false
set_option linter.all false
set_option maxRecDepth 100000
set_option maxHeartbeats 4000000
namespace LaneX
open PySem PySem.Spec PyProof.Rows L2
/-! ### the tape -/
abbrev ka : Str := "cells"
abbrev kb : Str := "at"
abbrev kc : Str := "rest"
theorem kN : PenN ka kb kc := ⟨by decide +kernel, by decide +kernel, by decide +kernel⟩
/-- the most draws -/
abbrev TOP : Nat := 1099511627776
def Tp (H : Hp) (p lc : Addr) (N : Nat) : Prop := ∃ (cs : List Int) (n m : Nat), cs ≠ [] ∧ H p = some (.dK (pen ka kb kc lc n m)) ∧ H lc = some (.lst (cs.map V.int)) ∧ n ≤ N
section
variable {H H' : Hp} {p lc : Addr} {N M : Nat}
theorem Tp.mono (h : Tp H p lc N) (l : N ≤ M) : Tp H p lc M := by
  obtain ⟨cs, n, m, h0, h1, h2, h3⟩ := h
  exact ⟨cs, n, m, h0, h1, h2, Nat.le_trans h3 l⟩
theorem Tp.same (h : Tp H p lc N) (s : Same H H') : Tp H' p lc N := by
  obtain ⟨cs, n, m, h0, h1, h2, h3⟩ := h
  exact ⟨cs, n, m, h0, s _ _ h1, s _ _ h2, h3⟩
theorem Tp.ne (h : Tp H p lc N) {l : Addr} (hl : H l = none) : lc ≠ l ∧ p ≠ l := by
  obtain ⟨cs, n, m, h0, h1, h2, h3⟩ := h
  exact ⟨ne_of_none h2 hl, ne_of_none h1 hl⟩
theorem Tp.put {l : Addr} {o : HO} (h : Tp H p lc N) (h1 : lc ≠ l ∧ p ≠ l) : Tp (upd H l o) p lc N := by
  obtain ⟨cs, n, m, g0, g1, g2, g3⟩ := h
  exact ⟨cs, n, m, g0, (upd_ne h1.2).trans g1, (upd_ne h1.1).trans g2, g3⟩
end
theorem mo_lt {i : Int} {m : Nat} (h : 0 < m) (hm : m ≤ 2 ^ 64) : (i % (m : Int)).toNat < 2 ^ 64 := by
  have := Int.emod_lt_of_pos i (b := (m : Int)) (by omega)
  have h2 := Int.emod_nonneg i (b := (m : Int)) (by omega)
  have h3 : m ≤ 18446744073709551616 := hm
  show _ < 18446744073709551616
  omega
def sp_draw : Sp := fun vs H Q _ => ∃ (p lc : Addr) (N sp : Nat), vs = [.ref p, vN sp] ∧ Tp H p lc N ∧ 0 < sp ∧ sp < 2 ^ 8999 ∧ N + 1 ≤ TOP ∧ ∀ H' r, r < sp → Tp H' p lc (N + 1) → Kp H H' → Q (vN r) H'
def sp_begin (K : PySem.W.Frag) : Sp := fun vs H Q _ => ∃ (a : Addr) (ns : List Int), vs = [.ref a] ∧ SqL K H a (ns.map V.int) ∧ ns.length ≤ 1000000 ∧ ∀ H' p lc, Same H H' → H p = none → Tp H' p lc 0 → Q (.ref p) H'
section
variable {P : Program} {w : World} {K : PySem.W.Frag} {mg : Str → Option Value} {base : Heap} {f : Addr} {fd : FuncData} (T : Bt mg)
include T
theorem ok_draw (F : FnP K "_law_draw" "_law_draw" s_drawL f fd) : FnOk P w K mg base CX0 1 f fd ["_law_tape", "_law_limit"] sp_draw := by
  have nd := sc_drawL.nd
  refine fnok F sc_drawL (fun vs H Q E h => ?_) (fun cdv A outer s H vs Q E hr h => ?_)
  · obtain ⟨p, lc, N, sp, rfl, _⟩ := h
    rfl
  · obtain ⟨p, lc, N, sp, rfl, ⟨cs, n, m, hcs, hp, hlc, hn⟩, hs0, hs1, hN, k⟩ := h
    have hu := hu_of hr
    refine ⟨_, (pss_cons (ps_if (pt_cmpR op_lt (pe_dget hu (pv 0) pe_str (fun _ _ => rfl)) (pv 1) (nomark _))
    (pss_cons (ps_par (i := 2) (j := 3) (by rfl) nd rfl rfl (by decide) rfl rfl (pa_cons (pe_dget hu (pv 0) pe_str (fun _ _ => rfl)) (pa_cons (pe_callB call_lenQ (by rfl) T.len PySem.boot_len (pa_cons (pe_dget hu (pv 0) pe_str (fun _ _ => rfl)) pa_nil)) pa_nil)) (by rfl))
    (pss_cons (ps_asg (pe_tup (pa_cons (pe_ix ix_q (pe_dget hu (pv 0) pe_str (fun _ _ => rfl)) (pe_op on_mod (pe_callTy call_intQ (by rfl) T.int (by decide +kernel) (pa_cons (pv 2) pa_nil)) (pv 3)) (fun _ _ => rfl)) (pa_cons (pe_op on_add (pv 2) pe_int) pa_nil))) (pg_tup (by rfl) (pgs_cons (pg_name (i := 4) nd rfl (Or.inl rfl)) (pgs_cons (pg_sub (pv 0) pe_str (set_dict hu)) pgs_nil))))
    (pss_cons (ps_set (i := 5) nd rfl (Or.inl rfl) (pe_op on_addI (pe_op on_addI (pe_op on_mulI (pe_callTy call_intQ (by rfl) T.int (by decide +kernel) (pa_cons (pv 4) pa_nil)) pe_int) (pe_op on_mulR (pe_op on_mul pe_int (pv 2)) (pv 2))) pe_int))
    (pss_cons (ps_set (i := 5) nd rfl (Or.inl rfl) (pe_op on_modI (pe_callTy call_intQ (by rfl) T.int (by decide +kernel) (pa_cons (pv 5) pa_nil)) pe_int))
    (pss_cons (ps_dput hu (pv 0) pe_str (pe_op on_mod (pe_callTy call_intQ (by rfl) T.int (by decide +kernel) (pa_cons (pe_op on_add (pe_op on_pow (pv 5) pe_int) (pe_op on_mulR (pe_op on_mulR (pe_op on_mul pe_int (pv 2)) (pv 5)) (pv 5))) pa_nil)) (pe_op on_add (pe_op on_pow pe_int pe_int) pe_int)) rfl)
    (pss_one (ps_if (PW.pt (pw_and (pt_cmpR op_ge (pv 4) (pe_op on_pow pe_int pe_int) (nomark _)) (pw_and1 (pt_cmpR op_lt (pv 2) (pv 3) (nomark _)))))
      (pss_one (ps_dput hu (pv 0) pe_str (pe_op on_subD (pv 4) (pe_op on_pow pe_int pe_int)) rfl))
      pss_nil)))))))
    pss_nil)
  (pss_cons (ps_asg (pe_tup (pa_cons (pe_op on_mod (pe_callTy call_intQ (by rfl) T.int (by decide +kernel) (pa_cons (pe_dget hu (pv 0) pe_str (fun _ _ => rfl)) pa_nil)) (pv 1)) (pa_cons (pe_op on_fdivW (pe_dget hu (pv 0) pe_str (fun _ _ => rfl)) (pv 1)) pa_nil))) (pg_tup (by rfl) (pgs_cons (pg_name (i := 6) nd rfl (Or.inl rfl)) (pgs_cons (pg_sub (pv 0) pe_str (set_dict hu)) pgs_nil))))
  (pss_one (ps_ret (pv 6))))), ?_⟩
    have gA : ∀ (H0 : Hp) (n0 m0 : Nat), H0 p = some (.dK (pen ka kb kc lc n0 m0)) → DGet H0 p (.str ka) (some (.ref lc)) := fun H0 n0 m0 h => by have z := DGet.k (k := .inr ka) h; rw [pen_a] at z; exact z
    have gB : ∀ (H0 : Hp) (n0 m0 : Nat), H0 p = some (.dK (pen ka kb kc lc n0 m0)) → DGet H0 p (.str kb) (some (vN n0)) := fun H0 n0 m0 h => by have z := DGet.k (k := .inr kb) h; rw [pen_b kN] at z; exact z
    have gC : ∀ (H0 : Hp) (n0 m0 : Nat), H0 p = some (.dK (pen ka kb kc lc n0 m0)) → DGet H0 p (.str kc) (some (vN m0)) := fun H0 n0 m0 h => by have z := DGet.k (k := .inr kc) h; rw [pen_c kN] at z; exact z
    have pB : ∀ (H0 : Hp) (n0 m0 k0 : Nat), H0 p = some (.dK (pen ka kb kc lc n0 m0)) → DPut H0 p (.str kb) (vN k0) (upd H0 p (.dK (pen ka kb kc lc k0 m0))) := fun H0 n0 m0 k0 h => by have z := DPut.k (k := .inr kb) (v := vN k0) h (pen_len n0 m0); rw [pen_pb kN] at z; exact z
    have pC : ∀ (H0 : Hp) (n0 m0 k0 : Nat), H0 p = some (.dK (pen ka kb kc lc n0 m0)) → DPut H0 p (.str kc) (vN k0) (upd H0 p (.dK (pen ka kb kc lc n0 k0))) := fun H0 n0 m0 k0 h => by have z := DPut.k (k := .inr kc) (v := vN k0) h (pen_len n0 m0); rw [pen_pc kN] at z; exact z
    have hlp : lc ≠ p := ne_of hlc hp (by intro z; cases z)
    have kpU : ∀ (H0 : Hp) (n0 m0 n1 m1 : Nat), H0 p = some (.dK (pen ka kb kc lc n0 m0)) → Kp H0 (upd H0 p (.dK (pen ka kb kc lc n1 m1))) := fun H0 n0 m0 n1 m1 h => by
      refine ⟨fun b o hb ho => ?_, fun b hb => upd_free hb⟩
      refine (upd_ne fun z => ?_).trans hb
      rw [z, h] at hb
      cases hb
      cases ho
    have hN' : N + 1 ≤ 1099511627776 := hN
    have fin : ∀ (σ : L2.St) (H0 : Hp) (n0 m0 : Nat) (v2 v3 v4 v5 : Option V), σ = [some (.ref p), some (vN sp), v2, v3, v4, v5, none] → H0 p = some (.dK (pen ka kb kc lc n0 m0)) → H0 lc = some (.lst (cs.map V.int)) → n0 ≤ N + 1 → Kp H H0 →
        ∃ v, σ[0]? = some (some v) ∧ ∃ a u, v = .ref a ∧ DGet H0 a (.str kc) (some u) := fun σ H0 n0 m0 v2 v3 v4 v5 e h1 _ _ _ => ⟨.ref p, by rw [e]; rfl, p, _, rfl, gC _ _ _ h1⟩
    clear fin
    have last : ∀ (H0 : Hp) (n0 m0 : Nat), H0 p = some (.dK (pen ka kb kc lc n0 m0)) → H0 lc = some (.lst (cs.map V.int)) → n0 ≤ N + 1 → Kp H H0 → ∀ x, H0 x = none → Q (vN (m0 % sp)) (upd (upd H0 x (.tup [vN (m0 % sp), vN (m0 / sp)])) p (.dK (pen ka kb kc lc n0 (m0 / sp)))) := fun H0 n0 m0 h1 h2 h3 kp x hx => by
      have np : p ≠ x := ne_of_none h1 hx
      have e1 : upd H0 x (.tup [vN (m0 % sp), vN (m0 / sp)]) p = some (.dK (pen ka kb kc lc n0 m0)) := upd_put h1 np
      refine k _ _ (Nat.mod_lt _ hs0) ⟨cs, n0, m0 / sp, hcs, upd_same, (upd_ne hlp).trans (upd_new hx h2), h3⟩ ((kp_new kp hx).trans (kpU _ _ _ _ _ e1))
    refine ⟨_, rfl, p, vN m, rfl, gC _ _ _ hp, _, rfl, _, _, rfl, rfl, _, rfl, br (fun e => ?_) (fun e => ?_)⟩
    · refine ⟨_, rfl, p, vN n, rfl, gB _ _ _ hp, _, rfl, p, .ref lc, rfl, gA _ _ _ hp, lc, _, rfl, .inl hlc, _, _, rfl, ?_⟩
      have hne : 0 < cs.length := List.length_pos_iff.mpr hcs
      have hix : n % cs.length < cs.length := Nat.mod_lt _ hne
      refine ⟨_, rfl, p, .ref lc, rfl, gA _ _ _ hp, _, rfl, _, rfl, _, rfl, n, (cs.map V.int).length, rfl, rfl, (by rw [List.length_map]; exact hne), lc, _, n % (cs.map V.int).length, .int cs[n % cs.length], rfl, rfl, .inl hlc, ?_, ?_⟩
      · rw [List.length_map, List.getElem?_map, List.getElem?_eq_getElem hix]
        rfl
      generalize cs[n % cs.length] = ce
      refine ⟨_, rfl, n, 1, rfl, rfl, (by show 2 ≤ sizeLine; decide), fun x hx => ⟨x, _, rfl, SqT.of upd_same, rfl, _, _, rfl, _, _, rfl, _, rfl, p, _, rfl, pB _ _ _ _ (upd_new hx hp), rfl, ?_⟩⟩
      have np : p ≠ x := ne_of_none hp hx
      have kp1 : Kp H (upd (upd H x (.tup [.int ce, vN (n + 1)])) p (.dK (pen ka kb kc lc (n + 1) m))) := (kp_new (Kp.refl H) hx).trans (kpU _ _ _ _ _ (upd_new hx hp))
      have hp1 : upd (upd H x (.tup [.int ce, vN (n + 1)])) p (.dK (pen ka kb kc lc (n + 1) m)) p = some (.dK (pen ka kb kc lc (n + 1) m)) := upd_same
      generalize upd (upd H x (.tup [.int ce, vN (n + 1)])) p (.dK (pen ka kb kc lc (n + 1) m)) = H1 at *
      have hl1 := kp1 _ _ hlc rfl
      refine ⟨_, rfl, _, rfl, ce, 982451653, rfl, rfl, (by decide), _, rfl, 32452843, n, rfl, rfl, (by decide), _, rfl, _, n, rfl, rfl, (by show n < 18446744073709551616; omega), _, _, rfl, rfl, _, _, rfl, rfl, ?_⟩
      refine ⟨_, rfl, _, rfl, _, 2305843009213693907, rfl, rfl, (by decide), ?_⟩
      have mx := mo_lt (i := ce * ((982451653 : Nat) : Int) + ((32452843 * n * n : Nat) : Int) + 961748941) (m := 2305843009213693907) (by decide) (by decide)
      generalize ((ce * ((982451653 : Nat) : Int) + ((32452843 * n * n : Nat) : Int) + 961748941) % ((2305843009213693907 : Nat) : Int)).toNat = mm at *
      refine ⟨_, rfl, mm, 11, rfl, rfl, ⟨mx, by decide⟩, _, rfl, 15485863, n, rfl, rfl, (by decide), _, rfl, _, mm, rfl, rfl, mx, _, rfl, _, mm, rfl, rfl, mx, _, _, rfl, rfl, _, rfl, 10, 47, rfl, rfl, ⟨by decide, by decide⟩, _, 9, rfl, rfl, _, _, rfl, rfl, (by decide), _, rfl, p, _, rfl, pC _ _ _ _ hp1, ?_⟩
      generalize (mm ^ 11 + 15485863 * n * mm * mm) % (10 ^ 47 + 9) = rr
      have kp2 := kp1.trans (kpU _ _ _ (n + 1) rr hp1)
      have hp2 : upd H1 p (.dK (pen ka kb kc lc (n + 1) rr)) p = some (.dK (pen ka kb kc lc (n + 1) rr)) := upd_same
      generalize upd H1 p (.dK (pen ka kb kc lc (n + 1) rr)) = H2 at *
      have hl2 := kp2 _ _ hlc rfl
      refine ⟨_, rfl, 10, 18, rfl, rfl, ⟨by decide, by decide⟩, _, _, rfl, rfl, _, rfl, br (fun e1 => ?_) (fun e1 => ?_)⟩
      · refine ⟨_, rfl, _, rfl, _, _, rfl, rfl, _, rfl, br (fun e2 => ?_) (fun e2 => ?_)⟩
        · have e3 := of_decide_eq_true e1
          obtain ⟨d, hd⟩ : ∃ d : Nat, ce - ((10 ^ 18 : Nat) : Int) = (d : Int) := ⟨(ce - ((10 ^ 18 : Nat) : Int)).toNat, by
            have : ((10 ^ 18 : Nat) : Int) ≤ ce := e3
            omega⟩
          refine ⟨_, rfl, 10, 18, rfl, rfl, ⟨by decide, by decide⟩, _, _, d, rfl, rfl, hd, _, rfl, p, _, rfl, pC _ _ _ d hp2, ?_⟩
          have kp3 := kp2.trans (kpU _ _ _ (n + 1) d hp2)
          have hp3 : upd H2 p (.dK (pen ka kb kc lc (n + 1) d)) p = some (.dK (pen ka kb kc lc (n + 1) d)) := upd_same
          generalize upd H2 p (.dK (pen ka kb kc lc (n + 1) d)) = H3 at *
          refine ⟨_, rfl, p, vN d, rfl, gC _ _ _ hp3, _, rfl, _, rfl, d, sp, rfl, rfl, hs0, _, rfl, p, vN d, rfl, gC _ _ _ hp3, _, rfl, d, sp, rfl, rfl, ⟨hs0, hs1⟩, (by show 2 ≤ sizeLine; decide), fun y hy => ⟨y, _, rfl, SqT.of upd_same, rfl, _, _, rfl, _, _, rfl, _, rfl, p, _, rfl, pC _ _ _ _ (upd_new hy hp3), rfl, ?_⟩⟩
          exact ⟨_, rfl, last H3 _ _ hp3 (kp3 _ _ hlc rfl) (by omega) kp3 y hy⟩
        · refine ⟨_, rfl, p, vN rr, rfl, gC _ _ _ hp2, _, rfl, _, rfl, rr, sp, rfl, rfl, hs0, _, rfl, p, vN rr, rfl, gC _ _ _ hp2, _, rfl, rr, sp, rfl, rfl, ⟨hs0, hs1⟩, (by show 2 ≤ sizeLine; decide), fun y hy => ⟨y, _, rfl, SqT.of upd_same, rfl, _, _, rfl, _, _, rfl, _, rfl, p, _, rfl, pC _ _ _ _ (upd_new hy hp2), rfl, ?_⟩⟩
          exact ⟨_, rfl, last H2 _ _ hp2 hl2 (by omega) kp2 y hy⟩
      · refine ⟨_, rfl, p, vN rr, rfl, gC _ _ _ hp2, _, rfl, _, rfl, rr, sp, rfl, rfl, hs0, _, rfl, p, vN rr, rfl, gC _ _ _ hp2, _, rfl, rr, sp, rfl, rfl, ⟨hs0, hs1⟩, (by show 2 ≤ sizeLine; decide), fun y hy => ⟨y, _, rfl, SqT.of upd_same, rfl, _, _, rfl, _, _, rfl, _, rfl, p, _, rfl, pC _ _ _ _ (upd_new hy hp2), rfl, ?_⟩⟩
        exact ⟨_, rfl, last H2 _ _ hp2 hl2 (by omega) kp2 y hy⟩
    · refine ⟨_, rfl, p, vN m, rfl, gC _ _ _ hp, _, rfl, _, rfl, m, sp, rfl, rfl, hs0, _, rfl, p, vN m, rfl, gC _ _ _ hp, _, rfl, m, sp, rfl, rfl, ⟨hs0, hs1⟩, (by show 2 ≤ sizeLine; decide), fun y hy => ⟨y, _, rfl, SqT.of upd_same, rfl, _, _, rfl, _, _, rfl, _, rfl, p, _, rfl, pC _ _ _ _ (upd_new hy hp), rfl, ?_⟩⟩
      exact ⟨_, rfl, last H _ _ hp hlc (by omega) (Kp.refl H) y hy⟩
end
end LaneX
set_option Elab.async false
set_option linter.all false
set_option maxRecDepth 100000
set_option maxHeartbeats 4000000
namespace LaneX
open PySem PySem.Spec PyProof.Rows L2
def sp_pick : Sp := fun vs H Q _ => ∃ (p lc a : Addr) (N : Nat) (xs : List V), vs = [.ref p, .ref a] ∧ Tp H p lc N ∧ Tq H a xs ∧ 0 < xs.length ∧ xs.length ≤ 1000000 ∧ N + 1 ≤ TOP ∧ ∀ H' v, v ∈ xs → Tp H' p lc (N + 1) → Kp H H' → Q v H'
def sp_whole_is : Sp := fun vs H Q _ => ∃ n : Nat, vs = [vN n, vN n] ∧ Q (.bl true) H
def sp_less : Sp := fun vs H Q _ => ∃ (a : Addr) (rows : List Nat) (x : Nat), vs = [.ref a, vN x] ∧ Tq H a (rows.map vN) ∧ (∀ r ∈ rows, r ≠ 0) ∧ Q (vN (clr rows x)) H
def sp_rows : Sp := fun vs H Q _ => ∃ (a : Addr) (ws : List Nat), vs = [.ref a] ∧ Tq H a (ws.map vN) ∧ ws.length ≤ 1000000 ∧ ∀ H' q, Same H H' → H q = none → H' q = some (.lst ((rws ws).map vN)) → Q (.ref q) H'
def sp_sum : Sp := fun vs H Q _ => ∃ (a : Addr) (cs : List Nat) (x : Nat), vs = [.ref a, vN x] ∧ Tq H a (cs.map vN) ∧ cs.length ≤ 1000000 ∧ Q (vN (img cs x)) H
def sp_word : Sp := fun vs H Q _ => ∃ (p lc : Addr) (N b : Nat), vs = [.ref p, vN b] ∧ Tp H p lc N ∧ b ≤ 1000 ∧ N + 2 ≤ TOP ∧ ∀ H' x, x < 2 ^ b → Tp H' p lc (N + 2) → Kp H H' → Q (vN x) H'
def sp_order : Sp := fun vs H Q _ => ∃ (p lc : Addr) (N b : Nat), vs = [.ref p, vN b] ∧ Tp H p lc N ∧ b ≤ 1000 ∧ N + 1000 ≤ TOP ∧ ∀ (H' : Hp) (q : Addr) (o : List Nat), o.Perm (List.range b) → H q = none → H' q = some (.lst (o.map vN)) → Tp H' p lc (N + 1000) → Kp H H' → Q (.ref q) H'
def sp_several : Sp := fun vs H Q _ => ∃ (a : Addr) (ws : List Nat), vs = [.ref a] ∧ Tq H a (ws.map vN) ∧ ws.length ≤ 16 ∧ ∀ H' q, Same H H' → H q = none → H' q = some (.lst ((sev ws).map vN)) → Q (.ref q) H'
theorem cut63 (ns : List Int) : cutV (ns.map V.int) none (some 63) = (ns.take 63).map V.int := by
  unfold cutV
  rw [show (63 : Int) = ((63 : Nat) : Int) from rfl, HT.sIx_nat, HT.sIx_none, List.length_map, Nat.sub_zero, List.drop_zero, ← List.map_take]
  congr 1
  rcases Nat.le_total 63 ns.length with h | h
  · rw [Nat.min_eq_left h]
  · rw [Nat.min_eq_right h, List.take_length, List.take_of_length_le h]
theorem rep_zero (t : Nat) : (List.replicate t [V.int 0]).flatten = (List.replicate t (0 : Int)).map V.int := by
  induction t with
  | zero => rfl
  | succ t ih => rw [List.replicate_succ, List.flatten_cons, ih, List.replicate_succ]; rfl
theorem pow_big {b : Nat} (h : b ≤ 1000) : 1 <<< b < 2 ^ 8999 := by
  rw [Nat.one_shiftLeft]
  exact Nat.pow_lt_pow_right (by decide) (by omega)
theorem ins_perm' {α : Type} {l : List α} {i : Nat} {x : α} : (l.take i ++ [x] ++ l.drop i).Perm (x :: l) := by
  have : (l.take i ++ [x] ++ l.drop i).Perm (x :: (l.take i ++ l.drop i)) := by
    rw [List.append_assoc]
    exact List.perm_middle
  rwa [List.take_append_drop] at this
section
variable {P : Program} {w : World} {K : PySem.W.Frag} {mg : Str → Option Value} {base : Heap} {f : Addr} {fd : FuncData} (T : Bt mg)
include T
theorem ok_begin (F : FnP K "_law_begin" "_law_begin" s_beginL f fd) : FnOk P w K mg base CX0 1 f fd ["_law_script"] (sp_begin K) := by
  have nd := sc_beginL.nd
  refine fnok F sc_beginL (fun vs H Q E h => ?_) (fun cdv A outer s H vs Q E hr h => ?_)
  · obtain ⟨a, ns, rfl, _⟩ := h
    rfl
  · obtain ⟨a, ns, rfl, hS, hln, k⟩ := h
    refine ⟨_, (pss_one (ps_ret (pe_disp (pps_cons pe_str (pe_op op_cat (pe_callTy call_listQ (by rfl) T.list (by decide +kernel) (pa_cons (pe_slice sl_list (pv 0) po_none (po_some pe_int)) pa_nil)) (pe_op op_rep (pe_lst (pa_cons pe_int pa_nil)) (pe_callTy call_intB (by rfl) T.int (by decide +kernel) (pa_cons (pe_cmpR op_eq (pe_callB call_len (by rfl) T.len PySem.boot_len (pa_cons (pv 0) pa_nil)) pe_int (nomark _)) pa_nil)))) (pps_cons pe_str pe_int (pps_cons pe_str pe_int pps_nil))) (by rfl) (by rfl) (fun z => by cases z) (by decide)))), ?_⟩
    intro p hp
    have s0 := same_new0 (o := .dK []) hp
    refine ⟨_, rfl, _, rfl, a, _, rfl, Same.seq s0 hS, fun l1 hl1 => ?_⟩
    rw [cut63]
    have s1 := same_new (o := .lst ((ns.take 63).map V.int)) s0 hl1
    refine ⟨l1, _, rfl, .inl upd_same, fun l2 hl2 => ?_⟩
    have s2 := same_new (o := .lst ((ns.take 63).map V.int)) s1 hl2
    refine ⟨(by show 1 ≤ sizeLine; decide), fun l3 hl3 => ?_⟩
    have s3 := same_new (o := .lst [.int 0]) s2 hl3
    refine ⟨_, rfl, _, (ns.map V.int).length, rfl, Or.inl ⟨_, Same.seq s3 hS, rfl⟩, rfl, _, rfl, ?_⟩
    have l2' : upd (upd (upd (upd H p (.dK [])) l1 (.lst ((ns.take 63).map V.int))) l2 (.lst ((ns.take 63).map V.int))) l3 (.lst [.int 0]) l2 = some (.lst ((ns.take 63).map V.int)) := upd_new hl3 upd_same
    have p' : upd (upd (upd (upd H p (.dK [])) l1 (.lst ((ns.take 63).map V.int))) l2 (.lst ((ns.take 63).map V.int))) l3 (.lst [.int 0]) p = some (.dK []) := upd_new hl3 (upd_new hl2 (upd_new hl1 upd_same))
    have l3' : upd (upd (upd (upd H p (.dK [])) l1 (.lst ((ns.take 63).map V.int))) l2 (.lst ((ns.take 63).map V.int))) l3 (.lst [.int 0]) l3 = some (.lst [.int 0]) := upd_same
    generalize upd (upd (upd (upd H p (.dK [])) l1 (.lst ((ns.take 63).map V.int))) l2 (.lst ((ns.take 63).map V.int))) l3 (.lst [.int 0]) = H3 at *
    have hz : (if decide (V.int ((ns.map V.int).length : Int) = .int 0) = true then 1 else 0) = if ns.length = 0 then 1 else 0 := by
      rw [List.length_map]
      by_cases e : ns.length = 0
      · rw [if_pos e, e]; rfl
      · rw [if_neg e, decide_eq_false (fun z => e (by have := V.int.inj z; omega))]; rfl
    generalize ht : (if decide (V.int ((ns.map V.int).length : Int) = .int 0) = true then 1 else 0) = t
    rw [hz] at ht
    have t1 : t ≤ 1 := by rw [← ht]; split <;> omega
    refine ⟨l3, _, _, rfl, rfl, l3', (by omega), (by omega), (by rw [sizeLine_eq]; simp; omega), fun l4 hl4 => ?_⟩
    rw [Int.toNat_natCast, rep_zero]
    have tl : (ns.take 63).length ≤ 63 := by rw [List.length_take]; omega
    refine ⟨l2, l4, _, _, rfl, rfl, upd_new hl4 l2', upd_same, (by rw [List.length_map, List.length_map, List.length_replicate, sizeLine_eq]; omega), fun l5 hl5 => ?_⟩
    rw [← List.map_append]
    have np : p ≠ l4 := ne_of_none p' hl4
    have p4 : upd H3 l4 (.lst ((List.replicate t (0 : Int)).map V.int)) p = some (.dK []) := upd_put p' np
    have np5 : p ≠ l5 := ne_of_none p4 hl5
    refine ⟨upd_put p4 np5, [(.inr ka, .ref l5), (.inr kb, .int 0), (.inr kc, .int 0)], rfl, (by show 3 ≤ 15; decide), ?_⟩
    have em : mergeK [] [((.inr ka : Key), V.ref l5), (.inr kb, .int 0), (.inr kc, .int 0)] = pen ka kb kc l5 0 0 := by
      unfold mergeK pen putK
      simp [kN.ab, kN.ac, kN.bc]
    rw [em]
    refine k _ _ l5 (fun b o hb => ?_) hp ⟨ns.take 63 ++ List.replicate t 0, 0, 0, ?_, upd_same, upd_put upd_same np5.symm, Nat.le_refl _⟩
    · exact upd_put (upd_new hl5 (upd_new hl4 (s3 _ _ hb))) (ne_of_none hb hp)
    · intro z
      have := congrArg List.length z
      rw [List.length_append, List.length_take, List.length_replicate] at this
      rw [List.length_nil] at this
      by_cases e : ns.length = 0
      · rw [if_pos e] at ht; omega
      · omega
theorem ok_pick (F : FnP K "_law_pick" "_law_pick" s_pickL f fd) (D_drawL : Dn P w K mg base 1 "_law_draw" ["_law_tape", "_law_limit"] sp_draw) : FnOk P w K mg base CX0 2 f fd ["_law_tape", "_law_some"] sp_pick := by
  have nd := sc_pickL.nd
  refine fnok F sc_pickL (fun vs H Q E h => ?_) (fun cdv A outer s H vs Q E hr h => ?_)
  · obtain ⟨p, lc, a, N, xs, rfl, _⟩ := h
    rfl
  · obtain ⟨p, lc, a, N, xs, rfl, hp, hS, h0, h1, hN, k⟩ := h
    refine ⟨_, (pss_one (ps_ret (pe_ix ix_q (pv 1) (pe_d D_drawL hr (pa_cons (pv 0) (pa_cons (pe_callB call_lenQ (by rfl) T.len PySem.boot_len (pa_cons (pv 1) pa_nil)) pa_nil))) (fun _ _ => rfl)))), ?_⟩
    have big : xs.length < 2 ^ 8999 := Nat.lt_of_lt_of_le (show xs.length < 2 ^ 20 by have : (2 : Nat) ^ 20 = 1048576 := by decide
                                                                                      omega) (Nat.pow_le_pow_right (by decide) (by decide))
    refine ⟨_, rfl, _, rfl, _, rfl, a, xs, rfl, hS, p, lc, N, xs.length, rfl, hp, h0, big, hN, fun H' r hr' hp' kp => ?_⟩
    exact ⟨a, xs, r, _, rfl, rfl, kp_tq kp hS, List.getElem?_eq_getElem hr', k _ _ (List.getElem_mem hr') hp' kp⟩
theorem ok_whole_is (F : FnP K "_law_whole_is" "_law_whole_is" s_whole_isL f fd) : FnOk P w K mg base CX0 1 f fd ["_law_value", "_law_due"] sp_whole_is := by
  have nd := sc_whole_isL.nd
  refine fnok F sc_whole_isL (fun vs H Q E h => ?_) (fun cdv A outer s H vs Q E hr h => ?_)
  · obtain ⟨n, rfl, _⟩ := h
    rfl
  · obtain ⟨n, rfl, k⟩ := h
    refine ⟨_, (pss_one (ps_ret (pe_and (pe_callB call_isi (by rfl) T.isinstance (by decide +kernel) (pa_cons (pv 0) (pa_cons (pe_bltn (v := .ty "int") (by rfl) T.int (by decide +kernel) rfl) pa_nil))) (pe_and (pe_not (pe_callB call_isi (by rfl) T.isinstance (by decide +kernel) (pa_cons (pv 0) (pa_cons (pe_bltn (v := .ty "bool") (by rfl) T.bool (by decide +kernel) rfl) pa_nil)))) (pe_one (pe_cmpR op_eq (pv 0) (pv 1) (nomark _))))))), ?_⟩
    refine ⟨_, rfl, _, _, _, _, _, rfl, .ty _, .base (.int _), kit_ty (r := true) (by decide +kernel), _, rfl, iteT ?_⟩
    refine ⟨_, rfl, _, _, _, _, _, rfl, .ty _, .base (.int _), kit_ty (r := false) (by decide +kernel), _, rfl, _, rfl, iteT ?_⟩
    refine ⟨_, rfl, _, rfl, rfl, ?_⟩
    show Q (.bl (decide (vN n = vN n))) H
    rw [decide_eq_true rfl]
    exact k
theorem ok_less (F : FnP K "_law_less" "_law_less" s_lessL f fd) : FnOk P w K mg base CX0 1 f fd ["_law_rows_here", "_law_word_here"] sp_less := by
  have nd := sc_lessL.nd
  refine fnok F sc_lessL (fun vs H Q E h => ?_) (fun cdv A outer s H vs Q E hr h => ?_)
  · obtain ⟨a, rows, x, rfl, _⟩ := h
    rfl
  · obtain ⟨a, rows, x, rfl, hS, nz, k⟩ := h
    refine ⟨_, (pss_cons (ps_set (i := 2) nd rfl (Or.inl rfl) (pv 1))
  (pss_cons (ps_for PassesOwn.never rfl (pi_seq (pv 0)) (pg_name (i := 3) nd rfl (Or.inl rfl))
    (pss_one (ps_set (i := 2) nd rfl (Or.inl rfl) (pe_callB (call_minN rfl) (by rfl) T.min (by decide +kernel) (pa_cons (pv 2) (pa_cons (pe_op on_xor (pv 2) (pv 3)) pa_nil))))))
  (pss_one (ps_ret (pv 2))))), ?_⟩
    refine ⟨_, rfl, _, rfl, for_sq2 (K := K) hS (fun i σ H2 => ∃ v, σ = [some (.ref a), some (vN x), some (vN (les (rows.take i) x)), v] ∧ H2 = H) ⟨none, rfl, rfl⟩ (fun i σ H2 hp o ho => by obtain ⟨_, _, rfl⟩ := hp; exact ho) ?_ ?_⟩
    · rintro i y σ H2 hy ⟨v, rfl, rfl⟩
      obtain ⟨r, hr', rfl⟩ := map_get hy
      refine ⟨_, rfl, _, rfl, _, rfl, _, r, rfl, rfl, _, _, rfl, some (vN r), ?_, rfl⟩
      rw [take_succ hr']
      unfold les
      rw [List.foldl_append]
      rfl
    · rintro σ H2 ⟨v, rfl, rfl⟩
      rw [List.length_map, List.take_length, les_clr x nz]
      exact ⟨_, rfl, k⟩
theorem ok_rows (F : FnP K "_law_rows" "_law_rows" s_rowsL f fd) (D_lessL : Dn P w K mg base 1 "_law_less" ["_law_rows_here", "_law_word_here"] sp_less) : FnOk P w K mg base CX0 2 f fd ["_law_words"] sp_rows := by
  have nd := sc_rowsL.nd
  refine fnok F sc_rowsL (fun vs H Q E h => ?_) (fun cdv A outer s H vs Q E hr h => ?_)
  · obtain ⟨a, ws, rfl, _⟩ := h
    rfl
  · obtain ⟨a, ws, rfl, hS, hl, k⟩ := h
    refine ⟨_, (pss_cons (ps_set (i := 1) nd rfl (Or.inl rfl) (pe_lst pa_nil))
  (pss_cons (ps_for PassesOwn.never rfl (pi_seq (pv 0)) (pg_name (i := 2) nd rfl (Or.inl rfl))
    (pss_cons (ps_set (i := 3) nd rfl (Or.inl rfl) (pe_d D_lessL hr (pa_cons (pv 1) (pa_cons (pv 2) pa_nil))))
    (pss_one (ps_if (pt_cmpR op_ne (pv 3) pe_int (nomark _))
      (pss_one (ps_expr (pe_bm PySem.F.plainAttrs_list PySem.F.slot_list_append PySem.F.type_list_append mt_append (pv 1) (pa_cons (pv 3) pa_nil))))
      pss_nil))))
  (pss_one (ps_ret (pv 1))))), ?_⟩
    refine ⟨(by decide), fun l0 hl0 => ?_⟩
    have s0 : Same H (upd H l0 (.lst [])) := same_new0 hl0
    have an : a ≠ l0 := by
      rcases hS with h | h
      · exact ne_of_none h hl0
      · exact ne_of_none h hl0
    refine ⟨_, rfl, for_sq2 (K := K) (same_tq s0 hS) (fun i σ H2 => ∃ v v3, σ = [some (.ref a), some (.ref l0), v, v3] ∧ Same H H2 ∧ H2 l0 = some (.lst ((rws (ws.take i)).map vN))) ⟨none, none, rfl, s0, upd_same⟩ (fun i σ H2 hp o ho => ?_) ?_ ?_⟩
    · obtain ⟨_, _, _, s2, _⟩ := hp
      rw [upd_ne an] at ho
      exact s2 _ _ ho
    · rintro i y σ H2 hy ⟨v, v3, rfl, s2, h2⟩
      obtain ⟨r, hr', rfl⟩ := map_get hy
      refine ⟨_, rfl, _, rfl, l0, _, r, rfl, .inl h2, (rws_hws _).nz, ?_⟩
      refine ⟨_, rfl, rfl, _, rfl, ?_⟩
      rw [dec_ne0, take_succ hr', rws_snoc]
      unfold rwstep
      refine br (fun e => ?_) (fun e => ?_)
      · have e0 : clr (rws (ws.take i)) r ≠ 0 := by simpa using e
        rw [if_neg e0]
        have tl : (rws (ws.take i)).length ≤ 1000000 := Nat.le_trans (rws_len_le _) (Nat.le_trans (by rw [List.length_take]; omega) hl)
        refine ⟨_, rfl, .inl ⟨rfl, _, SqL.of h2⟩, _, rfl, l0, _, _, rfl, rfl, h2, (by rw [List.length_map]; exact size6 tl), ?_⟩
        refine ⟨_, _, rfl, same_put s2 hl0, ?_⟩
        rw [upd_same, List.map_append]
        rfl
      · have e0 : clr (rws (ws.take i)) r = 0 := by simpa using e
        rw [if_pos e0]
        exact ⟨_, _, rfl, s2, h2⟩
    · rintro σ H2 ⟨v, v3, rfl, s2, h2⟩
      rw [List.length_map, List.take_length] at h2
      exact ⟨_, rfl, k _ _ s2 hl0 h2⟩
theorem ok_sum (F : FnP K "_law_sum" "_law_sum" s_sumL f fd) : FnOk P w K mg base CX0 1 f fd ["_law_words", "_law_number_here"] sp_sum := by
  have nd := sc_sumL.nd
  refine fnok F sc_sumL (fun vs H Q E h => ?_) (fun cdv A outer s H vs Q E hr h => ?_)
  · obtain ⟨a, cs, x, rfl, _⟩ := h
    rfl
  · obtain ⟨a, cs, x, rfl, hS, hl, k⟩ := h
    refine ⟨_, (pss_cons (ps_set (i := 2) nd rfl (Or.inl rfl) pe_int)
  (pss_cons (ps_for PassesOwn.never rfl (pi_range1 (by rfl) T.range (pa_cons (pe_callB call_lenQ (by rfl) T.len PySem.boot_len (pa_cons (pv 0) pa_nil)) pa_nil)) (pg_name (i := 3) nd rfl (Or.inl rfl))
    (pss_one (ps_if (pt_cmpR op_eq (pe_op on_and (pe_op on_shr (pv 1) (pv 3)) pe_int) pe_int (nomark _))
      (pss_one (ps_set (i := 2) nd rfl (Or.inl rfl) (pe_op on_xor (pv 2) (pe_ix ix_q (pv 0) (pv 3) (fun _ _ => rfl)))))
      pss_nil)))
  (pss_one (ps_ret (pv 2))))), ?_⟩
    refine ⟨_, rfl, a, _, rfl, hS, _, rfl, (by omega), (by rw [List.length_map]; omega), for_range (n := (cs.map vN).length) (fun i σ H2 => ∃ v, σ = [some (.ref a), some (vN x), some (vN (imf cs x i)), v] ∧ H2 = H) ⟨none, rfl, rfl⟩ ?_ ?_⟩
    · rintro i σ H2 hi ⟨v, rfl, rfl⟩
      rw [List.length_map] at hi
      rw [show (0 : Int) + (i : Int) = (i : Int) by omega]
      have hg : (cs.map vN)[i]? = some (vN (cs.getD i 0)) := by
        rw [List.getElem?_map, List.getElem?_eq_getElem hi, List.getD_eq_getElem?_getD, List.getElem?_eq_getElem hi]
        rfl
      refine ⟨_, rfl, _, rfl, _, _, rfl, rfl, _, 1, rfl, rfl, rfl, _, rfl, ?_⟩
      rw [dec_bit, imf_succ]
      cases q : x.testBit i with
      | true => exact iteT ⟨_, rfl, _, rfl, _, rfl, a, _, i, _, rfl, rfl, hS, hg, _, _, rfl, rfl, _, rfl, rfl⟩
      | false => exact iteF ⟨_, rfl, rfl⟩
    · rintro σ H2 ⟨v, rfl, rfl⟩
      refine ⟨_, rfl, ?_⟩
      rw [List.length_map]
      exact k
theorem ok_word (F : FnP K "_law_word" "_law_word" s_wordL f fd) (D_drawL : Dn P w K mg base 1 "_law_draw" ["_law_tape", "_law_limit"] sp_draw) : FnOk P w K mg base CX0 2 f fd ["_law_tape", "_law_bits"] sp_word := by
  have nd := sc_wordL.nd
  refine fnok F sc_wordL (fun vs H Q E h => ?_) (fun cdv A outer s H vs Q E hr h => ?_)
  · obtain ⟨p, lc, N, b, rfl, _⟩ := h
    rfl
  · obtain ⟨p, lc, N, b, rfl, hp, hb, hN, k⟩ := h
    refine ⟨_, (pss_cons (ps_if (pt_cmpR op_eq (pv 1) pe_int (nomark _))
    (pss_one (ps_ret pe_int))
    pss_nil)
  (pss_cons (ps_set (i := 2) nd rfl (Or.inl rfl) (pe_d D_drawL hr (pa_cons (pv 0) (pa_cons pe_int pa_nil))))
  (pss_cons (ps_if (pt_cmpR op_eq (pv 2) pe_int (nomark _))
    (pss_one (ps_ret pe_int))
    pss_nil)
  (pss_cons (ps_if (pt_cmpR op_eq (pv 2) pe_int (nomark _))
    (pss_one (ps_ret (pe_op on_shl pe_int (pe_d D_drawL hr (pa_cons (pv 0) (pa_cons (pv 1) pa_nil))))))
    pss_nil)
  (pss_one (ps_ret (pe_ifExp (pt_cmpR op_eq (pv 2) pe_int (nomark _)) (pe_op on_sub (pe_op on_shl pe_int (pv 1)) pe_int) (pe_d D_drawL hr (pa_cons (pv 0) (pa_cons (pe_op on_shl pe_int (pv 1)) pa_nil)))))))))), ?_⟩
    have hN' : N + 2 ≤ 1099511627776 := hN
    have o1 : blen 1 ≤ 1000000 := by rw [blen_one]; decide
    refine ⟨_, rfl, rfl, _, rfl, br (fun e => k _ 0 (Nat.two_pow_pos _) (hp.mono (by omega)) (Kp.refl H)) (fun e => ?_)⟩
    have b0 : 0 < b := Nat.pos_of_ne_zero fun z => by subst z; cases e
    refine ⟨_, rfl, p, lc, N, 6, rfl, hp, (by decide), (by decide), (by show N + 1 ≤ 1099511627776; omega), fun H1 st hst hp1 kp1 => ?_⟩
    refine ⟨_, rfl, rfl, _, rfl, br (fun e => k _ 0 (Nat.two_pow_pos _) (hp1.mono (by omega)) kp1) (fun e1 => ?_)⟩
    refine ⟨_, rfl, rfl, _, rfl, br (fun e2 => ?_) (fun e2 => ?_)⟩
    · have bb : b < 2 ^ 8999 := Nat.lt_of_lt_of_le Nat.lt_two_pow_self (Nat.pow_le_pow_right (by decide) (by omega))
      refine ⟨_, rfl, _, rfl, p, lc, N + 1, b, rfl, hp1, b0, bb, (by show N + 1 + 1 ≤ 1099511627776; omega), fun H2 r hr' hp2 kp2 => ?_⟩
      refine ⟨1, r, rfl, rfl, shl_ok1 o1 (by omega), k _ _ ?_ hp2 (kp1.trans kp2)⟩
      rw [Nat.one_shiftLeft]
      exact Nat.pow_lt_pow_right (by decide) hr'
    · refine ⟨_, rfl, rfl, _, rfl, br (fun e3 => ?_) (fun e3 => ?_)⟩
      · have pp := Nat.two_pow_pos b
        refine ⟨_, rfl, 1, b, rfl, rfl, shl_ok1 o1 (by omega), _, 1, rfl, rfl, (by rw [Nat.one_shiftLeft]; omega), k _ _ ?_ (hp1.mono (by omega)) kp1⟩
        rw [Nat.one_shiftLeft]; omega
      · refine ⟨_, rfl, _, rfl, 1, b, rfl, rfl, shl_ok1 o1 (by omega), p, lc, N + 1, 1 <<< b, rfl, hp1, (by rw [Nat.one_shiftLeft]; exact Nat.two_pow_pos b), pow_big hb, (by show N + 1 + 1 ≤ 1099511627776; omega), fun H2 r hr' hp2 kp2 => ?_⟩
        exact k _ _ (by rw [← Nat.one_shiftLeft]; exact hr') hp2 (kp1.trans kp2)
theorem ok_order (F : FnP K "_law_order" "_law_order" s_orderL f fd) (D_drawL : Dn P w K mg base 1 "_law_draw" ["_law_tape", "_law_limit"] sp_draw) : FnOk P w K mg base CX0 2 f fd ["_law_tape", "_law_many"] sp_order := by
  have nd := sc_orderL.nd
  refine fnok F sc_orderL (fun vs H Q E h => ?_) (fun cdv A outer s H vs Q E hr h => ?_)
  · obtain ⟨p, lc, N, b, rfl, _⟩ := h
    rfl
  · obtain ⟨p, lc, N, b, rfl, hp, hb, hN, k⟩ := h
    refine ⟨_, (pss_cons (ps_set (i := 2) nd rfl (Or.inl rfl) (pe_lst pa_nil))
  (pss_cons (ps_for PassesOwn.never rfl (pi_range1 (by rfl) T.range (pa_cons (pv 1) pa_nil)) (pg_name (i := 3) nd rfl (Or.inl rfl))
    (pss_one (ps_expr (pe_bm PySem.F.plainAttrs_list PySem.F.slot_list_insert PySem.F.type_list_insert mt_insert (pv 2) (pa_cons (pe_d D_drawL hr (pa_cons (pv 0) (pa_cons (pe_op on_add (pv 3) pe_int) pa_nil))) (pa_cons (pv 3) pa_nil))))))
  (pss_one (ps_ret (pv 2))))), ?_⟩
    have hN' : N + 1000 ≤ 1099511627776 := hN
    refine ⟨(by decide), fun l hl => ?_⟩
    have np := hp.ne hl
    refine ⟨_, rfl, _, rfl, (by omega), (by omega), for_range (n := b) (fun i σ H2 => ∃ v o, σ = [some (.ref p), some (vN b), some (.ref l), v] ∧ Tp H2 p lc (N + i) ∧ Kp H H2 ∧ H2 l = some (.lst (o.map vN)) ∧ o.Perm (List.range i)) ⟨none, [], rfl, hp.put np, kp_new (Kp.refl H) hl, upd_same, .refl _⟩ ?_ ?_⟩
    · rintro i σ H2 hi ⟨v, o, rfl, hp2, kp2, h2, ho⟩
      rw [show (0 : Int) + (i : Int) = (i : Int) by omega]
      have ol : o.length = i := by rw [ho.length_eq, List.length_range]
      refine ⟨_, rfl, .inl ⟨rfl, _, SqL.of h2⟩, _, rfl, _, rfl, i, 1, rfl, rfl, p, lc, N + i, i + 1, rfl, hp2, (by omega), Nat.lt_of_lt_of_le Nat.lt_two_pow_self (Nat.pow_le_pow_right (by decide) (by omega)), (by show N + i + 1 ≤ 1099511627776; omega), fun H3 r hr' hp3 kp3 => ?_⟩
      refine ⟨_, rfl, l, _, r, _, rfl, rfl, kp3 _ _ h2 rfl, (by rw [List.length_map, sizeLine_eq]; omega), (by omega), (by omega), ?_⟩
      rw [Int.toNat_natCast]
      refine ⟨_, o.take r ++ [i] ++ o.drop r, rfl, hp3.put np, kp_put (kp2.trans kp3) hl, ?_, ?_⟩
      · rw [upd_same, List.map_append, List.map_append, List.map_take, List.map_drop]; rfl
      · rw [List.range_succ]
        exact (ins_perm'.trans (ho.cons i)).trans (List.perm_append_comm (l₁ := [i]))
    · rintro σ H2 ⟨v, o, rfl, hp2, kp2, h2, ho⟩
      exact ⟨_, rfl, k _ _ o ho hl h2 (hp2.mono (by omega)) kp2⟩
theorem ok_several (F : FnP K "_law_several" "_law_several" s_severalL f fd) : FnOk P w K mg base CX0 1 f fd ["_law_words"] sp_several := by
  have nd := sc_severalL.nd
  refine fnok F sc_severalL (fun vs H Q E h => ?_) (fun cdv A outer s H vs Q E hr h => ?_)
  · obtain ⟨a, ws, rfl, _⟩ := h
    rfl
  · obtain ⟨a, ws, rfl, hS, hl, k⟩ := h
    refine ⟨_, (pss_cons (ps_set (i := 1) nd rfl (Or.inl rfl) (pe_lst (pa_cons pe_int pa_nil)))
  (pss_cons (ps_for PassesOwn.never rfl (pi_seq (pv 0)) (pg_name (i := 2) nd rfl (Or.inr rfl))
    (pss_one (ps_set (i := 1) nd rfl (Or.inl rfl) (pe_op op_cat (pv 1) (pe_lc (own := [("_law_one", 3)]) (g := gName 3) (by rfl) nd (pi_seq (pv 1)) (blkOk_by (own := [("_law_one", 3)]) (N := ["_law_words", "_law_found", "_law_word_here", "_law_one"]) (sc := defScope s_severalL) (by decide +kernel)) (fun _ _ _ _ _ => (pg_name (i := 3) nd rfl (Or.inl rfl))) (fun _ _ _ _ _ => pts_nil) (fun _ _ _ _ _ => (pe_op on_xor (pv 3) (pv 2))))))))
  (pss_one (ps_ret (pv 1))))), ?_⟩
    refine ⟨(by show 1 ≤ sizeLine; decide), fun l0 hl0 => ?_⟩
    have s0 : Same H (upd H l0 (.lst [.int 0])) := same_new0 hl0
    refine ⟨_, rfl, for_sq2 (K := K) (same_tq s0 hS) (fun i σ H2 => ∃ l v, σ = [some (.ref a), some (.ref l), v, none] ∧ Same H H2 ∧ H l = none ∧ H2 l = some (.lst ((sev (ws.take i)).map vN))) ⟨l0, none, rfl, s0, hl0, upd_same⟩ (fun i σ H2 hp o ho => ?_) ?_ ?_⟩
    · obtain ⟨_, _, _, s2, _⟩ := hp
      rcases hS with h | h
      · rw [upd_ne (ne_of_none h hl0)] at ho; exact s2 _ _ ho
      · rw [upd_ne (ne_of_none h hl0)] at ho; exact s2 _ _ ho
    · rintro i y σ H2 hy ⟨l, v, rfl, s2, hl2, h2⟩
      obtain ⟨r, hr', rfl⟩ := map_get hy
      have il : i < ws.length := (List.getElem?_eq_some_iff.mp hr').1
      have sl : (sev (ws.take i)).length ≤ 65536 := by
        rw [sev_len, List.length_take]
        exact Nat.pow_le_pow_right (n := 2) (j := 16) (by decide) (by omega)
      refine ⟨_, rfl, _, rfl, lc_pure (sev (ws.take i)) vN (fun _ => true) (fun x => vN (x ^^^ r)) (.inl h2) (by omega) (fun x H' hx s => ?_) (fun D H3 hD s3 h3 => ?_)⟩
      · intro Z Nx z1 z2
        exact ⟨rfl, _, rfl, _, rfl, x, r, rfl, rfl, z1 rfl _ (Same.refl _)⟩
      · rw [filt_true] at h3
        refine ⟨l, D, _, _, rfl, rfl, s3 _ _ h2, h3, (by rw [List.length_map, List.length_map, sizeLine_eq]; omega), fun x hx => ?_⟩
        refine ⟨x, _, rfl, same_new (s2.trans s3) hx, same_free (s2.trans s3) hx, ?_⟩
        rw [upd_same, take_succ hr', sev_snoc, List.map_append, List.map_map]
        rfl
    · rintro σ H2 ⟨l, v, rfl, s2, hl2, h2⟩
      rw [List.length_map, List.take_length] at h2
      exact ⟨_, rfl, k _ _ s2 hl2 h2⟩
end
end LaneX
set_option Elab.async false
set_option linter.all false
set_option maxRecDepth 100000
set_option maxHeartbeats 4000000
namespace LaneX
open PySem PySem.Spec PyProof.Rows L2
def sp_mixture : Sp := fun vs H Q _ => ∃ (p lc : Addr) (N b : Nat), vs = [.ref p, vN b] ∧ Tp H p lc N ∧ b ≤ 1000 ∧ N + 10000 ≤ TOP ∧ ∀ (H' : Hp) (q : Addr) (M : List Nat), Mix b M → H q = none → H' q = some (.lst (M.map vN)) → Tp H' p lc (N + 10000) → Kp H H' → Q (.ref q) H'
def sp_blend : Sp := fun vs H Q _ => ∃ (p lc a : Addr) (N ex : Nat) (W : List Nat), vs = [.ref p, .ref a, vN ex] ∧ Tp H p lc N ∧ Tq H a (W.map vN) ∧ W.length ≤ 1000 ∧ ex ≤ 1000 ∧ N + 20000 ≤ TOP ∧
  ∀ (H' : Hp) (q : Addr) (F : List Nat), F.length = W.length + ex → (∀ x, Spn F x ↔ Spn W x) → H q = none → H' q = some (.lst (F.map vN)) → Tp H' p lc (N + 20000) → Kp H H' → Q (.ref q) H'
theorem map_upd {w : Nat → Nat} {x i : Nat} (g : Nat → Nat → Nat) : (List.range (i + 1)).map (fun j => g (if j = i then x else w j) j) = (List.range i).map (fun j => g (w j) j) ++ [g x i] := by
  rw [List.range_succ, List.map_append]
  congr 1
  · refine List.map_congr_left fun j hj => ?_
    have := List.mem_range.mp hj
    rw [if_neg (by omega)]
  · simp
theorem blen_lt' {w b : Nat} (h : w < 2 ^ b) (hb : b ≤ 1000) : blen w ≤ 1000 := Nat.le_trans (blen_le.mpr h) hb
theorem shr_blen (w i : Nat) : blen (w >>> i) ≤ blen w := by rw [blen_shr]; omega
section
variable {P : Program} {w : World} {K : PySem.W.Frag} {mg : Str → Option Value} {base : Heap} {f : Addr} {fd : FuncData} (T : Bt mg)
include T
theorem ok_mixture (F : FnP K "_law_mixture" "_law_mixture" s_mixtureL f fd) (D_drawL : Dn P w K mg base 1 "_law_draw" ["_law_tape", "_law_limit"] sp_draw) (D_orderL : Dn P w K mg base 2 "_law_order" ["_law_tape", "_law_many"] sp_order) (D_wordL : Dn P w K mg base 2 "_law_word" ["_law_tape", "_law_bits"] sp_word) (D_sumL : Dn P w K mg base 1 "_law_sum" ["_law_words", "_law_number_here"] sp_sum) : FnOk P w K mg base CX0 3 f fd ["_law_tape", "_law_bits"] sp_mixture := by
  have nd := sc_mixtureL.nd
  refine fnok F sc_mixtureL (fun vs H Q E h => ?_) (fun cdv A outer s H vs Q E hr h => ?_)
  · obtain ⟨p, lc, N, b, rfl, _⟩ := h
    rfl
  · obtain ⟨p, lc, N, b, rfl, hp, hb, hN, k⟩ := h
    refine ⟨_, (pss_cons (ps_par (i := 2) (j := 3) (by rfl) nd rfl rfl (by decide) rfl rfl (pa_cons (pe_d D_drawL hr (pa_cons (pv 0) (pa_cons pe_int pa_nil))) (pa_cons (pe_d D_orderL hr (pa_cons (pv 0) (pa_cons (pv 1) pa_nil))) pa_nil)) (by rfl))
  (pss_cons (ps_if (pt_cmpR op_eq (pv 2) pe_int (nomark _))
    (pss_one (ps_ret (pe_lc (own := [("_law_at", 6)]) (g := gName 6) (by rfl) nd (pi_seq (pv 3)) (blkOk_by (own := [("_law_at", 6)]) (N := ["_law_tape", "_law_bits", "_law_sort", "_law_order_here", "_law_high", "_law_low", "_law_at", "_law_word_here", "_law_mixed"]) (sc := defScope s_mixtureL) (by decide +kernel)) (fun _ _ _ _ _ => (pg_name (i := 6) nd rfl (Or.inl rfl))) (fun _ _ _ _ _ => pts_nil) (fun _ _ _ _ _ => (pe_op on_shl pe_int (pv 6))))))
    pss_nil)
  (pss_cons (ps_asg (pe_tup (pa_cons (pe_lst pa_nil) (pa_cons (pe_lst pa_nil) pa_nil))) (pg_tup (by rfl) (pgs_cons (pg_name (i := 4) nd rfl (Or.inr rfl)) (pgs_cons (pg_name (i := 5) nd rfl (Or.inl rfl)) pgs_nil))))
  (pss_cons (ps_for PassesOwn.never rfl (pi_range1 (by rfl) T.range (pa_cons (pv 1) pa_nil)) (pg_name (i := 6) nd rfl (Or.inl rfl))
    (pss_cons (ps_set (i := 7) nd rfl (Or.inl rfl) (pe_ifExp (pt_cmpR op_gt (pv 2) pe_int (nomark _)) (pe_d D_drawL hr (pa_cons (pv 0) (pa_cons (pe_op on_shl pe_int (pv 1)) pa_nil))) (pe_d D_wordL hr (pa_cons (pv 0) (pa_cons (pv 1) pa_nil)))))
    (pss_cons (ps_expr (pe_bm PySem.F.plainAttrs_list PySem.F.slot_list_append PySem.F.type_list_append mt_append (pv 4) (pa_cons (pe_op on_or (pe_op on_shl pe_int (pv 6)) (pe_op on_shl (pe_op on_shr (pv 7) (pe_op on_add (pv 6) pe_int)) (pe_op on_add (pv 6) pe_int))) pa_nil)))
    (pss_one (ps_expr (pe_bm PySem.F.plainAttrs_list PySem.F.slot_list_append PySem.F.type_list_append mt_append (pv 5) (pa_cons (pe_op on_or (pe_op on_shl pe_int (pv 6)) (pe_op on_and (pv 7) (pe_op on_sub (pe_op on_shl pe_int (pv 6)) pe_int))) pa_nil)))))))
  (pss_cons (ps_set (i := 8) nd rfl (Or.inr rfl) (pe_lc (own := [("_law_word_here", 7)]) (g := gName 7) (by rfl) nd (pi_seq (pv 5)) (blkOk_by (own := [("_law_word_here", 7)]) (N := ["_law_tape", "_law_bits", "_law_sort", "_law_order_here", "_law_high", "_law_low", "_law_at", "_law_word_here", "_law_mixed"]) (sc := defScope s_mixtureL) (by decide +kernel)) (fun _ _ _ _ _ => (pg_name (i := 7) nd rfl (Or.inl rfl))) (fun _ _ _ _ _ => pts_nil) (fun _ _ _ _ _ => (pe_d D_sumL hr (pa_cons (pv 4) (pa_cons (pv 7) pa_nil))))))
  (pss_one (ps_ret (pe_lc (own := [("_law_at", 6)]) (g := gName 6) (by rfl) nd (pi_seq (pv 3)) (blkOk_by (own := [("_law_at", 6)]) (N := ["_law_tape", "_law_bits", "_law_sort", "_law_order_here", "_law_high", "_law_low", "_law_at", "_law_word_here", "_law_mixed"]) (sc := defScope s_mixtureL) (by decide +kernel)) (fun _ _ _ _ _ => (pg_name (i := 6) nd rfl (Or.inl rfl))) (fun _ _ _ _ _ => pts_nil) (fun _ _ _ _ _ => (pe_ix ix_q (pv 8) (pv 6) (fun _ _ => rfl))))))))))), ?_⟩
    have hN' : N + 10000 ≤ 1099511627776 := hN
    have o1 : blen 1 ≤ 1000000 := by rw [blen_one]; decide
    refine ⟨_, rfl, p, lc, N, 4, rfl, hp, (by decide), (by decide), (by show N + 1 ≤ 1099511627776; omega), fun H1 st hst hp1 kp1 => ?_⟩
    refine ⟨_, rfl, _, rfl, p, lc, N + 1, b, rfl, hp1, hb, (by show N + 1 + 1000 ≤ 1099511627776; omega), fun H2 ro o ho hro h2 hp2 kp2 => ⟨_, _, rfl, ?_⟩⟩
    have ol : o.length = b := by rw [ho.length_eq, List.length_range]
    have olt : ∀ x ∈ o, x < b := fun x hx => List.mem_range.mp (ho.mem_iff.mp hx)
    have kp12 := kp1.trans kp2
    refine ⟨_, rfl, rfl, _, rfl, br (fun e => ?_) (fun e => ?_)⟩
    · refine ⟨_, rfl, lc_pure o vN (fun _ => true) (fun x => vN (1 <<< x)) (.inl h2) (by omega) (fun x H' hx s => ?_) (fun D H3 hD s3 h3 => ?_)⟩
      · intro Z Nx z1 z2
        have := olt x hx
        exact ⟨rfl, _, rfl, 1, x, rfl, rfl, shl_ok1 o1 (by omega), z1 rfl _ (Same.refl _)⟩
      · rw [filt_true] at h3
        refine k H3 D (o.map fun x => 1 <<< x) ((mix_units b).perm (ho.map _)) (kp12.free _ hD) (by rw [h3, List.map_map]; rfl) ((hp2.same s3).mono (by omega)) (kp12.trans (Kp.of s3))
    · refine ⟨(by decide), fun lh hlh => ⟨(by decide), fun ll hll => ⟨(by show 2 ≤ sizeLine; decide), fun x0 hx0 => ⟨x0, _, rfl, SqT.of upd_same, rfl, _, _, rfl, _, _, rfl, rfl, ?_⟩⟩⟩⟩
      have kp3 : Kp H (upd (upd (upd H2 lh (.lst [])) ll (.lst [])) x0 (.tup [.ref lh, .ref ll])) := kp_new (kp_new (kp_new kp12 hlh) hll) hx0
      have hh3 : upd (upd (upd H2 lh (.lst [])) ll (.lst [])) x0 (.tup [.ref lh, .ref ll]) lh = some (.lst []) := upd_new hx0 (upd_new hll upd_same)
      have hl3 : upd (upd (upd H2 lh (.lst [])) ll (.lst [])) x0 (.tup [.ref lh, .ref ll]) ll = some (.lst []) := upd_new hx0 upd_same
      have ho3 : upd (upd (upd H2 lh (.lst [])) ll (.lst [])) x0 (.tup [.ref lh, .ref ll]) ro = some (.lst (o.map vN)) := upd_new hx0 (upd_new hll (upd_new hlh h2))
      have hp3 : Tp (upd (upd (upd H2 lh (.lst [])) ll (.lst [])) x0 (.tup [.ref lh, .ref ll])) p lc (N + 1 + 1000) := hp2.same (same_new (same_new (same_new0 hlh) hll) hx0)
      have nhl : lh ≠ ll := ne_of_none upd_same hll
      have nro1 : ro ≠ lh := ne_of_none h2 hlh
      have nro2 : ro ≠ ll := ne_of_none (upd_new hlh h2) hll
      have hlh0 : H lh = none := kp12.free _ hlh
      have hll0 : H ll = none := kp12.free _ (upd_free hll)
      generalize upd (upd (upd H2 lh (.lst [])) ll (.lst [])) x0 (.tup [.ref lh, .ref ll]) = H3 at *
      have n1 := hp.ne hlh0
      have n2 := hp.ne hll0
      refine ⟨_, rfl, _, rfl, (by omega), (by omega), for_range (n := b) (fun i σ H4 => ∃ (v6 v7 : Option V) (ws : Nat → Nat), σ = [some (.ref p), some (vN b), some (vN st), some (.ref ro), some (.ref lh), some (.ref ll), v6, v7, none] ∧ Tp H4 p lc (N + 1001 + 2 * i) ∧ Kp H H4 ∧ H4 ro = some (.lst (o.map vN)) ∧ (∀ j, ws j < 2 ^ b) ∧ H4 lh = some (.lst (((List.range i).map fun j => hiw (ws j) j).map vN)) ∧ H4 ll = some (.lst (((List.range i).map fun j => low' (ws j) j).map vN)))
        ⟨none, none, fun _ => 0, rfl, hp3.mono (by omega), kp3, ho3, fun _ => Nat.two_pow_pos b, hh3, hl3⟩ ?_ ?_⟩
      · rintro i σ H4 hi ⟨v6, v7, ws, rfl, hp4, kp4, ho4, hws, hh4, hl4⟩
        rw [show (0 : Int) + (i : Int) = (i : Int) by omega]
        have body : ∀ (H5 : Hp) (x : Nat), x < 2 ^ b → Tp H5 p lc (N + 1001 + 2 * i + 2) → Kp H4 H5 → ∀ D : Ends, D.nx = (fun σ H4 => ∃ (v6 v7 : Option V) (ws : Nat → Nat), σ = [some (.ref p), some (vN b), some (vN st), some (.ref ro), some (.ref lh), some (.ref ll), v6, v7, none] ∧ Tp H4 p lc (N + 1001 + 2 * (i + 1)) ∧ Kp H H4 ∧ H4 ro = some (.lst (o.map vN)) ∧ (∀ j, ws j < 2 ^ b) ∧ H4 lh = some (.lst (((List.range (i + 1)).map fun j => hiw (ws j) j).map vN)) ∧ H4 ll = some (.lst (((List.range (i + 1)).map fun j => low' (ws j) j).map vN))) →
            D.nx [some (.ref p), some (vN b), some (vN st), some (.ref ro), some (.ref lh), some (.ref ll), some (vN i), some (vN x), none] (upd (upd H5 lh (.lst (((List.range i).map fun j => hiw (ws j) j).map vN ++ [vN (hiw x i)]))) ll (.lst (((List.range i).map fun j => low' (ws j) j).map vN ++ [vN (low' x i)]))) := fun H5 x hx hp5 kp5 D hD => by
          rw [hD]
          refine ⟨_, _, fun j => if j = i then x else ws j, rfl, ((hp5.put n1).put n2).mono (by omega), kp_put (kp_put (kp4.trans kp5) hlh0) hll0, ?_, fun j => ?_, ?_, ?_⟩
          · exact (upd_ne nro2).trans ((upd_ne nro1).trans (kp5 _ _ ho4 rfl))
          · show (if j = i then x else ws j) < 2 ^ b
            split
            · exact hx
            · exact hws j
          · rw [upd_ne nhl, upd_same, map_upd, List.map_append]; rfl
          · rw [upd_same, map_upd, List.map_append]; rfl
        have tail : ∀ (H5 : Hp) (x : Nat), x < 2 ^ b → Kp H4 H5 → blen (x >>> (i + 1)) ≤ 1000000 ∧ H5 lh = some (.lst (((List.range i).map fun j => hiw (ws j) j).map vN)) ∧ H5 ll = some (.lst (((List.range i).map fun j => low' (ws j) j).map vN)) := fun H5 x hx kp5 => ⟨Nat.le_trans (shr_blen _ _) (Nat.le_trans (blen_lt' hx hb) (by decide)), kp5 _ _ hh4 rfl, kp5 _ _ hl4 rfl⟩
        have p1 : 1 ≤ 1 <<< i := by rw [Nat.one_shiftLeft]; exact Nat.two_pow_pos i
        refine ⟨_, rfl, _, _, rfl, rfl, _, rfl, br (fun e1 => ?_) (fun e1 => ?_)⟩
        · refine ⟨_, rfl, _, rfl, 1, b, rfl, rfl, shl_ok1 o1 (by omega), p, lc, _, 1 <<< b, rfl, hp4, (by rw [Nat.one_shiftLeft]; exact Nat.two_pow_pos b), pow_big hb, (by show N + 1001 + 2 * i + 1 ≤ 1099511627776; omega), fun H5 x hx hp5 kp5 => ?_⟩
          rw [Nat.one_shiftLeft] at hx
          obtain ⟨b1, b2, b3⟩ := tail H5 x hx kp5
          refine ⟨_, rfl, .inl ⟨rfl, _, SqL.of b2⟩, _, rfl, 1, i, rfl, rfl, shl_ok1 o1 (by omega), _, rfl, _, rfl, i, 1, rfl, rfl, x, i + 1, rfl, rfl, _, rfl, i, 1, rfl, rfl, _, _, rfl, rfl, shl_ok1 b1 (by omega), _, _, rfl, rfl, lh, _, _, rfl, rfl, b2, (by rw [List.length_map, List.length_map, List.length_range, sizeLine_eq]; omega), ?_⟩
          refine ⟨_, rfl, .inl ⟨rfl, _, SqL.of ((upd_ne nhl.symm).trans b3)⟩, _, rfl, 1, i, rfl, rfl, shl_ok1 o1 (by omega), _, rfl, _, rfl, 1, i, rfl, rfl, shl_ok1 o1 (by omega), _, 1, rfl, rfl, p1, _, _, rfl, rfl, _, _, rfl, rfl, ll, _, _, rfl, rfl, (upd_ne nhl.symm).trans b3, (by rw [List.length_map, List.length_map, List.length_range, sizeLine_eq]; omega), ?_⟩
          exact body H5 x hx (hp5.mono (by omega)) kp5 _ rfl
        · refine ⟨_, rfl, _, rfl, p, lc, _, b, rfl, hp4, hb, (by show N + 1001 + 2 * i + 2 ≤ 1099511627776; omega), fun H5 x hx hp5 kp5 => ?_⟩
          obtain ⟨b1, b2, b3⟩ := tail H5 x hx kp5
          refine ⟨_, rfl, .inl ⟨rfl, _, SqL.of b2⟩, _, rfl, 1, i, rfl, rfl, shl_ok1 o1 (by omega), _, rfl, _, rfl, i, 1, rfl, rfl, x, i + 1, rfl, rfl, _, rfl, i, 1, rfl, rfl, _, _, rfl, rfl, shl_ok1 b1 (by omega), _, _, rfl, rfl, lh, _, _, rfl, rfl, b2, (by rw [List.length_map, List.length_map, List.length_range, sizeLine_eq]; omega), ?_⟩
          refine ⟨_, rfl, .inl ⟨rfl, _, SqL.of ((upd_ne nhl.symm).trans b3)⟩, _, rfl, 1, i, rfl, rfl, shl_ok1 o1 (by omega), _, rfl, _, rfl, 1, i, rfl, rfl, shl_ok1 o1 (by omega), _, 1, rfl, rfl, p1, _, _, rfl, rfl, _, _, rfl, rfl, ll, _, _, rfl, rfl, (upd_ne nhl.symm).trans b3, (by rw [List.length_map, List.length_map, List.length_range, sizeLine_eq]; omega), ?_⟩
          exact body H5 x hx hp5 kp5 _ rfl
      · rintro σ H4 ⟨v6, v7, ws, rfl, hp4, kp4, ho4, hws, hh4, hl4⟩
        have mH := mix_highs (b := b) fun i _ => hws i
        have mL := mix_lows (b := b) ws
        generalize ((List.range b).map fun j => hiw (ws j) j) = A at *
        generalize ((List.range b).map fun j => low' (ws j) j) = B at *
        have lA := mH.len
        have lB := mL.len
        refine ⟨_, rfl, lc_pure B vN (fun _ => true) (fun x => vN (img A x)) (.inl hl4) (by omega) (fun x H' hx s => ?_) (fun D H5 hD s5 h5 => ?_)⟩
        · intro Z Nx z1 z2
          exact ⟨rfl, _, rfl, _, rfl, lh, A, x, rfl, .inl (s _ _ hh4), by omega, z1 rfl _ (Same.refl _)⟩
        · rw [filt_true] at h5
          have mM := mix_comp mH mL
          have h5' : H5 D = some (.lst ((B.map (img A)).map vN)) := by rw [h5, List.map_map]; rfl
          have lM := mM.len
          generalize B.map (img A) = M at *
          refine ⟨_, rfl, lc_pure o vN (fun _ => true) (fun x => vN (M.getD x 0)) (.inl (s5 _ _ ho4)) (by omega) (fun x H' hx s => ?_) (fun D2 H6 hD2 s6 h6 => ?_)⟩
          · intro Z Nx z1 z2
            have xl := olt x hx
            have hg : (M.map vN)[x]? = some (vN (M.getD x 0)) := by
              rw [List.getElem?_map, List.getElem?_eq_getElem (by omega), List.getD_eq_getElem?_getD, List.getElem?_eq_getElem (by omega)]; rfl
            exact ⟨rfl, _, rfl, _, rfl, D, _, x, _, rfl, rfl, .inl (s _ _ h5'), hg, z1 rfl _ (Same.refl _)⟩
          · rw [filt_true] at h6
            have s46 := s5.trans s6
            refine k H6 D2 (o.map fun x => M.getD x 0) (mM.perm (perm_order ho lM)) (kp4.free _ (same_free s5 hD2)) (by rw [h6, List.map_map]; rfl) ((hp4.same s46).mono (by omega)) (kp4.trans (Kp.of s46))
theorem ok_blend (F : FnP K "_law_blend" "_law_blend" s_blendL f fd) (D_drawL : Dn P w K mg base 1 "_law_draw" ["_law_tape", "_law_limit"] sp_draw) (D_mixtureL : Dn P w K mg base 3 "_law_mixture" ["_law_tape", "_law_bits"] sp_mixture) (D_wordL : Dn P w K mg base 2 "_law_word" ["_law_tape", "_law_bits"] sp_word) (D_sumL : Dn P w K mg base 1 "_law_sum" ["_law_words", "_law_number_here"] sp_sum) : FnOk P w K mg base CX0 4 f fd ["_law_tape", "_law_words", "_law_extra"] sp_blend := by
  have nd := sc_blendL.nd
  refine fnok F sc_blendL (fun vs H Q E h => ?_) (fun cdv A outer s H vs Q E hr h => ?_)
  · obtain ⟨p, lc, a, N, ex, W, rfl, _⟩ := h
    rfl
  · obtain ⟨p, lc, a, N, ex, W, rfl, hp, hS, hW, hex, hN, k⟩ := h
    refine ⟨_, (pss_cons (ps_set (i := 3) nd rfl (Or.inl rfl) (pe_d D_mixtureL hr (pa_cons (pv 0) (pa_cons (pe_callB call_lenQ (by rfl) T.len PySem.boot_len (pa_cons (pv 1) pa_nil)) pa_nil))))
  (pss_cons (ps_setLc (i := 4) (own := [("_law_number_here", 6)]) (g := gName 6) (by rfl) nd rfl rfl (sw_true rfl rfl rfl (by decide +kernel)) (pi_seq (pv 3)) (blkOk_by (own := [("_law_number_here", 6)]) (N := ["_law_tape", "_law_words", "_law_extra", "_law_mixture_here", "_law_found", "_law_k", "_law_number_here"]) (sc := defScope s_blendL) (by decide +kernel)) (fun _ _ _ _ _ => (pg_name (i := 6) nd rfl (Or.inl rfl))) (fun _ _ _ _ _ => pts_nil) (fun _ _ _ _ _ => (pe_d D_sumL hr (pa_cons (pv 1) (pa_cons (pv 6) pa_nil)))))
  (pss_cons (ps_for PassesOwn.never rfl (pi_range1 (by rfl) T.range (pa_cons (pv 2) pa_nil)) (pg_name (i := 5) nd rfl (Or.inl rfl))
    (pss_one (ps_expr (pe_bm PySem.F.plainAttrs_list PySem.F.slot_list_insert PySem.F.type_list_insert mt_insert (pv 4) (pa_cons (pe_d D_drawL hr (pa_cons (pv 0) (pa_cons (pe_op on_add (pe_callB call_lenQ (by rfl) T.len PySem.boot_len (pa_cons (pv 4) pa_nil)) pe_int) pa_nil))) (pa_cons (pe_d D_sumL hr (pa_cons (pv 1) (pa_cons (pe_d D_wordL hr (pa_cons (pv 0) (pa_cons (pe_callB call_lenQ (by rfl) T.len PySem.boot_len (pa_cons (pv 1) pa_nil)) pa_nil))) pa_nil))) pa_nil))))))
  (pss_one (ps_ret (pv 4)))))), ?_⟩
    have hN' : N + 20000 ≤ 1099511627776 := hN
    refine ⟨_, rfl, _, rfl, a, _, rfl, hS, p, lc, N, (W.map vN).length, rfl, hp, (by rw [List.length_map]; exact hW), (by show N + 10000 ≤ 1099511627776; omega), fun H1 q M mM hq h1 hp1 kp1 => ?_⟩
    rw [List.length_map] at mM
    have lM := mM.len
    refine ⟨_, rfl, lc_pure M vN (fun _ => true) (fun x => vN (img W x)) (.inl h1) (by omega) (fun x H' hx s => ?_) (fun D H2 hD s2 h2 => ?_)⟩
    · intro Z Nx z1 z2
      exact ⟨rfl, _, rfl, _, rfl, a, W, x, rfl, same_tq s (kp_tq kp1 hS), by omega, z1 rfl _ (Same.refl _)⟩
    · rw [filt_true] at h2
      have h2' : H2 D = some (.lst ((M.map (img W)).map vN)) := by rw [h2, List.map_map]; rfl
      have kp2 := kp1.trans (Kp.of s2)
      have hD0 : H D = none := kp1.free _ hD
      have np := hp.ne hD0
      have nqa : ∀ u, H a = some u → a ≠ D := fun u h => ne_of_none h hD0
      refine ⟨_, rfl, _, rfl, (by omega), (by omega), for_range (n := ex) (fun i σ H3 => ∃ v G, σ = [some (.ref p), some (.ref a), some (vN ex), some (.ref q), some (.ref D), v, none] ∧ Tp H3 p lc (N + 10000 + 3 * i) ∧ Kp H H3 ∧ H3 D = some (.lst (G.map vN)) ∧ G.length = W.length + i ∧ ∀ x, Spn G x ↔ Spn W x) ⟨none, M.map (img W), rfl, (hp1.same s2).mono (by omega), kp2, h2', (by rw [List.length_map]; omega), fun x => mM.span rfl x⟩ ?_ ?_⟩
      · rintro i σ H3 hi ⟨v, G, rfl, hp3, kp3, h3, lG, sG⟩
        refine ⟨_, rfl, .inl ⟨rfl, _, SqL.of h3⟩, _, rfl, _, rfl, D, _, rfl, .inl h3, (G.map vN).length, 1, rfl, rfl, p, lc, _, (G.map vN).length + 1, rfl, hp3, (by omega), Nat.lt_of_lt_of_le Nat.lt_two_pow_self (Nat.pow_le_pow_right (by decide) (by rw [List.length_map]; omega)), (by show N + 10000 + 3 * i + 1 ≤ 1099511627776; omega), fun H4 r hr' hp4 kp4 => ?_⟩
        rw [List.length_map] at hr'
        refine ⟨_, rfl, _, rfl, _, rfl, a, _, rfl, kp_tq (kp3.trans kp4) hS, p, lc, _, (W.map vN).length, rfl, hp4, (by rw [List.length_map]; exact hW), (by show N + 10000 + 3 * i + 1 + 2 ≤ 1099511627776; omega), fun H5 x hx hp5 kp5 => ?_⟩
        rw [List.length_map] at hx
        have kp35 := kp4.trans kp5
        refine ⟨a, W, x, rfl, kp_tq (kp3.trans kp35) hS, by omega, D, _, r, _, rfl, rfl, kp35 _ _ h3 rfl, (by rw [List.length_map, sizeLine_eq]; omega), (by omega), (by omega), ?_⟩
        rw [Int.toNat_natCast]
        have pm := ins_perm' (l := G) (i := r) (x := img W x)
        refine ⟨_, G.take r ++ [img W x] ++ G.drop r, rfl, (hp5.put np).mono (by omega), kp_put (kp3.trans kp35) hD0, ?_, ?_, fun y => ?_⟩
        · rw [upd_same, List.map_append, List.map_append, List.map_take, List.map_drop]; rfl
        · rw [pm.length_eq]; simp; omega
        · rw [span_more pm ((sG _).mpr (img_in W hx)), sG]
      · rintro σ H3 ⟨v, G, rfl, hp3, kp3, h3, lG, sG⟩
        exact ⟨_, rfl, k _ _ G lG sG hD0 h3 (hp3.mono (by omega)) kp3⟩
end
end LaneX
set_option Elab.async false
set_option linter.all false
set_option maxRecDepth 100000
set_option maxHeartbeats 4000000
namespace LaneX
open PySem PySem.Spec PyProof.Rows L2
/-- G: as W, each word with a sum of words of C -/
def Shf (C W G : List Nat) : Prop := G.length = W.length ∧ ∀ j, j < W.length → Spn C (G.getD j 0 ^^^ W.getD j 0)
theorem list_range (W : List Nat) : (List.range W.length).map (fun i => W.getD i 0) = W := by
  refine List.ext_getElem (by simp) fun i h1 h2 => ?_
  rw [List.getElem_map, List.getElem_range, List.getD_eq_getElem?_getD, List.getElem?_eq_getElem h2]; rfl
theorem Shf.span {C W G : List Nat} (h : Shf C W G) (x : Nat) : Spn (C ++ G) x ↔ Spn (C ++ W) x := by
  have a := span_shift (S := C) (A := []) (n := W.length) (f := fun i => G.getD i 0) (g := fun i => W.getD i 0) h.2 x
  rw [list_range W] at a
  have e := list_range G
  rw [h.1] at e
  rwa [e] at a
theorem Shf.nil (C : List Nat) : Shf C [] [] := ⟨rfl, fun j hj => absurd hj (Nat.not_lt_zero _)⟩
theorem getD_append (a b : List Nat) (i : Nat) : (a ++ b).getD i 0 = if i < a.length then a.getD i 0 else b.getD (i - a.length) 0 := by
  rw [List.getD_eq_getElem?_getD]
  split
  · rename_i h; rw [List.getElem?_append_left h, List.getD_eq_getElem?_getD]
  · rename_i h; rw [List.getElem?_append_right (by omega), List.getD_eq_getElem?_getD]
theorem Shf.snoc {C W G : List Nat} {i g w : Nat} (h : Shf C (W.take i) G) (hw : W[i]? = some w) (hg : Spn C (g ^^^ w)) : Shf C (W.take (i + 1)) (G ++ [g]) := by
  have il := (List.getElem?_eq_some_iff.mp hw).1
  have tl : (W.take i).length = i := by rw [List.length_take]; omega
  have l1 := h.1
  rw [take_succ hw]
  refine ⟨by rw [List.length_append, List.length_append, l1]; rfl, fun j hj => ?_⟩
  rw [getD_append, getD_append, l1]
  by_cases e : j < (W.take i).length
  · rw [if_pos e, if_pos e]; exact h.2 j e
  · rw [List.length_append] at hj
    have : j - (W.take i).length = 0 := by simp at hj; omega
    rw [if_neg e, if_neg e, this]
    exact hg
/-- a sum with one of the words beside: a draw -/
theorem shf_one {C : List Nat} {w x : Nat} (h : x < 2 ^ C.length) : Spn C ((w ^^^ img C x) ^^^ w) := by
  rw [Nat.xor_comm w, xor_cancel_right]; exact img_in C h
def sp_fair : Sp := fun vs H Q _ => ∃ (p lc ar ao as : Addr) (N m : Nat) (R O S : List Nat), vs = [.ref p, vN m, .ref ar, .ref ao, .ref as] ∧ Tp H p lc N ∧ H ar = some (.lst (R.map vN)) ∧ H ao = some (.lst (O.map vN)) ∧ H as = some (.lst (S.map vN)) ∧ R.length + O.length ≤ m ∧ m ≤ 1000 ∧ S.length ≤ 1000 ∧ N + 10000 ≤ TOP ∧
  ∀ (H' : Hp) (q : Addr) (G : List Nat), G.length = m → (∀ x, Spn (S ++ G) x ↔ Spn (S ++ (O ++ R)) x) → H q = none → H' q = some (.lst (G.map vN)) → Tp H' p lc (N + 10000) → Kp H H' → Q (.ref q) H'
/-- own words at their places, ahead of them the words of g, else 0 -/
structure Plc (g O o F : List Nat) (r m k : Nat) : Prop where
  len : F.length = m
  fst : ∀ j, j < r → F.getD j 0 = g.getD j 0
  own : ∀ i, i < k → F.getD (o.getD i 0 + r) 0 = O.getD i 0
  all : ∀ x ∈ F, Spn (O ++ g) x
theorem getD_set (F : List Nat) (i j v : Nat) (hi : i < F.length) : (F.set i v).getD j 0 = if j = i then v else F.getD j 0 := by
  rw [List.getD_eq_getElem?_getD, List.getElem?_set]
  by_cases e : i = j
  · subst e; simp [hi]
  · rw [if_neg e, if_neg (fun z => e z.symm), List.getD_eq_getElem?_getD]
theorem Plc.step {g O o F : List Nat} {r m k : Nat} (h : Plc g O o F r m k) (ol : o.length = m - r) (rm : r ≤ m) (ho : o.Perm (List.range (m - r))) (kO : k < O.length) (kl : k < o.length) : Plc g O o (F.set (o.getD k 0 + r) (O.getD k 0)) r m (k + 1) := by
  have nd : o.Nodup := ho.nodup_iff.mpr List.nodup_range
  have lt : ∀ i, i < o.length → o.getD i 0 < m - r := fun i hi => List.mem_range.mp (ho.mem_iff.mp (getD_mem hi))
  have pl : o.getD k 0 + r < F.length := by rw [h.len]; have := lt k kl; omega
  refine ⟨by rw [List.length_set]; exact h.len, fun j hj => ?_, fun i hi => ?_, fun x hx => ?_⟩
  · rw [getD_set _ _ _ _ pl, if_neg (by omega)]; exact h.fst j hj
  · rw [getD_set _ _ _ _ pl]
    by_cases e : i = k
    · subst e; rw [if_pos rfl]
    · have ik : i < k := by omega
      rw [if_neg, h.own i ik]
      intro z
      refine e ((List.getElem?_inj (i := i) (j := k) (by omega) nd).mp ?_)
      have e1 : o[i]? = some (o.getD i 0) := by rw [List.getD_eq_getElem?_getD, List.getElem?_eq_getElem (by omega)]; rfl
      have e2 : o[k]? = some (o.getD k 0) := by rw [List.getD_eq_getElem?_getD, List.getElem?_eq_getElem kl]; rfl
      rw [e1, e2]; congr 1; omega
  · rcases List.mem_or_eq_of_mem_set hx with z | z
    · exact h.all x z
    · rw [z]; exact .of (List.mem_append_left _ (getD_mem kO))
theorem Plc.span {g O o F : List Nat} {r m : Nat} (h : Plc g O o F r m O.length) (gl : g.length = r) (rm : r + O.length ≤ m) (ol : o.length = m - r) (ho : o.Perm (List.range (m - r))) (x : Nat) : Spn F x ↔ Spn (O ++ g) x := by
  have lt : ∀ i, i < o.length → o.getD i 0 < m - r := fun i hi => List.mem_range.mp (ho.mem_iff.mp (getD_mem hi))
  refine ⟨fun z => z.mono h.all, fun z => z.mono fun y hy => ?_⟩
  rcases List.mem_append.mp hy with hy | hy
  · obtain ⟨i, hi, e⟩ := List.getElem_of_mem hy
    have e1 : O.getD i 0 = y := by rw [List.getD_eq_getElem?_getD, List.getElem?_eq_getElem hi, ← e]; rfl
    rw [← e1, ← h.own i hi]
    exact .of (getD_mem (by rw [h.len]; have := lt i (by omega); omega))
  · obtain ⟨i, hi, e⟩ := List.getElem_of_mem hy
    have e1 : g.getD i 0 = y := by rw [List.getD_eq_getElem?_getD, List.getElem?_eq_getElem hi, ← e]; rfl
    rw [← e1, ← h.fst i (by omega)]
    exact .of (getD_mem (by rw [h.len]; omega))
theorem ix_ok {n i : Nat} (h : i < n) : ixN n (i : Int) = some i := by
  unfold ixN
  simp [h]
section
variable {P : Program} {w : World} {K : PySem.W.Frag} {mg : Str → Option Value} {base : Heap} {f : Addr} {fd : FuncData} (T : Bt mg)
include T
theorem ok_fair (F : FnP K "_law_fair" "_law_fair" s_fairL f fd) (D_wordL : Dn P w K mg base 2 "_law_word" ["_law_tape", "_law_bits"] sp_word) (D_sumL : Dn P w K mg base 1 "_law_sum" ["_law_words", "_law_number_here"] sp_sum) (D_orderL : Dn P w K mg base 2 "_law_order" ["_law_tape", "_law_many"] sp_order) : FnOk P w K mg base CX0 3 f fd ["_law_tape", "_law_many", "_law_rest", "_law_own", "_law_slots"] sp_fair := by
  have nd := sc_fairL.nd
  refine fnok F sc_fairL (fun vs H Q E h => ?_) (fun cdv A outer s H vs Q E hr h => ?_)
  · obtain ⟨p, lc, ar, ao, as, N, m, R, O, S, rfl, _⟩ := h
    rfl
  · obtain ⟨p, lc, ar, ao, as, N, m, R, O, S, rfl, hp, har, hao, has, hRO, hm, hS, hN, k⟩ := h
    refine ⟨_, (pss_cons (ps_set (i := 5) nd rfl (Or.inl rfl) (pe_op op_cat (pe_lc (own := [("_law_word_here", 8)]) (g := gName 8) (by rfl) nd (pi_seq (pv 2)) (blkOk_by (own := [("_law_word_here", 8)]) (N := ["_law_tape", "_law_many", "_law_rest", "_law_own", "_law_slots", "_law_found", "_law_places", "_law_k", "_law_word_here", "_law_at"]) (sc := defScope s_fairL) (by decide +kernel)) (fun _ _ _ _ _ => (pg_name (i := 8) nd rfl (Or.inl rfl))) (fun _ _ _ _ _ => pts_nil) (fun _ _ _ _ _ => (pe_op on_xor (pv 8) (pe_d D_sumL hr (pa_cons (pv 3) (pa_cons (pe_d D_wordL hr (pa_cons (pv 0) (pa_cons (pe_callB call_lenQ (by rfl) T.len PySem.boot_len (pa_cons (pv 3) pa_nil)) pa_nil))) pa_nil)))))) (pe_op op_rep (pe_lst (pa_cons pe_int pa_nil)) (pe_op on_sub (pv 1) (pe_callB call_lenQ (by rfl) T.len PySem.boot_len (pa_cons (pv 2) pa_nil))))))
  (pss_cons (ps_setLc (i := 6) (own := [("_law_at", 9)]) (g := gName 9) (by rfl) nd rfl rfl (sw_true rfl rfl rfl (by decide +kernel)) (pi_seq (pe_d D_orderL hr (pa_cons (pv 0) (pa_cons (pe_op on_sub (pv 1) (pe_callB call_lenQ (by rfl) T.len PySem.boot_len (pa_cons (pv 2) pa_nil))) pa_nil)))) (blkOk_by (own := [("_law_at", 9)]) (N := ["_law_tape", "_law_many", "_law_rest", "_law_own", "_law_slots", "_law_found", "_law_places", "_law_k", "_law_word_here", "_law_at"]) (sc := defScope s_fairL) (by decide +kernel)) (fun _ _ _ _ _ => (pg_name (i := 9) nd rfl (Or.inl rfl))) (fun _ _ _ _ _ => pts_nil) (fun _ _ _ _ _ => (pe_op on_add (pv 9) (pe_callB call_lenQ (by rfl) T.len PySem.boot_len (pa_cons (pv 2) pa_nil)))))
  (pss_cons (ps_for PassesOwn.never rfl (pi_range1 (by rfl) T.range (pa_cons (pe_callB call_lenQ (by rfl) T.len PySem.boot_len (pa_cons (pv 3) pa_nil)) pa_nil)) (pg_name (i := 7) nd rfl (Or.inl rfl))
    (pss_one (ps_asg (pe_ix ix_q (pv 3) (pv 7) (fun _ _ => rfl)) (pg_sub (pv 5) (pe_ix ix_q (pv 6) (pv 7) (fun _ _ => rfl)) set_list))))
  (pss_one (ps_ret (pe_lc (own := [("_law_word_here", 8)]) (g := gName 8) (by rfl) nd (pi_seq (pv 5)) (blkOk_by (own := [("_law_word_here", 8)]) (N := ["_law_tape", "_law_many", "_law_rest", "_law_own", "_law_slots", "_law_found", "_law_places", "_law_k", "_law_word_here", "_law_at"]) (sc := defScope s_fairL) (by decide +kernel)) (fun _ _ _ _ _ => (pg_name (i := 8) nd rfl (Or.inl rfl))) (fun _ _ _ _ _ => pts_nil) (fun _ _ _ _ _ => (pe_op on_xor (pv 8) (pe_d D_sumL hr (pa_cons (pv 4) (pa_cons (pe_d D_wordL hr (pa_cons (pv 0) (pa_cons (pe_callB call_lenQ (by rfl) T.len PySem.boot_len (pa_cons (pv 4) pa_nil)) pa_nil))) pa_nil))))))))))), ?_⟩
    have hN' : N + 10000 ≤ 1099511627776 := hN
    refine ⟨_, rfl, lc_seq (Sq.l har) (fun D i H1 => Tp H1 p lc (N + 2 * i) ∧ Kp H H1 ∧ ∃ G, H1 D = some (.lst (G.map vN)) ∧ Shf O (R.take i) G) (fun D hD => ⟨hp.put (hp.ne hD), kp_new (Kp.refl H) hD, [], upd_same, by rw [List.take_zero]; exact Shf.nil O⟩) (fun D i H1 hD hP => hP.2.1) (fun D i x H1 hD hx hP => ?_) (fun D H1 hD hP => ?_)⟩
    · obtain ⟨y, hy, rfl⟩ := map_get hx
      obtain ⟨hp1, kp1, G, h1, sG⟩ := hP
      have il := (List.getElem?_eq_some_iff.mp hy).1
      refine ⟨rfl, ?_⟩
      refine ⟨_, rfl, _, rfl, _, rfl, _, rfl, ao, _, rfl, .inl (kp1 _ _ hao rfl), p, lc, _, (O.map vN).length, rfl, hp1, (by rw [List.length_map]; omega), (by show N + 2 * i + 2 ≤ 1099511627776; omega), fun H2 x hx2 hp2 kp2 => ?_⟩
      rw [List.length_map] at hx2
      have kp12 := kp1.trans kp2
      have gl : G.length = i := by rw [sG.1, List.length_take]; omega
      refine ⟨ao, O, x, rfl, .inl (kp12 _ _ hao rfl), by omega, y, _, rfl, rfl, _, kp2 _ _ h1 rfl, (by rw [List.length_map, sizeLine_eq]; omega), (hp2.put (hp.ne hD)).mono (by omega), kp_put kp12 hD, G ++ [y ^^^ img O x], ?_, sG.snoc hy (shf_one hx2)⟩
      rw [upd_same, List.map_append]; rfl
    · obtain ⟨hp1, kp1, G, h1, sG⟩ := hP
      rw [List.length_map, List.take_length] at sG
      have gl : G.length = R.length := sG.1
      refine ⟨(by show 1 ≤ sizeLine; decide), fun z hz => ?_⟩
      have s2 := same_new0 (o := .lst [.int 0]) hz
      refine ⟨_, rfl, _, rfl, ar, _, rfl, .inl (s2 _ _ (kp1 _ _ har rfl)), m, (R.map vN).length, rfl, rfl, (by rw [List.length_map]; omega), ?_⟩
      rw [List.length_map]
      refine ⟨z, _, _, rfl, rfl, upd_same, (by omega), (by omega), (by rw [sizeLine_eq]; simp; omega), fun z2 hz2 => ?_⟩
      rw [Int.toNat_natCast, rep_zero]
      have er : ((List.replicate (m - R.length) (0 : Int)).map V.int) = (List.replicate (m - R.length) 0).map vN := by simp
      rw [er]
      have s3 := same_new (o := .lst ((List.replicate (m - R.length) 0).map vN)) s2 hz2
      refine ⟨D, z2, _, _, rfl, rfl, s3 _ _ h1, upd_same, (by rw [List.length_map, List.length_map, List.length_replicate, sizeLine_eq]; omega), fun z3 hz3 => ?_⟩
      rw [← List.map_append]
      have s4 := same_new (o := .lst ((G ++ List.replicate (m - R.length) 0).map vN)) s3 hz3
      have h4 : upd (upd (upd H1 z (.lst [.int 0])) z2 (.lst ((List.replicate (m - R.length) 0).map vN))) z3 (.lst ((G ++ List.replicate (m - R.length) 0).map vN)) z3 = some (.lst ((G ++ List.replicate (m - R.length) 0).map vN)) := upd_same
      have hz3' : H z3 = none := kp1.free _ (same_free s3 hz3)
      generalize upd (upd (upd H1 z (.lst [.int 0])) z2 (.lst ((List.replicate (m - R.length) 0).map vN))) z3 (.lst ((G ++ List.replicate (m - R.length) 0).map vN)) = H4 at *
      have kp4 := kp1.trans (Kp.of s4)
      have hp4 := hp1.same s4
      refine ⟨_, rfl, _, rfl, _, rfl, ar, _, rfl, .inl (kp4 _ _ har rfl), m, (R.map vN).length, rfl, rfl, (by rw [List.length_map]; omega), ?_⟩
      rw [List.length_map]
      refine ⟨p, lc, _, m - R.length, rfl, hp4, (by omega), (by rw [List.length_map]; show N + 2 * R.length + 1000 ≤ 1099511627776; omega), fun H5 qo o ho hqo h5 hp5 kp5 => ?_⟩
      have kp45 := kp4.trans kp5
      have ol : o.length = m - R.length := by rw [ho.length_eq, List.length_range]
      have olt : ∀ x ∈ o, x < m - R.length := fun x hx => List.mem_range.mp (ho.mem_iff.mp hx)
      refine lc_pure o vN (fun _ => true) (fun x => vN (x + R.length)) (.inl h5) (by omega) (fun x H' hx s => ?_) (fun D2 H6 hD2 s6 h6 => ?_)
      · intro Z Nx z1 z2
        refine ⟨rfl, _, rfl, _, rfl, ar, _, rfl, .inl (s _ _ (kp45 _ _ har rfl)), x, (R.map vN).length, rfl, rfl, ?_⟩
        rw [List.length_map]
        exact z1 rfl _ (Same.refl _)
      · rw [filt_true] at h6
        have kp6 := kp45.trans (Kp.of s6)
        have h46 : H6 z3 = some (.lst ((G ++ List.replicate (m - R.length) 0).map vN)) := s6 _ _ (kp5 _ _ h4 rfl)
        have nD2 : D2 ≠ z3 := (ne_of_none (kp5 _ _ h4 rfl) hD2).symm
        have np3 := hp.ne hz3'
        refine ⟨_, rfl, ao, _, rfl, .inl (kp6 _ _ hao rfl), _, rfl, (by rw [List.length_map]; omega), (by rw [List.length_map]; omega), for_range (n := (O.map vN).length) (fun i σ H7 => ∃ (v : Option V) (F : List Nat), σ = [some (.ref p), some (vN m), some (.ref ar), some (.ref ao), some (.ref as), some (.ref z3), some (.ref D2), v, none, none] ∧ Tp H7 p lc (N + 2 * R.length + 1000) ∧ Kp H H7 ∧ H7 D2 = some (.lst (o.map fun x => vN (x + R.length))) ∧ H7 z3 = some (.lst (F.map vN)) ∧ Plc G O o F R.length m i)
          ⟨none, G ++ List.replicate (m - R.length) 0, rfl, (hp5.same s6).mono (by rw [List.length_map]; omega), kp6, h6, h46, ?_⟩ ?_ ?_⟩
        · refine ⟨by rw [List.length_append, List.length_replicate]; omega, fun j hj => by rw [getD_append, if_pos (by omega)], fun i hi => absurd hi (Nat.not_lt_zero _), fun x hx => ?_⟩
          rcases List.mem_append.mp hx with hx | hx
          · exact .of (List.mem_append_right _ hx)
          · rw [(List.mem_replicate.mp hx).2]; exact .zero
        · rintro i σ H7 hi ⟨v, F, rfl, hp7, kp7, hD7, h7, pF⟩
          rw [List.length_map] at hi
          rw [show (0 : Int) + (i : Int) = (i : Int) by omega]
          have il : i < o.length := by omega
          have g1 : (O.map vN)[i]? = some (vN (O.getD i 0)) := by
            rw [List.getElem?_map, List.getElem?_eq_getElem hi, List.getD_eq_getElem?_getD, List.getElem?_eq_getElem hi]; rfl
          have g2 : (o.map fun x => vN (x + R.length))[i]? = some (vN (o.getD i 0 + R.length)) := by
            rw [List.getElem?_map, List.getElem?_eq_getElem il, List.getD_eq_getElem?_getD, List.getElem?_eq_getElem il]; rfl
          have o1 := olt _ (getD_mem (cols := o) (i := i) il)
          refine ⟨_, rfl, _, rfl, ao, _, i, _, rfl, rfl, .inl (kp7 _ _ hao rfl), g1, _, rfl, _, rfl, _, rfl, D2, _, i, _, rfl, rfl, .inl hD7, g2, z3, _, _, o.getD i 0 + R.length, rfl, rfl, h7, ix_ok (by rw [List.length_map, pF.len]; omega), ?_⟩
          refine ⟨_, F.set (o.getD i 0 + R.length) (O.getD i 0), rfl, hp7.put np3, kp_put kp7 hz3', (upd_ne nD2).trans hD7, ?_, pF.step ol (by omega) ho hi il⟩
          rw [upd_same, List.map_set]
        · rintro σ H7 ⟨v, F, rfl, hp7, kp7, hD7, h7, pF⟩
          rw [List.length_map] at pF
          have sF := pF.span gl hRO ol ho
          have fl := pF.len
          refine ⟨_, rfl, lc_seq (Sq.l h7) (fun D3 i H8 => Tp H8 p lc (N + 2 * R.length + 1000 + 2 * i) ∧ Kp H7 H8 ∧ ∃ G', H8 D3 = some (.lst (G'.map vN)) ∧ Shf S (F.take i) G') (fun D3 hD3 => ⟨hp7.put (hp7.ne hD3), kp_new (Kp.refl H7) hD3, [], upd_same, by rw [List.take_zero]; exact Shf.nil S⟩) (fun D3 i H8 hD3 hP => hP.2.1) (fun D3 i x H8 hD3 hx hP => ?_) (fun D3 H8 hD3 hP => ?_)⟩
          · obtain ⟨y, hy, rfl⟩ := map_get hx
            obtain ⟨hp8, kp8, G', h8, sG'⟩ := hP
            have il := (List.getElem?_eq_some_iff.mp hy).1
            have kp78 := kp7.trans kp8
            refine ⟨rfl, ?_⟩
            refine ⟨_, rfl, _, rfl, _, rfl, _, rfl, as, _, rfl, .inl (kp78 _ _ has rfl), p, lc, _, (S.map vN).length, rfl, hp8, (by rw [List.length_map]; omega), (by show N + 2 * R.length + 1000 + 2 * i + 2 ≤ 1099511627776; omega), fun H9 x hx2 hp9 kp9 => ?_⟩
            rw [List.length_map] at hx2
            have kp89 := kp8.trans kp9
            have gl' : G'.length = i := by rw [sG'.1, List.length_take]; omega
            refine ⟨as, S, x, rfl, .inl ((kp7.trans kp89) _ _ has rfl), by omega, y, _, rfl, rfl, _, kp9 _ _ h8 rfl, (by rw [List.length_map, sizeLine_eq]; omega), (hp9.put (hp7.ne hD3)).mono (by omega), kp_put kp89 hD3, G' ++ [y ^^^ img S x], ?_, sG'.snoc hy (shf_one hx2)⟩
            rw [upd_same, List.map_append]; rfl
          · obtain ⟨hp8, kp8, G', h8, sG'⟩ := hP
            rw [List.length_map, List.take_length] at sG'
            rw [List.length_map] at hp8
            refine k H8 D3 G' (by rw [sG'.1, fl]) (fun x => ?_) (kp7.free _ hD3) h8 (hp8.mono (by omega)) (kp7.trans kp8)
            rw [sG'.span, span_app2 (fun _ => Iff.rfl) fun z => (sF z).trans (sG.span z)]
end
end LaneX
set_option Elab.async false
set_option linter.all false
set_option maxRecDepth 100000
set_option maxHeartbeats 4000000
namespace LaneX
open PySem PySem.Spec PyProof.Rows L2
theorem cut_two (xs : List Nat) {i j : Nat} (h : i ≤ j) (hj : j ≤ xs.length) : cutV (xs.map vN) (some (i : Int)) (some (j : Int)) = ((xs.drop i).take (j - i)).map vN := by
  unfold cutV
  rw [HT.sIx_nat, HT.sIx_nat, List.length_map, Nat.min_eq_left hj, Nat.min_eq_left (Nat.le_trans h hj), List.map_take, List.map_drop]
theorem cut_drop (xs : List Nat) {k : Nat} (h : k ≤ xs.length) : cutV (xs.map vN) (some (k : Int)) none = (xs.drop k).map vN := by
  unfold cutV
  rw [HT.sIx_nat, HT.sIx_none, List.length_map, Nat.min_eq_left h, List.map_drop]
  exact List.take_of_length_le (by rw [List.length_drop, List.length_map]; omega)
theorem cut_take (xs : List Nat) {k : Nat} (h : k ≤ xs.length) : cutV (xs.map vN) none (some (k : Int)) = (xs.take k).map vN := by
  unfold cutV
  rw [HT.sIx_nat, HT.sIx_none, List.length_map, Nat.min_eq_left h, List.map_take]
  rfl
/-- a spread of sums of all words is onto -/
theorem onto_of {b : Nat} {M F C S G B : List Nat} (hM : Mix b M) (hm : ∀ x, x ∈ S ++ B ↔ x ∈ M) (hF : ∀ x, Spn F x ↔ Spn S x) (hG : ∀ x, Spn (S ++ G) x ↔ Spn (S ++ B) x) (hC : ∀ x, Spn C x ↔ Spn G x) :
    (∀ x ∈ F, x < 2 ^ b) ∧ (∀ x ∈ C, x < 2 ^ b) ∧ b ≤ rk (F ++ C) := by
  have e : ∀ x, Spn (F ++ C) x ↔ Spn M x := fun x => by
    rw [span_app2 hF hC, hG]
    exact ⟨fun h => h.sub fun z hz => (hm z).mp hz, fun h => h.sub fun z hz => (hm z).mpr hz⟩
  refine ⟨fun x hx => ((e x).mp (.of (List.mem_append_left _ hx))).lt hM.lt, fun x hx => ((e x).mp (.of (List.mem_append_right _ hx))).lt hM.lt, ?_⟩
  rw [rk_eq e, hM.rk]
  exact Nat.le_refl _
/-- what is told of a pair of spreads -/
structure Two (mo la b : Nat) (ss ls os ps : List Nat) : Prop where
  bb : b ≤ 4 * mo
  s1 : ss.length ≤ 2 * mo + 2
  s2 : os.length ≤ 2 * mo + 2
  l1 : ls.length ≤ la
  l2 : ls.length = ps.length
  a1 : ∀ x ∈ ss, x < 2 ^ b
  a2 : ∀ x ∈ ls, x < 2 ^ b
  a3 : ∀ x ∈ os, x < 2 ^ b
  a4 : ∀ x ∈ ps, x < 2 ^ b
  r1 : b ≤ rk (ss ++ ls)
  r2 : b ≤ rk (os ++ ps)
def sp_two : Sp := fun vs H Q _ => ∃ (p lc : Addr) (N mo la : Nat), vs = [.ref p, vN mo, vN la] ∧ Tp H p lc N ∧ mo ≤ 100 ∧ la ≤ 100 ∧ N + 200000 ≤ TOP ∧
  ∀ (H' : Hp) (q a1 c1 a2 c2 : Addr) (b : Nat) (ss ls os ps : List Nat), Two mo la b ss ls os ps → H' q = some (.lst [vN b, .ref a1, .ref c1, .ref a2, .ref c2]) → H' a1 = some (.lst (ss.map vN)) → H' c1 = some (.lst (ls.map vN)) → H' a2 = some (.lst (os.map vN)) → H' c2 = some (.lst (ps.map vN)) → Tp H' p lc (N + 200000) → Kp H H' → Q (.ref q) H'
theorem small_big {n : Nat} (h : n ≤ 8000) : n < 2 ^ 8999 := Nat.lt_of_lt_of_le Nat.lt_two_pow_self (Nat.pow_le_pow_right (by decide) (by omega))
/-- the four blocks -/
theorem blocks {M : List Nat} {sh o1 o2 re b : Nat} (hl : M.length = b) (hb : b = sh + o1 + o2 + re) :
    M = M.take sh ++ ((M.drop sh).take o1 ++ ((M.drop (sh + o1)).take o2 ++ M.drop (b - re))) ∧ (M.take sh).length = sh ∧ ((M.drop sh).take o1).length = o1 ∧ ((M.drop (sh + o1)).take o2).length = o2 ∧ (M.drop (b - re)).length = re := by
  refine ⟨?_, by rw [List.length_take]; omega, by rw [List.length_take, List.length_drop]; omega, by rw [List.length_take, List.length_drop]; omega, by rw [List.length_drop]; omega⟩
  have e1 : M.drop (b - re) = (M.drop (sh + o1)).drop o2 := by rw [List.drop_drop]; congr 1; omega
  have e2 : M.drop (sh + o1) = (M.drop sh).drop o1 := by rw [List.drop_drop]
  rw [e1, List.take_append_drop, e2, List.take_append_drop, List.take_append_drop]
section
variable {P : Program} {w : World} {K : PySem.W.Frag} {mg : Str → Option Value} {base : Heap} {f : Addr} {fd : FuncData} (T : Bt mg)
include T
theorem two_tail {cdv : Value} {A : Around} {outer : List Env} {s : Shared} {H0 : Hp} {Q : VK} {E : XK} (D_blendL : Dn P w K mg base 4 "_law_blend" ["_law_tape", "_law_words", "_law_extra"] sp_blend) (D_pickL : Dn P w K mg base 2 "_law_pick" ["_law_tape", "_law_some"] sp_pick) (D_sumL : Dn P w K mg base 1 "_law_sum" ["_law_words", "_law_number_here"] sp_sum)
    (hr : Room 4 (A.deeper (envOfC "_law_two" (defScope s_twoL) s.heap.objs.size f cdv))) :
    ∃ t, PSs (cxOf CX0 P w K mg base ["_law_tape", "_law_most", "_law_lanes", "_law_shared", "_law_one", "_law_other", "_law_rest", "_law_many", "_law_bits", "_law_units", "_law_blocks", "_law_slots", "_law_lists", "_law_mixture_here", "_law_stays", "_law_mixtures", "_law_found", "_law_k", "_law_number_here"] "_law_two" (defScope s_twoL) f cdv A outer s H0 E).nox ((defBody s_twoL).drop 11) t ∧
      ∀ (H : Hp) (p lc qs y0 y1 ql g1 g2 qx qm qm2 : Addr) (N b ma : Nat) (S1 S2 G1 G2 M1 M2 : List Nat) (v1 v2 v3 v4 v5 v6 v7 v9 v10 v13 v14 v17 : Option V), N + 200000 ≤ TOP → Tp H p lc (N + 60000) → H qx = some (.lst [.ref qm, .ref qm2]) → H qs = some (.lst [.ref y0, .ref y1]) → H y0 = some (.lst (S1.map vN)) → H y1 = some (.lst (S2.map vN)) → H ql = some (.lst [.ref g1, .ref g2]) → H g1 = some (.lst (G1.map vN)) → H g2 = some (.lst (G2.map vN)) → H qm = some (.lst (M1.map vN)) → H qm2 = some (.lst (M2.map vN)) →
        S1.length ≤ 1000 → S2.length ≤ 1000 → ma ≤ 1000 → G1.length = ma → G2.length = ma → Mix ma M1 → Mix ma M2 →
        (∀ (H' : Hp) (q a1 c1 a2 c2 : Addr) (F1 C1 F2 C2 : List Nat), F1.length ≤ S1.length + 2 → F2.length ≤ S2.length + 2 → C1.length = ma → C2.length = ma → (∀ x, Spn F1 x ↔ Spn S1 x) → (∀ x, Spn F2 x ↔ Spn S2 x) → (∀ x, Spn C1 x ↔ Spn G1 x) → (∀ x, Spn C2 x ↔ Spn G2 x) →
          H' q = some (.lst [vN b, .ref a1, .ref c1, .ref a2, .ref c2]) → H' a1 = some (.lst (F1.map vN)) → H' c1 = some (.lst (C1.map vN)) → H' a2 = some (.lst (F2.map vN)) → H' c2 = some (.lst (C2.map vN)) → Tp H' p lc (N + 200000) → Kp H H' → Q (.ref q) H') →
        t { nx := fun _ H' => Q .non H', rt := Q } [some (.ref p), v1, v2, v3, v4, v5, v6, v7, some (vN b), v9, v10, some (.ref qs), some (.ref ql), v13, v14, some (.ref qx), none, v17, none] H := by
  have nd := sc_twoL.nd
  refine ⟨_, ((pss_cons (ps_set (i := 16) nd rfl (Or.inl rfl) (pe_lst (pa_cons (pv 8) pa_nil)))
  (pss_cons (ps_for PassesOwn.never rfl (pi_range1 (by rfl) T.range (pa_cons pe_int pa_nil)) (pg_name (i := 17) nd rfl (Or.inr rfl))
    (pss_cons (ps_expr (pe_bm PySem.F.plainAttrs_list PySem.F.slot_list_append PySem.F.type_list_append mt_append (pv 16) (pa_cons (pe_d D_blendL hr (pa_cons (pv 0) (pa_cons (pe_ix ix_q (pv 11) (pv 17) (fun _ _ => rfl)) (pa_cons (pe_d D_pickL hr (pa_cons (pv 0) (pa_cons (pe_lst (pa_cons pe_int (pa_cons pe_int (pa_cons pe_int (pa_cons pe_int pa_nil))))) pa_nil))) pa_nil)))) pa_nil)))
    (pss_one (ps_expr (pe_bm PySem.F.plainAttrs_list PySem.F.slot_list_append PySem.F.type_list_append mt_append (pv 16) (pa_cons (pe_lc (own := [("_law_number_here", 18)]) (g := gName 18) (by rfl) nd (pi_seq (pe_ix ix_q (pv 15) (pv 17) (fun _ _ => rfl))) (blkOk_by (own := [("_law_number_here", 18)]) (N := ["_law_tape", "_law_most", "_law_lanes", "_law_shared", "_law_one", "_law_other", "_law_rest", "_law_many", "_law_bits", "_law_units", "_law_blocks", "_law_slots", "_law_lists", "_law_mixture_here", "_law_stays", "_law_mixtures", "_law_found", "_law_k", "_law_number_here"]) (sc := defScope s_twoL) (by decide +kernel)) (fun _ _ _ _ _ => (pg_name (i := 18) nd rfl (Or.inl rfl))) (fun _ _ _ _ _ => pts_nil) (fun _ _ _ _ _ => (pe_d D_sumL hr (pa_cons (pe_ix ix_q (pv 12) (pv 17) (fun _ _ => rfl)) (pa_cons (pv 18) pa_nil))))) pa_nil))))))
  (pss_one (ps_ret (pv 16)))))), ?_⟩
  intro H p lc qs y0 y1 ql g1 g2 qx qm qm2 N b ma S1 S2 G1 G2 M1 M2 v1 v2 v3 v4 v5 v6 v7 v9 v10 v13 v14 v17 hN hp hqx hqs hy0 hy1 hql hg1 hg2 hqm hqm2 l1 l2 lm lG1 lG2 mM1 mM2 k
  have hN' : N + 200000 ≤ 1099511627776 := hN
  refine ⟨_, rfl, (by show 1 ≤ sizeLine; decide), fun q hq => ?_⟩
  have s1 := same_new0 (o := .lst [vN b]) hq
  have np := hp.ne hq
  have lM1 := mM1.len
  have lM2 := mM2.len
  refine ⟨2, rfl, (by decide), (by decide), for_range (n := 2) (fun i σ H2 => ∃ (v : Option V) (L : List V), σ = [some (.ref p), v1, v2, v3, v4, v5, v6, v7, some (vN b), v9, v10, some (.ref qs), some (.ref ql), v13, v14, some (.ref qx), some (.ref q), v, none] ∧ Tp H2 p lc (N + 60000 + i * 30000) ∧ Kp H H2 ∧ H2 q = some (.lst L) ∧
    ((i = 0 ∧ L = [vN b]) ∨ (i = 1 ∧ ∃ a1 c1 F1 C1, L = [vN b, .ref a1, .ref c1] ∧ H2 a1 = some (.lst (F1.map vN)) ∧ H2 c1 = some (.lst (C1.map vN)) ∧ F1.length ≤ S1.length + 2 ∧ C1.length = ma ∧ (∀ x, Spn F1 x ↔ Spn S1 x) ∧ (∀ x, Spn C1 x ↔ Spn G1 x)) ∨
      (i = 2 ∧ ∃ a1 c1 F1 C1 a2 c2 F2 C2, L = [vN b, .ref a1, .ref c1, .ref a2, .ref c2] ∧ H2 a1 = some (.lst (F1.map vN)) ∧ H2 c1 = some (.lst (C1.map vN)) ∧ F1.length ≤ S1.length + 2 ∧ C1.length = ma ∧ (∀ x, Spn F1 x ↔ Spn S1 x) ∧ (∀ x, Spn C1 x ↔ Spn G1 x) ∧ H2 a2 = some (.lst (F2.map vN)) ∧ H2 c2 = some (.lst (C2.map vN)) ∧ F2.length ≤ S2.length + 2 ∧ C2.length = ma ∧ (∀ x, Spn F2 x ↔ Spn S2 x) ∧ (∀ x, Spn C2 x ↔ Spn G2 x))))
    ⟨v17, [vN b], rfl, (hp.same s1).mono (by omega), Kp.of s1, upd_same, .inl ⟨rfl, rfl⟩⟩ ?_ ?_⟩
  · rintro i σ H2 hi ⟨v, L, rfl, hp2, kp2, h2, hL⟩
    rw [show (0 : Int) + (i : Int) = (i : Int) by omega]
    -- the slots, the list, the mixture of this turn
    obtain ⟨yi, Si, gi, Gi, qi, Mi, e1, e2, e3, e4, e5, e6, e7, e8, e9, e10, lL⟩ : ∃ (yi : Addr) (Si : List Nat) (gi : Addr) (Gi : List Nat) (qi : Addr) (Mi : List Nat), ([.ref y0, .ref y1] : List V)[i]? = some (.ref yi) ∧ H yi = some (.lst (Si.map vN)) ∧ Si.length ≤ 1000 ∧ ([.ref g1, .ref g2] : List V)[i]? = some (.ref gi) ∧ H gi = some (.lst (Gi.map vN)) ∧ Gi.length = ma ∧ ([.ref qm, .ref qm2] : List V)[i]? = some (.ref qi) ∧ H qi = some (.lst (Mi.map vN)) ∧ Mix ma Mi ∧ ((i = 0 ∧ Si = S1 ∧ Gi = G1) ∨ (i = 1 ∧ Si = S2 ∧ Gi = G2)) ∧ L.length ≤ 3 := by
      rcases hL with ⟨rfl, rfl⟩ | ⟨rfl, a1, c1, F1, C1, rfl, _⟩ | ⟨rfl, _⟩
      · exact ⟨y0, S1, g1, G1, qm, M1, rfl, hy0, l1, rfl, hg1, lG1, rfl, hqm, mM1, .inl ⟨rfl, rfl, rfl⟩, (by show 1 ≤ 3; decide)⟩
      · exact ⟨y1, S2, g2, G2, qm2, M2, rfl, hy1, l2, rfl, hg2, lG2, rfl, hqm2, mM2, .inr ⟨rfl, rfl, rfl⟩, (by show 3 ≤ 3; decide)⟩
      · exact absurd hi (Nat.lt_irrefl _)
    refine ⟨_, rfl, .inl ⟨rfl, _, SqL.of h2⟩, _, rfl, _, rfl, _, rfl, qs, _, i, _, rfl, rfl, .inl (kp2 _ _ hqs rfl), e1, _, rfl, (by show 4 ≤ sizeLine; decide), fun x0 hx0 => ?_⟩
    have s3 := same_new0 (o := .lst [.int 0, .int 0, .int 1, .int 2]) hx0
    refine ⟨p, lc, x0, _, [.int 0, .int 0, .int 1, .int 2], rfl, hp2.same s3, .inl upd_same, (by decide), (by decide), (by show N + 60000 + i * 30000 + 1 ≤ 1099511627776; omega), fun H4 vx hvx hp4 kp4 => ?_⟩
    obtain ⟨ex, hex, rfl⟩ : ∃ ex : Nat, ex ≤ 2 ∧ vx = vN ex := by
      simp only [List.mem_cons, List.not_mem_nil, or_false] at hvx
      rcases hvx with rfl | rfl | rfl | rfl
      · exact ⟨0, by decide, rfl⟩
      · exact ⟨0, by decide, rfl⟩
      · exact ⟨1, by decide, rfl⟩
      · exact ⟨2, by decide, rfl⟩
    have kp24 := (Kp.of s3).trans kp4
    have kp04 := kp2.trans kp24
    refine ⟨p, lc, yi, _, ex, Si, rfl, hp4, .inl (kp04 _ _ e2 rfl), e3, (by omega), (by show N + 60000 + i * 30000 + 1 + 20000 ≤ 1099511627776; omega), fun H5 a F lF sF ha h5 hp5 kp5 => ?_⟩
    have kp25 := kp24.trans kp5
    have kp05 := kp2.trans kp25
    refine ⟨q, _, _, rfl, rfl, kp25 _ _ h2 rfl, (by rw [sizeLine_eq]; omega), ?_⟩
    have naq : a ≠ q := (ne_of_none (kp24 _ _ h2 rfl) ha).symm
    have h6 : upd H5 q (.lst (L ++ [.ref a])) q = some (.lst (L ++ [.ref a])) := upd_same
    have kp6 : Kp H (upd H5 q (.lst (L ++ [.ref a]))) := kp_put kp05 hq
    have hp6 : Tp (upd H5 q (.lst (L ++ [.ref a]))) p lc (N + 60000 + i * 30000 + 1 + 20000) := hp5.put np
    have ha6 : upd H5 q (.lst (L ++ [.ref a])) a = some (.lst (F.map vN)) := (upd_ne naq).trans h5
    have kpQ : ∀ b u, H2 b = some (.lst u) → b ≠ q → upd H5 q (.lst (L ++ [.ref a])) b = some (.lst u) := fun b u hb hne => (upd_ne hne).trans (kp25 _ _ hb rfl)
    generalize upd H5 q (.lst (L ++ [.ref a])) = H6 at *
    refine ⟨_, rfl, .inl ⟨rfl, _, SqL.of h6⟩, _, rfl, _, rfl, qx, _, i, _, rfl, rfl, .inl (kp6 _ _ hqx rfl), e7, ?_⟩
    have lMi := e9.len
    refine lc_pure Mi vN (fun _ => true) (fun x => vN (img Gi x)) (.inl (kp6 _ _ e8 rfl)) (by omega) (fun x H' hx s => ?_) (fun Dc H7 hDc s7 h7 => ?_)
    · intro Z Nx z1 z2
      exact ⟨rfl, _, rfl, _, rfl, ql, _, i, _, rfl, rfl, .inl (s _ _ (kp6 _ _ hql rfl)), e4, _, rfl, gi, Gi, x, rfl, .inl (s _ _ (kp6 _ _ e5 rfl)), by omega, z1 rfl _ (Same.refl _)⟩
    · rw [filt_true] at h7
      have h7' : H7 Dc = some (.lst ((Mi.map (img Gi)).map vN)) := by rw [h7, List.map_map]; rfl
      have lC : (Mi.map (img Gi)).length = ma := by rw [List.length_map, lMi]
      have sC : ∀ x, Spn (Mi.map (img Gi)) x ↔ Spn Gi x := fun x => e9.span e6 x
      generalize Mi.map (img Gi) = C at *
      refine ⟨q, _, _, rfl, rfl, s7 _ _ h6, (by rw [List.length_append, sizeLine_eq]; simp; omega), ?_⟩
      have nDq : Dc ≠ q := (ne_of_none h6 hDc).symm
      have fin7 : upd H7 q (.lst (L ++ [.ref a] ++ [.ref Dc])) q = some (.lst (L ++ [.ref a] ++ [.ref Dc])) := upd_same
      have hC7 : upd H7 q (.lst (L ++ [.ref a] ++ [.ref Dc])) Dc = some (.lst (C.map vN)) := (upd_ne nDq).trans h7'
      have hF7 : upd H7 q (.lst (L ++ [.ref a] ++ [.ref Dc])) a = some (.lst (F.map vN)) := (upd_ne naq).trans (s7 _ _ ha6)
      have kpR : ∀ b u, H2 b = some (.lst u) → b ≠ q → upd H7 q (.lst (L ++ [.ref a] ++ [.ref Dc])) b = some (.lst u) := fun b u hb hne => (upd_ne hne).trans (s7 _ _ (kpQ b u hb hne))
      refine ⟨_, _, rfl, (((hp6.same s7).put np).mono (by omega)), kp_put (kp6.trans (Kp.of s7)) hq, fin7, ?_⟩
      have lF' : F.length ≤ Si.length + 2 := by omega
      rcases hL with ⟨rfl, rfl⟩ | ⟨rfl, a1, c1, F1, C1, rfl, w1, w2, w3, w4, w5, w6⟩ | ⟨rfl, _⟩
      · rcases e10 with ⟨_, rfl, rfl⟩ | ⟨z, _⟩
        · exact .inr (.inl ⟨rfl, a, Dc, F, C, rfl, hF7, hC7, lF', lC, sF, sC⟩)
        · cases z
      · rcases e10 with ⟨z, _⟩ | ⟨_, rfl, rfl⟩
        · cases z
        · have n1 : a1 ≠ q := fun z => by rw [z, h2] at w1; have := Option.some.inj w1; injection this with y; cases F1 with
            | nil => cases y
            | cons x r => cases r with
              | nil => cases y
              | cons x2 r2 => simp at y
          have n2 : c1 ≠ q := fun z => by rw [z, h2] at w2; have := Option.some.inj w2; injection this with y; cases C1 with
            | nil => cases y
            | cons x r => cases r with
              | nil => cases y
              | cons x2 r2 => simp at y
          exact .inr (.inr ⟨rfl, a1, c1, F1, C1, a, Dc, F, C, rfl, kpR _ _ w1 n1, kpR _ _ w2 n2, w3, w4, w5, w6, hF7, hC7, lF', lC, sF, sC⟩)
      · exact absurd hi (Nat.lt_irrefl _)
  · rintro σ H2 ⟨v, L, rfl, hp2, kp2, h2, hL⟩
    rcases hL with ⟨z, _⟩ | ⟨z, _⟩ | ⟨_, a1, c1, F1, C1, a2, c2, F2, C2, rfl, w1, w2, w3, w4, w5, w6, w7, w8, w9, w10, w11, w12⟩
    · cases z
    · cases z
    · exact ⟨_, rfl, k _ _ a1 c1 a2 c2 F1 C1 F2 C2 w3 w9 w4 w10 w5 w11 w6 w12 h2 w1 w2 w7 w8 (hp2.mono (by omega)) kp2⟩
theorem two_mix {cdv : Value} {A : Around} {outer : List Env} {s : Shared} {H0 : Hp} {Q : VK} {E : XK} (D_drawL : Dn P w K mg base 1 "_law_draw" ["_law_tape", "_law_limit"] sp_draw) (D_mixtureL : Dn P w K mg base 3 "_law_mixture" ["_law_tape", "_law_bits"] sp_mixture) (D_blendL : Dn P w K mg base 4 "_law_blend" ["_law_tape", "_law_words", "_law_extra"] sp_blend) (D_pickL : Dn P w K mg base 2 "_law_pick" ["_law_tape", "_law_some"] sp_pick) (D_sumL : Dn P w K mg base 1 "_law_sum" ["_law_words", "_law_number_here"] sp_sum) (hr : Room 4 (A.deeper (envOfC "_law_two" (defScope s_twoL) s.heap.objs.size f cdv))) :
    ∃ t, PSs (cxOf CX0 P w K mg base ["_law_tape", "_law_most", "_law_lanes", "_law_shared", "_law_one", "_law_other", "_law_rest", "_law_many", "_law_bits", "_law_units", "_law_blocks", "_law_slots", "_law_lists", "_law_mixture_here", "_law_stays", "_law_mixtures", "_law_found", "_law_k", "_law_number_here"] "_law_two" (defScope s_twoL) f cdv A outer s H0 E).nox ((defBody s_twoL).drop 9) t ∧
      ∀ (H : Hp) (p lc qs y0 y1 ql g1 g2 : Addr) (N b ma : Nat) (S1 S2 G1 G2 : List Nat) (v1 v2 v3 v4 v5 v6 v9 v10 v17 : Option V), N + 200000 ≤ TOP → Tp H p lc (N + 31000) → H qs = some (.lst [.ref y0, .ref y1]) → H y0 = some (.lst (S1.map vN)) → H y1 = some (.lst (S2.map vN)) → H ql = some (.lst [.ref g1, .ref g2]) → H g1 = some (.lst (G1.map vN)) → H g2 = some (.lst (G2.map vN)) →
        S1.length ≤ 1000 → S2.length ≤ 1000 → ma ≤ 1000 → G1.length = ma → G2.length = ma →
        (∀ (H' : Hp) (q a1 c1 a2 c2 : Addr) (F1 C1 F2 C2 : List Nat), F1.length ≤ S1.length + 2 → F2.length ≤ S2.length + 2 → C1.length = ma → C2.length = ma → (∀ x, Spn F1 x ↔ Spn S1 x) → (∀ x, Spn F2 x ↔ Spn S2 x) → (∀ x, Spn C1 x ↔ Spn G1 x) → (∀ x, Spn C2 x ↔ Spn G2 x) →
          H' q = some (.lst [vN b, .ref a1, .ref c1, .ref a2, .ref c2]) → H' a1 = some (.lst (F1.map vN)) → H' c1 = some (.lst (C1.map vN)) → H' a2 = some (.lst (F2.map vN)) → H' c2 = some (.lst (C2.map vN)) → Tp H' p lc (N + 200000) → Kp H H' → Q (.ref q) H') →
        t { nx := fun _ H' => Q .non H', rt := Q } [some (.ref p), v1, v2, v3, v4, v5, v6, some (vN ma), some (vN b), v9, v10, some (.ref qs), some (.ref ql), none, none, none, none, v17, none] H := by
  have nd := sc_twoL.nd
  obtain ⟨tt, hP, hT⟩ := two_tail (H0 := H0) (Q := Q) (E := E) T D_blendL D_pickL D_sumL hr
  refine ⟨_, ((pss_cons (ps_par (i := 13) (j := 14) (by rfl) nd rfl rfl (by decide) rfl rfl (pa_cons (pe_d D_mixtureL hr (pa_cons (pv 0) (pa_cons (pv 7) pa_nil))) (pa_cons (pe_d D_drawL hr (pa_cons (pv 0) (pa_cons pe_int pa_nil))) pa_nil)) (by rfl))
  (pss_cons (ps_set (i := 15) nd rfl (Or.inl rfl) (pe_lst (pa_cons (pv 13) (pa_cons (pe_ifExp (pt_cmpR op_gt (pv 14) pe_int (nomark _)) (pv 13) (pe_d D_mixtureL hr (pa_cons (pv 0) (pa_cons (pv 7) pa_nil)))) pa_nil))))
  hP))), ?_⟩
  intro H p lc qs y0 y1 ql g1 g2 N b ma S1 S2 G1 G2 v1 v2 v3 v4 v5 v6 v9 v10 v17 hN hp hqs hy0 hy1 hql hg1 hg2 l1 l2 lm lG1 lG2 k
  have hN' : N + 200000 ≤ 1099511627776 := hN
  refine ⟨_, rfl, _, rfl, p, lc, _, ma, rfl, hp, (by omega), (by show N + 31000 + 10000 ≤ 1099511627776; omega), fun H9 qm M1 mM1 hqm h9 hp9 kp9 => ?_⟩
  refine ⟨_, rfl, p, lc, _, 3, rfl, hp9, (by decide), (by decide), (by show N + 31000 + 10000 + 1 ≤ 1099511627776; omega), fun H10 sy hsy hp10 kp10 => ⟨_, _, rfl, ?_⟩⟩
  have kp810 := kp9.trans kp10
  have h10 := kp10 _ _ h9 rfl
  refine ⟨_, rfl, _, rfl, _, _, rfl, rfl, _, rfl, br (fun e => ?_) (fun e => ?_)⟩
  · refine ⟨_, rfl, (by show 2 ≤ sizeLine; decide), fun qx hqx => ?_⟩
    have sx := same_new0 (o := .lst [.ref qm, .ref qm]) hqx
    exact hT _ p lc qs y0 y1 ql g1 g2 qx qm qm N b ma S1 S2 G1 G2 M1 M1 _ _ _ _ _ _ _ _ _ _ _ _ hN ((hp10.same sx).mono (by omega)) upd_same (sx _ _ (kp810 _ _ hqs rfl)) (sx _ _ (kp810 _ _ hy0 rfl)) (sx _ _ (kp810 _ _ hy1 rfl)) (sx _ _ (kp810 _ _ hql rfl)) (sx _ _ (kp810 _ _ hg1 rfl)) (sx _ _ (kp810 _ _ hg2 rfl)) (sx _ _ h10) (sx _ _ h10) l1 l2 lm lG1 lG2 mM1 mM1 fun H' q a1 c1 a2 c2 F1 C1 F2 C2 z1 z2 z3 z4 z5 z6 z7 z8 y1 y2 y3 y4 y5 y6 y7 => k H' q a1 c1 a2 c2 F1 C1 F2 C2 z1 z2 z3 z4 z5 z6 z7 z8 y1 y2 y3 y4 y5 y6 ((kp810.trans (Kp.of sx)).trans y7)
  · refine ⟨_, rfl, _, rfl, p, lc, _, ma, rfl, hp10, (by omega), (by show N + 31000 + 10000 + 1 + 10000 ≤ 1099511627776; omega), fun H11 qm2 M2 mM2 hqm2 h11 hp11 kp11 => ?_⟩
    refine ⟨(by show 2 ≤ sizeLine; decide), fun qx hqx => ?_⟩
    have sx := same_new0 (o := .lst [.ref qm, .ref qm2]) hqx
    have kp811 := kp810.trans kp11
    exact hT _ p lc qs y0 y1 ql g1 g2 qx qm qm2 N b ma S1 S2 G1 G2 M1 M2 _ _ _ _ _ _ _ _ _ _ _ _ hN ((hp11.same sx).mono (by omega)) upd_same (sx _ _ (kp811 _ _ hqs rfl)) (sx _ _ (kp811 _ _ hy0 rfl)) (sx _ _ (kp811 _ _ hy1 rfl)) (sx _ _ (kp811 _ _ hql rfl)) (sx _ _ (kp811 _ _ hg1 rfl)) (sx _ _ (kp811 _ _ hg2 rfl)) (sx _ _ (kp11 _ _ h10 rfl)) (sx _ _ h11) l1 l2 lm lG1 lG2 mM1 mM2 fun H' q a1 c1 a2 c2 F1 C1 F2 C2 z1 z2 z3 z4 z5 z6 z7 z8 y1 y2 y3 y4 y5 y6 y7 => k H' q a1 c1 a2 c2 F1 C1 F2 C2 z1 z2 z3 z4 z5 z6 z7 z8 y1 y2 y3 y4 y5 y6 ((kp811.trans (Kp.of sx)).trans y7)
theorem two_lists {cdv : Value} {A : Around} {outer : List Env} {s : Shared} {H0 : Hp} {Q : VK} {E : XK} (D_drawL : Dn P w K mg base 1 "_law_draw" ["_law_tape", "_law_limit"] sp_draw) (D_mixtureL : Dn P w K mg base 3 "_law_mixture" ["_law_tape", "_law_bits"] sp_mixture) (D_fairL : Dn P w K mg base 3 "_law_fair" ["_law_tape", "_law_many", "_law_rest", "_law_own", "_law_slots"] sp_fair) (D_blendL : Dn P w K mg base 4 "_law_blend" ["_law_tape", "_law_words", "_law_extra"] sp_blend) (D_pickL : Dn P w K mg base 2 "_law_pick" ["_law_tape", "_law_some"] sp_pick) (D_sumL : Dn P w K mg base 1 "_law_sum" ["_law_words", "_law_number_here"] sp_sum) (hr : Room 4 (A.deeper (envOfC "_law_two" (defScope s_twoL) s.heap.objs.size f cdv))) :
    ∃ t, PSs (cxOf CX0 P w K mg base ["_law_tape", "_law_most", "_law_lanes", "_law_shared", "_law_one", "_law_other", "_law_rest", "_law_many", "_law_bits", "_law_units", "_law_blocks", "_law_slots", "_law_lists", "_law_mixture_here", "_law_stays", "_law_mixtures", "_law_found", "_law_k", "_law_number_here"] "_law_two" (defScope s_twoL) f cdv A outer s H0 E).nox ((defBody s_twoL).drop 6) t ∧
      ∀ (H : Hp) (p lc qM : Addr) (N b ma sh on ot re : Nat) (M : List Nat) (v1 v2 v17 : Option V), N + 200000 ≤ TOP → Tp H p lc (N + 10100) → H qM = some (.lst (M.map vN)) → Mix b M → b = sh + on + ot + re → b ≤ 800 → ma ≤ 800 → re + on ≤ ma → re + ot ≤ ma →
        (∀ (H' : Hp) (q a1 c1 a2 c2 : Addr) (F1 C1 F2 C2 : List Nat), F1.length ≤ sh + on + 2 → F2.length ≤ sh + ot + 2 → C1.length = ma → C2.length = ma → (∀ x ∈ F1, x < 2 ^ b) → (∀ x ∈ C1, x < 2 ^ b) → (∀ x ∈ F2, x < 2 ^ b) → (∀ x ∈ C2, x < 2 ^ b) → b ≤ rk (F1 ++ C1) → b ≤ rk (F2 ++ C2) →
          H' q = some (.lst [vN b, .ref a1, .ref c1, .ref a2, .ref c2]) → H' a1 = some (.lst (F1.map vN)) → H' c1 = some (.lst (C1.map vN)) → H' a2 = some (.lst (F2.map vN)) → H' c2 = some (.lst (C2.map vN)) → Tp H' p lc (N + 200000) → Kp H H' → Q (.ref q) H') →
        t { nx := fun _ H' => Q .non H', rt := Q } [some (.ref p), v1, v2, some (vN sh), some (vN on), some (vN ot), some (vN re), some (vN ma), some (vN b), some (.ref qM), none, none, none, none, none, none, none, v17, none] H := by
  have nd := sc_twoL.nd
  obtain ⟨tt, hP, hT⟩ := two_mix (H0 := H0) (Q := Q) (E := E) T D_drawL D_mixtureL D_blendL D_pickL D_sumL hr
  refine ⟨_, ((pss_cons (ps_set (i := 10) nd rfl (Or.inl rfl) (pe_lst (pa_cons (pe_slice sl_list (pv 9) po_none (po_some (pv 3))) (pa_cons (pe_slice sl_list (pv 9) (po_some (pv 3)) (po_some (pe_op on_add (pv 3) (pv 4)))) (pa_cons (pe_slice sl_list (pv 9) (po_some (pe_op on_add (pv 3) (pv 4))) (po_some (pe_op on_sub (pv 8) (pv 6)))) (pa_cons (pe_slice sl_list (pv 9) (po_some (pe_op on_sub (pv 8) (pv 6))) po_none) pa_nil))))))
  (pss_cons (ps_set (i := 11) nd rfl (Or.inl rfl) (pe_lst (pa_cons (pe_op op_cat (pe_ix ix_q (pv 10) pe_int (fun _ _ => rfl)) (pe_ix ix_q (pv 10) pe_int (fun _ _ => rfl))) (pa_cons (pe_op op_cat (pe_ix ix_q (pv 10) pe_int (fun _ _ => rfl)) (pe_ix ix_q (pv 10) pe_int (fun _ _ => rfl))) pa_nil))))
  (pss_cons (ps_set (i := 12) nd rfl (Or.inr rfl) (pe_lst (pa_cons (pe_d D_fairL hr (pa_cons (pv 0) (pa_cons (pv 7) (pa_cons (pe_ix ix_q (pv 10) pe_int (fun _ _ => rfl)) (pa_cons (pe_ix ix_q (pv 10) pe_int (fun _ _ => rfl)) (pa_cons (pe_ix ix_q (pv 11) pe_int (fun _ _ => rfl)) pa_nil)))))) (pa_cons (pe_d D_fairL hr (pa_cons (pv 0) (pa_cons (pv 7) (pa_cons (pe_ix ix_q (pv 10) pe_int (fun _ _ => rfl)) (pa_cons (pe_ix ix_q (pv 10) pe_int (fun _ _ => rfl)) (pa_cons (pe_ix ix_q (pv 11) pe_int (fun _ _ => rfl)) pa_nil)))))) pa_nil))))
  hP)))), ?_⟩
  intro H p lc qM N b ma sh on ot re M v1 v2 v17 hN hp3 h3 mM hbb hb hma o1 o2 k
  have hN' : N + 200000 ≤ 1099511627776 := hN
  have lM := mM.len
  obtain ⟨eM, lb0, lb1, lb2, lb3⟩ := blocks lM hbb
  -- blocks
  refine ⟨_, rfl, _, rfl, _, rfl, qM, _, rfl, SqL.of h3, fun x0 hx0 => ?_⟩
  rw [cut_take _ (by omega)]
  have s30 := same_new0 (o := .lst ((M.take sh).map vN)) hx0
  refine ⟨_, rfl, _, rfl, _, rfl, _, rfl, _, rfl, sh, on, rfl, rfl, _, rfl, qM, _, rfl, SqL.of (s30 _ _ h3), fun x1 hx1 => ?_⟩
  rw [cut_two _ (by omega) (by omega), show sh + on - sh = on by omega]
  have s31 := same_new (o := .lst (((M.drop sh).take on).map vN)) s30 hx1
  refine ⟨_, rfl, _, rfl, _, rfl, sh, on, rfl, rfl, _, rfl, _, rfl, _, rfl, b, re, rfl, rfl, (by omega), _, rfl, qM, _, rfl, SqL.of (s31 _ _ h3), fun x2 hx2 => ?_⟩
  rw [cut_two _ (by omega) (by omega), show b - re - (sh + on) = ot by omega]
  have s32 := same_new (o := .lst (((M.drop (sh + on)).take ot).map vN)) s31 hx2
  refine ⟨_, rfl, _, rfl, _, rfl, b, re, rfl, rfl, (by omega), _, rfl, qM, _, rfl, SqL.of (s32 _ _ h3), fun x3 hx3 => ?_⟩
  rw [cut_drop _ (by omega)]
  have s33 := same_new (o := .lst ((M.drop (b - re)).map vN)) s32 hx3
  refine ⟨(by show 4 ≤ sizeLine; decide), fun qb hqb => ?_⟩
  have s34 := same_new (o := .lst [.ref x0, .ref x1, .ref x2, .ref x3]) s33 hqb
  have e0 : upd (upd (upd (upd (upd H x0 (.lst ((M.take sh).map vN))) x1 (.lst (((M.drop sh).take on).map vN))) x2 (.lst (((M.drop (sh + on)).take ot).map vN))) x3 (.lst ((M.drop (b - re)).map vN))) qb (.lst [.ref x0, .ref x1, .ref x2, .ref x3]) x0 = some (.lst ((M.take sh).map vN)) := upd_new hqb (upd_new hx3 (upd_new hx2 (upd_new hx1 upd_same)))
  have e1 : upd (upd (upd (upd (upd H x0 (.lst ((M.take sh).map vN))) x1 (.lst (((M.drop sh).take on).map vN))) x2 (.lst (((M.drop (sh + on)).take ot).map vN))) x3 (.lst ((M.drop (b - re)).map vN))) qb (.lst [.ref x0, .ref x1, .ref x2, .ref x3]) x1 = some (.lst (((M.drop sh).take on).map vN)) := upd_new hqb (upd_new hx3 (upd_new hx2 upd_same))
  have e2 : upd (upd (upd (upd (upd H x0 (.lst ((M.take sh).map vN))) x1 (.lst (((M.drop sh).take on).map vN))) x2 (.lst (((M.drop (sh + on)).take ot).map vN))) x3 (.lst ((M.drop (b - re)).map vN))) qb (.lst [.ref x0, .ref x1, .ref x2, .ref x3]) x2 = some (.lst (((M.drop (sh + on)).take ot).map vN)) := upd_new hqb (upd_new hx3 upd_same)
  have e3 : upd (upd (upd (upd (upd H x0 (.lst ((M.take sh).map vN))) x1 (.lst (((M.drop sh).take on).map vN))) x2 (.lst (((M.drop (sh + on)).take ot).map vN))) x3 (.lst ((M.drop (b - re)).map vN))) qb (.lst [.ref x0, .ref x1, .ref x2, .ref x3]) x3 = some (.lst ((M.drop (b - re)).map vN)) := upd_new hqb upd_same
  have eb : upd (upd (upd (upd (upd H x0 (.lst ((M.take sh).map vN))) x1 (.lst (((M.drop sh).take on).map vN))) x2 (.lst (((M.drop (sh + on)).take ot).map vN))) x3 (.lst ((M.drop (b - re)).map vN))) qb (.lst [.ref x0, .ref x1, .ref x2, .ref x3]) qb = some (.lst [.ref x0, .ref x1, .ref x2, .ref x3]) := upd_same
  generalize upd (upd (upd (upd (upd H x0 (.lst ((M.take sh).map vN))) x1 (.lst (((M.drop sh).take on).map vN))) x2 (.lst (((M.drop (sh + on)).take ot).map vN))) x3 (.lst ((M.drop (b - re)).map vN))) qb (.lst [.ref x0, .ref x1, .ref x2, .ref x3]) = H4 at *
  have kp4 := (Kp.refl H).trans (Kp.of s34)
  have hp4 := hp3.same s34
  have hm1 : ∀ x, x ∈ (M.take sh ++ (M.drop sh).take on) ++ ((M.drop (sh + on)).take ot ++ M.drop (b - re)) ↔ x ∈ M := fun x => by
    conv => rhs; rw [eM]
    rw [List.append_assoc]
  have hm2 : ∀ x, x ∈ (M.take sh ++ (M.drop (sh + on)).take ot) ++ ((M.drop sh).take on ++ M.drop (b - re)) ↔ x ∈ M := fun x => by
    rw [← hm1]
    simp only [List.mem_append]
    constructor
    · rintro ((h | h) | (h | h))
      · exact .inl (.inl h)
      · exact .inr (.inl h)
      · exact .inl (.inr h)
      · exact .inr (.inr h)
    · rintro ((h | h) | (h | h))
      · exact .inl (.inl h)
      · exact .inr (.inl h)
      · exact .inl (.inr h)
      · exact .inr (.inr h)
  generalize M.take sh = B0 at *
  generalize (M.drop sh).take on = B1 at *
  generalize (M.drop (sh + on)).take ot = B2 at *
  generalize M.drop (b - re) = B3 at *
  -- slots
  refine ⟨_, rfl, qb, _, 0, _, rfl, rfl, .inl eb, rfl, _, rfl, qb, _, 1, _, rfl, rfl, .inl eb, rfl, x0, x1, _, _, rfl, rfl, e0, e1, (by rw [List.length_map, List.length_map, sizeLine_eq]; omega), fun y0 hy0 => ?_⟩
  rw [← List.map_append]
  have s40 := same_new0 (o := .lst ((B0 ++ B1).map vN)) hy0
  refine ⟨_, rfl, qb, _, 0, _, rfl, rfl, .inl (s40 _ _ eb), rfl, _, rfl, qb, _, 2, _, rfl, rfl, .inl (s40 _ _ eb), rfl, x0, x2, _, _, rfl, rfl, s40 _ _ e0, s40 _ _ e2, (by rw [List.length_map, List.length_map, sizeLine_eq]; omega), fun y1 hy1 => ?_⟩
  rw [← List.map_append]
  have s41 := same_new (o := .lst ((B0 ++ B2).map vN)) s40 hy1
  refine ⟨(by show 2 ≤ sizeLine; decide), fun qs hqs => ?_⟩
  have s42 := same_new (o := .lst [.ref y0, .ref y1]) s41 hqs
  have f0 : upd (upd (upd H4 y0 (.lst ((B0 ++ B1).map vN))) y1 (.lst ((B0 ++ B2).map vN))) qs (.lst [.ref y0, .ref y1]) y0 = some (.lst ((B0 ++ B1).map vN)) := upd_new hqs (upd_new hy1 upd_same)
  have f1 : upd (upd (upd H4 y0 (.lst ((B0 ++ B1).map vN))) y1 (.lst ((B0 ++ B2).map vN))) qs (.lst [.ref y0, .ref y1]) y1 = some (.lst ((B0 ++ B2).map vN)) := upd_new hqs upd_same
  have fs : upd (upd (upd H4 y0 (.lst ((B0 ++ B1).map vN))) y1 (.lst ((B0 ++ B2).map vN))) qs (.lst [.ref y0, .ref y1]) qs = some (.lst [.ref y0, .ref y1]) := upd_same
  generalize upd (upd (upd H4 y0 (.lst ((B0 ++ B1).map vN))) y1 (.lst ((B0 ++ B2).map vN))) qs (.lst [.ref y0, .ref y1]) = H5 at *
  have kp5 := kp4.trans (Kp.of s42)
  have hp5 := hp4.same s42
  have ls1 : (B0 ++ B1).length = sh + on := by rw [List.length_append, lb0, lb1]
  have ls2 : (B0 ++ B2).length = sh + ot := by rw [List.length_append, lb0, lb2]
  -- lists
  refine ⟨_, rfl, _, rfl, _, rfl, qb, _, 3, _, rfl, rfl, .inl (s42 _ _ eb), rfl, _, rfl, qb, _, 2, _, rfl, rfl, .inl (s42 _ _ eb), rfl, _, rfl, qs, _, 0, _, rfl, rfl, .inl fs, rfl, ?_⟩
  refine ⟨p, lc, x3, x2, y0, _, ma, B3, B2, B0 ++ B1, rfl, hp5, s42 _ _ e3, s42 _ _ e2, f0, (by omega), (by omega), (by omega), (by show N + 10100 + 10000 ≤ 1099511627776; omega), fun H6 g1 G1 lG1 sG1 hg1 hG1 hp6 kp6 => ?_⟩
  refine ⟨_, rfl, _, rfl, _, rfl, qb, _, 3, _, rfl, rfl, .inl (kp6 _ _ (s42 _ _ eb) rfl), rfl, _, rfl, qb, _, 1, _, rfl, rfl, .inl (kp6 _ _ (s42 _ _ eb) rfl), rfl, _, rfl, qs, _, 1, _, rfl, rfl, .inl (kp6 _ _ fs rfl), rfl, ?_⟩
  refine ⟨p, lc, x3, x1, y1, _, ma, B3, B1, B0 ++ B2, rfl, hp6, kp6 _ _ (s42 _ _ e3) rfl, kp6 _ _ (s42 _ _ e1) rfl, kp6 _ _ f1 rfl, (by omega), (by omega), (by omega), (by show N + 10100 + 10000 + 10000 ≤ 1099511627776; omega), fun H7 g2 G2 lG2 sG2 hg2 hG2 hp7 kp7 => ?_⟩
  refine ⟨(by show 2 ≤ sizeLine; decide), fun ql hql => ?_⟩
  have s71 := same_new0 (o := .lst [.ref g1, .ref g2]) hql
  have kp8 := ((kp5.trans kp6).trans kp7).trans (Kp.of s71)
  have kp58 := (kp6.trans kp7).trans (Kp.of s71)
  have hl8 : upd H7 ql (.lst [.ref g1, .ref g2]) ql = some (.lst [.ref g1, .ref g2]) := upd_same
  have hg18 := s71 _ _ (kp7 _ _ hG1 rfl)
  have hg28 := s71 _ _ hG2
  have hp8 := hp7.same s71
  generalize upd H7 ql (.lst [.ref g1, .ref g2]) = H8 at *
  have fs8 := kp58 _ _ fs rfl
  have f08 := kp58 _ _ f0 rfl
  have f18 := kp58 _ _ f1 rfl
  exact hT _ p lc qs y0 y1 ql g1 g2 N b ma (B0 ++ B1) (B0 ++ B2) G1 G2 _ _ _ _ _ _ _ _ _ hN (hp8.mono (by omega)) fs8 f08 f18 hl8 hg18 hg28 (by omega) (by omega) (by omega) lG1 lG2 fun H' q a1 c1 a2 c2 F1 C1 F2 C2 z1 z2 z3 z4 z5 z6 z7 z8 y1 y2 y3 y4 y5 y6 y7 => by
    obtain ⟨u1, u2, u3⟩ := onto_of mM hm1 z5 sG1 z7
    obtain ⟨u4, u5, u6⟩ := onto_of mM hm2 z6 sG2 z8
    exact k H' q a1 c1 a2 c2 F1 C1 F2 C2 (by omega) (by omega) z3 z4 u1 u2 u4 u5 u3 u6 y1 y2 y3 y4 y5 y6 (kp8.trans y7)
theorem ok_two (F : FnP K "_law_two" "_law_two" s_twoL f fd) (D_drawL : Dn P w K mg base 1 "_law_draw" ["_law_tape", "_law_limit"] sp_draw) (D_mixtureL : Dn P w K mg base 3 "_law_mixture" ["_law_tape", "_law_bits"] sp_mixture) (D_fairL : Dn P w K mg base 3 "_law_fair" ["_law_tape", "_law_many", "_law_rest", "_law_own", "_law_slots"] sp_fair) (D_blendL : Dn P w K mg base 4 "_law_blend" ["_law_tape", "_law_words", "_law_extra"] sp_blend) (D_pickL : Dn P w K mg base 2 "_law_pick" ["_law_tape", "_law_some"] sp_pick) (D_sumL : Dn P w K mg base 1 "_law_sum" ["_law_words", "_law_number_here"] sp_sum) : FnOk P w K mg base CX0 5 f fd ["_law_tape", "_law_most", "_law_lanes"] sp_two := by
  have nd := sc_twoL.nd
  refine fnok F sc_twoL (fun vs H Q E h => ?_) (fun cdv A outer s H vs Q E hr h => ?_)
  · obtain ⟨p, lc, N, mo, la, rfl, _⟩ := h
    rfl
  · obtain ⟨p, lc, N, mo, la, rfl, hp, hmo, hla, hN, k⟩ := h
    obtain ⟨tt, hP, hT⟩ := two_lists (H0 := H) (Q := Q) (E := E) T D_drawL D_mixtureL D_fairL D_blendL D_pickL D_sumL hr
    refine ⟨_, (pss_cons (ps_asg (pe_lc (own := [("_law_k", 17)]) (g := gName 17) (by rfl) nd (pi_range1 (by rfl) T.range (pa_cons pe_int pa_nil)) (blkOk_by (own := [("_law_k", 17)]) (N := ["_law_tape", "_law_most", "_law_lanes", "_law_shared", "_law_one", "_law_other", "_law_rest", "_law_many", "_law_bits", "_law_units", "_law_blocks", "_law_slots", "_law_lists", "_law_mixture_here", "_law_stays", "_law_mixtures", "_law_found", "_law_k", "_law_number_here"]) (sc := defScope s_twoL) (by decide +kernel)) (fun _ _ _ _ _ => (pg_name (i := 17) nd rfl (Or.inl rfl))) (fun _ _ _ _ _ => pts_nil) (fun _ _ _ _ _ => (pe_d D_drawL hr (pa_cons (pv 0) (pa_cons (pe_op on_add (pv 1) pe_int) pa_nil))))) (pg_lst (by rfl) (pgs_cons (pg_name (i := 3) nd rfl (Or.inl rfl)) (pgs_cons (pg_name (i := 4) nd rfl (Or.inl rfl)) (pgs_cons (pg_name (i := 5) nd rfl (Or.inl rfl)) (pgs_cons (pg_name (i := 6) nd rfl (Or.inl rfl)) pgs_nil))))))
  (pss_cons (ps_set (i := 7) nd rfl (Or.inl rfl) (pe_callB (call_minN rfl) (by rfl) T.min (by decide +kernel) (pa_cons (pv 2) (pa_cons (pe_op on_add (pe_op on_add (pv 6) (pe_callB (call_maxN rfl) (by rfl) T.max (by decide +kernel) (pa_cons (pv 4) (pa_cons (pv 5) pa_nil)))) (pe_d D_drawL hr (pa_cons (pv 0) (pa_cons pe_int pa_nil)))) pa_nil))))
  (pss_cons (ps_set (i := 6) nd rfl (Or.inl rfl) (pe_callB (call_minN rfl) (by rfl) T.min (by decide +kernel) (pa_cons (pv 6) (pa_cons (pv 7) pa_nil))))
  (pss_cons (ps_par (i := 4) (j := 5) (by rfl) nd rfl rfl (by decide) rfl rfl (pa_cons (pe_callB (call_minN rfl) (by rfl) T.min (by decide +kernel) (pa_cons (pv 4) (pa_cons (pe_op on_sub (pv 7) (pv 6)) pa_nil))) (pa_cons (pe_callB (call_minN rfl) (by rfl) T.min (by decide +kernel) (pa_cons (pv 5) (pa_cons (pe_op on_sub (pv 7) (pv 6)) pa_nil))) pa_nil)) (by rfl))
  (pss_cons (ps_set (i := 8) nd rfl (Or.inl rfl) (pe_op on_add (pe_op on_add (pe_op on_add (pv 3) (pv 4)) (pv 5)) (pv 6)))
  (pss_cons (ps_set (i := 9) nd rfl (Or.inl rfl) (pe_d D_mixtureL hr (pa_cons (pv 0) (pa_cons (pv 8) pa_nil))))
  hP)))))), ?_⟩
    have hN' : N + 200000 ≤ 1099511627776 := hN
    refine ⟨4, rfl, (by decide), (by decide), fun D hD => lc_range (fun i H1 => Tp H1 p lc (N + i) ∧ Kp H H1 ∧ ∃ g : List Nat, H1 D = some (.lst (g.map vN)) ∧ g.length = i ∧ ∀ x ∈ g, x ≤ mo) ⟨hp.put (hp.ne hD), kp_new (Kp.refl H) hD, [], upd_same, rfl, fun x hx => by cases hx⟩ (fun i H1 hi hP => ?_) (fun H1 hP => ?_)⟩
    · obtain ⟨hp1, kp1, g, h1, lg, ag⟩ := hP
      refine ⟨rfl, ?_⟩
      refine ⟨_, rfl, _, rfl, mo, 1, rfl, rfl, p, lc, _, mo + 1, rfl, hp1, (by omega), small_big (by omega), (by show N + i + 1 ≤ 1099511627776; omega), fun H2 r hr' hp2 kp2 => ?_⟩
      refine ⟨_, kp2 _ _ h1 rfl, (by rw [List.length_map, sizeLine_eq]; omega), hp2.put (hp.ne hD), kp_put (kp1.trans kp2) hD, g ++ [r], ?_, ?_, fun x hx => ?_⟩
      · rw [upd_same, List.map_append]; rfl
      · rw [List.length_append, lg]; rfl
      · rcases List.mem_append.mp hx with hx | hx
        · exact ag x hx
        · rw [List.mem_singleton.mp hx]; omega
    obtain ⟨hp1, kp1, g, h1, lg, ag⟩ := hP
    match g, lg with
    | [sh, on0, ot0, re0], _ =>
    have b1 := ag sh (by simp)
    have b2 := ag on0 (by simp)
    have b3 := ag ot0 (by simp)
    have b4 := ag re0 (by simp)
    refine ⟨D, _, rfl, SqL.of h1, rfl, _, _, rfl, _, _, rfl, _, _, rfl, _, _, rfl, rfl, ?_⟩
    refine ⟨_, rfl, _, rfl, _, rfl, _, rfl, on0, ot0, rfl, re0, max on0 ot0, rfl, rfl, _, rfl, p, lc, _, 3, rfl, hp1, (by decide), (by decide), (by show N + 4 + 1 ≤ 1099511627776; omega), fun H2 d3 hd3 hp2 kp2 => ⟨_, d3, rfl, rfl, la, _, rfl, ?_⟩⟩
    generalize hma : min la (re0 + max on0 ot0 + d3) = ma
    refine ⟨_, rfl, _, rfl, re0, ma, rfl, ?_⟩
    generalize hre : min re0 ma = re
    refine ⟨_, rfl, _, rfl, _, rfl, ma, re, rfl, rfl, (by omega), on0, ma - re, rfl, _, rfl, _, rfl, _, rfl, ma, re, rfl, rfl, (by omega), ot0, ma - re, rfl, _, _, rfl, ?_⟩
    generalize hon : min on0 (ma - re) = on
    generalize hot : min ot0 (ma - re) = ot
    refine ⟨_, rfl, _, rfl, sh, on, rfl, rfl, _, rfl, sh + on, ot, rfl, rfl, _, rfl, sh + on + ot, re, rfl, rfl, ?_⟩
    generalize hbb : sh + on + ot + re = b
    have kp12 := kp1.trans kp2
    refine ⟨_, rfl, _, rfl, p, lc, _, b, rfl, hp2, (by omega), (by show N + 4 + 1 + 10000 ≤ 1099511627776; omega), fun H3 qM M mM hqM h3 hp3 kp3 => ?_⟩
    have kp13 := kp12.trans kp3
    have lM := mM.len
    exact hT _ p lc qM N b ma sh on ot re M _ _ _ hN (hp3.mono (by omega)) h3 mM hbb.symm (by omega) (by omega) (by omega) (by omega) fun H' q a1 c1 a2 c2 F1 C1 F2 C2 z1 z2 z3 z4 u1 u2 u4 u5 u3 u6 y1 y2 y3 y4 y5 y6 y7 => k H' q a1 c1 a2 c2 b F1 C1 F2 C2 ⟨by omega, by omega, by omega, by omega, by omega, u1, u2, u4, u5, u3, u6⟩ y1 y2 y3 y4 y5 y6 (kp13.trans y7)
end
end LaneX
set_option Elab.async false
set_option linter.all false
set_option maxRecDepth 100000
set_option maxHeartbeats 4000000
namespace LaneX
open PySem PySem.Spec PyProof.Rows L2
/-- the entries of all lanes -/
def Lots (H : Hp) (q : Addr) (ss ls : List Nat) : Prop := ∃ ds : List Addr, H q = some (.lst (ds.map V.ref)) ∧ ds.length = 2 ^ ls.length ∧ ∀ L d, ds[L]? = some d → H d = some (.lst ((lot ss ls L).map vN))
theorem Lots.same {H H' : Hp} {q : Addr} {ss ls : List Nat} (h : Lots H q ss ls) (s : Same H H') : Lots H' q ss ls := by
  obtain ⟨ds, h1, h2, h3⟩ := h
  exact ⟨ds, s _ _ h1, h2, fun L d hd => s _ _ (h3 L d hd)⟩
def sp_lots : Sp := fun vs H Q _ => ∃ (a c : Addr) (ss ls : List Nat), vs = [.ref a, .ref c] ∧ H a = some (.lst (ss.map vN)) ∧ H c = some (.lst (ls.map vN)) ∧ ss.length ≤ 16 ∧ ls.length ≤ 16 ∧ ∀ H' q, Same H H' → Lots H' q ss ls → Q (.ref q) H'
theorem get_ref {l : List Addr} {i : Nat} {d : Addr} (h : l[i]? = some d) : (l.map V.ref)[i]? = some (.ref d) := by rw [List.getElem?_map, h]; rfl
theorem get_lt {α : Type} {l : List α} {i : Nat} (h : i < l.length) : ∃ d, l[i]? = some d := ⟨_, List.getElem?_eq_getElem h⟩
theorem lot_len (ss ls : List Nat) (L : Nat) : (lot ss ls L).length = 2 ^ rk ss := by unfold lot; rw [List.length_map, sev_len, rws_len]
theorem due_reach {b : Nat} {ss ls os ps : List Nat} (hs : ∀ x ∈ ss, x < 2 ^ b) (hl : ls.length = ps.length) : ∃ L, L < 2 ^ ls.length ∧ due ss ls os ps L = fwr ss ls os ps := by
  by_cases h : ∀ w ∈ lsm ls ps, Spn (ss ++ os) w
  · exact ⟨0, Nat.two_pow_pos _, due_all hs hl h 0⟩
  · obtain ⟨w, hw⟩ := Classical.not_forall.mp h
    obtain ⟨hw1, hw2⟩ := Classical.not_imp.mp hw
    obtain ⟨i, hi, rfl⟩ := List.mem_map.mp hw1
    have hi := List.mem_range.mp hi
    have e := img_unit (lsm ls ps) (i := i) (by rw [lsm_len]; exact hi)
    have e2 : (lsm ls ps).getD i 0 = ls.getD i 0 ^^^ ps.getD i 0 := map_range_getD _ hi
    refine ⟨2 ^ i, Nat.pow_lt_pow_right (by decide) hi, ?_⟩
    rw [due_eq hs hl, e, e2, if_neg hw2]
    unfold fwr
    rw [if_neg h]
theorem eqv_nat {a b : Nat} : eqV (vN a) (vN b) = decide (a = b) := by
  show ((a : Int) == (b : Int)) = _
  by_cases h : a = b
  · subst h; simp
  · have : ¬ (a : Int) = (b : Int) := by omega
    rw [decide_eq_false h]; simp [this]
section
variable {P : Program} {w : World} {K : PySem.W.Frag} {mg : Str → Option Value} {base : Heap} {f : Addr} {fd : FuncData} {CR : Addr} (T : Bt mg)
include T
theorem ok_lots (F : FnP K "_law_lots" "_law_lots" s_lotsL f fd) (D_severalL : Dn P w K mg base 1 "_law_several" ["_law_words"] sp_several) (D_rowsL : Dn P w K mg base 2 "_law_rows" ["_law_words"] sp_rows) (D_sumL : Dn P w K mg base 1 "_law_sum" ["_law_words", "_law_number_here"] sp_sum) : FnOk P w K mg base CX0 3 f fd ["_law_slots", "_law_lanes"] sp_lots := by
  have nd := sc_lotsL.nd
  refine fnok F sc_lotsL (fun vs H Q E h => ?_) (fun cdv A outer s H vs Q E hr h => ?_)
  · obtain ⟨a, c, ss, ls, rfl, _⟩ := h
    rfl
  · obtain ⟨a, c, ss, ls, rfl, ha, hc, l1, l2, k⟩ := h
    refine ⟨_, (pss_cons (ps_par (i := 2) (j := 3) (by rfl) nd rfl rfl (by decide) rfl rfl (pa_cons (pe_d D_severalL hr (pa_cons (pe_d D_rowsL hr (pa_cons (pv 0) pa_nil)) pa_nil)) (pa_cons (pe_lst pa_nil) pa_nil)) (by rfl))
  (pss_cons (ps_for PassesOwn.never rfl (pi_range1 (by rfl) T.range (pa_cons (pe_op on_shl pe_int (pe_callB call_lenQ (by rfl) T.len PySem.boot_len (pa_cons (pv 1) pa_nil))) pa_nil)) (pg_name (i := 4) nd rfl (Or.inr rfl))
    (pss_one (ps_expr (pe_bm PySem.F.plainAttrs_list PySem.F.slot_list_append PySem.F.type_list_append mt_append (pv 3) (pa_cons (pe_lc (own := [("_law_word_here", 5)]) (g := gName 5) (by rfl) nd (pi_seq (pv 2)) (blkOk_by (own := [("_law_word_here", 5)]) (N := ["_law_slots", "_law_lanes", "_law_words", "_law_found", "_law_lane", "_law_word_here"]) (sc := defScope s_lotsL) (by decide +kernel)) (fun _ _ _ _ _ => (pg_name (i := 5) nd rfl (Or.inl rfl))) (fun _ _ _ _ _ => pts_nil) (fun _ _ _ _ _ => (pe_op on_xor (pe_d D_sumL hr (pa_cons (pv 1) (pa_cons (pv 4) pa_nil))) (pv 5)))) pa_nil)))))
  (pss_one (ps_ret (pv 3))))), ?_⟩
    have o1 : blen 1 ≤ 1000000 := by rw [blen_one]; decide
    refine ⟨_, rfl, a, ss, rfl, .inl ha, (by omega), fun H1 q1 s1 hq1 h1 => ?_⟩
    have rl := rws_len_le ss
    refine ⟨q1, rws ss, rfl, .inl h1, (by omega), fun H2 q2 s2 hq2 h2 => ?_⟩
    refine ⟨(by decide), fun q3 hq3 => ⟨_, _, rfl, ?_⟩⟩
    have s12 := s1.trans s2
    have s3 := same_new0 (o := .lst []) hq3
    have h3 : upd H2 q3 (.lst []) q3 = some (.lst []) := upd_same
    have s03 := s12.trans s3
    have hq30 : H q3 = none := same_free s12 hq3
    have h23 := s3 _ _ h2
    generalize upd H2 q3 (.lst []) = H3 at *
    have sl : (sev (rws ss)).length ≤ 65536 := by rw [sev_len]; exact Nat.pow_le_pow_right (n := 2) (j := 16) (by decide) (by omega)
    have tl : 1 <<< ls.length ≤ 65536 := by rw [Nat.one_shiftLeft]; exact Nat.pow_le_pow_right (n := 2) (j := 16) (by decide) l2
    refine ⟨_, rfl, c, _, rfl, .inl (s03 _ _ hc), 1, ls.length, rfl, (by rw [List.length_map]), shl_ok1 o1 (by omega), ?_⟩
    have eT : 1 <<< ls.length = 2 ^ ls.length := Nat.one_shiftLeft _
    generalize 1 <<< ls.length = TT at *
    refine ⟨_, rfl, (by omega), (by omega), for_range (n := TT) (fun i σ H4 => ∃ (v : Option V) (ds : List Addr), σ = [some (.ref a), some (.ref c), some (.ref q2), some (.ref q3), v, none] ∧ Same H H4 ∧ H4 q2 = some (.lst ((sev (rws ss)).map vN)) ∧ H4 q3 = some (.lst (ds.map V.ref)) ∧ ds.length = i ∧ ∀ L d, ds[L]? = some d → H4 d = some (.lst ((lot ss ls L).map vN)) ∧ d ≠ q3)
      ⟨none, [], rfl, s03, h23, h3, rfl, fun L d hd => by simp at hd⟩ ?_ ?_⟩
    · rintro i σ H4 hi ⟨v, ds, rfl, s4, h24, h34, dl, hds⟩
      rw [show (0 : Int) + (i : Int) = (i : Int) by omega]
      refine ⟨_, rfl, .inl ⟨rfl, _, SqL.of h34⟩, _, rfl, lc_pure (sev (rws ss)) vN (fun _ => true) (fun x => vN (img ls i ^^^ x)) (.inl h24) (by omega) (fun x H' hx s => ?_) (fun D H5 hD s5 h5 => ?_)⟩
      · intro Z Nx z1 z2
        exact ⟨rfl, _, rfl, _, rfl, c, ls, i, rfl, .inl (s _ _ (s4 _ _ hc)), by omega, _, rfl, _, x, rfl, rfl, z1 rfl _ (Same.refl _)⟩
      · rw [filt_true] at h5
        have h5' : H5 D = some (.lst ((lot ss ls i).map vN)) := by rw [h5]; unfold lot; rw [List.map_map]; rfl
        have nD : D ≠ q3 := (ne_of_none h34 hD).symm
        have n2 : q2 ≠ q3 := ne_of_none h2 hq3
        refine ⟨q3, _, _, rfl, rfl, s5 _ _ h34, (by rw [List.length_map, sizeLine_eq]; omega), ?_⟩
        refine ⟨_, ds ++ [D], rfl, same_put (s4.trans s5) hq30, (upd_ne n2).trans (s5 _ _ h24), ?_, ?_, fun L d hd => ?_⟩
        · rw [upd_same, List.map_append]; rfl
        · rw [List.length_append, dl]; rfl
        · by_cases hL : L < ds.length
          · rw [List.getElem?_append_left hL] at hd
            obtain ⟨g1, g2⟩ := hds L d hd
            exact ⟨(upd_ne g2).trans (s5 _ _ g1), g2⟩
          · rw [List.getElem?_append_right (by omega)] at hd
            have hz : L - ds.length = 0 := by
              have := (List.getElem?_eq_some_iff.mp hd).1
              simp at this; omega
            rw [hz] at hd
            cases hd
            have : L = i := by omega
            subst this
            exact ⟨(upd_ne nD).trans h5', nD⟩
    · rintro σ H4 ⟨v, ds, rfl, s4, h24, h34, dl, hds⟩
      exact ⟨_, rfl, k _ _ s4 ⟨ds, h34, by rw [dl, eT], fun L d hd => (hds L d hd).1⟩⟩
end
end LaneX
set_option Elab.async false
set_option linter.all false
set_option maxRecDepth 100000
set_option maxHeartbeats 4000000
namespace LaneX
open PySem PySem.Spec PyProof.Rows L2
/-! ### rounds, walked -/
def sp_number : Sp := fun vs H Q _ => ∃ n m : Nat, vs = [vN n, vN m] ∧ n < m ∧ Q (.bl true) H
def ent (st wd : List Nat) (sk n L : Nat) : Nat := img st L ^^^ img wd (n + sk)
def src (ss ls sh wd : List Nat) (sk n L : Nat) : Nat := img sh L ^^^ lno ss ls (img wd (n + sk))
/-- what a lane has got in so many rounds -/
def gts (st wd : List Nat) (sk m L : Nat) : List Nat := (List.range m).map fun n => ent st wd sk n L
theorem gts_succ (st wd : List Nat) (sk m L : Nat) : gts st wd sk (m + 1) L = gts st wd sk m L ++ [ent st wd sk m L] := by
  unfold gts
  rw [List.range_succ, List.map_append]; rfl
def gmx (st wd : List Nat) (sk n i L : Nat) : List Nat := if L < i then gts st wd sk (n + 1) L else gts st wd sk n L
theorem gmx_lt {st wd : List Nat} {sk n i L : Nat} (h : L < i) : gmx st wd sk n i L = gts st wd sk (n + 1) L := if_pos h
theorem gmx_ge {st wd : List Nat} {sk n i L : Nat} (h : ¬ L < i) : gmx st wd sk n i L = gts st wd sk n L := if_neg h
theorem gts_len (st wd : List Nat) (sk m L : Nat) : (gts st wd sk m L).length = m := by simp [gts]
def Gots (H : Hp) (go : Addr) (gs : List Addr) (G : Nat → List Nat) : Prop := H go = some (.lst (gs.map V.ref)) ∧ ∀ L g, gs[L]? = some g → H g = some (.lst ((G L).map vN))
theorem Gots.same {H H' : Hp} {go : Addr} {gs : List Addr} {G : Nat → List Nat} (h : Gots H go gs G) (s : Same H H') : Gots H' go gs G := ⟨s _ _ h.1, fun L g hg => s _ _ (h.2 L g hg)⟩
/-- a plan, with both lots -/
structure Lot2 (CR CP : Addr) (H : Hp) (x lo wa : Addr) (b : Nat) (ss ls os ps st sh wd : List Nat) (sk : Nat) : Prop where
  pl : PlanAt CR CP H x b ss ls st sh wd sk
  pn : Pln b ss ls os ps st sh wd sk
  lo : Lots H lo ss ls
  wa : Lots H wa os ps
  w1 : WfR b ss ls
  w2 : WfR b os ps
  hl : ls.length = ps.length
  hb : b ≤ rk (ss ++ ls)
  sl : ss.length ≤ 16
  ol : os.length ≤ 16
  ll : ls.length ≤ 16
theorem Lot2.same {CR CP : Addr} {H H' : Hp} {x lo wa : Addr} {b : Nat} {ss ls os ps st sh wd : List Nat} {sk : Nat} (h : Lot2 CR CP H x lo wa b ss ls os ps st sh wd sk) (s : Same H H') : Lot2 CR CP H' x lo wa b ss ls os ps st sh wd sk :=
  { h with pl := h.pl.same s, lo := h.lo.same s, wa := h.wa.same s }
def sp_round_right (CR CP : Addr) : Sp := fun vs H Q _ => ∃ (H0 : Hp) (x lo wa go : Addr) (gs : List Addr) (b : Nat) (ss ls os ps st sh wd : List Nat) (sk n : Nat), vs = [.ref x, vN n, .ref lo, .ref wa, .ref go] ∧ Same H0 H ∧ Lot2 CR CP H0 x lo wa b ss ls os ps st sh wd sk ∧ H0 go = none ∧ (∀ g ∈ gs, H0 g = none) ∧ gs.Nodup ∧ go ∉ gs ∧ gs.length = 2 ^ ls.length ∧ Gots H go gs (gts st wd sk n) ∧ n < 2 ^ wd.length - sk ∧
  ∀ H', Same H0 H' → Gots H' go gs (gts st wd sk (n + 1)) → Q (.bl true) H'
theorem whn_take {b : Nat} {ss ls os ps st sh wd : List Nat} {sk L n : Nat} {v : V} (pn : Pln b ss ls os ps st sh wd sk) (hn : n < 2 ^ wd.length - sk) (h : Whn os st wd sk L (img st L ^^^ img wd (n + sk)) v) : v = vN n := by
  have lt : n + sk < 2 ^ wd.length := by omega
  have e : img st L ^^^ img wd (n + sk) ^^^ img st L = img wd (n + sk) := by rw [Nat.xor_comm (img st L), xor_cancel_right]
  rcases h with ⟨f, h1, h2, h3, h4⟩ | ⟨_, h1 | ⟨f, h1, h2⟩⟩
  · rw [e] at h2
    have := pn.one h1 lt h2
    subst this
    rw [h4, Nat.add_sub_cancel]
  · rw [e] at h1
    exact absurd (pn.win lt) h1
  · rw [e] at h2
    have := pn.one (Nat.lt_of_lt_of_le h1 pn.sk2) lt h2
    omega
theorem ent_new {b : Nat} {ss ls os ps st sh wd : List Nat} {sk n L : Nat} (pn : Pln b ss ls os ps st sh wd sk) (hn : n < 2 ^ wd.length - sk) : ent st wd sk n L ∉ gts st wd sk n L := fun h => by
  obtain ⟨i, hi, e⟩ := List.mem_map.mp h
  have hi := List.mem_range.mp hi
  unfold ent at e
  have e2 : img wd (i + sk) = img wd (n + sk) := by
    have := congrArg (fun y => img st L ^^^ y) e
    simpa [xor_cancel] using this
  have := pn.one (by omega) (by omega) e2
  omega
section
variable {P : Program} {w : World} {K : PySem.W.Frag} {mg : Str → Option Value} {base : Heap} {f : Addr} {fd : FuncData} {CR CP : Addr} (T : Bt mg)
include T
theorem ok_number (F : FnP K "_law_number" "_law_number" s_numberL f fd) : FnOk P w K mg base CX0 1 f fd ["_law_value", "_law_limit"] sp_number := by
  have nd := sc_numberL.nd
  refine fnok F sc_numberL (fun vs H Q E h => ?_) (fun cdv A outer s H vs Q E hr h => ?_)
  · obtain ⟨n, m, rfl, _⟩ := h
    rfl
  · obtain ⟨n, m, rfl, hn, k⟩ := h
    refine ⟨_, (pss_one (ps_ret (pe_and (pe_callB call_isi (by rfl) T.isinstance (by decide +kernel) (pa_cons (pv 0) (pa_cons (pe_bltn (v := .ty "int") (by rfl) T.int (by decide +kernel) rfl) pa_nil))) (pe_and (pe_not (pe_callB call_isi (by rfl) T.isinstance (by decide +kernel) (pa_cons (pv 0) (pa_cons (pe_bltn (v := .ty "bool") (by rfl) T.bool (by decide +kernel) rfl) pa_nil)))) (pe_one (pe_chain op_le op_lt pe_int (pv 0) (pv 1))))))), ?_⟩
    refine ⟨_, rfl, _, _, _, _, _, rfl, .ty _, .base (.int _), kit_ty (r := true) (by decide +kernel), _, rfl, iteT ?_⟩
    refine ⟨_, rfl, _, _, _, _, _, rfl, .ty _, .base (.int _), kit_ty (r := false) (by decide +kernel), _, rfl, _, rfl, iteT ?_⟩
    refine ⟨_, rfl, _, _, rfl, rfl, _, rfl, ?_⟩
    rw [decide_eq_true (show (0 : Int) ≤ (n : Int) by omega)]
    refine iteT ⟨_, rfl, _, _, rfl, rfl, ?_⟩
    show Q (.bl (decide ((n : Int) < (m : Int)))) H
    rw [decide_eq_true (show (n : Int) < (m : Int) by omega)]
    exact k
theorem ok_round_right (F : FnP K "_law_round_right" "_law_round_right" s_round_rightL f fd) (M_RoundPlan_take : Mn P w K mg base 6 CP "take" ["self", "number", "lane"] (sp_take CR CP)) (D_numberL : Dn P w K mg base 1 "_law_number" ["_law_value", "_law_limit"] sp_number) (D_whole_isL : Dn P w K mg base 1 "_law_whole_is" ["_law_value", "_law_due"] sp_whole_is) (M_RoundPlan_when : Mn P w K mg base 6 CP "when" ["self", "lane", "entry"] (sp_when CR CP)) : FnOk P w K mg base CX0 7 f fd ["_law_plan", "_law_number_here", "_law_lots_here", "_law_wants", "_law_got"] (sp_round_right CR CP) := by
  have nd := sc_round_rightL.nd
  refine fnok F sc_round_rightL (fun vs H Q E h => ?_) (fun cdv A outer s H vs Q E hr h => ?_)
  · obtain ⟨H0, x, lo, wa, go, gs, b, ss, ls, os, ps, st, sh, wd, sk, n, rfl, _⟩ := h
    rfl
  · obtain ⟨H0, x, lo, wa, go, gs, b, ss, ls, os, ps, st, sh, wd, sk, n, rfl, s0, lt, hgo, hgs, gnd, gno, gl, G, hn, k⟩ := h
    refine ⟨_, (pss_cons (ps_setLc (i := 5) (own := [("_law_lot", 10)]) (g := gName 10) (by rfl) nd rfl rfl (sw_true rfl rfl rfl (by decide +kernel)) (pi_seq (pv 2)) (blkOk_by (own := [("_law_lot", 10)]) (N := ["_law_plan", "_law_number_here", "_law_lots_here", "_law_wants", "_law_got", "_law_shown", "_law_lane", "_law_pair", "_law_source", "_law_entry", "_law_lot"]) (sc := defScope s_round_rightL) (by decide +kernel)) (fun _ _ _ _ _ => (pg_name (i := 10) nd rfl (Or.inl rfl))) (fun _ _ _ _ _ => pts_nil) (fun _ _ _ _ _ => pe_non))
  (pss_cons (ps_for PassesOwn.never rfl (pi_range1 (by rfl) T.range (pa_cons (pe_callB call_lenQ (by rfl) T.len PySem.boot_len (pa_cons (pv 2) pa_nil)) pa_nil)) (pg_name (i := 6) nd rfl (Or.inl rfl))
    (pss_cons (ps_set (i := 7) nd rfl (Or.inl rfl) (pe_m (pv 0) M_RoundPlan_take hr (pa_cons (pv 1) (pa_cons (pv 6) pa_nil))))
    (pss_one (ps_if (pt_cmpR op_notN (pv 7) pe_non (nomark _))
      (pss_cons (ps_if (PW.pt (pw_or (pt_not (pt_val (pe_callB call_isi (by rfl) T.isinstance (by decide +kernel) (pa_cons (pv 7) (pa_cons (pe_bltn (v := .ty "tuple") (by rfl) T.tuple (by decide +kernel) rfl) pa_nil))))) (pw_or (pt_cmpR op_ne (pe_callB call_lenQ (by rfl) T.len PySem.boot_len (pa_cons (pv 7) pa_nil)) pe_int (nomark _)) (pw_or1 (pt_not (pt_val (pe_d D_numberL hr (pa_cons (pe_ix ix_q (pv 7) pe_int (fun _ _ => rfl)) (pa_cons (pe_callB call_lenQ (by rfl) T.len PySem.boot_len (pa_cons (pv 2) pa_nil)) pa_nil)))))))))
        (pss_one (ps_ret pe_bl))
        pss_nil)
      (pss_cons (ps_asg (pv 7) (pg_tup (by rfl) (pgs_cons (pg_name (i := 8) nd rfl (Or.inl rfl)) (pgs_cons (pg_name (i := 9) nd rfl (Or.inl rfl)) pgs_nil))))
      (pss_cons (ps_if (PW.pt (pw_or (pt_not (pt_val (pe_d D_whole_isL hr (pa_cons (pv 9) (pa_cons (pv 9) pa_nil))))) (pw_or (pt_cmpR on_notIn (pv 9) (pe_ix ix_q (pv 2) (pv 8) (fun _ _ => rfl)) (by rfl)) (pw_or1 (pt_cmpR on_notIn (pv 9) (pe_ix ix_q (pv 3) (pv 6) (fun _ _ => rfl)) (by rfl))))))
        (pss_one (ps_ret pe_bl))
        pss_nil)
      (pss_cons (ps_if (PW.pt (pw_or (pt_cmpR on_in (pv 9) (pe_ix ix_q (pv 4) (pv 6) (fun _ _ => rfl)) (by rfl)) (pw_or1 (PW.pt (pw_and (pt_cmpR op_notN (pe_ix ix_q (pv 5) (pv 8) (fun _ _ => rfl)) pe_non (nomark _)) (pw_and1 (pt_cmpR op_ne (pe_ix ix_q (pv 5) (pv 8) (fun _ _ => rfl)) (pv 9) (nomark _))))))))
        (pss_one (ps_ret pe_bl))
        pss_nil)
      (pss_cons (ps_if (pt_not (pt_val (pe_d D_whole_isL hr (pa_cons (pe_m (pv 0) M_RoundPlan_when hr (pa_cons (pv 6) (pa_cons (pv 9) pa_nil))) (pa_cons (pv 1) pa_nil)))))
        (pss_one (ps_ret pe_bl))
        pss_nil)
      (pss_cons (ps_asg (pv 9) (pg_sub (pv 5) (pv 8) set_list))
      (pss_one (ps_expr (pe_bm PySem.F.plainAttrs_list PySem.F.slot_list_append PySem.F.type_list_append mt_append (pe_ix ix_q (pv 4) (pv 6) (fun _ _ => rfl)) (pa_cons (pv 9) pa_nil))))))))))
      pss_nil))))
  (pss_one (ps_ret pe_bl)))), ?_⟩
    obtain ⟨pl, pn, hlo, hwa, w1, w2, hl, hb, z1, z2, z3⟩ := lt
    have pl' := pl
    obtain ⟨dx, a, sa, ha, wa', hx, _⟩ := pl'
    obtain ⟨ds, d1, d2, d3⟩ := hlo
    obtain ⟨es, e1, e2, e3⟩ := hwa
    have a1 := fun y hy => blen_le.mp (w1.s y hy)
    have a2 := fun y hy => blen_le.mp (w1.l y hy)
    have tl : 2 ^ ls.length ≤ 65536 := Nat.pow_le_pow_right (n := 2) (j := 16) (by decide) z3
    have ol : 2 ^ rk os ≤ 65536 := Nat.pow_le_pow_right (n := 2) (j := 16) (by decide) (Nat.le_trans (rk_len os) z2)
    have wl := pn.wl
    have nk : n + sk < 2 ^ wd.length := by omega
    -- shown
    refine ⟨_, rfl, lc_pure ds V.ref (fun _ => true) (fun _ => .non) (.inl (s0 _ _ d1)) (by omega) (fun y H' hy s => ?_) (fun D H1 hD s1 h1 => ?_)⟩
    · intro Z Nx y1 y2
      exact ⟨rfl, y1 rfl _ (Same.refl _)⟩
    rw [filt_true] at h1
    have nD0 : H0 D = none := same_free s0 hD
    have nDgo : D ≠ go := (ne_of_none G.1 hD).symm
    have nDgs : D ∉ gs := fun hm => by
      obtain ⟨L, hL⟩ := List.mem_iff_getElem?.mp hm
      rw [G.2 L D hL] at hD
      cases hD
    have s01 := s0.trans s1
    refine ⟨_, rfl, lo, _, rfl, .inl (s01 _ _ d1), _, rfl, (by rw [List.length_map]; omega), (by rw [List.length_map]; omega), ?_⟩
    rw [List.length_map, d2]
    refine for_range (n := 2 ^ ls.length) (fun i σ Hi => ∃ v6 v7 v8 v9 Sh, σ = [some (.ref x), some (vN n), some (.ref lo), some (.ref wa), some (.ref go), some (.ref D), v6, v7, v8, v9, none] ∧ Same H0 Hi ∧ Gots Hi go gs (gmx st wd sk n i) ∧ Hi D = some (.lst Sh) ∧ Sh.length = 2 ^ ls.length ∧ ∀ q v, Sh[q]? = some v → v = .non ∨ ∃ L, L < 2 ^ ls.length ∧ src ss ls sh wd sk n L = q ∧ v = vN (ent st wd sk n L))
      ⟨none, none, none, none, _, rfl, s01, ⟨s1 _ _ G.1, fun L g hg => by rw [gmx_ge (Nat.not_lt_zero _)]; exact s1 _ _ (G.2 L g hg)⟩, h1, by rw [List.length_map, d2], fun q v hv => ?_⟩ ?_ ?_
    · obtain ⟨y, _, rfl⟩ := map_get hv
      exact .inl rfl
    · rintro i σ Hi hi ⟨v6, v7, v8, v9, Sh, rfl, si, Gi, eD, shl, inv⟩
      rw [show (0 : Int) + (i : Int) = (i : Int) by omega]
      obtain ⟨g, hg⟩ := get_lt (l := gs) (i := i) (by omega)
      obtain ⟨d, hd⟩ := get_lt (l := ds) (i := src ss ls sh wd sk n i) (by rw [d2]; exact pn.src a1 a2 hb _)
      obtain ⟨e, he⟩ := get_lt (l := es) (i := i) (by rw [e2, ← hl]; exact hi)
      -- what the lane takes
      refine ⟨_, rfl, x, dx, _, rfl, si _ _ hx, rfl, _, rfl, _, rfl, x, b, ss, ls, os, ps, st, sh, wd, sk, n, i, rfl, pl.same si, pn, w1, hb, (by omega), (by omega), hn, hi, fun H2 t s2 ht t2 => ?_⟩
      have t2 : H2 t = some (.tup [vN (src ss ls sh wd sk n i), vN (ent st wd sk n i)]) := t2
      have si2 := si.trans s2
      have G2 := Gi.same s2
      have eD2 := s2 _ _ eD
      have hold : ent st wd sk n i ∈ lot ss ls (src ss ls sh wd sk n i) := by
        rw [lot_mem, Nat.xor_comm]
        exact pn.hold a1 a2 hb (n + sk) hi
      have want : ent st wd sk n i ∈ lot os ps i := by
        rw [lot_mem, Nat.xor_comm]
        exact pn.want (L := i) nk
      have fresh := ent_new (L := i) pn hn
      have slt : src ss ls sh wd sk n i < 2 ^ ls.length := pn.src a1 a2 hb (n + sk)
      have elt : ent st wd sk n i < 2 ^ b := Nat.xor_lt_two_pow (imf_lt pn.sm _ _) (pn.wlt _)
      have wh : ∀ v, Whn os st wd sk i (ent st wd sk n i) v → v = vN n := fun v => whn_take (v := v) (L := i) pn hn
      have gi : Hi g = some (.lst ((gts st wd sk n i).map vN)) := by
        have := Gi.2 i g hg
        rwa [gmx_ge (Nat.lt_irrefl _)] at this
      refine ⟨_, rfl, rfl, _, rfl, iteT ?_⟩
      refine ⟨_, rfl, _, _, _, _, _, rfl, .ty _, .base (.tup t2), kit_ty (r := true) (by decide +kernel), _, rfl, iteF ?_⟩
      refine ⟨_, rfl, t, _, rfl, .inr t2, rfl, _, rfl, ?_⟩
      rw [show (!decide (V.int (([vN (src ss ls sh wd sk n i), vN (ent st wd sk n i)].length : Nat) : Int) = V.int 2)) = false by simp]
      refine iteF ⟨_, rfl, t, _, 0, _, rfl, rfl, .inr t2, rfl, _, rfl, lo, _, rfl, .inl (si2 _ _ d1), _, (ds.map V.ref).length, rfl, (by rw [List.length_map, d2]; exact slt), _, rfl, iteF ?_⟩
      refine ⟨_, rfl, t, _, rfl, SqT.of t2, rfl, _, _, rfl, _, _, rfl, rfl, ?_⟩
      -- it is held there, and wanted here
      refine ⟨_, rfl, _, rfl, ent st wd sk n i, rfl, _, rfl, iteF ?_⟩
      refine ⟨_, rfl, _, rfl, _, rfl, lo, _, src ss ls sh wd sk n i, .ref d, rfl, rfl, .inl (si2 _ _ d1), get_ref hd, ent st wd sk n i, d, _, rfl, rfl, .inl (si2 _ _ (d3 _ d hd)), _, rfl, ?_⟩
      rw [decide_eq_true hold]
      refine iteF ⟨_, rfl, _, rfl, _, rfl, wa, _, i, .ref e, rfl, rfl, .inl (si2 _ _ e1), get_ref he, ent st wd sk n i, e, _, rfl, rfl, .inl (si2 _ _ (e3 _ e he)), _, rfl, ?_⟩
      rw [decide_eq_true want]
      refine iteF ?_
      -- it is new, and the same from the same lane
      refine ⟨_, rfl, _, rfl, _, rfl, go, _, i, .ref g, rfl, rfl, .inl G2.1, get_ref hg, ent st wd sk n i, g, _, rfl, rfl, .inl (s2 _ _ gi), _, rfl, ?_⟩
      rw [decide_eq_false fresh]
      refine iteF ?_
      obtain ⟨v, hv⟩ := get_lt (l := Sh) (i := src ss ls sh wd sk n i) (by rw [shl]; exact slt)
      have gm : g ∈ gs := List.mem_of_getElem? hg
      have ng : g ≠ D := fun z => nDgs (z ▸ gm)
      rcases inv _ v hv with rfl | ⟨L', hL', eS, rfl⟩
      · refine ⟨_, rfl, _, rfl, D, Sh, src ss ls sh wd sk n i, .non, rfl, rfl, .inl eD2, hv, rfl, _, rfl, iteF ?_⟩
        refine ⟨_, rfl, x, dx, _, rfl, si2 _ _ hx, rfl, _, rfl, _, rfl, x, b, ss, ls, os, ps, st, sh, wd, sk, i, ent st wd sk n i, rfl, pl.same si2, pn, w1, (by omega), (by omega), hi, blen_le.mpr elt, fun H3 v3 s3 hv3 => ?_⟩
        have ev := wh v3 hv3
        subst ev
        refine ⟨_, rfl, n, rfl, _, rfl, iteF ?_⟩
        have si3 := si2.trans s3
        have G3 := G2.same s3
        have g3 := s3 _ _ (s2 _ _ gi)
        refine ⟨_, rfl, _, rfl, _, rfl, D, _, _, src ss ls sh wd sk n i, rfl, rfl, s3 _ _ eD2, ix_okN (by rw [shl]; exact slt), ?_⟩
        refine ⟨_, rfl, _, rfl, go, _, i, .ref g, rfl, rfl, .inl (upd_put G3.1 nDgo.symm), get_ref hg, .inl ⟨rfl, _, SqL.of (upd_put g3 ng)⟩, _, rfl, g, _, _, rfl, rfl, upd_put g3 ng, (by rw [List.length_map, gts_len, sizeLine_eq]; rw [wl] at hn; omega), ?_⟩
        refine ⟨_, _, _, _, Sh.set (src ss ls sh wd sk n i) (vN (ent st wd sk n i)), rfl, fun c o hc => upd_put (upd_put (si3 _ _ hc) (ne_of_none hc nD0)) (ne_of_none hc (hgs g gm)), ⟨upd_put (upd_put G3.1 nDgo.symm) (fun z => gno (z ▸ gm)), fun L g' hg' => ?_⟩, upd_put upd_same ng.symm, by rw [List.length_set, shl], fun q v' hv' => ?_⟩
        · by_cases eg : g' = g
          · subst eg
            have eL : L = i := (List.getElem?_inj (List.getElem?_eq_some_iff.mp hg').1 gnd).mp (by rw [hg', hg])
            subst eL
            rw [upd_same, gmx_lt (Nat.lt_succ_self _), gts_succ, List.map_append]; rfl
          · have nL : L ≠ i := fun z => eg (by rw [z, hg] at hg'; exact (Option.some.inj hg').symm)
            have gD : g' ≠ D := fun z => nDgs (z ▸ List.mem_of_getElem? hg')
            have a9 := G3.2 L g' hg'
            rw [show gmx st wd sk n (i + 1) L = gmx st wd sk n i L by
              by_cases z : L < i
              · rw [gmx_lt z, gmx_lt (by omega)]
              · rw [gmx_ge z, gmx_ge (by omega)]]
            exact upd_put (upd_put a9 gD) eg
        · rw [List.getElem?_set] at hv'
          by_cases z : src ss ls sh wd sk n i = q
          · rw [if_pos z] at hv'
            split at hv'
            · exact .inr ⟨i, hi, z, (Option.some.inj hv').symm⟩
            · cases hv'
          · rw [if_neg z] at hv'
            exact inv q v' hv'
      · have ee : ent st wd sk n L' = ent st wd sk n i := by
          have q1 : img sh L' = img sh i := by
            unfold src at eS
            have := congrArg (fun y => y ^^^ lno ss ls (img wd (n + sk))) eS
            simpa [xor_cancel_right] using this
          unfold ent
          rw [pn.inj L' i hL' hi q1]
        refine ⟨_, rfl, _, rfl, D, Sh, src ss ls sh wd sk n i, vN (ent st wd sk n L'), rfl, rfl, .inl eD2, hv, rfl, _, rfl, iteT ?_⟩
        refine ⟨_, rfl, _, rfl, D, Sh, src ss ls sh wd sk n i, vN (ent st wd sk n L'), rfl, rfl, .inl eD2, hv, _, rfl, rfl, _, rfl, ?_⟩
        rw [ee, show (!decide (vN (ent st wd sk n i) = vN (ent st wd sk n i))) = false by simp]
        refine iteF ?_
        refine ⟨_, rfl, x, dx, _, rfl, si2 _ _ hx, rfl, _, rfl, _, rfl, x, b, ss, ls, os, ps, st, sh, wd, sk, i, ent st wd sk n i, rfl, pl.same si2, pn, w1, (by omega), (by omega), hi, blen_le.mpr elt, fun H3 v3 s3 hv3 => ?_⟩
        have ev := wh v3 hv3
        subst ev
        refine ⟨_, rfl, n, rfl, _, rfl, iteF ?_⟩
        have si3 := si2.trans s3
        have G3 := G2.same s3
        have g3 := s3 _ _ (s2 _ _ gi)
        refine ⟨_, rfl, _, rfl, _, rfl, D, _, _, src ss ls sh wd sk n i, rfl, rfl, s3 _ _ eD2, ix_okN (by rw [shl]; exact slt), ?_⟩
        refine ⟨_, rfl, _, rfl, go, _, i, .ref g, rfl, rfl, .inl (upd_put G3.1 nDgo.symm), get_ref hg, .inl ⟨rfl, _, SqL.of (upd_put g3 ng)⟩, _, rfl, g, _, _, rfl, rfl, upd_put g3 ng, (by rw [List.length_map, gts_len, sizeLine_eq]; rw [wl] at hn; omega), ?_⟩
        refine ⟨_, _, _, _, Sh.set (src ss ls sh wd sk n i) (vN (ent st wd sk n i)), rfl, fun c o hc => upd_put (upd_put (si3 _ _ hc) (ne_of_none hc nD0)) (ne_of_none hc (hgs g gm)), ⟨upd_put (upd_put G3.1 nDgo.symm) (fun z => gno (z ▸ gm)), fun L g' hg' => ?_⟩, upd_put upd_same ng.symm, by rw [List.length_set, shl], fun q v' hv' => ?_⟩
        · by_cases eg : g' = g
          · subst eg
            have eL : L = i := (List.getElem?_inj (List.getElem?_eq_some_iff.mp hg').1 gnd).mp (by rw [hg', hg])
            subst eL
            rw [upd_same, gmx_lt (Nat.lt_succ_self _), gts_succ, List.map_append]; rfl
          · have nL : L ≠ i := fun z => eg (by rw [z, hg] at hg'; exact (Option.some.inj hg').symm)
            have gD : g' ≠ D := fun z => nDgs (z ▸ List.mem_of_getElem? hg')
            have a9 := G3.2 L g' hg'
            rw [show gmx st wd sk n (i + 1) L = gmx st wd sk n i L by
              by_cases z : L < i
              · rw [gmx_lt z, gmx_lt (by omega)]
              · rw [gmx_ge z, gmx_ge (by omega)]]
            exact upd_put (upd_put a9 gD) eg
        · rw [List.getElem?_set] at hv'
          by_cases z : src ss ls sh wd sk n i = q
          · rw [if_pos z] at hv'
            split at hv'
            · exact .inr ⟨i, hi, z, (Option.some.inj hv').symm⟩
            · cases hv'
          · rw [if_neg z] at hv'
            exact inv q v' hv'
    · rintro σ Hi ⟨v6, v7, v8, v9, Sh, rfl, si, Gi, eD, shl, inv⟩
      refine k _ si ⟨Gi.1, fun L g hg => ?_⟩
      have := Gi.2 L g hg
      have hL : L < 2 ^ ls.length := by rw [← gl]; exact (List.getElem?_eq_some_iff.mp hg).1
      rwa [gmx_lt hL] at this
end
end LaneX
set_option Elab.async false
set_option linter.all false
set_option maxRecDepth 100000
set_option maxHeartbeats 4000000
namespace LaneX
open PySem PySem.Spec PyProof.Rows L2
theorem pi_seqK {X : Cx} {K : PySem.W.Frag} {tg : Expr} {l : Expr} {tl : TE} (hl : PE X l tl) (hK : X.K = K := by rfl) : PI X tg l (iSeq K tl) := by
  subst hK
  exact pi_seq hl
def sp_plan_right (CR : Addr) : Sp := fun vs H Q _ => ∃ (q1 q2 lo wa en : Addr) (b : Nat) (ss ls os ps es : List Nat), vs = [.ref q1, .ref q2, .ref lo, .ref wa, .ref en] ∧ SpreadAt CR H q1 b ss ls ∧ SpreadAt CR H q2 b os ps ∧ WfR b ss ls ∧ WfR b os ps ∧ ls.length = ps.length ∧ b ≤ rk (ss ++ ls) ∧ b ≤ rk (os ++ ps) ∧ ss.length ≤ 16 ∧ os.length ≤ 16 ∧ ls.length ≤ 16 ∧ Lots H lo ss ls ∧ Lots H wa os ps ∧ H en = some (.lst (es.map vN)) ∧ es.length ≤ 100 ∧ (∀ e ∈ es, e < 2 ^ b) ∧ ∀ H', Same H H' → Q (.bl true) H'
section
variable {P : Program} {w : World} {K : PySem.W.Frag} {mg : Str → Option Value} {base : Heap} {f : Addr} {fd : FuncData} {CR CP : Addr} (T : Bt mg) (TP : RoundT K mg CP)
include T TP
theorem ok_plan_right (F : FnP K "_law_plan_right" "_law_plan_right" s_plan_rightL f fd) (D_plan_rounds : Dn P w K mg base 10 "plan_rounds" ["one", "other"] (sp_plan_rounds CR CP)) (D_whole_isL : Dn P w K mg base 1 "_law_whole_is" ["_law_value", "_law_due"] sp_whole_is) (D_fewest_rounds : Dn P w K mg base 6 "fewest_rounds" ["one", "other"] (sp_fewest_rounds CR)) (D_round_rightL : Dn P w K mg base 7 "_law_round_right" ["_law_plan", "_law_number_here", "_law_lots_here", "_law_wants", "_law_got"] (sp_round_right CR CP)) (M_RoundPlan_when : Mn P w K mg base 6 CP "when" ["self", "lane", "entry"] (sp_when CR CP)) : FnOk P w K mg base CX0 11 f fd ["_law_one", "_law_other", "_law_lots_here", "_law_wants", "_law_entries"] (sp_plan_right CR) := by
  have nd := sc_plan_rightL.nd
  refine fnok F sc_plan_rightL (fun vs H Q E h => ?_) (fun cdv A outer s H vs Q E hr h => ?_)
  · obtain ⟨q1, q2, lo, wa, en, b, ss, ls, os, ps, es, rfl, _⟩ := h
    rfl
  · obtain ⟨q1, q2, lo, wa, en, b, ss, ls, os, ps, es, rfl, hp, hq, w1, w2, hl, hb, hb2, z1, z2, z3, hlo, hwa, hen, el, eb, k⟩ := h
    refine ⟨_, (pss_cons (ps_set (i := 5) nd rfl (Or.inr rfl) (pe_d D_plan_rounds hr (pa_cons (pv 0) (pa_cons (pv 1) pa_nil))))
  (pss_cons (ps_set (i := 6) nd rfl (Or.inl rfl) (pe_callB (cr_maxN rfl) (by rfl) T.max (by decide +kernel) (pa_cons (pe_lc (own := [("_law_k", 10)]) (g := gName 10) (by rfl) nd (pi_range1 (by rfl) T.range (pa_cons (pe_callB call_lenQ (by rfl) T.len PySem.boot_len (pa_cons (pv 2) pa_nil)) pa_nil)) (blkOk_by (own := [("_law_k", 10)]) (N := ["_law_one", "_law_other", "_law_lots_here", "_law_wants", "_law_entries", "_law_plan", "_law_many", "_law_got", "_law_number_here", "_law_lane", "_law_k", "_law_entry", "_law_lot"]) (sc := defScope s_plan_rightL) (by decide +kernel)) (fun _ _ _ _ _ => (pg_name (i := 10) nd rfl (Or.inr rfl))) (fun _ _ _ _ _ => pts_nil) (fun _ _ _ _ _ => (pe_callB call_lenQ (by rfl) T.len PySem.boot_len (pa_cons (by exact (pe_lc (own := [("_law_entry", 11)]) (g := gName 11) (by rfl) nd (pi_seqK (K := K) (pe_ix ix_q (pv 3) (pv 10) (fun _ _ => rfl))) (blkOk_by (own := [("_law_entry", 11)]) (N := ["_law_one", "_law_other", "_law_lots_here", "_law_wants", "_law_entries", "_law_plan", "_law_many", "_law_got", "_law_number_here", "_law_lane", "_law_k", "_law_entry", "_law_lot"]) (sc := { kind := ScopeKind.function, names := [(".0", NameKind.local), ("_law_k", NameKind.cell), ("len", NameKind.globalImplicit), ("_law_lots_here", NameKind.cell), ("_law_wants", NameKind.cell)], isGenerator := false, isCoroutine := false }) (by decide +kernel)) (fun _ _ _ _ _ => (pg_name (i := 11) nd rfl (Or.inl rfl))) (fun _ _ _ _ _ => (pts_one (pt_cmpR on_notIn (pv 11) (pe_ix ix_q (pv 2) (pv 10) (fun _ _ => rfl)) (by rfl)))) (fun _ _ _ _ _ => (pv 11)))) pa_nil)))) pa_nil)))
  (pss_cons (ps_if (PW.pt (pw_or (pt_not (pt_val (pe_callB call_isi (by rfl) T.isinstance (by decide +kernel) (pa_cons (pv 5) (pa_cons (pe_glob (v := .ref CP) (by rfl) TP.gl rfl) pa_nil))))) (pw_or1 (pt_not (pt_val (pe_d D_whole_isL hr (pa_cons (pe_fld (pv 5) rfl) (pa_cons (pv 6) pa_nil))))))))
    (pss_one (ps_ret pe_bl))
    pss_nil)
  (pss_cons (ps_if (pt_not (pt_val (pe_d D_whole_isL hr (pa_cons (pe_d D_fewest_rounds hr (pa_cons (pv 0) (pa_cons (pv 1) pa_nil))) (pa_cons (pv 6) pa_nil)))))
    (pss_one (ps_ret pe_bl))
    pss_nil)
  (pss_cons (ps_set (i := 7) nd rfl (Or.inr rfl) (pe_lc (own := [("_law_lot", 12)]) (g := gName 12) (by rfl) nd (pi_seq (pv 2)) (blkOk_by (own := [("_law_lot", 12)]) (N := ["_law_one", "_law_other", "_law_lots_here", "_law_wants", "_law_entries", "_law_plan", "_law_many", "_law_got", "_law_number_here", "_law_lane", "_law_k", "_law_entry", "_law_lot"]) (sc := defScope s_plan_rightL) (by decide +kernel)) (fun _ _ _ _ _ => (pg_name (i := 12) nd rfl (Or.inl rfl))) (fun _ _ _ _ _ => pts_nil) (fun _ _ _ _ _ => (pe_lst pa_nil))))
  (pss_cons (ps_for PassesOwn.never rfl (pi_range1 (by rfl) T.range (pa_cons (pv 6) pa_nil)) (pg_name (i := 8) nd rfl (Or.inl rfl))
    (pss_one (ps_if (pt_not (pt_val (pe_d D_round_rightL hr (pa_cons (pv 5) (pa_cons (pv 8) (pa_cons (pv 2) (pa_cons (pv 3) (pa_cons (pv 7) pa_nil))))))))
      (pss_one (ps_ret pe_bl))
      pss_nil)))
  (pss_cons (ps_for PassesOwn.never rfl (pi_range1 (by rfl) T.range (pa_cons (pe_callB call_lenQ (by rfl) T.len PySem.boot_len (pa_cons (pv 2) pa_nil)) pa_nil)) (pg_name (i := 9) nd rfl (Or.inr rfl))
    (pss_cons (ps_if (pt_val (pe_callB (cr_any rfl) (by rfl) T.any (by decide +kernel) (pa_cons (pe_lc (own := [("_law_entry", 11)]) (g := gName 11) (by rfl) nd (pi_seq (pe_ix ix_q (pv 3) (pv 9) (fun _ _ => rfl))) (blkOk_by (own := [("_law_entry", 11)]) (N := ["_law_one", "_law_other", "_law_lots_here", "_law_wants", "_law_entries", "_law_plan", "_law_many", "_law_got", "_law_number_here", "_law_lane", "_law_k", "_law_entry", "_law_lot"]) (sc := defScope s_plan_rightL) (by decide +kernel)) (fun _ _ _ _ _ => (pg_name (i := 11) nd rfl (Or.inl rfl))) (fun _ _ _ _ _ => pts_nil) (fun _ _ _ _ _ => (pe_and (pe_cmpR on_notIn (pv 11) (pe_ix ix_q (pv 2) (pv 9) (fun _ _ => rfl)) (by rfl)) (pe_one (pe_cmpR on_notIn (pv 11) (pe_ix ix_q (pv 7) (pv 9) (fun _ _ => rfl)) (by rfl)))))) pa_nil)))
      (pss_one (ps_ret pe_bl))
      pss_nil)
    (pss_one (ps_if (pt_val (pe_callB (cr_any rfl) (by rfl) T.any (by decide +kernel) (pa_cons (pe_lc (own := [("_law_entry", 11)]) (g := gName 11) (by rfl) nd (pi_seq (pe_op op_cat (pv 4) (pe_ix ix_q (pv 3) (pv 9) (fun _ _ => rfl)))) (blkOk_by (own := [("_law_entry", 11)]) (N := ["_law_one", "_law_other", "_law_lots_here", "_law_wants", "_law_entries", "_law_plan", "_law_many", "_law_got", "_law_number_here", "_law_lane", "_law_k", "_law_entry", "_law_lot"]) (sc := defScope s_plan_rightL) (by decide +kernel)) (fun _ _ _ _ _ => (pg_name (i := 11) nd rfl (Or.inl rfl))) (fun _ _ _ _ _ => pts_nil) (fun _ _ _ _ _ => (pe_and (pe_cmpR on_notIn (pv 11) (pe_ix ix_q (pv 7) (pv 9) (fun _ _ => rfl)) (by rfl)) (pe_one (pe_cmpR op_notN (pe_m (pv 5) M_RoundPlan_when hr (pa_cons (pv 9) (pa_cons (pv 11) pa_nil))) pe_non (nomark _)))))) pa_nil)))
      (pss_one (ps_ret pe_bl))
      pss_nil))))
  (pss_one (ps_ret pe_bl))))))))), ?_⟩
    obtain ⟨ds, d1, d2, d3⟩ := id hlo
    obtain ⟨es', e1, e2, e3⟩ := id hwa
    have a1 := fun y hy => blen_le.mp (w1.s y hy)
    have a3 := fun y hy => blen_le.mp (w2.s y hy)
    have a4 := fun y hy => blen_le.mp (w2.l y hy)
    have tl : 2 ^ ls.length ≤ 65536 := Nat.pow_le_pow_right (n := 2) (j := 16) (by decide) z3
    have ol : 2 ^ rk os ≤ 65536 := Nat.pow_le_pow_right (n := 2) (j := 16) (by decide) (Nat.le_trans (rk_len os) z2)
    have wh : Whl2 b ss ls os ps := ⟨hb, hb2, by omega, by omega, by omega⟩
    refine ⟨_, rfl, _, rfl, q1, q2, b, ss, ls, os, ps, rfl, hp, hq, w1, w2, hl, wh, fun H1 x st sh wd sk s1 hx1 pl pn => ?_⟩
    have pl' := pl
    obtain ⟨dx, a, sa, ha, wa', hx, _⟩ := pl'
    have sk1 := pn.sk1
    have wl := pn.wl
    -- the most that a lane lacks
    refine ⟨_, rfl, lo, _, rfl, .inl (s1 _ _ d1), _, rfl, (by rw [List.length_map]; omega), (by rw [List.length_map]; omega), ?_⟩
    rw [List.length_map, d2]
    refine lc_pureR (n := 2 ^ ls.length) (fun _ => true) (fun i => vN (due ss ls os ps i)) (by omega) (fun i H' hi s => ?_) (fun D H2 hD s2 h2 => ?_)
    · intro Z Nx y1 y2
      obtain ⟨d, hd⟩ := get_lt (l := ds) (i := i) (by omega)
      obtain ⟨e, he⟩ := get_lt (l := es') (i := i) (by rw [e2, ← hl]; exact hi)
      have ll := lot_len os ps i
      have sA := s1.trans s
      refine ⟨rfl, _, rfl, _, rfl, wa, _, i, _, rfl, rfl, .inl (sA _ _ e1), get_ref he, ?_⟩
      refine lc_pure (lot os ps i) vN (fun x => !decide (x ∈ lot ss ls i)) vN (.inl (sA _ _ (e3 i e he))) (by omega) (fun y H'' hy s' => ?_) (fun D3 H3 hD3 s3 h3 => ?_)
      · intro Z Nx z1 z2
        refine ⟨rfl, _, rfl, _, rfl, _, rfl, lo, _, i, _, rfl, rfl, .inl (s' _ _ (sA _ _ d1)), get_ref hd, y, d, _, rfl, rfl, .inl (s' _ _ (sA _ _ (d3 i d hd))), _, rfl, ?_⟩
        exact br (fun z => ⟨_, rfl, z1 z _ (Same.refl _)⟩) (fun z => z2 z _ (Same.refl _))
      · refine ⟨D3, _, rfl, .inl h3, ?_⟩
        rw [List.length_map]
        exact y1 rfl _ s3
    rw [filt_true] at h2
    have h2 : H2 D = some (.lst (((List.range (2 ^ ls.length)).map (due ss ls os ps)).map vN)) := by rw [h2, List.map_map]; rfl
    generalize hdu : (List.range (2 ^ ls.length)).map (due ss ls os ps) = du at *
    have dul : du.length = 2 ^ ls.length := by rw [← hdu]; simp
    have dug : ∀ L, L < 2 ^ ls.length → du[L]? = some (due ss ls os ps L) := fun L hL => by rw [← hdu, List.getElem?_map, List.getElem?_range hL]; rfl
    have mx : ∀ m, m ∈ du → (∀ x ∈ du, x ≤ m) → m = fwr ss ls os ps := fun m hm hle => by
      rw [← hdu] at hm
      obtain ⟨L, hL, rfl⟩ := List.mem_map.mp hm
      obtain ⟨L2, h2a, h2b⟩ := due_reach (os := os) a1 hl
      have := hle (fwr ss ls os ps) (by rw [← h2b]; exact List.mem_of_getElem? (dug L2 h2a))
      exact Nat.le_antisymm (due_le a1 hl L) this
    refine ⟨D, du, rfl, h2, (by rw [dul]; exact Nat.two_pow_pos _), fun m hm hle => ?_⟩
    have em := mx m hm hle
    subst em
    have s12 := s1.trans s2
    have hx2 := s2 _ _ hx
    refine ⟨_, rfl, _, _, _, _, _, rfl, .own _, TP.ty hx2, TP.me, _, rfl, iteF ?_⟩
    refine ⟨_, rfl, x, CP, dx, _, vN (2 ^ wd.length - sk), rfl, hx2, TP.cl, TP.nd, rfl, _, rfl, fwr ss ls os ps, (by rw [sk1]; rfl), _, rfl, iteF ?_⟩
    refine ⟨_, rfl, _, rfl, q1, q2, b, ss, ls, os, ps, rfl, hp.same s12, hq.same s12, w1, w2, hl, fun H3 s3 => ⟨_, rfl, _, rfl, _, rfl, iteF ?_⟩⟩
    have s13 := s12.trans s3
    have lt2 : Lot2 CR CP H3 x lo wa b ss ls os ps st sh wd sk := ⟨pl.same (s2.trans s3), pn, hlo.same s13, hwa.same s13, w1, w2, hl, hb, z1, z2, z3⟩
    have d1' := s13 _ _ d1
    have e1' := s13 _ _ e1
    have hx3 := s3 _ _ hx2
    have hen3 := s13 _ _ hen
    have fle : fwr ss ls os ps ≤ 65536 := by rw [← sk1, wl]; omega
    -- got
    refine ⟨_, rfl, lc_seq (K := K) (Sq.l d1') (fun D i H' => ∃ gs : List Addr, Same H3 H' ∧ H' D = some (.lst (gs.map V.ref)) ∧ gs.length = i ∧ gs.Nodup ∧ ∀ g ∈ gs, H3 g = none ∧ g ≠ D ∧ H' g = some (.lst [])) (fun D hD => ⟨[], same_new0 hD, upd_same, rfl, List.nodup_nil, fun g hg => by cases hg⟩) (fun D i H' hD hp => by obtain ⟨gs, q, _⟩ := hp; exact Kp.of q) (fun D i y H' hD hy hp => ?_) (fun go H4 hgo hp => ?_)⟩
    · obtain ⟨gs, q1', q2', q3, q4, q5⟩ := hp
      refine ⟨rfl, ?_⟩
      refine ⟨(by decide), fun g hg => ?_⟩
      have ngD : D ≠ g := ne_of_none q2' hg
      have il := (List.getElem?_eq_some_iff.mp hy).1
      rw [List.length_map] at il
      refine ⟨_, upd_new hg q2', (by rw [List.length_map, sizeLine_eq]; omega), gs ++ [g], same_put (same_new q1' hg) hD, ?_, by rw [List.length_append, q3]; rfl, ?_, fun g' hg' => ?_⟩
      · rw [upd_same, List.map_append]; rfl
      · rw [List.nodup_append]
        refine ⟨q4, List.nodup_cons.mpr ⟨by simp, List.nodup_nil⟩, fun c hc c' hc' z => ?_⟩
        rw [List.mem_singleton.mp hc'] at z
        subst z
        rw [(q5 c hc).2.2] at hg
        cases hg
      · rcases List.mem_append.mp hg' with h | h
        · obtain ⟨r1, r2, r3⟩ := q5 g' h
          exact ⟨r1, r2, upd_put (upd_new hg r3) r2⟩
        · rw [List.mem_singleton.mp h]
          exact ⟨same_free q1' hg, ngD.symm, upd_put upd_same ngD.symm⟩
    obtain ⟨gs, s4, e4, gl, gnd, gall⟩ := hp
    rw [List.length_map, d2] at gl
    have gno : go ∉ gs := fun z => (gall go z).2.1 rfl
    -- the rounds
    refine ⟨_, rfl, _, rfl, (by omega), (by omega), for_range (n := fwr ss ls os ps) (fun m σ Hm => ∃ v8, σ = [some (.ref q1), some (.ref q2), some (.ref lo), some (.ref wa), some (.ref en), some (.ref x), some (vN (fwr ss ls os ps)), some (.ref go), v8, none, none, none, none] ∧ Same H3 Hm ∧ Gots Hm go gs (gts st wd sk m)) ⟨none, rfl, s4, e4, fun L g hg => (gall g (List.mem_of_getElem? hg)).2.2⟩ ?_ ?_⟩
    · rintro m σ Hm hm ⟨v8, rfl, sm, Gm⟩
      rw [show (0 : Int) + (m : Int) = (m : Int) by omega]
      refine ⟨_, rfl, _, rfl, _, rfl, _, rfl, _, rfl, H3, x, lo, wa, go, gs, b, ss, ls, os, ps, st, sh, wd, sk, m, rfl, sm, lt2, hgo, (fun g hg => (gall g hg).1), gnd, gno, gl, Gm, (by rw [sk1]; exact hm), fun H5 s5 G5 => ⟨_, rfl, iteF ?_⟩⟩
      exact ⟨_, rfl, s5, G5⟩
    rintro σ H5 ⟨v8, rfl, s5, G5⟩
    -- each lane has what it lacked
    have s05 := s13.trans s5
    refine ⟨_, rfl, lo, _, rfl, .inl (s5 _ _ d1'), _, rfl, (by rw [List.length_map]; omega), (by rw [List.length_map]; omega), ?_⟩
    rw [List.length_map, d2]
    refine for_range (n := 2 ^ ls.length) (fun i σ Hi => ∃ v9, σ = [some (.ref q1), some (.ref q2), some (.ref lo), some (.ref wa), some (.ref en), some (.ref x), some (vN (fwr ss ls os ps)), some (.ref go), v8, v9, none, none, none] ∧ Same H5 Hi) ⟨none, rfl, Same.refl _⟩ ?_ ?_
    · rintro i σ Hi hi ⟨v9, rfl, si⟩
      rw [show (0 : Int) + (i : Int) = (i : Int) by omega]
      obtain ⟨d, hd⟩ := get_lt (l := ds) (i := i) (by omega)
      obtain ⟨e, he⟩ := get_lt (l := es') (i := i) (by rw [e2, ← hl]; exact hi)
      obtain ⟨g, hg⟩ := get_lt (l := gs) (i := i) (by omega)
      have ll := lot_len os ps i
      have sI := s05.trans si
      have GI := G5.same si
      have gI := GI.2 i g hg
      have got_of : ∀ y q, q < 2 ^ wd.length → img wd q = y ^^^ img st i → sk ≤ q → y ∈ gts st wd sk (fwr ss ls os ps) i := fun y q h1 h2 h3 => by
        refine List.mem_map.mpr ⟨q - sk, List.mem_range.mpr (by omega), ?_⟩
        unfold ent
        rw [Nat.sub_add_cancel h3, h2, Nat.xor_comm y, xor_cancel]
      have lotlt : ∀ y ∈ lot os ps i, y < 2 ^ b := fun y hy => by
        have q := (lot_mem os ps i y).mp hy
        have q2 := Nat.xor_lt_two_pow (imf_lt a4 i ps.length) (q.lt a3)
        have q3 : imf ps i ps.length ^^^ (img ps i ^^^ y) = y := xor_cancel _ _
        rwa [q3] at q2
      refine ⟨_, rfl, _, rfl, wa, _, i, _, rfl, rfl, .inl (sI _ _ e1), get_ref he, lc_pure (lot os ps i) vN (fun _ => true) (fun _ => .bl false) (.inl (sI _ _ (e3 i e he))) (by omega) (fun y H' hy s => ?_) (fun D6 H6 hD6 s6 h6 => ?_)⟩
      · intro Z Nx y1 y2
        refine ⟨rfl, _, rfl, _, rfl, _, rfl, lo, _, i, _, rfl, rfl, .inl (s _ _ (sI _ _ d1)), get_ref hd, y, d, _, rfl, rfl, .inl (s _ _ (sI _ _ (d3 i d hd))), _, rfl, ?_⟩
        by_cases inl : y ∈ lot ss ls i
        · rw [decide_eq_true inl]
          exact iteF (y1 rfl _ (Same.refl _))
        · rw [decide_eq_false inl]
          refine iteT ⟨_, rfl, _, rfl, _, rfl, go, _, i, _, rfl, rfl, .inl (s _ _ GI.1), get_ref hg, y, g, _, rfl, rfl, .inl (s _ _ gI), ?_⟩
          have wn : Spn os (y ^^^ img st i) := by
            rw [pn.in_wanted, Nat.xor_comm]
            exact (lot_mem os ps i y).mp hy
          obtain ⟨q, hq1, hq2⟩ := span_img (cols := wd) (Nat.le_refl _) (by rw [List.take_length]; exact (pn.ws _).mpr wn)
          have inG : y ∈ gts st wd sk (fwr ss ls os ps) i := by
            by_cases z : sk ≤ q
            · exact got_of y q hq1 hq2 z
            · refine absurd ?_ inl
              have := pn.low q i (by omega)
              rw [lot_mem]
              have e5 : img wd q ^^^ (img st i ^^^ img ls i) = img ls i ^^^ y := by rw [hq2, Nat.xor_assoc, xor_cancel, Nat.xor_comm]
              rwa [e5] at this
          rw [decide_eq_true inG]
          exact y1 rfl _ (Same.refl _)
      rw [filt_true] at h6
      refine ⟨D6, List.replicate (lot os ps i).length false, rfl, SqL.of (by rw [h6]; simp [List.map_const']), ?_⟩
      rw [show (List.replicate (lot os ps i).length false).any id = false by simp]
      refine ⟨_, rfl, iteF ?_⟩
      have si6 := si.trans s6
      have sJ := s05.trans si6
      have GJ := G5.same si6
      have gJ := GJ.2 i g hg
      refine ⟨_, rfl, _, rfl, _, rfl, wa, _, i, _, rfl, rfl, .inl (sJ _ _ e1), get_ref he, _, _, _, _, rfl, rfl, sJ _ _ hen, sJ _ _ (e3 i e he), (by rw [List.length_map, List.length_map, sizeLine_eq]; omega), fun c0 hc0 => ?_⟩
      have s7 := same_new0 (o := .lst (es.map vN ++ (lot os ps i).map vN)) hc0
      refine lc_pure (es ++ lot os ps i) vN (fun _ => true) (fun _ => .bl false) (.inl (by rw [upd_same, List.map_append])) (by rw [List.length_append]; omega) (fun y H' hy s => ?_) (fun D8 H8 hD8 s8 h8 => ?_)
      · intro Z Nx y1 y2
        have sK := s7.trans s
        refine ⟨rfl, _, rfl, _, rfl, _, rfl, go, _, i, _, rfl, rfl, .inl (sK _ _ GJ.1), get_ref hg, y, g, _, rfl, rfl, .inl (sK _ _ gJ), _, rfl, ?_⟩
        by_cases inG : y ∈ gts st wd sk (fwr ss ls os ps) i
        · rw [decide_eq_true inG]
          exact iteF (y1 rfl _ (Same.refl _))
        · rw [decide_eq_false inG]
          have yb : y < 2 ^ b := by
            rcases List.mem_append.mp hy with h | h
            · exact eb y h
            · exact lotlt y h
          have sx := (s5.trans si6).trans sK
          refine iteT ⟨_, rfl, x, dx, _, rfl, sx _ _ hx3, rfl, _, rfl, _, rfl, x, b, ss, ls, os, ps, st, sh, wd, sk, i, y, rfl, lt2.pl.same sx, pn, w1, (by omega), (by omega), hi, blen_le.mpr yb, fun H9 v s9 hv => ⟨rfl, ?_⟩⟩
          have ev : v = .non := by
            rcases hv with ⟨q, r1, r2, r3, r4⟩ | ⟨r1, _⟩
            · exact absurd (got_of y q r1 r2 r3) inG
            · exact r1
          subst ev
          exact y1 rfl _ s9
      rw [filt_true] at h8
      refine ⟨D8, List.replicate (es ++ lot os ps i).length false, rfl, SqL.of (by rw [h8]; simp [List.map_const']), ?_⟩
      rw [show (List.replicate (es ++ lot os ps i).length false).any id = false by simp]
      refine ⟨_, rfl, iteF ?_⟩
      exact ⟨_, rfl, (si6.trans s7).trans s8⟩
    · rintro σ Hi ⟨v9, rfl, si⟩
      exact k _ (s05.trans si)
end
end LaneX
set_option Elab.async false
set_option linter.all false
set_option maxRecDepth 100000
set_option maxHeartbeats 4000000
namespace LaneX
open PySem PySem.Spec PyProof.Rows L2
theorem mk_SpreadR {C : Addr} {H1 : Hp} {b : Nat} {a c : Addr} {ss ls : List Nat} {R : Addr → VK} {E : XK} (hS : Tq H1 a (ss.map vN)) (hL : Tq H1 c (ls.map vN)) (wf : WfR b ss ls) (hk : b ≤ rk (ss ++ ls)) (k : ∀ H' p, Same H1 H' → H1 p = none → SpreadAt C H' p b ss ls → R p .non H') :
    ∀ x dx, H1 x = none → H1 dx = none → dx ≠ x → sp_Spread C (.ref x :: ([vN b, .ref a, .ref c] ++ [])) (upd (upd H1 dx (.own x)) x (.ins C dx [])) (R x) E := by
  intro x dx nx ndx ne
  have nx' : upd H1 dx (.own x) x = none := (upd_ne ne.symm).trans nx
  refine ⟨x, dx, b, a, c, ss, ls, rfl, upd_same, (hS.new ndx).new nx', (hL.new ndx).new nx', wf.s, wf.l, wf.sl, wf.ll, hk, fun H' hA kp => k _ _ (made_same nx ndx kp) nx hA⟩
theorem Two.wf1 {mo la b : Nat} {ss ls os ps : List Nat} (h : Two mo la b ss ls os ps) (h1 : mo ≤ 100) (h2 : la ≤ 100) : WfR b ss ls := by
  have := h.bb; have := h.s1; have := h.l1
  exact ⟨by omega, fun x hx => blen_le.mpr (h.a1 x hx), fun x hx => blen_le.mpr (h.a2 x hx), by omega, by omega⟩
theorem Two.wf2 {mo la b : Nat} {ss ls os ps : List Nat} (h : Two mo la b ss ls os ps) (h1 : mo ≤ 100) (h2 : la ≤ 100) : WfR b os ps := by
  have := h.bb; have := h.s2; have := h.l1; have := h.l2
  exact ⟨by omega, fun x hx => blen_le.mpr (h.a3 x hx), fun x hx => blen_le.mpr (h.a4 x hx), by omega, by omega⟩
theorem Lots.kp {H H' : Hp} {q : Addr} {ss ls : List Nat} (h : Lots H q ss ls) (s : Kp H H') : Lots H' q ss ls := by
  obtain ⟨ds, h1, h2, h3⟩ := h
  exact ⟨ds, s _ _ h1 rfl, h2, fun L d hd => s _ _ (h3 L d hd) rfl⟩
def sp_lawK (K : PySem.W.Frag) : Sp := fun vs H Q _ => ∃ (a : Addr) (ns : List Int), vs = [.ref a] ∧ SqL K H a (ns.map V.int) ∧ ns.length ≤ 63 ∧ ∀ H', Q (.bl true) H'
section
variable {P : Program} {w : World} {K : PySem.W.Frag} {mg : Str → Option Value} {base : Heap} {f : Addr} {fd : FuncData} {CR : Addr} (T : Bt mg)
include T
theorem ok_law (F : FnP K "law" "law" s_law f fd) (D_beginL : Dn P w K mg base 1 "_law_begin" ["_law_script"] (sp_begin K)) (D_drawL : Dn P w K mg base 1 "_law_draw" ["_law_tape", "_law_limit"] sp_draw) (D_twoL : Dn P w K mg base 5 "_law_two" ["_law_tape", "_law_most", "_law_lanes"] sp_two) (K_Spread : Kn P w K mg base 4 CR "Spread" ["self", "bits", "slots", "lanes"] (sp_Spread CR)) (D_lotsL : Dn P w K mg base 3 "_law_lots" ["_law_slots", "_law_lanes"] sp_lots) (D_plan_rightL : Dn P w K mg base 11 "_law_plan_right" ["_law_one", "_law_other", "_law_lots_here", "_law_wants", "_law_entries"] (sp_plan_right CR)) : FnOk P w K mg base CX0 12 f fd ["_law_script"] (sp_lawK K) := by
  have nd := sc_law.nd
  refine fnok F sc_law (fun vs H Q E h => ?_) (fun cdv A outer s H vs Q E hr h => ?_)
  · obtain ⟨a, ns, rfl, _⟩ := h
    rfl
  · obtain ⟨a, ns, rfl, hS, hln, k⟩ := h
    refine ⟨_, (pss_cons (ps_set (i := 1) nd rfl (Or.inr rfl) (pe_d D_beginL hr (pa_cons (pv 0) pa_nil)))
  (pss_cons (ps_set (i := 2) nd rfl (Or.inl rfl) (pe_d D_drawL hr (pa_cons (pv 1) (pa_cons pe_int pa_nil))))
  (pss_cons (ps_asg (pe_d D_twoL hr (pa_cons (pv 1) (pa_cons (pe_op on_add pe_int (pv 2)) (pa_cons (pe_op on_sub pe_int (pv 2)) pa_nil)))) (pg_lst (by rfl) (pgs_cons (pg_name (i := 3) nd rfl (Or.inr rfl)) (pgs_cons (pg_name (i := 4) nd rfl (Or.inl rfl)) (pgs_cons (pg_name (i := 5) nd rfl (Or.inl rfl)) (pgs_cons (pg_name (i := 6) nd rfl (Or.inl rfl)) (pgs_cons (pg_name (i := 7) nd rfl (Or.inl rfl)) pgs_nil)))))))
  (pss_cons (ps_par (i := 8) (j := 9) (by rfl) nd rfl rfl (by decide) rfl rfl (pa_cons (pe_k K_Spread hr (pa_cons (pv 3) (pa_cons (pe_callTy call_listQ (by rfl) T.list (by decide +kernel) (pa_cons (pv 4) pa_nil)) (pa_cons (pe_callTy call_listQ (by rfl) T.list (by decide +kernel) (pa_cons (pv 5) pa_nil)) pa_nil)))) (pa_cons (pe_k K_Spread hr (pa_cons (pv 3) (pa_cons (pe_callTy call_listQ (by rfl) T.list (by decide +kernel) (pa_cons (pv 6) pa_nil)) (pa_cons (pe_callTy call_listQ (by rfl) T.list (by decide +kernel) (pa_cons (pv 7) pa_nil)) pa_nil)))) pa_nil)) (by rfl))
  (pss_cons (ps_par (i := 10) (j := 11) (by rfl) nd rfl rfl (by decide) rfl rfl (pa_cons (pe_d D_lotsL hr (pa_cons (pv 4) (pa_cons (pv 5) pa_nil))) (pa_cons (pe_d D_lotsL hr (pa_cons (pv 6) (pa_cons (pv 7) pa_nil))) pa_nil)) (by rfl))
  (pss_cons (ps_setLc (i := 12) (own := [("_law_k", 13)]) (g := gName 13) (by rfl) nd rfl rfl (sw_true rfl rfl rfl (by decide +kernel)) (pi_range1 (by rfl) T.range (pa_cons pe_int pa_nil)) (blkOk_by (own := [("_law_k", 13)]) (N := ["_law_script", "_law_tape", "_law_size", "_law_bits", "_law_slots", "_law_lanes", "_law_others", "_law_places", "_law_one", "_law_other", "_law_lots_here", "_law_wants", "_law_entries", "_law_k"]) (sc := defScope s_law) (by decide +kernel)) (fun _ _ _ _ _ => (pg_name (i := 13) nd rfl (Or.inl rfl))) (fun _ _ _ _ _ => pts_nil) (fun _ _ _ _ _ => (pe_d D_drawL hr (pa_cons (pv 1) (pa_cons (pe_op on_shl pe_int (pv 3)) pa_nil)))))
  (pss_cons (ps_if (pt_not (pt_val (pe_d D_plan_rightL hr (pa_cons (pv 8) (pa_cons (pv 9) (pa_cons (pv 10) (pa_cons (pv 11) (pa_cons (pv 12) pa_nil))))))))
    (pss_one (ps_ret pe_bl))
    pss_nil)
  (pss_one (ps_ret (pe_d D_plan_rightL hr (pa_cons (pv 9) (pa_cons (pv 8) (pa_cons (pv 11) (pa_cons (pv 10) (pa_cons (pv 12) pa_nil))))))))))))))), ?_⟩
    have o1 : blen 1 ≤ 1000000 := by rw [blen_one]; decide
    refine ⟨_, rfl, a, ns, rfl, hS, (by omega), fun H1 p lc s1 hp1 hP1 => ?_⟩
    refine ⟨_, rfl, p, lc, 0, 2, rfl, hP1, (by decide), small_big (by decide), (by decide), fun H2 z hz hP2 kp2 => ?_⟩
    refine ⟨_, rfl, _, rfl, 1, z, rfl, rfl, _, rfl, 3, z, rfl, rfl, (by omega), p, lc, 1, 1 + z, 3 - z, rfl, hP2, (by omega), (by omega), (by decide), fun H3 q a1 c1 a2 c2 b ss ls os ps tw h2 ha1 hc1 ha2 hc2 hP3 kp3 => ?_⟩
    refine ⟨q, _, rfl, SqL.of h2, rfl, _, _, rfl, _, _, rfl, _, _, rfl, _, _, rfl, _, _, rfl, rfl, ?_⟩
    have w1 := tw.wf1 (by omega) (by omega)
    have w2 := tw.wf2 (by omega) (by omega)
    have t0 := tw.bb
    have t1 := tw.s1
    have t2 := tw.s2
    have t3 := tw.l1
    have t4 := tw.l2
    refine ⟨_, rfl, _, rfl, a1, _, rfl, .inl ha1, fun x1 hx1 => ?_⟩
    have s3 := same_new0 (o := .lst (ss.map vN)) hx1
    refine ⟨_, rfl, c1, _, rfl, .inl (s3 _ _ hc1), fun x2 hx2 => ?_⟩
    have s4 := same_new (o := .lst (ls.map vN)) s3 hx2
    refine mk_SpreadR (.inl (upd_new hx2 upd_same)) (.inl upd_same) w1 tw.r1 (fun H5 q1 s5 hq1 hR1 => ⟨rfl, ?_⟩)
    have s25 := s4.trans s5
    refine ⟨_, rfl, _, rfl, a2, _, rfl, .inl (s25 _ _ ha2), fun x3 hx3 => ?_⟩
    have s6 := same_new0 (o := .lst (os.map vN)) hx3
    refine ⟨_, rfl, c2, _, rfl, .inl (s6 _ _ (s25 _ _ hc2)), fun x4 hx4 => ?_⟩
    have s7 := same_new (o := .lst (ps.map vN)) s6 hx4
    refine mk_SpreadR (.inl (upd_new hx4 upd_same)) (.inl upd_same) w2 tw.r2 (fun H8 q2 s8 hq2 hR2 => ⟨rfl, _, _, rfl, ?_⟩)
    have s58 := s7.trans s8
    have s28 := s25.trans s58
    refine ⟨_, rfl, _, rfl, a1, c1, ss, ls, rfl, s28 _ _ ha1, s28 _ _ hc1, (by omega), (by omega), fun H9 lo s9 hlo => ?_⟩
    refine ⟨_, rfl, _, rfl, a2, c2, os, ps, rfl, s9 _ _ (s28 _ _ ha2), s9 _ _ (s28 _ _ hc2), (by omega), (by omega), fun H10 wa s10 hwa => ⟨_, _, rfl, ?_⟩⟩
    have hlo := hlo.same s10
    have s810 := s9.trans s10
    have R1 := (hR1.same s58).same s810
    have R2 := hR2.same s810
    have tpX := (hP3.same s28).same s810
    -- entries
    refine ⟨3, rfl, (by decide), (by decide), fun D hD => lc_range (fun i Hi => Tp Hi p lc (1 + 200000 + i) ∧ Kp H10 Hi ∧ ∃ g : List Nat, Hi D = some (.lst (g.map vN)) ∧ g.length = i ∧ ∀ x ∈ g, x < 2 ^ b) ⟨tpX.put (tpX.ne hD), kp_new (Kp.refl _) hD, [], upd_same, rfl, fun x hx => by cases hx⟩ (fun i Hi hi hP => ?_) (fun Hi hP => ?_)⟩
    · obtain ⟨ti, ki, g, h1, lg, ag⟩ := hP
      refine ⟨rfl, ?_⟩
      refine ⟨_, rfl, _, rfl, 1, b, rfl, rfl, shl_ok1 o1 (by omega), p, lc, _, 1 <<< b, rfl, ti, (by rw [Nat.one_shiftLeft]; exact Nat.two_pow_pos _), pow_big (by omega), (by show _ ≤ 1099511627776; omega), fun H2 r hr' t2 k2 => ?_⟩
      refine ⟨_, k2 _ _ h1 rfl, (by rw [List.length_map, sizeLine_eq]; omega), t2.put (tpX.ne hD), kp_put (ki.trans k2) hD, g ++ [r], ?_, ?_, fun x hx => ?_⟩
      · rw [upd_same, List.map_append]; rfl
      · rw [List.length_append, lg]; rfl
      · rcases List.mem_append.mp hx with hx | hx
        · exact ag x hx
        · rw [List.mem_singleton.mp hx, ← Nat.one_shiftLeft]; exact hr'
    obtain ⟨ti, ki, g, h1, lg, ag⟩ := hP
    have hlo := hlo.kp ki
    have hwa := hwa.kp ki
    have R1 := R1.kp ki
    have R2 := R2.kp ki
    refine ⟨_, rfl, _, rfl, _, rfl, _, rfl, _, rfl, q1, q2, lo, wa, D, b, ss, ls, os, ps, g, rfl, R1, R2, w1, w2, t4, tw.r1, tw.r2, (by omega), (by omega), (by omega), hlo, hwa, h1, (by omega), ag, fun HA sA => ⟨_, rfl, iteF ?_⟩⟩
    exact ⟨_, rfl, _, rfl, _, rfl, _, rfl, _, rfl, q2, q1, wa, lo, D, b, os, ps, ss, ls, g, rfl, R2.same sA, R1.same sA, w2, w1, t4.symm, tw.r2, tw.r1, (by omega), (by omega), (by omega), hwa.same sA, hlo.same sA, sA _ _ h1, (by omega), ag, fun HB sB => k _⟩
end
end LaneX
set_option Elab.async false
set_option linter.all false
set_option maxRecDepth 100000
set_option maxHeartbeats 0
namespace LaneX
open PySem PySem.Spec PyProof.Rows L2
def fa : List He.Fa := ([.free "all", .free "any", .free "bool", .free "enumerate", .free "int", .free "isinstance", .free "len", .free "list", .free "max", .free "min", .free "range", .free "sorted", .free "sum", .free "tuple", .glo "Space", .cls "Space", .mkr "Space", .noat "Space" "bits", .noat "Space" "rows", .noat "Space" "dimension"] : List He.Fa) ++ ([.glo "Spread", .cls "Spread", .mkr "Spread", .noat "Spread" "bits", .noat "Spread" "slots", .noat "Spread" "lanes", .glo "RoundPlan", .cls "RoundPlan", .mkr "RoundPlan", .noat "RoundPlan" "one", .noat "RoundPlan" "starts", .noat "RoundPlan" "shown", .noat "RoundPlan" "words", .noat "RoundPlan" "skipped", .noat "RoundPlan" "rounds", .glo "is_whole", .glo "need_whole", .glo "need_items", .glo "need_word", .glo "need_words"] : List He.Fa) ++ ([.glo "cleared", .glo "grown", .glo "spanned", .glo "paired", .glo "kernel_rows", .glo "met", .glo "any_spread", .meth "Spread" "twins", .glo "ones", .glo "image_of", .glo "solved", .glo "tops_of", .glo "missing", .glo "need_fit", .glo "lane_sums", .glo "both_rows", .glo "all_hold", .glo "fewest_rounds", .glo "added_rows", .meth "Spread" "lane_of"] : List He.Fa) ++ ([.glo "parts_in", .glo "kept_starts", .glo "wide_starts", .glo "showing_lanes", .glo "plan_rounds", .meth "RoundPlan" "take", .meth "RoundPlan" "when", .glo "_law_draw", .glo "_law_begin", .glo "_law_pick", .glo "_law_whole_is", .glo "_law_less", .glo "_law_rows", .glo "_law_sum", .glo "_law_word", .glo "_law_order", .glo "_law_several", .glo "_law_mixture", .glo "_law_blend", .glo "_law_fair"] : List He.Fa) ++ ([.glo "_law_two", .glo "_law_lots", .glo "_law_number", .glo "_law_round_right", .glo "_law_plan_right", .glo "law"] : List He.Fa)
def d_is_whole : He.DefD := ⟨("is_whole", none), "is_whole", "is_whole", defArgs s_is_whole, defBody s_is_whole, defScope s_is_whole, [], []⟩
def d_need_whole : He.DefD := ⟨("need_whole", none), "need_whole", "need_whole", defArgs s_need_whole, defBody s_need_whole, defScope s_need_whole, [], []⟩
def d_need_items : He.DefD := ⟨("need_items", none), "need_items", "need_items", defArgs s_need_items, defBody s_need_items, defScope s_need_items, [], []⟩
def d_need_word : He.DefD := ⟨("need_word", none), "need_word", "need_word", defArgs s_need_word, defBody s_need_word, defScope s_need_word, [], []⟩
def d_need_words : He.DefD := ⟨("need_words", none), "need_words", "need_words", defArgs s_need_words, defBody s_need_words, defScope s_need_words, [], []⟩
def d_cleared : He.DefD := ⟨("cleared", none), "cleared", "cleared", defArgs s_cleared, defBody s_cleared, defScope s_cleared, [], []⟩
def d_grown : He.DefD := ⟨("grown", none), "grown", "grown", defArgs s_grown, defBody s_grown, defScope s_grown, [], []⟩
def d_spanned : He.DefD := ⟨("spanned", none), "spanned", "spanned", defArgs s_spanned, defBody s_spanned, defScope s_spanned, [], []⟩
def d_paired : He.DefD := ⟨("paired", none), "paired", "paired", defArgs s_paired, defBody s_paired, defScope s_paired, [], []⟩
def d_kernel_rows : He.DefD := ⟨("kernel_rows", none), "kernel_rows", "kernel_rows", defArgs s_kernel_rows, defBody s_kernel_rows, defScope s_kernel_rows, [], []⟩
def d_met : He.DefD := ⟨("met", none), "met", "met", defArgs s_met, defBody s_met, defScope s_met, [], []⟩
def d_Space_init : He.DefD := ⟨("Space", some "__init__"), "__init__", "Space.__init__", defArgs s_Space_init, defBody s_Space_init, defScope s_Space_init, [], []⟩
def d_Spread_init : He.DefD := ⟨("Spread", some "__init__"), "__init__", "Spread.__init__", defArgs s_Spread_init, defBody s_Spread_init, defScope s_Spread_init, [], []⟩
def d_any_spread : He.DefD := ⟨("any_spread", none), "any_spread", "any_spread", defArgs s_any_spread, defBody s_any_spread, defScope s_any_spread, [], []⟩
def d_Spread_twins : He.DefD := ⟨("Spread", some "twins"), "twins", "Spread.twins", defArgs s_Spread_twins, defBody s_Spread_twins, defScope s_Spread_twins, [], []⟩
def d_ones : He.DefD := ⟨("ones", none), "ones", "ones", defArgs s_ones, defBody s_ones, defScope s_ones, [], []⟩
def d_image_of : He.DefD := ⟨("image_of", none), "image_of", "image_of", defArgs s_image_of, defBody s_image_of, defScope s_image_of, [], []⟩
def d_solved : He.DefD := ⟨("solved", none), "solved", "solved", defArgs s_solved, defBody s_solved, defScope s_solved, [], []⟩
def d_tops_of : He.DefD := ⟨("tops_of", none), "tops_of", "tops_of", defArgs s_tops_of, defBody s_tops_of, defScope s_tops_of, [], []⟩
def d_missing : He.DefD := ⟨("missing", none), "missing", "missing", defArgs s_missing, defBody s_missing, defScope s_missing, [], []⟩
def d_need_fit : He.DefD := ⟨("need_fit", none), "need_fit", "need_fit", defArgs s_need_fit, defBody s_need_fit, defScope s_need_fit, [], []⟩
def d_lane_sums : He.DefD := ⟨("lane_sums", none), "lane_sums", "lane_sums", defArgs s_lane_sums, defBody s_lane_sums, defScope s_lane_sums, [], []⟩
def d_both_rows : He.DefD := ⟨("both_rows", none), "both_rows", "both_rows", defArgs s_both_rows, defBody s_both_rows, defScope s_both_rows, [], []⟩
def d_all_hold : He.DefD := ⟨("all_hold", none), "all_hold", "all_hold", defArgs s_all_hold, defBody s_all_hold, defScope s_all_hold, [], []⟩
def d_fewest_rounds : He.DefD := ⟨("fewest_rounds", none), "fewest_rounds", "fewest_rounds", defArgs s_fewest_rounds, defBody s_fewest_rounds, defScope s_fewest_rounds, [], []⟩
def d_added_rows : He.DefD := ⟨("added_rows", none), "added_rows", "added_rows", defArgs s_added_rows, defBody s_added_rows, defScope s_added_rows, [], []⟩
def d_Spread_lane_of : He.DefD := ⟨("Spread", some "lane_of"), "lane_of", "Spread.lane_of", defArgs s_Spread_lane_of, defBody s_Spread_lane_of, defScope s_Spread_lane_of, [], []⟩
def d_parts_in : He.DefD := ⟨("parts_in", none), "parts_in", "parts_in", defArgs s_parts_in, defBody s_parts_in, defScope s_parts_in, [], []⟩
def d_kept_starts : He.DefD := ⟨("kept_starts", none), "kept_starts", "kept_starts", defArgs s_kept_starts, defBody s_kept_starts, defScope s_kept_starts, [], []⟩
def d_wide_starts : He.DefD := ⟨("wide_starts", none), "wide_starts", "wide_starts", defArgs s_wide_starts, defBody s_wide_starts, defScope s_wide_starts, [], []⟩
def d_showing_lanes : He.DefD := ⟨("showing_lanes", none), "showing_lanes", "showing_lanes", defArgs s_showing_lanes, defBody s_showing_lanes, defScope s_showing_lanes, [], []⟩
def d_RoundPlan_init : He.DefD := ⟨("RoundPlan", some "__init__"), "__init__", "RoundPlan.__init__", defArgs s_RoundPlan_init, defBody s_RoundPlan_init, defScope s_RoundPlan_init, [], []⟩
def d_plan_rounds : He.DefD := ⟨("plan_rounds", none), "plan_rounds", "plan_rounds", defArgs s_plan_rounds, defBody s_plan_rounds, defScope s_plan_rounds, [], []⟩
def d_RoundPlan_take : He.DefD := ⟨("RoundPlan", some "take"), "take", "RoundPlan.take", defArgs s_RoundPlan_take, defBody s_RoundPlan_take, defScope s_RoundPlan_take, [], []⟩
def d_RoundPlan_when : He.DefD := ⟨("RoundPlan", some "when"), "when", "RoundPlan.when", defArgs s_RoundPlan_when, defBody s_RoundPlan_when, defScope s_RoundPlan_when, [], []⟩
def d_drawL : He.DefD := ⟨("_law_draw", none), "_law_draw", "_law_draw", defArgs s_drawL, defBody s_drawL, defScope s_drawL, [], []⟩
def d_beginL : He.DefD := ⟨("_law_begin", none), "_law_begin", "_law_begin", defArgs s_beginL, defBody s_beginL, defScope s_beginL, [], []⟩
def d_pickL : He.DefD := ⟨("_law_pick", none), "_law_pick", "_law_pick", defArgs s_pickL, defBody s_pickL, defScope s_pickL, [], []⟩
def d_whole_isL : He.DefD := ⟨("_law_whole_is", none), "_law_whole_is", "_law_whole_is", defArgs s_whole_isL, defBody s_whole_isL, defScope s_whole_isL, [], []⟩
def d_lessL : He.DefD := ⟨("_law_less", none), "_law_less", "_law_less", defArgs s_lessL, defBody s_lessL, defScope s_lessL, [], []⟩
def d_rowsL : He.DefD := ⟨("_law_rows", none), "_law_rows", "_law_rows", defArgs s_rowsL, defBody s_rowsL, defScope s_rowsL, [], []⟩
def d_sumL : He.DefD := ⟨("_law_sum", none), "_law_sum", "_law_sum", defArgs s_sumL, defBody s_sumL, defScope s_sumL, [], []⟩
def d_wordL : He.DefD := ⟨("_law_word", none), "_law_word", "_law_word", defArgs s_wordL, defBody s_wordL, defScope s_wordL, [], []⟩
def d_orderL : He.DefD := ⟨("_law_order", none), "_law_order", "_law_order", defArgs s_orderL, defBody s_orderL, defScope s_orderL, [], []⟩
def d_severalL : He.DefD := ⟨("_law_several", none), "_law_several", "_law_several", defArgs s_severalL, defBody s_severalL, defScope s_severalL, [], []⟩
def d_mixtureL : He.DefD := ⟨("_law_mixture", none), "_law_mixture", "_law_mixture", defArgs s_mixtureL, defBody s_mixtureL, defScope s_mixtureL, [], []⟩
def d_blendL : He.DefD := ⟨("_law_blend", none), "_law_blend", "_law_blend", defArgs s_blendL, defBody s_blendL, defScope s_blendL, [], []⟩
def d_fairL : He.DefD := ⟨("_law_fair", none), "_law_fair", "_law_fair", defArgs s_fairL, defBody s_fairL, defScope s_fairL, [], []⟩
def d_twoL : He.DefD := ⟨("_law_two", none), "_law_two", "_law_two", defArgs s_twoL, defBody s_twoL, defScope s_twoL, [], []⟩
def d_lotsL : He.DefD := ⟨("_law_lots", none), "_law_lots", "_law_lots", defArgs s_lotsL, defBody s_lotsL, defScope s_lotsL, [], []⟩
def d_numberL : He.DefD := ⟨("_law_number", none), "_law_number", "_law_number", defArgs s_numberL, defBody s_numberL, defScope s_numberL, [], []⟩
def d_round_rightL : He.DefD := ⟨("_law_round_right", none), "_law_round_right", "_law_round_right", defArgs s_round_rightL, defBody s_round_rightL, defScope s_round_rightL, [], []⟩
def d_plan_rightL : He.DefD := ⟨("_law_plan_right", none), "_law_plan_right", "_law_plan_right", defArgs s_plan_rightL, defBody s_plan_rightL, defScope s_plan_rightL, [], []⟩
def d_law : He.DefD := ⟨("law", none), "law", "law", defArgs s_law, defBody s_law, defScope s_law, [], []⟩
def fn : List He.DefD := ([d_is_whole, d_need_whole, d_need_items, d_need_word, d_need_words, d_cleared, d_grown, d_spanned, d_paired, d_kernel_rows, d_met, d_Space_init, d_Spread_init, d_any_spread, d_Spread_twins, d_ones, d_image_of, d_solved, d_tops_of, d_missing] : List He.DefD) ++ ([d_need_fit, d_lane_sums, d_both_rows, d_all_hold, d_fewest_rounds, d_added_rows, d_Spread_lane_of, d_parts_in, d_kept_starts, d_wide_starts, d_showing_lanes, d_RoundPlan_init, d_plan_rounds, d_RoundPlan_take, d_RoundPlan_when, d_drawL, d_beginL, d_pickL, d_whole_isL, d_lessL] : List He.DefD) ++ ([d_rowsL, d_sumL, d_wordL, d_orderL, d_severalL, d_mixtureL, d_blendL, d_fairL, d_twoL, d_lotsL, d_numberL, d_round_rightL, d_plan_rightL, d_law] : List He.DefD)
def exC (K : PySem.W.Frag) (C : Addr) : Bool := He.eqO (PySem.W.findIn K (.ref C) "__class__") (some (some (.builtin "object.__class__"))) && (decide (PySem.W.takesIn K (.builtin "object.__class__") = some true) && (decide (PySem.W.mroIn K C (.type "object") = some true) && (decide (PySem.W.kitOne K (.ref C) (.ref C) = some true) && (He.eqO (PySem.W.specialIn K (.builtin "object.__class__") "__get__") (some (some (.builtin "getset_descriptor.__get__"))) && PySem.W.selfFirst K C))))
theorem exC_ok {K : PySem.W.Frag} {C : Addr} (c : Cls K C) (h : exC K C = true) : ObjT K C ∧ PySem.W.selfFirst K C = true := by
  obtain ⟨h1, h⟩ := He.ba h
  obtain ⟨h2, h⟩ := He.ba h
  obtain ⟨h3, h⟩ := He.ba h
  obtain ⟨h4, h⟩ := He.ba h
  obtain ⟨h5, h6⟩ := He.ba h
  exact ⟨⟨c, He.eqO_ok h1, He.eqO_ok h5, of_decide_eq_true h2, of_decide_eq_true h3, of_decide_eq_true h4⟩, h6⟩
def exB (K : PySem.W.Frag) : Bool := exC K (He.ga K "Space") && exC K (He.ga K "Spread") && exC K (He.ga K "RoundPlan")
abbrev R : PySem.W.OpenRow := PySem.W.OpenLaw.row PySem.Challenge.rw_laneswap_k18_whole_rounds_walked
abbrev hk : PySem.W.Hook := He.hookX 4 fa fn [] [] exB
def ob (s : PySem.W.SharedT) : He.AlX := He.obsX 4 fa fn [] [] exB (HandSHeadRun.getT s)
theorem ob_eq (s : PySem.W.SharedT) : ob s = hk.obs s.abs := He.obsX_eq (HandSHeadRun.getT_eq s)
def names : List Str := (["_wall", "__name__", "LaneError", "BadValue", "NotOnto", "NotApart", "TooLarge", "NotFitting", "is_whole", "need_whole", "need_items", "need_word", "need_words", "ones", "cleared", "grown", "spanned", "tops_of", "missing", "image_of"] : List Str) ++ (["paired", "kernel_rows", "solved", "met", "Space", "need_space", "Spread", "any_spread", "left_over", "lots", "lowest", "tied", "need_fit", "lane_sums", "added_rows", "parts_in", "both_rows", "all_hold", "fewest_rounds", "kept_starts"] : List Str) ++ (["wide_starts", "showing_lanes", "RoundPlan", "plan_rounds", "_law_begin", "_law_draw", "_law_pick", "_law_whole_is", "_law_number", "_law_less", "_law_rows", "_law_sum", "_law_word", "_law_order", "_law_mixture", "_law_blend", "_law_several", "_law_two", "_law_fair", "_law_lots"] : List Str) ++ (["_law_round_right", "_law_plan_right"] : List Str)
theorem run (w : World) : HandSHeadRun.RunEq R (PySem.W.view R.prog [69]) hk ob 6000 names w := by
  intro os
  kernel_rfl
end LaneX
set_option Elab.async false
set_option linter.all false
set_option maxRecDepth 100000
set_option maxHeartbeats 0
namespace LaneX
open PySem PySem.Spec PyProof.Rows L2
theorem facts {P : Program} {w : World} {K : PySem.W.Frag} {h : Heap} {mg : Str → Option Value} {f : Addr} (X : K.In h) (G : h.Ns mainGlobals mg) (hfa : mg ("law" : Str) = some (.ref f)) (c : He.SaysD fa fn K) (ex : exB K = true) :
    ∃ fd : FuncData, (∀ (s : Shared) (v : Value), BindsTo s fd ⟨[v], []⟩ [("_law_script", v)]) ∧ ∀ base : Heap, K.In base → base.Ns mainGlobals mg → FnOk P w K mg base CX0 12 f fd ["_law_script"] (sp_lawK K) := by
  obtain ⟨fd_is_whole, F_is_whole⟩ := c.def_ 0 (d := d_is_whole) rfl
  obtain ⟨fd_need_whole, F_need_whole⟩ := c.def_ 1 (d := d_need_whole) rfl
  obtain ⟨fd_need_items, F_need_items⟩ := c.def_ 2 (d := d_need_items) rfl
  obtain ⟨fd_need_word, F_need_word⟩ := c.def_ 3 (d := d_need_word) rfl
  obtain ⟨fd_need_words, F_need_words⟩ := c.def_ 4 (d := d_need_words) rfl
  obtain ⟨fd_cleared, F_cleared⟩ := c.def_ 5 (d := d_cleared) rfl
  obtain ⟨fd_grown, F_grown⟩ := c.def_ 6 (d := d_grown) rfl
  obtain ⟨fd_spanned, F_spanned⟩ := c.def_ 7 (d := d_spanned) rfl
  obtain ⟨fd_paired, F_paired⟩ := c.def_ 8 (d := d_paired) rfl
  obtain ⟨fd_kernel_rows, F_kernel_rows⟩ := c.def_ 9 (d := d_kernel_rows) rfl
  obtain ⟨fd_met, F_met⟩ := c.def_ 10 (d := d_met) rfl
  obtain ⟨fd_Space_init, F_Space_init⟩ := c.def_ 11 (d := d_Space_init) rfl
  obtain ⟨fd_Spread_init, F_Spread_init⟩ := c.def_ 12 (d := d_Spread_init) rfl
  obtain ⟨fd_any_spread, F_any_spread⟩ := c.def_ 13 (d := d_any_spread) rfl
  obtain ⟨fd_Spread_twins, F_Spread_twins⟩ := c.def_ 14 (d := d_Spread_twins) rfl
  obtain ⟨fd_ones, F_ones⟩ := c.def_ 15 (d := d_ones) rfl
  obtain ⟨fd_image_of, F_image_of⟩ := c.def_ 16 (d := d_image_of) rfl
  obtain ⟨fd_solved, F_solved⟩ := c.def_ 17 (d := d_solved) rfl
  obtain ⟨fd_tops_of, F_tops_of⟩ := c.def_ 18 (d := d_tops_of) rfl
  obtain ⟨fd_missing, F_missing⟩ := c.def_ 19 (d := d_missing) rfl
  obtain ⟨fd_need_fit, F_need_fit⟩ := c.def_ 20 (d := d_need_fit) rfl
  obtain ⟨fd_lane_sums, F_lane_sums⟩ := c.def_ 21 (d := d_lane_sums) rfl
  obtain ⟨fd_both_rows, F_both_rows⟩ := c.def_ 22 (d := d_both_rows) rfl
  obtain ⟨fd_all_hold, F_all_hold⟩ := c.def_ 23 (d := d_all_hold) rfl
  obtain ⟨fd_fewest_rounds, F_fewest_rounds⟩ := c.def_ 24 (d := d_fewest_rounds) rfl
  obtain ⟨fd_added_rows, F_added_rows⟩ := c.def_ 25 (d := d_added_rows) rfl
  obtain ⟨fd_Spread_lane_of, F_Spread_lane_of⟩ := c.def_ 26 (d := d_Spread_lane_of) rfl
  obtain ⟨fd_parts_in, F_parts_in⟩ := c.def_ 27 (d := d_parts_in) rfl
  obtain ⟨fd_kept_starts, F_kept_starts⟩ := c.def_ 28 (d := d_kept_starts) rfl
  obtain ⟨fd_wide_starts, F_wide_starts⟩ := c.def_ 29 (d := d_wide_starts) rfl
  obtain ⟨fd_showing_lanes, F_showing_lanes⟩ := c.def_ 30 (d := d_showing_lanes) rfl
  obtain ⟨fd_RoundPlan_init, F_RoundPlan_init⟩ := c.def_ 31 (d := d_RoundPlan_init) rfl
  obtain ⟨fd_plan_rounds, F_plan_rounds⟩ := c.def_ 32 (d := d_plan_rounds) rfl
  obtain ⟨fd_RoundPlan_take, F_RoundPlan_take⟩ := c.def_ 33 (d := d_RoundPlan_take) rfl
  obtain ⟨fd_RoundPlan_when, F_RoundPlan_when⟩ := c.def_ 34 (d := d_RoundPlan_when) rfl
  obtain ⟨fd_drawL, F_drawL⟩ := c.def_ 35 (d := d_drawL) rfl
  obtain ⟨fd_beginL, F_beginL⟩ := c.def_ 36 (d := d_beginL) rfl
  obtain ⟨fd_pickL, F_pickL⟩ := c.def_ 37 (d := d_pickL) rfl
  obtain ⟨fd_whole_isL, F_whole_isL⟩ := c.def_ 38 (d := d_whole_isL) rfl
  obtain ⟨fd_lessL, F_lessL⟩ := c.def_ 39 (d := d_lessL) rfl
  obtain ⟨fd_rowsL, F_rowsL⟩ := c.def_ 40 (d := d_rowsL) rfl
  obtain ⟨fd_sumL, F_sumL⟩ := c.def_ 41 (d := d_sumL) rfl
  obtain ⟨fd_wordL, F_wordL⟩ := c.def_ 42 (d := d_wordL) rfl
  obtain ⟨fd_orderL, F_orderL⟩ := c.def_ 43 (d := d_orderL) rfl
  obtain ⟨fd_severalL, F_severalL⟩ := c.def_ 44 (d := d_severalL) rfl
  obtain ⟨fd_mixtureL, F_mixtureL⟩ := c.def_ 45 (d := d_mixtureL) rfl
  obtain ⟨fd_blendL, F_blendL⟩ := c.def_ 46 (d := d_blendL) rfl
  obtain ⟨fd_fairL, F_fairL⟩ := c.def_ 47 (d := d_fairL) rfl
  obtain ⟨fd_twoL, F_twoL⟩ := c.def_ 48 (d := d_twoL) rfl
  obtain ⟨fd_lotsL, F_lotsL⟩ := c.def_ 49 (d := d_lotsL) rfl
  obtain ⟨fd_numberL, F_numberL⟩ := c.def_ 50 (d := d_numberL) rfl
  obtain ⟨fd_round_rightL, F_round_rightL⟩ := c.def_ 51 (d := d_round_rightL) rfl
  obtain ⟨fd_plan_rightL, F_plan_rightL⟩ := c.def_ 52 (d := d_plan_rightL) rfl
  obtain ⟨fd_law, F_law⟩ := c.def_ 53 (d := d_law) rfl
  have T : Bt mg := ⟨He.free_ok X G (c.fact 0 (f := .free "all") rfl), He.free_ok X G (c.fact 1 (f := .free "any") rfl), He.free_ok X G (c.fact 2 (f := .free "bool") rfl), He.free_ok X G (c.fact 3 (f := .free "enumerate") rfl), He.free_ok X G (c.fact 4 (f := .free "int") rfl), He.free_ok X G (c.fact 5 (f := .free "isinstance") rfl), He.free_ok X G (c.fact 6 (f := .free "len") rfl), He.free_ok X G (c.fact 7 (f := .free "list") rfl), He.free_ok X G (c.fact 8 (f := .free "max") rfl), He.free_ok X G (c.fact 9 (f := .free "min") rfl), He.free_ok X G (c.fact 10 (f := .free "range") rfl), He.free_ok X G (c.fact 11 (f := .free "sorted") rfl), He.free_ok X G (c.fact 12 (f := .free "sum") rfl), He.free_ok X G (c.fact 13 (f := .free "tuple") rfl)⟩
  have TSo := exC_ok (He.cls_ok (c.fact 15 (f := .cls "Space") rfl)) ((He.ba (He.ba ex).1).1)
  have TS : SpaceT K mg (He.ga K "Space") := { TSo.1 with gl := He.glo_ok X G (c.fact 14 (f := .glo "Space") rfl), nb := He.noat_ok (c.fact 17 (f := .noat "Space" "bits") rfl), nr := He.noat_ok (c.fact 18 (f := .noat "Space" "rows") rfl), nd := He.noat_ok (c.fact 19 (f := .noat "Space" "dimension") rfl) }
  have TRo := exC_ok (He.cls_ok (c.fact 21 (f := .cls "Spread") rfl)) ((He.ba (He.ba ex).1).2)
  have TR : SpreadT K mg (He.ga K "Spread") := { TRo.1 with gl := He.glo_ok X G (c.fact 20 (f := .glo "Spread") rfl), nb := He.noat_ok (c.fact 23 (f := .noat "Spread" "bits") rfl), ns := He.noat_ok (c.fact 24 (f := .noat "Spread" "slots") rfl), nl := He.noat_ok (c.fact 25 (f := .noat "Spread" "lanes") rfl) }
  have TPo := exC_ok (He.cls_ok (c.fact 27 (f := .cls "RoundPlan") rfl)) ((He.ba ex).2)
  have TP : RoundT K mg (He.ga K "RoundPlan") := { TPo.1 with gl := He.glo_ok X G (c.fact 26 (f := .glo "RoundPlan") rfl), no := He.noat_ok (c.fact 29 (f := .noat "RoundPlan" "one") rfl), ns := He.noat_ok (c.fact 30 (f := .noat "RoundPlan" "starts") rfl), nh := He.noat_ok (c.fact 31 (f := .noat "RoundPlan" "shown") rfl), nw := He.noat_ok (c.fact 32 (f := .noat "RoundPlan" "words") rfl), nk := He.noat_ok (c.fact 33 (f := .noat "RoundPlan" "skipped") rfl), nd := He.noat_ok (c.fact 34 (f := .noat "RoundPlan" "rounds") rfl) }
  have e := hfa.symm.trans (He.glo_ok X G (c.fact 85 (f := .glo "law") rfl))
  cases e
  have b := FunD.bindsA (ps := ["_law_script"]) F_law fun _ _ _ _ _ _ us hl => match us, hl with | [_], _ => rfl
  refine ⟨fd_law, fun s v => b s [v] rfl, fun base _ _ => ?_⟩
  have D_is_whole : Dn P w K mg base 1 "is_whole" ["value"] sp_is_whole := ⟨_, fd_is_whole, He.glo_ok X G (c.fact 35 (f := .glo "is_whole") rfl), F_is_whole.kp, (F_is_whole.bindsN fun _ _ _ _ _ _ us hl => match us, hl with | [_], _ => rfl), ok_is_whole T F_is_whole⟩
  have D_need_whole : Dn P w K mg base 2 "need_whole" ["value"] sp_need_whole := ⟨_, fd_need_whole, He.glo_ok X G (c.fact 36 (f := .glo "need_whole") rfl), F_need_whole.kp, (F_need_whole.bindsN fun _ _ _ _ _ _ us hl => match us, hl with | [_], _ => rfl), ok_need_whole T F_need_whole D_is_whole⟩
  have D_need_items : Dn P w K mg base 1 "need_items" ["value"] sp_need_items := ⟨_, fd_need_items, He.glo_ok X G (c.fact 37 (f := .glo "need_items") rfl), F_need_items.kp, (F_need_items.bindsN fun _ _ _ _ _ _ us hl => match us, hl with | [_], _ => rfl), ok_need_items T F_need_items⟩
  have D_need_word : Dn P w K mg base 2 "need_word" ["value", "bits"] sp_need_word := ⟨_, fd_need_word, He.glo_ok X G (c.fact 38 (f := .glo "need_word") rfl), F_need_word.kp, (F_need_word.bindsN fun _ _ _ _ _ _ us hl => match us, hl with | [_, _], _ => rfl), ok_need_word T F_need_word D_is_whole⟩
  have D_need_words : Dn P w K mg base 3 "need_words" ["values", "bits"] sp_need_words := ⟨_, fd_need_words, He.glo_ok X G (c.fact 39 (f := .glo "need_words") rfl), F_need_words.kp, (F_need_words.bindsN fun _ _ _ _ _ _ us hl => match us, hl with | [_, _], _ => rfl), ok_need_words T F_need_words D_need_items D_need_word⟩
  have D_cleared : Dn P w K mg base 1 "cleared" ["rows", "word"] sp_cleared := ⟨_, fd_cleared, He.glo_ok X G (c.fact 40 (f := .glo "cleared") rfl), F_cleared.kp, (F_cleared.bindsN fun _ _ _ _ _ _ us hl => match us, hl with | [_, _], _ => rfl), ok_cleared T F_cleared⟩
  have D_grown : Dn P w K mg base 2 "grown" ["rows", "word"] sp_grown := ⟨_, fd_grown, He.glo_ok X G (c.fact 41 (f := .glo "grown") rfl), F_grown.kp, (F_grown.bindsN fun _ _ _ _ _ _ us hl => match us, hl with | [_, _], _ => rfl), ok_grown T F_grown D_cleared⟩
  have D_spanned : Dn P w K mg base 3 "spanned" ["words"] sp_spanned := ⟨_, fd_spanned, He.glo_ok X G (c.fact 42 (f := .glo "spanned") rfl), F_spanned.kp, (F_spanned.bindsN fun _ _ _ _ _ _ us hl => match us, hl with | [_], _ => rfl), ok_spanned T F_spanned D_grown⟩
  have D_paired : Dn P w K mg base 4 "paired" ["columns"] sp_paired := ⟨_, fd_paired, He.glo_ok X G (c.fact 43 (f := .glo "paired") rfl), F_paired.kp, (F_paired.bindsN fun _ _ _ _ _ _ us hl => match us, hl with | [_], _ => rfl), ok_paired T F_paired D_spanned⟩
  have D_kernel_rows : Dn P w K mg base 5 "kernel_rows" ["columns"] sp_kernel_rows := ⟨_, fd_kernel_rows, He.glo_ok X G (c.fact 44 (f := .glo "kernel_rows") rfl), F_kernel_rows.kp, (F_kernel_rows.bindsN fun _ _ _ _ _ _ us hl => match us, hl with | [_], _ => rfl), ok_kernel_rows T F_kernel_rows D_paired⟩
  have D_met : Dn P w K mg base 4 "met" ["bits", "rows", "others"] sp_met := ⟨_, fd_met, He.glo_ok X G (c.fact 45 (f := .glo "met") rfl), F_met.kp, (F_met.bindsN fun _ _ _ _ _ _ us hl => match us, hl with | [_, _, _], _ => rfl), ok_met T F_met D_spanned⟩
  have K_Space : Kn P w K mg base 4 (He.ga K "Space") "Space" ["self", "bits", "words"] (sp_Space (He.ga K "Space")) := ⟨He.glo_ok X G (c.fact 14 (f := .glo "Space") rfl), _, fd_Space_init, He.mkr_ok (c.fact 16 (f := .mkr "Space") rfl), (F_Space_init.bindsN fun _ _ _ _ _ _ us hl => match us, hl with | [_, _, _], _ => rfl), ok_Space T TS F_Space_init D_need_whole D_need_words D_spanned⟩
  have K_Spread : Kn P w K mg base 4 (He.ga K "Spread") "Spread" ["self", "bits", "slots", "lanes"] (sp_Spread (He.ga K "Spread")) := ⟨He.glo_ok X G (c.fact 20 (f := .glo "Spread") rfl), _, fd_Spread_init, He.mkr_ok (c.fact 22 (f := .mkr "Spread") rfl), (F_Spread_init.bindsN fun _ _ _ _ _ _ us hl => match us, hl with | [_, _, _, _], _ => rfl), ok_Spread T TR F_Spread_init D_need_whole D_need_words D_spanned⟩
  have D_any_spread : Dn P w K mg base 1 "any_spread" ["value"] (sp_any_spread (He.ga K "Spread")) := ⟨_, fd_any_spread, He.glo_ok X G (c.fact 46 (f := .glo "any_spread") rfl), F_any_spread.kp, (F_any_spread.bindsN fun _ _ _ _ _ _ us hl => match us, hl with | [_], _ => rfl), ok_any_spread T TR F_any_spread⟩
  have M_Spread_twins : Mn P w K mg base 6 (He.ga K "Spread") "twins" ["self"] (sp_twins (He.ga K "Space") (He.ga K "Spread")) := ⟨TR.cl, _, fd_Spread_twins, He.meth_ok (c.fact 47 (f := .meth "Spread" "twins") rfl), (F_Spread_twins.bindsN fun _ _ _ _ _ _ us hl => match us, hl with | [_], _ => rfl), ok_twins T TR F_Spread_twins D_spanned D_cleared D_kernel_rows K_Space⟩
  have D_ones : Dn P w K mg base 3 "ones" ["word"] sp_ones := ⟨_, fd_ones, He.glo_ok X G (c.fact 48 (f := .glo "ones") rfl), F_ones.kp, (F_ones.bindsN fun _ _ _ _ _ _ us hl => match us, hl with | [_], _ => rfl), ok_ones T F_ones D_need_whole⟩
  have D_image_of : Dn P w K mg base 4 "image_of" ["columns", "word"] sp_image_of := ⟨_, fd_image_of, He.glo_ok X G (c.fact 49 (f := .glo "image_of") rfl), F_image_of.kp, (F_image_of.bindsN fun _ _ _ _ _ _ us hl => match us, hl with | [_, _], _ => rfl), ok_image_of T F_image_of D_ones⟩
  have D_solved : Dn P w K mg base 2 "solved" ["pairs", "source", "word"] sp_solved := ⟨_, fd_solved, He.glo_ok X G (c.fact 50 (f := .glo "solved") rfl), F_solved.kp, (F_solved.bindsN fun _ _ _ _ _ _ us hl => match us, hl with | [_, _, _], _ => rfl), ok_solved T F_solved D_cleared⟩
  have D_solvedO : Dn P w K mg base 2 "solved" ["pairs", "source", "word"] sp_solvedO := ⟨_, fd_solved, He.glo_ok X G (c.fact 50 (f := .glo "solved") rfl), F_solved.kp, (F_solved.bindsN fun _ _ _ _ _ _ us hl => match us, hl with | [_, _, _], _ => rfl), ok_solvedO T F_solved D_cleared⟩
  have D_tops_of : Dn P w K mg base 1 "tops_of" ["rows"] sp_tops_of := ⟨_, fd_tops_of, He.glo_ok X G (c.fact 51 (f := .glo "tops_of") rfl), F_tops_of.kp, (F_tops_of.bindsN fun _ _ _ _ _ _ us hl => match us, hl with | [_], _ => rfl), ok_tops_of F_tops_of⟩
  have D_missing : Dn P w K mg base 2 "missing" ["rows"] sp_missing := ⟨_, fd_missing, He.glo_ok X G (c.fact 52 (f := .glo "missing") rfl), F_missing.kp, (F_missing.bindsN fun _ _ _ _ _ _ us hl => match us, hl with | [_], _ => rfl), ok_missing T F_missing D_tops_of⟩
  have D_need_fit : Dn P w K mg base 2 "need_fit" ["one", "other"] (sp_need_fit (He.ga K "Spread")) := ⟨_, fd_need_fit, He.glo_ok X G (c.fact 53 (f := .glo "need_fit") rfl), F_need_fit.kp, (F_need_fit.bindsN fun _ _ _ _ _ _ us hl => match us, hl with | [_, _], _ => rfl), ok_need_fit T TR F_need_fit D_any_spread⟩
  have D_lane_sums : Dn P w K mg base 1 "lane_sums" ["one", "other"] (sp_lane_sums (He.ga K "Spread")) := ⟨_, fd_lane_sums, He.glo_ok X G (c.fact 54 (f := .glo "lane_sums") rfl), F_lane_sums.kp, (F_lane_sums.bindsN fun _ _ _ _ _ _ us hl => match us, hl with | [_, _], _ => rfl), ok_lane_sums T TR F_lane_sums⟩
  have D_both_rows : Dn P w K mg base 5 "both_rows" ["one", "other"] (sp_both_rows (He.ga K "Spread")) := ⟨_, fd_both_rows, He.glo_ok X G (c.fact 55 (f := .glo "both_rows") rfl), F_both_rows.kp, (F_both_rows.bindsN fun _ _ _ _ _ _ us hl => match us, hl with | [_, _], _ => rfl), ok_both_rows T TR F_both_rows D_spanned D_met⟩
  have D_all_hold : Dn P w K mg base 4 "all_hold" ["one", "other"] (sp_all_hold (He.ga K "Spread")) := ⟨_, fd_all_hold, He.glo_ok X G (c.fact 56 (f := .glo "all_hold") rfl), F_all_hold.kp, (F_all_hold.bindsN fun _ _ _ _ _ _ us hl => match us, hl with | [_, _], _ => rfl), ok_all_hold T TR F_all_hold D_lane_sums D_spanned D_cleared⟩
  have D_fewest_rounds : Dn P w K mg base 6 "fewest_rounds" ["one", "other"] (sp_fewest_rounds (He.ga K "Spread")) := ⟨_, fd_fewest_rounds, He.glo_ok X G (c.fact 57 (f := .glo "fewest_rounds") rfl), F_fewest_rounds.kp, (F_fewest_rounds.bindsN fun _ _ _ _ _ _ us hl => match us, hl with | [_, _], _ => rfl), ok_fewest_rounds T TR F_fewest_rounds D_need_fit D_both_rows D_all_hold⟩
  have D_added_rows : Dn P w K mg base 3 "added_rows" ["rows", "words"] sp_added_rows := ⟨_, fd_added_rows, He.glo_ok X G (c.fact 58 (f := .glo "added_rows") rfl), F_added_rows.kp, (F_added_rows.bindsN fun _ _ _ _ _ _ us hl => match us, hl with | [_, _], _ => rfl), ok_added_rows T F_added_rows D_cleared D_grown⟩
  have M_Spread_lane_of : Mn P w K mg base 5 (He.ga K "Spread") "lane_of" ["self", "entry"] (sp_lane_of (He.ga K "Spread")) := ⟨TR.cl, _, fd_Spread_lane_of, He.meth_ok (c.fact 59 (f := .meth "Spread" "lane_of") rfl), (F_Spread_lane_of.bindsN fun _ _ _ _ _ _ us hl => match us, hl with | [_, _], _ => rfl), ok_lane_of T TR F_Spread_lane_of D_need_word D_spanned D_paired D_cleared D_solved⟩
  have D_parts_in : Dn P w K mg base 5 "parts_in" ["rows", "others", "words"] sp_parts_in := ⟨_, fd_parts_in, He.glo_ok X G (c.fact 60 (f := .glo "parts_in") rfl), F_parts_in.kp, (F_parts_in.bindsN fun _ _ _ _ _ _ us hl => match us, hl with | [_, _, _], _ => rfl), ok_parts_in T F_parts_in D_paired D_image_of D_solved⟩
  have D_kept_starts : Dn P w K mg base 6 "kept_starts" ["one", "other"] (sp_kept_starts (He.ga K "Spread")) := ⟨_, fd_kept_starts, He.glo_ok X G (c.fact 61 (f := .glo "kept_starts") rfl), F_kept_starts.kp, (F_kept_starts.bindsN fun _ _ _ _ _ _ us hl => match us, hl with | [_, _], _ => rfl), ok_kept_starts T TR F_kept_starts D_both_rows D_parts_in D_lane_sums⟩
  have D_wide_starts : Dn P w K mg base 6 "wide_starts" ["one", "other"] (sp_wide_starts (He.ga K "Spread")) := ⟨_, fd_wide_starts, He.glo_ok X G (c.fact 62 (f := .glo "wide_starts") rfl), F_wide_starts.kp, (F_wide_starts.bindsN fun _ _ _ _ _ _ us hl => match us, hl with | [_, _], _ => rfl), ok_wide_starts T TR F_wide_starts D_both_rows D_kernel_rows D_cleared D_parts_in D_image_of D_added_rows⟩
  have D_showing_lanes : Dn P w K mg base 7 "showing_lanes" ["one", "starts"] (sp_showing_lanes (He.ga K "Spread")) := ⟨_, fd_showing_lanes, He.glo_ok X G (c.fact 63 (f := .glo "showing_lanes") rfl), F_showing_lanes.kp, (F_showing_lanes.bindsN fun _ _ _ _ _ _ us hl => match us, hl with | [_, _], _ => rfl), ok_showing_lanes T TS TR F_showing_lanes D_spanned D_met D_added_rows M_Spread_twins M_Spread_lane_of D_paired D_image_of D_solved⟩
  have K_RoundPlan : Kn P w K mg base 8 (He.ga K "RoundPlan") "RoundPlan" ["self", "one", "other"] (sp_RoundPlan (He.ga K "Spread") (He.ga K "RoundPlan")) := ⟨He.glo_ok X G (c.fact 26 (f := .glo "RoundPlan") rfl), _, fd_RoundPlan_init, He.mkr_ok (c.fact 28 (f := .mkr "RoundPlan") rfl), (F_RoundPlan_init.bindsN fun _ _ _ _ _ _ us hl => match us, hl with | [_, _, _], _ => rfl), ok_RoundPlan_init T TR TP F_RoundPlan_init D_both_rows D_all_hold D_kept_starts D_added_rows D_wide_starts D_showing_lanes⟩
  have D_plan_rounds : Dn P w K mg base 10 "plan_rounds" ["one", "other"] (sp_plan_rounds (He.ga K "Spread") (He.ga K "RoundPlan")) := ⟨_, fd_plan_rounds, He.glo_ok X G (c.fact 64 (f := .glo "plan_rounds") rfl), F_plan_rounds.kp, (F_plan_rounds.bindsN fun _ _ _ _ _ _ us hl => match us, hl with | [_, _], _ => rfl), ok_plan_rounds T F_plan_rounds D_need_fit K_RoundPlan⟩
  have M_RoundPlan_take : Mn P w K mg base 6 (He.ga K "RoundPlan") "take" ["self", "number", "lane"] (sp_take (He.ga K "Spread") (He.ga K "RoundPlan")) := ⟨TP.cl, _, fd_RoundPlan_take, He.meth_ok (c.fact 65 (f := .meth "RoundPlan" "take") rfl), (F_RoundPlan_take.bindsN fun _ _ _ _ _ _ us hl => match us, hl with | [_, _, _], _ => rfl), ok_take T TR TP F_RoundPlan_take D_is_whole D_need_word D_image_of M_Spread_lane_of⟩
  have M_RoundPlan_when : Mn P w K mg base 6 (He.ga K "RoundPlan") "when" ["self", "lane", "entry"] (sp_when (He.ga K "Spread") (He.ga K "RoundPlan")) := ⟨TP.cl, _, fd_RoundPlan_when, He.meth_ok (c.fact 66 (f := .meth "RoundPlan" "when") rfl), (F_RoundPlan_when.bindsN fun _ _ _ _ _ _ us hl => match us, hl with | [_, _, _], _ => rfl), ok_when T TR TP F_RoundPlan_when D_need_word D_image_of D_paired D_solvedO⟩
  have D_drawL : Dn P w K mg base 1 "_law_draw" ["_law_tape", "_law_limit"] sp_draw := ⟨_, fd_drawL, He.glo_ok X G (c.fact 67 (f := .glo "_law_draw") rfl), F_drawL.kp, (F_drawL.bindsN fun _ _ _ _ _ _ us hl => match us, hl with | [_, _], _ => rfl), ok_draw T F_drawL⟩
  have D_beginL : Dn P w K mg base 1 "_law_begin" ["_law_script"] (sp_begin K) := ⟨_, fd_beginL, He.glo_ok X G (c.fact 68 (f := .glo "_law_begin") rfl), F_beginL.kp, (F_beginL.bindsN fun _ _ _ _ _ _ us hl => match us, hl with | [_], _ => rfl), ok_begin T F_beginL⟩
  have D_pickL : Dn P w K mg base 2 "_law_pick" ["_law_tape", "_law_some"] sp_pick := ⟨_, fd_pickL, He.glo_ok X G (c.fact 69 (f := .glo "_law_pick") rfl), F_pickL.kp, (F_pickL.bindsN fun _ _ _ _ _ _ us hl => match us, hl with | [_, _], _ => rfl), ok_pick T F_pickL D_drawL⟩
  have D_whole_isL : Dn P w K mg base 1 "_law_whole_is" ["_law_value", "_law_due"] sp_whole_is := ⟨_, fd_whole_isL, He.glo_ok X G (c.fact 70 (f := .glo "_law_whole_is") rfl), F_whole_isL.kp, (F_whole_isL.bindsN fun _ _ _ _ _ _ us hl => match us, hl with | [_, _], _ => rfl), ok_whole_is T F_whole_isL⟩
  have D_lessL : Dn P w K mg base 1 "_law_less" ["_law_rows_here", "_law_word_here"] sp_less := ⟨_, fd_lessL, He.glo_ok X G (c.fact 71 (f := .glo "_law_less") rfl), F_lessL.kp, (F_lessL.bindsN fun _ _ _ _ _ _ us hl => match us, hl with | [_, _], _ => rfl), ok_less T F_lessL⟩
  have D_rowsL : Dn P w K mg base 2 "_law_rows" ["_law_words"] sp_rows := ⟨_, fd_rowsL, He.glo_ok X G (c.fact 72 (f := .glo "_law_rows") rfl), F_rowsL.kp, (F_rowsL.bindsN fun _ _ _ _ _ _ us hl => match us, hl with | [_], _ => rfl), ok_rows T F_rowsL D_lessL⟩
  have D_sumL : Dn P w K mg base 1 "_law_sum" ["_law_words", "_law_number_here"] sp_sum := ⟨_, fd_sumL, He.glo_ok X G (c.fact 73 (f := .glo "_law_sum") rfl), F_sumL.kp, (F_sumL.bindsN fun _ _ _ _ _ _ us hl => match us, hl with | [_, _], _ => rfl), ok_sum T F_sumL⟩
  have D_wordL : Dn P w K mg base 2 "_law_word" ["_law_tape", "_law_bits"] sp_word := ⟨_, fd_wordL, He.glo_ok X G (c.fact 74 (f := .glo "_law_word") rfl), F_wordL.kp, (F_wordL.bindsN fun _ _ _ _ _ _ us hl => match us, hl with | [_, _], _ => rfl), ok_word T F_wordL D_drawL⟩
  have D_orderL : Dn P w K mg base 2 "_law_order" ["_law_tape", "_law_many"] sp_order := ⟨_, fd_orderL, He.glo_ok X G (c.fact 75 (f := .glo "_law_order") rfl), F_orderL.kp, (F_orderL.bindsN fun _ _ _ _ _ _ us hl => match us, hl with | [_, _], _ => rfl), ok_order T F_orderL D_drawL⟩
  have D_severalL : Dn P w K mg base 1 "_law_several" ["_law_words"] sp_several := ⟨_, fd_severalL, He.glo_ok X G (c.fact 76 (f := .glo "_law_several") rfl), F_severalL.kp, (F_severalL.bindsN fun _ _ _ _ _ _ us hl => match us, hl with | [_], _ => rfl), ok_several T F_severalL⟩
  have D_mixtureL : Dn P w K mg base 3 "_law_mixture" ["_law_tape", "_law_bits"] sp_mixture := ⟨_, fd_mixtureL, He.glo_ok X G (c.fact 77 (f := .glo "_law_mixture") rfl), F_mixtureL.kp, (F_mixtureL.bindsN fun _ _ _ _ _ _ us hl => match us, hl with | [_, _], _ => rfl), ok_mixture T F_mixtureL D_drawL D_orderL D_wordL D_sumL⟩
  have D_blendL : Dn P w K mg base 4 "_law_blend" ["_law_tape", "_law_words", "_law_extra"] sp_blend := ⟨_, fd_blendL, He.glo_ok X G (c.fact 78 (f := .glo "_law_blend") rfl), F_blendL.kp, (F_blendL.bindsN fun _ _ _ _ _ _ us hl => match us, hl with | [_, _, _], _ => rfl), ok_blend T F_blendL D_drawL D_mixtureL D_wordL D_sumL⟩
  have D_fairL : Dn P w K mg base 3 "_law_fair" ["_law_tape", "_law_many", "_law_rest", "_law_own", "_law_slots"] sp_fair := ⟨_, fd_fairL, He.glo_ok X G (c.fact 79 (f := .glo "_law_fair") rfl), F_fairL.kp, (F_fairL.bindsN fun _ _ _ _ _ _ us hl => match us, hl with | [_, _, _, _, _], _ => rfl), ok_fair T F_fairL D_wordL D_sumL D_orderL⟩
  have D_twoL : Dn P w K mg base 5 "_law_two" ["_law_tape", "_law_most", "_law_lanes"] sp_two := ⟨_, fd_twoL, He.glo_ok X G (c.fact 80 (f := .glo "_law_two") rfl), F_twoL.kp, (F_twoL.bindsN fun _ _ _ _ _ _ us hl => match us, hl with | [_, _, _], _ => rfl), ok_two T F_twoL D_drawL D_mixtureL D_fairL D_blendL D_pickL D_sumL⟩
  have D_lotsL : Dn P w K mg base 3 "_law_lots" ["_law_slots", "_law_lanes"] sp_lots := ⟨_, fd_lotsL, He.glo_ok X G (c.fact 81 (f := .glo "_law_lots") rfl), F_lotsL.kp, (F_lotsL.bindsN fun _ _ _ _ _ _ us hl => match us, hl with | [_, _], _ => rfl), ok_lots T F_lotsL D_severalL D_rowsL D_sumL⟩
  have D_numberL : Dn P w K mg base 1 "_law_number" ["_law_value", "_law_limit"] sp_number := ⟨_, fd_numberL, He.glo_ok X G (c.fact 82 (f := .glo "_law_number") rfl), F_numberL.kp, (F_numberL.bindsN fun _ _ _ _ _ _ us hl => match us, hl with | [_, _], _ => rfl), ok_number T F_numberL⟩
  have D_round_rightL : Dn P w K mg base 7 "_law_round_right" ["_law_plan", "_law_number_here", "_law_lots_here", "_law_wants", "_law_got"] (sp_round_right (He.ga K "Spread") (He.ga K "RoundPlan")) := ⟨_, fd_round_rightL, He.glo_ok X G (c.fact 83 (f := .glo "_law_round_right") rfl), F_round_rightL.kp, (F_round_rightL.bindsN fun _ _ _ _ _ _ us hl => match us, hl with | [_, _, _, _, _], _ => rfl), ok_round_right T F_round_rightL M_RoundPlan_take D_numberL D_whole_isL M_RoundPlan_when⟩
  have D_plan_rightL : Dn P w K mg base 11 "_law_plan_right" ["_law_one", "_law_other", "_law_lots_here", "_law_wants", "_law_entries"] (sp_plan_right (He.ga K "Spread")) := ⟨_, fd_plan_rightL, He.glo_ok X G (c.fact 84 (f := .glo "_law_plan_right") rfl), F_plan_rightL.kp, (F_plan_rightL.bindsN fun _ _ _ _ _ _ us hl => match us, hl with | [_, _, _, _, _], _ => rfl), ok_plan_right T TP F_plan_rightL D_plan_rounds D_whole_isL D_fewest_rounds D_round_rightL M_RoundPlan_when⟩
  exact ok_law T F_law D_beginL D_drawL D_twoL K_Spread D_lotsL D_plan_rightL
end LaneX
open PySem PySem.W PySem.Calls PyProof.Rows
theorem PySem.Challenge.cw_laneswap_k18_whole_rounds_walked_holds : PySem.Challenge.rw_laneswap_k18_whole_rounds_walked.Holds := by
  w_on; o_law
  refine HandSHeadRun.head_any (r := OpenLaw.row PySem.Challenge.rw_laneswap_k18_whole_rounds_walked) (q := view (OpenLaw.row PySem.Challenge.rw_laneswap_k18_whole_rounds_walked).prog [69]) (H := LaneX.hk) (ob := LaneX.ob) (M := 6000) (loose := LaneX.names) (d := HandSHeadRun.topDef (OpenLaw.row PySem.Challenge.rw_laneswap_k18_whole_rounds_walked).prog 69) (kwd := []) LaneX.ob_eq
    (by kernel_rfl) (fun s => by kernel_rfl) LaneX.run (by kernel_rfl) (by kernel_rfl) (by kernel_rfl) (by rfl) (by first | assumption | decide +kernel) (by decide +kernel) ⟨rfl, rfl, rfl, rfl, rfl, by decide +kernel⟩ ?hw ?hc
  case hw => w_witness2
  case hc =>
    refine L2.walk_ofE (l := PySem.Challenge.rw_laneswap_k18_whole_rounds_walked) (n := 63) (k := 12) (x := "_law_script") (CX := L2.CX0) rfl (by decide) (by kernel_rfl) ⟨rfl, by decide, by decide⟩ ?F (fun _ _ _ _ z => z)
    intro w mg fa h Y G hmg0
    obtain ⟨K, KX, c⟩ := Y
    have hmg : mg ("law" : PySem.Str) = some (.ref fa) := by
      have e : (HandSHeadRun.topDef (OpenLaw.row PySem.Challenge.rw_laneswap_k18_whole_rounds_walked).prog 69).name = ("law" : PySem.Str) := by kernel_rfl
      rw [← e]
      exact hmg0
    obtain ⟨fd, hb, hF⟩ := LaneX.facts (P := (PySem.Challenge.rw_laneswap_k18_whole_rounds_walked).prog) (w := w) KX G hmg c.t.d c.more
    exact ⟨K, fd, LaneX.sp_lawK K, KX, hb, fun H a ns hl _ hS => ⟨a, ns, rfl, hS, hl, fun _ => rfl⟩, hF⟩
