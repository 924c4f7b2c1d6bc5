import PyProof.Rows.All
import Wide.All
import OpenK.AllK
import Wide.FinOn
import KE.KStateDown
import KE.BitLaws
import HandS.ForMost
import HandS.Flow
import HandS.Wide
import HandS.WideBits
import HandS.IsInst
import HandS.SortInts
import HandS.Conv
import HandS.Zip
import HandS.More
import HandS.WordsExc
import HandS.Defaults
import HandS.Walk
import KE.KEqSeq
import HandS.OwnEq
import PyProof.InstEq
import HandS.SetFor
import HandS.Strs
import HandS.SetKeys
import HandS.Small
import HandS.Style
import HandS.WordsDict
import PySem.Challenge.RW_laneswap_k36_whole_steps_for_all_lanes
import HandS.TupAny
import HandS.Base
import HandS.Call
import HandS.Ends
import HandS.Words
import HandS.Head0
import HandS.Head1
import HandS.Head2
import HandS.HeadEnd
import HandS.HeadHook1
import HandS.HeadHook2
import HandS.HeadHook3
import HandS.HeadHook4
set_option linter.all false
namespace LaneX
/-! ### plain mathematics: words, rows -/
/-- the number of bits -/
def blen (n : Nat) : Nat := if n = 0 then 0 else n.log2 + 1
theorem blen_zero : blen 0 = 0 := rfl
theorem blen_pos {n : Nat} (h : n ≠ 0) : 1 ≤ blen n := by unfold blen; rw [if_neg h]; omega
theorem lt_blen (n : Nat) : n < 2 ^ blen n := by
  unfold blen
  split
  · subst_vars; decide
  · exact Nat.lt_log2_self
theorem blen_le {n k : Nat} : blen n ≤ k ↔ n < 2 ^ k := by
  constructor
  · intro h; exact Nat.lt_of_lt_of_le (lt_blen n) (Nat.pow_le_pow_right (by decide) h)
  · intro h
    unfold blen
    split
    · omega
    · rename_i h0
      have := (Nat.log2_lt h0).mpr h
      omega
theorem testBit_top {n : Nat} (h : n ≠ 0) : n.testBit (blen n - 1) = true := by
  unfold blen
  rw [if_neg h, Nat.add_sub_cancel]
  exact Nat.testBit_log2 h
theorem testBit_ge {n i : Nat} (h : blen n ≤ i) : n.testBit i = false :=
  Nat.testBit_lt_two_pow (blen_le.mp h)
theorem shr_and_one (n i : Nat) : ((n >>> i) &&& 1 = 1) ↔ n.testBit i = true := by
  rw [Nat.testBit_eq_decide_div_mod_eq, Nat.shiftRight_eq_div_pow, Nat.and_one_is_mod, decide_eq_true_iff]
/-- a word cleared by rows -/
def clr (rows : List Nat) (w : Nat) : Nat := rows.foldl (fun l r => if l.testBit (blen r - 1) = true then l ^^^ r else l) w
/-- sorting by insertion -/
def ins (x : Nat) : List Nat → List Nat
  | [] => [x]
  | y :: r => if x ≤ y then x :: y :: r else y :: ins x r
def srt : List Nat → List Nat
  | [] => []
  | x :: r => ins x (srt r)
theorem ins_perm (x : Nat) : ∀ l, (ins x l).Perm (x :: l)
  | [] => .refl _
  | y :: r => by
    unfold ins
    split
    · exact .refl _
    · exact ((ins_perm x r).cons y).trans (.swap _ _ _)
theorem srt_perm : ∀ l, (srt l).Perm l
  | [] => .refl _
  | x :: r => (ins_perm x (srt r)).trans ((srt_perm r).cons x)
theorem ins_sorted {x : Nat} : ∀ {l : List Nat}, l.Pairwise (· ≤ ·) → (ins x l).Pairwise (· ≤ ·)
  | [], _ => by simp [ins]
  | y :: r, h => by
    unfold ins
    have h' := List.pairwise_cons.mp h
    split
    · rename_i hxy
      refine List.pairwise_cons.mpr ⟨fun z hz => ?_, h⟩
      rcases List.mem_cons.mp hz with rfl | hz
      · exact hxy
      · exact Nat.le_trans hxy (h'.1 z hz)
    · rename_i hxy
      refine List.pairwise_cons.mpr ⟨fun z hz => ?_, ins_sorted h'.2⟩
      rcases List.mem_cons.mp ((ins_perm x r).mem_iff.mp hz) with rfl | hz
      · omega
      · exact h'.1 z hz
theorem srt_sorted : ∀ l, (srt l).Pairwise (· ≤ ·)
  | [] => .nil
  | x :: r => ins_sorted (srt_sorted r)
theorem sorted_unique : ∀ {l m : List Nat}, l.Perm m → l.Pairwise (· ≤ ·) → m.Pairwise (· ≤ ·) → l = m
  | [], m, p, _, _ => by simpa using p.symm.eq_nil
  | x :: l, [], p, _, _ => by simpa using p.eq_nil
  | x :: l, y :: m, p, h1, h2 => by
    have a := List.pairwise_cons.mp h1
    have b := List.pairwise_cons.mp h2
    have e : x = y := by
      have hx : x ∈ y :: m := p.mem_iff.mp List.mem_cons_self
      have hy : y ∈ x :: l := p.mem_iff.mpr List.mem_cons_self
      rcases List.mem_cons.mp hx with rfl | hx
      · rfl
      · rcases List.mem_cons.mp hy with rfl | hy
        · rfl
        · exact Nat.le_antisymm (a.1 y hy) (b.1 x hx)
    subst e
    rw [sorted_unique ((List.perm_cons x).mp p) a.2 b.2]
theorem srt_of {l m : List Nat} (p : m.Perm l) (h : m.Pairwise (· ≤ ·)) : m = srt l := sorted_unique (p.trans (srt_perm l).symm) h (srt_sorted l)
/-- rows with one more word -/
def grw (rows : List Nat) (w : Nat) : List Nat := if clr rows w = 0 then rows else
  srt ((rows.map fun r => if r.testBit (blen (clr rows w) - 1) = true then r ^^^ clr rows w else r) ++ [clr rows w])
def spn (ws : List Nat) : List Nat := ws.foldl grw []
theorem clr_append (a b : List Nat) (w : Nat) : clr (a ++ b) w = clr b (clr a w) := List.foldl_append ..
theorem spn_append (a b : List Nat) : spn (a ++ b) = b.foldl grw (spn a) := List.foldl_append ..
theorem clr_lt {k : Nat} : ∀ {rows : List Nat} {w : Nat}, (∀ r ∈ rows, r < 2 ^ k) → w < 2 ^ k → clr rows w < 2 ^ k
  | [], w, _, h => h
  | r :: rs, w, hr, h => by
    show clr rs _ < 2 ^ k
    refine clr_lt (fun x hx => hr x (.tail _ hx)) ?_
    dsimp only
    split
    · exact Nat.xor_lt_two_pow h (hr r (.head _))
    · exact h
theorem grw_len (rows : List Nat) (w : Nat) : (grw rows w).length ≤ rows.length + 1 := by
  unfold grw
  split
  · omega
  · rw [(srt_perm _).length_eq]
    simp
theorem xor_eq_zero {a b : Nat} (e : a ^^^ b = 0) : a = b := by
  have h : a ^^^ b ^^^ b = 0 ^^^ b := by rw [e]
  rw [Nat.xor_assoc, Nat.xor_self, Nat.xor_zero, Nat.zero_xor] at h
  exact h
theorem xor_ne {a b : Nat} (h : a ≠ b) : a ^^^ b ≠ 0 := fun e => h (xor_eq_zero e)
/-- what rows are at least: no 0, and cleared words have 0 at their tops -/
structure Rws (rows : List Nat) : Prop where
  nz : ∀ r ∈ rows, r ≠ 0
  /-- the top of each is 0 in all others -/
  red : rows.Pairwise fun r s => r.testBit (blen s - 1) = false ∧ s.testBit (blen r - 1) = false
theorem Rws.nil : Rws [] := ⟨fun _ h => (by cases h), .nil⟩
end LaneX
set_option linter.all false
namespace LaneX
/-! ### clearing is linear -/
def bx (b : Bool) (r : Nat) : Nat := if b = true then r else 0
theorem bx_xor (a b : Bool) (r : Nat) : bx (a ^^ b) r = bx a r ^^^ bx b r := by
  cases a <;> cases b <;> simp [bx]
theorem stp_eq (l r : Nat) : (if l.testBit (blen r - 1) = true then l ^^^ r else l) = l ^^^ bx (l.testBit (blen r - 1)) r := by
  cases l.testBit (blen r - 1) <;> simp [bx]
theorem clr_cons (r : Nat) (rs : List Nat) (x : Nat) : clr (r :: rs) x = clr rs (x ^^^ bx (x.testBit (blen r - 1)) r) := by
  show clr rs _ = _
  dsimp only
  rw [stp_eq]
theorem xor4 (a b c d : Nat) : (a ^^^ b) ^^^ (c ^^^ d) = (a ^^^ c) ^^^ (b ^^^ d) := by
  rw [Nat.xor_assoc, Nat.xor_assoc]
  congr 1
  rw [← Nat.xor_assoc, Nat.xor_comm b c, Nat.xor_assoc]
theorem clr_xor : ∀ (rows : List Nat) (x y : Nat), clr rows (x ^^^ y) = clr rows x ^^^ clr rows y
  | [], _, _ => rfl
  | r :: rs, x, y => by
    rw [clr_cons, clr_cons, clr_cons, Nat.testBit_xor, bx_xor, xor4, clr_xor rs]
theorem clr_zero : ∀ rows : List Nat, clr rows 0 = 0
  | [] => rfl
  | r :: rs => by rw [clr_cons]; simp [bx, clr_zero rs]
/-- rows that do not speak of a bit leave it -/
theorem clr_bit {b : Nat} : ∀ {rows : List Nat} {x : Nat}, (∀ r ∈ rows, r.testBit b = false) → (clr rows x).testBit b = x.testBit b
  | [], x, _ => rfl
  | r :: rs, x, h => by
    rw [clr_cons, clr_bit fun s hs => h s (.tail _ hs), Nat.testBit_xor]
    have := h r (.head _)
    cases x.testBit (blen r - 1) <;> simp [bx, this]
theorem clr_of_none : ∀ {rows : List Nat} {x : Nat}, (∀ r ∈ rows, x.testBit (blen r - 1) = false) → clr rows x = x
  | [], x, _ => rfl
  | r :: rs, x, h => by
    rw [clr_cons, h r (.head _)]
    simp only [bx, Bool.false_eq_true, if_false, Nat.xor_zero]
    exact clr_of_none fun s hs => h s (.tail _ hs)
theorem clr_tops : ∀ {rows : List Nat} {x : Nat}, Rws rows → ∀ r ∈ rows, (clr rows x).testBit (blen r - 1) = false
  | [], x, _, r, h => by cases h
  | s :: rs, x, R, r, h => by
    have hp := List.pairwise_cons.mp R.red
    have R' : Rws rs := ⟨fun t ht => R.nz t (.tail _ ht), hp.2⟩
    rw [clr_cons]
    rcases List.mem_cons.mp h with rfl | h
    · rw [clr_bit fun t ht => (hp.1 t ht).2, Nat.testBit_xor]
      have := testBit_top (R.nz r (.head _))
      cases q : x.testBit (blen r - 1) <;> simp [bx, this]
    · exact clr_tops R' r h
theorem clr_self : ∀ {rows : List Nat}, Rws rows → ∀ r ∈ rows, clr rows r = 0
  | [], _, r, h => by cases h
  | s :: rs, R, r, h => by
    have hp := List.pairwise_cons.mp R.red
    have R' : Rws rs := ⟨fun t ht => R.nz t (.tail _ ht), hp.2⟩
    rw [clr_cons]
    rcases List.mem_cons.mp h with rfl | h
    · rw [testBit_top (R.nz r (.head _))]
      simp only [bx, if_true, Nat.xor_self]
      exact clr_zero rs
    · rw [(hp.1 r h).2]
      simp only [bx, Bool.false_eq_true, if_false, Nat.xor_zero]
      exact clr_self R' r h
/-! ### spans -/
inductive Spn (ws : List Nat) : Nat → Prop where
  | zero : Spn ws 0
  | add {x w : Nat} : w ∈ ws → Spn ws x → Spn ws (x ^^^ w)
theorem Spn.of {ws : List Nat} {w : Nat} (h : w ∈ ws) : Spn ws w := by
  have := Spn.add h Spn.zero
  rwa [Nat.zero_xor] at this
theorem Spn.xor {ws : List Nat} {x y : Nat} (hx : Spn ws x) (hy : Spn ws y) : Spn ws (x ^^^ y) := by
  induction hy with
  | zero => rwa [Nat.xor_zero]
  | add hw _ ih => rw [← Nat.xor_assoc]; exact .add hw ih
theorem Spn.mono {ws vs : List Nat} {x : Nat} (hx : Spn ws x) (h : ∀ w ∈ ws, Spn vs w) : Spn vs x := by
  induction hx with
  | zero => exact .zero
  | add hw _ ih => exact ih.xor (h _ hw)
theorem Spn.nil {x : Nat} (h : Spn [] x) : x = 0 := by
  cases h with
  | zero => rfl
  | add hw _ => cases hw
theorem Spn.lt {ws : List Nat} {k x : Nat} (hx : Spn ws x) (h : ∀ w ∈ ws, w < 2 ^ k) : x < 2 ^ k := by
  induction hx with
  | zero => exact Nat.two_pow_pos k
  | add hw _ ih => exact Nat.xor_lt_two_pow ih (h _ hw)
theorem Spn.sub {ws vs : List Nat} {x : Nat} (hx : Spn ws x) (h : ∀ w ∈ ws, w ∈ vs) : Spn vs x := hx.mono fun w hw => .of (h w hw)
theorem spn_clr : ∀ (rows : List Nat) (x : Nat), Spn rows (x ^^^ clr rows x)
  | [], x => by show Spn [] (x ^^^ x); rw [Nat.xor_self]; exact .zero
  | r :: rs, x => by
    rw [clr_cons]
    have ih := (spn_clr rs (x ^^^ bx (x.testBit (blen r - 1)) r)).sub (vs := r :: rs) fun w hw => .tail _ hw
    have hb : Spn (r :: rs) (bx (x.testBit (blen r - 1)) r) := by
      cases x.testBit (blen r - 1)
      · exact .zero
      · exact .of (.head _)
    have := ih.xor hb
    have e : x ^^^ bx (x.testBit (blen r - 1)) r ^^^ clr rs (x ^^^ bx (x.testBit (blen r - 1)) r) ^^^ bx (x.testBit (blen r - 1)) r = x ^^^ clr rs (x ^^^ bx (x.testBit (blen r - 1)) r) := by
      rw [Nat.xor_assoc, Nat.xor_comm (clr rs _) _, ← Nat.xor_assoc, Nat.xor_assoc x, Nat.xor_self, Nat.xor_zero]
    rw [e] at this
    exact this
theorem Rws.span {rows : List Nat} (R : Rws rows) {x : Nat} : Spn rows x ↔ clr rows x = 0 := by
  constructor
  · intro h
    induction h with
    | zero => exact clr_zero rows
    | add hw _ ih => rw [clr_xor, ih, clr_self R _ hw]; rfl
  · intro h
    have := spn_clr rows x
    rwa [h, Nat.xor_zero] at this
/-! ### one more word -/
theorem blen_xor {r l : Nat} (h : blen l < blen r) : blen (r ^^^ l) = blen r := by
  have hr : r ≠ 0 := fun e => by subst e; simp [blen] at h
  have h1 : r ^^^ l < 2 ^ blen r := Nat.xor_lt_two_pow (lt_blen r) (Nat.lt_of_lt_of_le (lt_blen l) (Nat.pow_le_pow_right (by decide) (by omega)))
  have h2 : (r ^^^ l).testBit (blen r - 1) = true := by
    rw [Nat.testBit_xor, testBit_top hr, testBit_ge (n := l) (by omega)]
    rfl
  have h3 : blen (r ^^^ l) ≤ blen r := blen_le.mpr h1
  have h4 : ¬ blen (r ^^^ l) ≤ blen r - 1 := fun q => by rw [testBit_ge q] at h2; cases h2
  omega
theorem blen_of_bits {r l : Nat} (h1 : r.testBit (blen l - 1) = true) (h2 : l.testBit (blen r - 1) = false) (hl : l ≠ 0) : blen l < blen r := by
  have hr : r ≠ 0 := fun e => by subst e; simp at h1
  have a := blen_pos hl
  have b := blen_pos hr
  have c : ¬ blen r ≤ blen l - 1 := fun q => by rw [testBit_ge q] at h1; cases h1
  have d : blen l ≠ blen r := fun q => by
    rw [← q, testBit_top hl] at h2
    cases h2
  omega
theorem Rws.perm {a b : List Nat} (R : Rws a) (p : a.Perm b) : Rws b :=
  ⟨fun r h => R.nz r (p.mem_iff.mpr h), (p.pairwise_iff (fun h => ⟨h.2, h.1⟩)).mp R.red⟩
section
variable {rows : List Nat} {l : Nat}
def chg (l r : Nat) : Nat := if r.testBit (blen l - 1) = true then r ^^^ l else r
theorem chg_blen {r : Nat} (h : l.testBit (blen r - 1) = false) (hl : l ≠ 0) : blen (chg l r) = blen r := by
  unfold chg
  split
  · rename_i q
    exact blen_xor (blen_of_bits q h hl)
  · rfl
theorem chg_bit {r b : Nat} (h : l.testBit b = false) : (chg l r).testBit b = r.testBit b := by
  unfold chg
  split
  · rw [Nat.testBit_xor, h, Bool.xor_false]
  · rfl
theorem chg_top {r : Nat} (hl : l ≠ 0) : (chg l r).testBit (blen l - 1) = false := by
  unfold chg
  split
  · rename_i q
    rw [Nat.testBit_xor, q, testBit_top hl]; rfl
  · rename_i q
    cases e : r.testBit (blen l - 1) <;> simp_all
theorem Rws.grow (R : Rws rows) (hl : l ≠ 0) (h : ∀ r ∈ rows, l.testBit (blen r - 1) = false) : Rws (rows.map (chg l) ++ [l]) := by
  have bl : ∀ r ∈ rows, blen (chg l r) = blen r := fun r hr => chg_blen (h r hr) hl
  refine ⟨fun x hx => ?_, ?_⟩
  · rcases List.mem_append.mp hx with hx | hx
    · obtain ⟨r, hr, rfl⟩ := List.mem_map.mp hx
      intro e
      have b := bl r hr
      rw [e] at b
      have := blen_pos (R.nz r hr)
      rw [← b] at this
      simp [blen] at this
    · rcases List.mem_singleton.mp hx with rfl
      exact hl
  · refine List.pairwise_append.mpr ⟨?_, by simp, ?_⟩
    · rw [List.pairwise_map]
      refine R.red.imp_of_mem fun {a b} ha hb hab => ?_
      rw [bl a ha, bl b hb, chg_bit (h b hb), chg_bit (h a ha)]
      exact hab
    · intro x hx y hy
      obtain ⟨r, hr, rfl⟩ := List.mem_map.mp hx
      rcases List.mem_singleton.mp hy with rfl
      exact ⟨chg_top hl, by rw [bl r hr]; exact h r hr⟩
end
theorem grw_eq (rows : List Nat) (w : Nat) : grw rows w = if clr rows w = 0 then rows else srt (rows.map (chg (clr rows w)) ++ [clr rows w]) := rfl
theorem grw_rws {rows : List Nat} (R : Rws rows) (w : Nat) : Rws (grw rows w) := by
  rw [grw_eq]
  split
  · exact R
  · rename_i h
    exact (R.grow h fun r hr => clr_tops R r hr).perm (srt_perm _).symm
theorem grw_span {rows : List Nat} (w x : Nat) : Spn (grw rows w) x ↔ Spn (rows ++ [w]) x := by
  rw [grw_eq]
  have hw := spn_clr rows w
  split
  · rename_i h
    rw [h, Nat.xor_zero] at hw
    constructor
    · exact fun hx => hx.sub fun y hy => List.mem_append_left _ hy
    · refine fun hx => hx.mono fun y hy => ?_
      rcases List.mem_append.mp hy with hy | hy
      · exact .of hy
      · rcases List.mem_singleton.mp hy with rfl
        exact hw
  · rename_i h
    generalize hl : clr rows w = l at *
    have e1 : ∀ y, Spn (rows ++ [w]) y ↔ Spn (rows ++ [l]) y := fun y => by
      have lw : Spn (rows ++ [w]) l := by
        have a := (hw.sub (vs := rows ++ [w]) fun z hz => List.mem_append_left _ hz).xor (Spn.of (List.mem_append_right rows (List.mem_singleton_self w)))
        rwa [Nat.xor_comm w l, Nat.xor_assoc, Nat.xor_self, Nat.xor_zero] at a
      have wl : Spn (rows ++ [l]) w := by
        have a := (hw.sub (vs := rows ++ [l]) fun z hz => List.mem_append_left _ hz).xor (Spn.of (List.mem_append_right rows (List.mem_singleton_self l)))
        rwa [Nat.xor_assoc, Nat.xor_self, Nat.xor_zero] at a
      constructor
      · refine fun hx => hx.mono fun z hz => ?_
        rcases List.mem_append.mp hz with hz | hz
        · exact .of (List.mem_append_left _ hz)
        · rcases List.mem_singleton.mp hz with rfl; exact wl
      · refine fun hx => hx.mono fun z hz => ?_
        rcases List.mem_append.mp hz with hz | hz
        · exact .of (List.mem_append_left _ hz)
        · rcases List.mem_singleton.mp hz with rfl; exact lw
    rw [e1]
    have sl : Spn (rows ++ [l]) l := .of (List.mem_append_right _ (List.mem_singleton_self l))
    constructor
    · refine fun hx => hx.mono fun z hz => ?_
      rcases List.mem_append.mp ((srt_perm _).mem_iff.mp hz) with hz | hz
      · obtain ⟨r, hr, rfl⟩ := List.mem_map.mp hz
        have : Spn (rows ++ [l]) r := .of (List.mem_append_left _ hr)
        unfold chg
        split
        · exact this.xor sl
        · exact this
      · exact .of (List.mem_append_right _ hz)
    · refine fun hx => hx.mono fun z hz => ?_
      have ml : Spn (srt (rows.map (chg l) ++ [l])) l := .of ((srt_perm _).mem_iff.mpr (List.mem_append_right _ (List.mem_singleton_self l)))
      rcases List.mem_append.mp hz with hz | hz
      · have mc : Spn (srt (rows.map (chg l) ++ [l])) (chg l z) := .of ((srt_perm _).mem_iff.mpr (List.mem_append_left _ (List.mem_map.mpr ⟨z, hz, rfl⟩)))
        unfold chg at mc
        split at mc
        · have := mc.xor ml
          rwa [Nat.xor_assoc, Nat.xor_self, Nat.xor_zero] at this
        · exact mc
      · rcases List.mem_singleton.mp hz with rfl; exact ml
theorem grw_length {rows : List Nat} (w : Nat) : (grw rows w).length = if clr rows w = 0 then rows.length else rows.length + 1 := by
  rw [grw_eq]
  split
  · rfl
  · rw [(srt_perm _).length_eq]; simp
/-! ### the rows of a list of words -/
theorem spn_rws_from : ∀ (ws : List Nat) {rows : List Nat}, Rws rows → Rws (ws.foldl grw rows)
  | [], _, R => R
  | w :: ws, _, R => spn_rws_from ws (grw_rws R w)
theorem spn_rws (ws : List Nat) : Rws (spn ws) := spn_rws_from ws Rws.nil
theorem spn_span_from : ∀ (ws : List Nat) (rows : List Nat) (x : Nat), Spn (ws.foldl grw rows) x ↔ Spn (rows ++ ws) x
  | [], rows, x => by simp
  | w :: ws, rows, x => by
    show Spn (ws.foldl grw (grw rows w)) x ↔ _
    rw [spn_span_from ws]
    have key : ∀ (a b c : List Nat) (y : Nat), (∀ z, Spn a z ↔ Spn b z) → (Spn (a ++ c) y ↔ Spn (b ++ c) y) := fun a b c y h => by
      constructor
      · refine fun hx => hx.mono fun z hz => ?_
        rcases List.mem_append.mp hz with hz | hz
        · exact ((h z).mp (.of hz)).sub fun u hu => List.mem_append_left _ hu
        · exact .of (List.mem_append_right _ hz)
      · refine fun hx => hx.mono fun z hz => ?_
        rcases List.mem_append.mp hz with hz | hz
        · exact ((h z).mpr (.of hz)).sub fun u hu => List.mem_append_left _ hu
        · exact .of (List.mem_append_right _ hz)
    rw [key _ _ ws x fun z => grw_span w z, List.append_assoc]
    rfl
theorem spn_span (ws : List Nat) (x : Nat) : Spn (spn ws) x ↔ Spn ws x := by
  have := spn_span_from ws [] x
  rwa [List.nil_append] at this
theorem spn_len_from : ∀ (ws rows : List Nat), (ws.foldl grw rows).length ≤ rows.length + ws.length
  | [], _ => by simp
  | w :: ws, rows => by
    have h1 := spn_len_from ws (grw rows w)
    have h2 := grw_len rows w
    simp only [List.foldl_cons, List.length_cons] at h1 ⊢
    omega
theorem spn_len (ws : List Nat) : (spn ws).length ≤ ws.length := by
  have := spn_len_from ws []
  rw [List.length_nil, Nat.zero_add] at this
  exact this
/-! ### tops tell the rank -/
theorem top_keep {t : Nat} : ∀ {rows : List Nat} {l : Nat}, (∀ r ∈ rows, r ≠ 0) → (∀ r ∈ rows, blen r ≠ t + 1) → l < 2 ^ (t + 1) → l.testBit t = true → (clr rows l).testBit t = true
  | [], l, _, _, _, h => h
  | r :: rs, l, nz, nt, hl, h => by
    rw [clr_cons]
    have a := nt r (.head _)
    have b := blen_pos (nz r (.head _))
    refine top_keep (fun s hs => nz s (.tail _ hs)) (fun s hs => nt s (.tail _ hs)) ?_ ?_
    · cases q : l.testBit (blen r - 1) with
      | false => simpa [bx] using hl
      | true =>
        have c : blen r ≤ t + 1 := by
          refine Nat.le_of_not_lt fun z => ?_
          have := testBit_ge (n := l) (i := blen r - 1) (Nat.le_trans (blen_le.mpr hl) (by omega))
          rw [this] at q; cases q
        simp only [bx, if_true]
        exact Nat.xor_lt_two_pow hl (blen_le.mp c)
    · cases q : l.testBit (blen r - 1) with
      | false => simpa [bx] using h
      | true =>
        have c : blen r ≤ t + 1 := by
          refine Nat.le_of_not_lt fun z => ?_
          have := testBit_ge (n := l) (i := blen r - 1) (Nat.le_trans (blen_le.mpr hl) (by omega))
          rw [this] at q; cases q
        simp only [bx, if_true]
        rw [Nat.testBit_xor, h, testBit_ge (n := r) (by omega)]
        rfl
theorem Rws.top_mem {rows : List Nat} (R : Rws rows) {x : Nat} (h : Spn rows x) (hx : x ≠ 0) : ∃ r ∈ rows, blen r = blen x := by
  refine Classical.byContradiction fun hn => ?_
  have h1 : ∀ r ∈ rows, blen r ≠ (blen x - 1) + 1 := fun r hr e => hn ⟨r, hr, by have := blen_pos hx; omega⟩
  have h2 := top_keep (t := blen x - 1) R.nz h1 (by have := blen_pos hx; rw [Nat.sub_add_cancel this]; exact lt_blen x) (testBit_top hx)
  rw [R.span.mp h] at h2
  simp at h2
theorem nodup_sub_len : ∀ {l m : List Nat}, l.Nodup → (∀ x ∈ l, x ∈ m) → l.length ≤ m.length
  | [], _, _, _ => Nat.zero_le _
  | x :: l, m, hn, hs => by
    have hn' := List.nodup_cons.mp hn
    have hx := hs x (.head _)
    have ih := nodup_sub_len (l := l) (m := m.erase x) hn'.2 fun y hy => by
      have : y ≠ x := fun e => hn'.1 (e ▸ hy)
      exact (List.mem_erase_of_ne this).mpr (hs y (.tail _ hy))
    have := List.length_erase_of_mem hx
    have hp : 0 < m.length := List.length_pos_of_mem hx
    simp only [List.length_cons]
    omega
theorem Rws.tops_nodup {rows : List Nat} (R : Rws rows) : (rows.map blen).Nodup := by
  unfold List.Nodup
  rw [List.pairwise_map]
  refine R.red.imp_of_mem fun {a b} ha hb hab e => ?_
  have := hab.1
  rw [← e, testBit_top (R.nz a ha)] at this
  cases this
theorem Rws.le {a b : List Nat} (A : Rws a) (B : Rws b) (h : ∀ x ∈ a, Spn b x) : a.length ≤ b.length := by
  have := nodup_sub_len A.tops_nodup (m := b.map blen) fun t ht => by
    obtain ⟨x, hx, rfl⟩ := List.mem_map.mp ht
    obtain ⟨r, hr, e⟩ := B.top_mem (h x hx) (A.nz x hx)
    exact List.mem_map.mpr ⟨r, hr, e⟩
  simpa using this
/-- the rank -/
def rk (ws : List Nat) : Nat := (spn ws).length
theorem rk_le {a b : List Nat} (h : ∀ x ∈ a, Spn b x) : rk a ≤ rk b := by
  refine (spn_rws a).le (spn_rws b) fun x hx => ?_
  rw [spn_span]
  exact ((spn_span a x).mp (.of hx)).mono h
theorem rk_eq {a b : List Nat} (h : ∀ x, Spn a x ↔ Spn b x) : rk a = rk b :=
  Nat.le_antisymm (rk_le fun x hx => (h x).mp (.of hx)) (rk_le fun x hx => (h x).mpr (.of hx))
theorem rk_spn (a : List Nat) : rk (spn a) = rk a := rk_eq fun x => spn_span a x
theorem rk_snoc (a : List Nat) (w : Nat) : rk (a ++ [w]) = if clr (spn a) w = 0 then rk a else rk a + 1 := by
  unfold rk
  rw [spn_append]
  exact grw_length w
theorem clr_spn_zero {a : List Nat} {w : Nat} : clr (spn a) w = 0 ↔ Spn a w := by rw [← (spn_rws a).span, spn_span]
theorem rk_snoc_in {a : List Nat} {w : Nat} (h : Spn a w) : rk (a ++ [w]) = rk a := by rw [rk_snoc, if_pos (clr_spn_zero.mpr h)]
theorem rk_snoc_out {a : List Nat} {w : Nat} (h : ¬ Spn a w) : rk (a ++ [w]) = rk a + 1 := by rw [rk_snoc, if_neg (fun z => h (clr_spn_zero.mp z))]
/-- words, none of which is a sum of those ahead -/
inductive Ind : List Nat → Prop where
  | nil : Ind []
  | snoc {a : List Nat} {w : Nat} : Ind a → ¬ Spn a w → Ind (a ++ [w])
theorem Ind.rk {a : List Nat} (h : Ind a) : rk a = a.length := by
  induction h with
  | nil => rfl
  | snoc _ hw ih => rw [rk_snoc_out hw, ih]; simp
theorem rk_len (a : List Nat) : rk a ≤ a.length := spn_len a
theorem spn_id {rows : List Nat} (R : Rws rows) : rk rows = rows.length := by
  have h1 := (spn_rws rows).le R (fun x hx => (spn_span rows x).mp (.of hx))
  have h2 := R.le (spn_rws rows) (fun x hx => (spn_span rows x).mpr (.of hx))
  exact Nat.le_antisymm h1 h2
end LaneX
namespace LaneX
/-! ### pairs, kernels, meets: what the program makes -/
def prs (cols : List Nat) : List Nat := (List.range cols.length).map fun i => (cols.getD i 0 <<< cols.length) + (1 <<< i)
def prd (cols : List Nat) : List Nat := spn (prs cols)
def ker (cols : List Nat) : List Nat := (prd cols).filter fun r => decide (blen r ≤ cols.length)
def mts (bits : Nat) (rows others : List Nat) : List Nat := (rows.map fun r => (r <<< bits) + r) ++ others.map fun r => r <<< bits
def mtd (bits : Nat) (rows others : List Nat) : List Nat := (spn (mts bits rows others)).filter fun r => decide (blen r ≤ bits)
end LaneX
namespace LaneX
theorem Rws.len_le {rows : List Nat} (R : Rws rows) {b : Nat} (h : ∀ r ∈ rows, blen r ≤ b) : rows.length ≤ b := by
  have := nodup_sub_len R.tops_nodup (m := List.range' 1 b) fun t ht => by
    obtain ⟨x, hx, rfl⟩ := List.mem_map.mp ht
    have h1 := blen_pos (R.nz x hx)
    have h2 := h x hx
    rw [List.mem_range']
    exact ⟨blen x - 1, by omega, by omega⟩
  simpa using this
theorem spn_lt {ws : List Nat} {k : Nat} (h : ∀ w ∈ ws, w < 2 ^ k) : ∀ r ∈ spn ws, r < 2 ^ k := fun r hr => ((spn_span ws r).mp (.of hr)).lt h
theorem spn_blen {ws : List Nat} {k : Nat} (h : ∀ w ∈ ws, blen w ≤ k) : ∀ r ∈ spn ws, blen r ≤ k := fun r hr => blen_le.mpr (spn_lt (fun w hw => blen_le.mp (h w hw)) r hr)
theorem clr_blen {rows : List Nat} {k w : Nat} (h : ∀ r ∈ rows, blen r ≤ k) (hw : blen w ≤ k) : blen (clr rows w) ≤ k := blen_le.mpr (clr_lt (fun r hr => blen_le.mp (h r hr)) (blen_le.mp hw))
theorem ker_blen (cols : List Nat) : ∀ r ∈ ker cols, blen r ≤ cols.length := fun r hr => by
  have := (List.mem_filter.mp hr).2
  simpa using this
theorem ker_rws (cols : List Nat) : Rws (ker cols) := by
  have R := spn_rws (prs cols)
  exact ⟨fun r hr => R.nz r (List.mem_filter.mp hr).1, R.red.sublist List.filter_sublist⟩
theorem ker_len (cols : List Nat) : (ker cols).length ≤ cols.length := (ker_rws cols).len_le (ker_blen cols)
theorem mtd_blen (b : Nat) (rs os : List Nat) : ∀ r ∈ mtd b rs os, blen r ≤ b := fun r hr => by
  have := (List.mem_filter.mp hr).2
  simpa using this
theorem mtd_rws (b : Nat) (rs os : List Nat) : Rws (mtd b rs os) := by
  have R := spn_rws (mts b rs os)
  exact ⟨fun r hr => R.nz r (List.mem_filter.mp hr).1, R.red.sublist List.filter_sublist⟩
/-- the rows of others that complete -/
def cms (rows others : List Nat) : List Nat × List Nat := others.foldl (fun st r => if clr st.1 r = 0 then st else (grw st.1 r, st.2 ++ [r])) (rows, [])
def cmpl (rows others : List Nat) : List Nat := (cms rows others).2
theorem cms_snoc (rows a : List Nat) (r : Nat) : cms rows (a ++ [r]) = if clr (cms rows a).1 r = 0 then cms rows a else (grw (cms rows a).1 r, (cms rows a).2 ++ [r]) := by
  unfold cms
  rw [List.foldl_append]
  rfl
/-- lists are told by their last item -/
theorem snoc_rec {p : List Nat → Prop} (h0 : p []) (hs : ∀ a x, p a → p (a ++ [x])) : ∀ l, p l := fun l => by
  have : ∀ n (l : List Nat), l.length = n → p l := by
    intro n
    induction n with
    | zero => intro l hl; rw [List.length_eq_zero_iff.mp hl]; exact h0
    | succ n ih =>
      intro l hl
      have hne : l ≠ [] := fun e => by rw [e] at hl; cases hl
      rw [← List.dropLast_concat_getLast hne]
      exact hs _ _ (ih _ (by rw [List.length_dropLast, hl]; rfl))
  exact this _ l rfl
theorem cms_rws {rows : List Nat} (R : Rws rows) (others : List Nat) : Rws (cms rows others).1 := by
  refine snoc_rec (p := fun l => Rws (cms rows l).1) R (fun a x ih => ?_) others
  rw [cms_snoc]
  split
  · exact ih
  · exact grw_rws ih x
theorem cms_len (rows others : List Nat) : (cms rows others).1.length ≤ rows.length + others.length ∧ (cms rows others).2.length ≤ others.length := by
  refine snoc_rec (p := fun l => (cms rows l).1.length ≤ rows.length + l.length ∧ (cms rows l).2.length ≤ l.length) ⟨by simp [cms], by simp [cms]⟩ (fun a x ih => ?_) others
  rw [cms_snoc]
  split
  · simp only [List.length_append, List.length_cons, List.length_nil]; omega
  · have := grw_len (cms rows a).1 x
    simp only [List.length_append, List.length_cons, List.length_nil]
    omega
/-- the twins, the partners of a spread -/
def twn (ss ls : List Nat) : List Nat := spn (ker (ls.map (clr (spn ss))))
def prw (ss ls rows : List Nat) : List Nat := ker (ls.map (clr (spn (ss ++ rows))))
def prt (ss ls rows : List Nat) : List Nat := spn (prw ss ls rows)
def ldr (ss ls rows : List Nat) : List Nat := cmpl (twn ss ls) (prt ss ls rows)
def kpt (b : Nat) (ss rows : List Nat) : Int := ((spn ss).length : Int) - ((spn (mtd b (spn ss) rows)).length : Int)
def rdf (bits apart : Nat) : Nat := if apart ≤ bits then 1 <<< bits - 1 <<< (bits - apart) else 1 <<< bits - 1 + apart - bits
def smr (b : Nat) (ss ls rows : List Nat) : Nat := rdf (kpt b ss rows - (twn ss ls).length).toNat (ldr ss ls rows).length
/-- a spread's words, a space's rows are as they must -/
structure WfR (b : Nat) (ss ls : List Nat) : Prop where
  bb : b ≤ 400000
  s : ∀ x ∈ ss, blen x ≤ b
  l : ∀ x ∈ ls, blen x ≤ b
  sl : ss.length ≤ 400000
  ll : ls.length ≤ 400000
structure WfS (b : Nat) (rows : List Nat) : Prop where
  bb : b ≤ 400000
  r : Rws rows
  b : ∀ x ∈ rows, blen x ≤ b
theorem WfS.len {b : Nat} {rows : List Nat} (h : WfS b rows) : rows.length ≤ 400000 := Nat.le_trans (h.r.len_le h.b) h.bb
theorem WfS.of {b : Nat} {ws : List Nat} (h : b ≤ 400000) (hw : ∀ x ∈ ws, blen x ≤ b) : WfS b (spn ws) := ⟨h, spn_rws ws, spn_blen hw⟩
theorem twn_wf {b : Nat} {ss ls : List Nat} (h : WfR b ss ls) : WfS ls.length (twn ss ls) := WfS.of h.ll fun x hx => by have := ker_blen _ x hx; simpa using this
theorem prt_wf {b : Nat} {ss ls : List Nat} (h : WfR b ss ls) (rows : List Nat) : WfS ls.length (prt ss ls rows) := WfS.of h.ll fun x hx => by have := ker_blen _ x hx; simpa using this
end LaneX
set_option linter.all false
namespace LaneX
/-! ### lowest bits; an elimination by them -/
def lwb (n : Nat) : Nat := n - (n &&& (n - 1))
def low (n : Nat) : Nat := if h : n = 0 then 0 else if n % 2 = 1 then 0 else low (n / 2) + 1
termination_by n
decreasing_by omega
theorem and_split (a b : Nat) : a &&& b = 2 * (a / 2 &&& b / 2) + (if a % 2 = 1 ∧ b % 2 = 1 then 1 else 0) := by
  have h1 : (a &&& b) / 2 = a / 2 &&& b / 2 := Nat.and_div_two
  have h2 : (a &&& b) % 2 = if a % 2 = 1 ∧ b % 2 = 1 then 1 else 0 := by
    have : (a &&& b).testBit 0 = (a.testBit 0 && b.testBit 0) := Nat.testBit_and ..
    simp only [Nat.testBit_zero] at this
    split
    · rename_i h
      simp only [h.1, h.2, decide_true, Bool.and_self] at this
      exact of_decide_eq_true this
    · rename_i h
      have h3 : (a &&& b) % 2 ≠ 1 := fun z => by
        rw [z] at this
        simp at this
        exact h this
      omega
  omega
theorem lwb_eq {n : Nat} (h : n ≠ 0) : lwb n = 2 ^ low n := by
  induction n using Nat.strongRecOn with
  | _ n ih =>
    unfold low lwb
    rw [dif_neg h]
    split
    · rename_i ho
      rw [and_split, if_neg (by omega), show (n - 1) / 2 = n / 2 by omega, Nat.and_self]
      simp
      omega
    · rename_i he
      have hm : n / 2 ≠ 0 := by omega
      have q := ih (n / 2) (by omega) hm
      unfold lwb at q
      have le : n / 2 &&& (n / 2 - 1) ≤ n / 2 := Nat.and_le_left
      rw [and_split, if_neg (by omega), show (n - 1) / 2 = n / 2 - 1 by omega, Nat.pow_succ, ← q]
      omega
theorem low_bit {n : Nat} (h : n ≠ 0) : n.testBit (low n) = true := by
  induction n using Nat.strongRecOn with
  | _ n ih =>
    unfold low
    rw [dif_neg h]
    split
    · rename_i ho
      rw [Nat.testBit_zero]
      exact decide_eq_true ho
    · rename_i he
      rw [Nat.testBit_succ]
      exact ih (n / 2) (by omega) (by omega)
theorem and_lwb {w r : Nat} (h : r ≠ 0) : (w &&& lwb r ≠ 0) ↔ w.testBit (low r) = true := by
  rw [lwb_eq h]
  constructor
  · intro hn
    refine Classical.byContradiction fun hb => hn ?_
    apply Nat.eq_of_testBit_eq
    intro i
    rw [Nat.testBit_and, Nat.testBit_two_pow, Nat.zero_testBit]
    by_cases e : low r = i
    · subst e
      cases q : w.testBit (low r)
      · rfl
      · exact absurd q hb
    · simp [e]
  · intro hb hz
    have : (w &&& 2 ^ low r).testBit (low r) = true := by
      rw [Nat.testBit_and, hb, Nat.testBit_two_pow]
      simp
    rw [hz] at this
    simp at this
def lft (rows : List Nat) (w : Nat) : Nat := rows.foldl (fun l r => if l.testBit (low r) = true then l ^^^ r else l) w
theorem lft_cons (r : Nat) (rs : List Nat) (x : Nat) : lft (r :: rs) x = lft rs (x ^^^ bx (x.testBit (low r)) r) := by
  show lft rs _ = _
  dsimp only
  cases x.testBit (low r) <;> simp [bx]
theorem lft_snoc (a : List Nat) (r w : Nat) : lft (a ++ [r]) w = if (lft a w).testBit (low r) = true then lft a w ^^^ r else lft a w := List.foldl_append ..
theorem lft_xor : ∀ (rows : List Nat) (x y : Nat), lft rows (x ^^^ y) = lft rows x ^^^ lft rows y
  | [], _, _ => rfl
  | r :: rs, x, y => by
    rw [lft_cons, lft_cons, lft_cons, Nat.testBit_xor, bx_xor, xor4, lft_xor rs]
theorem lft_zero : ∀ rows : List Nat, lft rows 0 = 0
  | [] => rfl
  | r :: rs => by rw [lft_cons]; simp [bx, lft_zero rs]
theorem spn_lft : ∀ (rows : List Nat) (x : Nat), Spn rows (x ^^^ lft rows x)
  | [], x => by show Spn [] (x ^^^ x); rw [Nat.xor_self]; exact .zero
  | r :: rs, x => by
    rw [lft_cons]
    generalize hb : bx (x.testBit (low r)) r = c
    have ih := (spn_lft rs (x ^^^ c)).sub (vs := r :: rs) fun w hw => .tail _ hw
    have hc : Spn (r :: rs) c := by
      rw [← hb]
      cases x.testBit (low r)
      · exact .zero
      · exact .of (.head _)
    have := ih.xor hc
    have e : x ^^^ c ^^^ lft rs (x ^^^ c) ^^^ c = x ^^^ lft rs (x ^^^ c) := by
      rw [Nat.xor_assoc, Nat.xor_comm (lft rs _) _, ← Nat.xor_assoc, Nat.xor_assoc x, Nat.xor_self, Nat.xor_zero]
    rw [e] at this
    exact this
/-- rows of the law's own: none is 0, later ones are 0 at the lowest bits of earlier ones -/
structure Lws (rows : List Nat) : Prop where
  nz : ∀ r ∈ rows, r ≠ 0
  red : rows.Pairwise fun r s => s.testBit (low r) = false
theorem lft_bit {b : Nat} : ∀ {rows : List Nat} {x : Nat}, (∀ r ∈ rows, r.testBit b = false) → (lft rows x).testBit b = x.testBit b
  | [], x, _ => rfl
  | r :: rs, x, h => by
    rw [lft_cons, lft_bit fun s hs => h s (.tail _ hs), Nat.testBit_xor]
    have := h r (.head _)
    cases x.testBit (low r) <;> simp [bx, this]
theorem lft_lows : ∀ {rows : List Nat} {x : Nat}, Lws rows → ∀ r ∈ rows, (lft rows x).testBit (low r) = false
  | [], x, _, r, h => by cases h
  | s :: rs, x, R, r, h => by
    have hp := List.pairwise_cons.mp R.red
    have R' : Lws rs := ⟨fun t ht => R.nz t (.tail _ ht), hp.2⟩
    rw [lft_cons]
    rcases List.mem_cons.mp h with rfl | h
    · rw [lft_bit fun t ht => hp.1 t ht, Nat.testBit_xor]
      have := low_bit (R.nz r (.head _))
      cases q : x.testBit (low r) <;> simp [bx, this]
    · exact lft_lows R' r h
theorem lft_of_none : ∀ {rows : List Nat} {x : Nat}, (∀ r ∈ rows, x.testBit (low r) = false) → lft rows x = x
  | [], x, _ => rfl
  | r :: rs, x, h => by
    rw [lft_cons, h r (.head _)]
    simp only [bx, Bool.false_eq_true, if_false, Nat.xor_zero]
    exact lft_of_none fun s hs => h s (.tail _ hs)
theorem lft_self : ∀ {rows : List Nat}, Lws rows → ∀ r ∈ rows, lft rows r = 0
  | [], _, r, h => by cases h
  | s :: rs, R, r, h => by
    have hp := List.pairwise_cons.mp R.red
    have R' : Lws rs := ⟨fun t ht => R.nz t (.tail _ ht), hp.2⟩
    rw [lft_cons]
    rcases List.mem_cons.mp h with rfl | h
    · rw [low_bit (R.nz r (.head _))]
      simp only [bx, if_true, Nat.xor_self]
      exact lft_zero rs
    · rw [hp.1 r h]
      simp only [bx, Bool.false_eq_true, if_false, Nat.xor_zero]
      exact lft_self R' r h
theorem Lws.span {rows : List Nat} (R : Lws rows) {x : Nat} : Spn rows x ↔ lft rows x = 0 := by
  constructor
  · intro h
    induction h with
    | zero => exact lft_zero rows
    | add hw _ ih => rw [lft_xor, ih, lft_self R _ hw]; rfl
  · intro h
    have := spn_lft rows x
    rwa [h, Nat.xor_zero] at this
def bstep (rows : List Nat) (w : Nat) : List Nat := if lft rows w = 0 then rows else rows ++ [lft rows w]
def bas (ws : List Nat) : List Nat := ws.foldl bstep []
theorem bas_snoc (a : List Nat) (w : Nat) : bas (a ++ [w]) = bstep (bas a) w := List.foldl_append ..
theorem Lws.nil : Lws [] := ⟨fun _ h => (by cases h), .nil⟩
theorem Lws.step {rows : List Nat} (R : Lws rows) (w : Nat) : Lws (bstep rows w) := by
  unfold bstep
  split
  · exact R
  · rename_i h
    refine ⟨fun r hr => ?_, List.pairwise_append.mpr ⟨R.red, by simp, fun r hr s hs => ?_⟩⟩
    · rcases List.mem_append.mp hr with hr | hr
      · exact R.nz r hr
      · rcases List.mem_singleton.mp hr with rfl; exact h
    · rcases List.mem_singleton.mp hs with rfl
      exact lft_lows R r hr
theorem Lws.ind {rows : List Nat} (R : Lws rows) : Ind rows := by
  have : ∀ n (l : List Nat), l.length = n → Lws l → Ind l := by
    intro n
    induction n with
    | zero => intro l hl _; rw [List.length_eq_zero_iff.mp hl]; exact .nil
    | succ n ih =>
      intro l hl L
      have hne : l ≠ [] := fun e => by rw [e] at hl; cases hl
      have e := List.dropLast_concat_getLast hne
      rw [← e] at L ⊢
      have hp := List.pairwise_append.mp L.red
      have L' : Lws l.dropLast := ⟨fun r hr => L.nz r (List.mem_append_left _ hr), hp.1⟩
      refine .snoc (ih _ (by rw [List.length_dropLast, hl]; rfl) L') fun hs => ?_
      have z := L'.span.mp hs
      rw [lft_of_none fun r hr => hp.2.2 r hr _ (List.mem_singleton_self _)] at z
      exact L.nz _ (List.mem_append_right _ (List.mem_singleton_self _)) z
  exact this _ rows rfl R
theorem Lws.rk {rows : List Nat} (R : Lws rows) : rk rows = rows.length := R.ind.rk
theorem bas_lws (ws : List Nat) : Lws (bas ws) := snoc_rec (p := fun l => Lws (bas l)) Lws.nil (fun a x ih => by rw [bas_snoc]; exact ih.step x) ws
theorem span_app {a b c : List Nat} {x : Nat} (h : ∀ z, Spn a z ↔ Spn b z) : Spn (a ++ c) x ↔ Spn (b ++ c) x := by
  constructor
  · refine fun hx => hx.mono fun z hz => ?_
    rcases List.mem_append.mp hz with hz | hz
    · exact ((h z).mp (.of hz)).sub fun u hu => List.mem_append_left _ hu
    · exact .of (List.mem_append_right _ hz)
  · refine fun hx => hx.mono fun z hz => ?_
    rcases List.mem_append.mp hz with hz | hz
    · exact ((h z).mpr (.of hz)).sub fun u hu => List.mem_append_left _ hu
    · exact .of (List.mem_append_right _ hz)
theorem span_swap (u v : List Nat) (y : Nat) : Spn (u ++ v) y ↔ Spn (v ++ u) y := by
  have key : ∀ u v : List Nat, Spn (u ++ v) y → Spn (v ++ u) y := fun u v h => h.sub fun w hw => by
    rcases List.mem_append.mp hw with h | h
    · exact List.mem_append_right _ h
    · exact List.mem_append_left _ h
  exact ⟨key u v, key v u⟩
theorem span_app2 {a b c d : List Nat} {x : Nat} (h : ∀ z, Spn a z ↔ Spn b z) (g : ∀ z, Spn c z ↔ Spn d z) : Spn (a ++ c) x ↔ Spn (b ++ d) x := by
  rw [span_app h]
  rw [span_swap, span_app g, span_swap]
theorem bstep_span (rows : List Nat) (w x : Nat) : Spn (bstep rows w) x ↔ Spn (rows ++ [w]) x := by
  have hw := spn_lft rows w
  unfold bstep
  split
  · rename_i h
    rw [h, Nat.xor_zero] at hw
    constructor
    · exact fun hx => hx.sub fun y hy => List.mem_append_left _ hy
    · refine fun hx => hx.mono fun y hy => ?_
      rcases List.mem_append.mp hy with hy | hy
      · exact .of hy
      · rcases List.mem_singleton.mp hy with rfl; exact hw
  · generalize lft rows w = l at *
    have lw : Spn (rows ++ [w]) l := by
      have a := (hw.sub (vs := rows ++ [w]) fun z hz => List.mem_append_left _ hz).xor (Spn.of (List.mem_append_right rows (List.mem_singleton_self w)))
      rwa [Nat.xor_comm w l, Nat.xor_assoc, Nat.xor_self, Nat.xor_zero] at a
    have wl : Spn (rows ++ [l]) w := by
      have a := (hw.sub (vs := rows ++ [l]) fun z hz => List.mem_append_left _ hz).xor (Spn.of (List.mem_append_right rows (List.mem_singleton_self l)))
      rwa [Nat.xor_assoc, Nat.xor_self, Nat.xor_zero] at a
    constructor
    · refine fun hx => hx.mono fun z hz => ?_
      rcases List.mem_append.mp hz with hz | hz
      · exact .of (List.mem_append_left _ hz)
      · rcases List.mem_singleton.mp hz with rfl; exact lw
    · refine fun hx => hx.mono fun z hz => ?_
      rcases List.mem_append.mp hz with hz | hz
      · exact .of (List.mem_append_left _ hz)
      · rcases List.mem_singleton.mp hz with rfl; exact wl
theorem bas_span (ws : List Nat) : ∀ x, Spn (bas ws) x ↔ Spn ws x := snoc_rec (p := fun l => ∀ x, Spn (bas l) x ↔ Spn l x) (fun x => Iff.rfl) (fun a w ih x => by rw [bas_snoc, bstep_span, span_app ih]) ws
theorem bas_len (ws : List Nat) : (bas ws).length = rk ws := by rw [← (bas_lws ws).rk]; exact rk_eq (bas_span ws)
theorem lft_bas {ws : List Nat} {x : Nat} : lft (bas ws) x = 0 ↔ Spn ws x := by rw [← (bas_lws ws).span, bas_span]
theorem bas_len_le (ws : List Nat) : (bas ws).length ≤ ws.length := by rw [bas_len]; exact rk_len ws
theorem lft_lt {k : Nat} {rows : List Nat} {w : Nat} (hr : ∀ r ∈ rows, r < 2 ^ k) (h : w < 2 ^ k) : lft rows w < 2 ^ k := by
  have := (spn_lft rows w).lt hr
  have e : lft rows w = w ^^^ (w ^^^ lft rows w) := by rw [← Nat.xor_assoc, Nat.xor_self, Nat.zero_xor]
  rw [e]
  exact Nat.xor_lt_two_pow h this
theorem bas_lt {k : Nat} {ws : List Nat} (h : ∀ w ∈ ws, w < 2 ^ k) : ∀ r ∈ bas ws, r < 2 ^ k := fun r hr => ((bas_span ws r).mp (.of hr)).lt h
/-- the sum of the columns of the bits of a word -/
def imf (cols : List Nat) (w : Nat) (n : Nat) : Nat := (List.range n).foldl (fun acc i => if w.testBit i = true then acc ^^^ cols.getD i 0 else acc) 0
def img (cols : List Nat) (w : Nat) : Nat := imf cols w cols.length
theorem imf_succ (cols : List Nat) (w n : Nat) : imf cols w (n + 1) = if w.testBit n = true then imf cols w n ^^^ cols.getD n 0 else imf cols w n := by
  unfold imf
  rw [List.range_succ, List.foldl_append]
  rfl
/-- rows with tags, and the tags of words that come to 0 -/
def tgl (rows : List (Nat × Nat)) (st : Nat × Nat) : Nat × Nat := rows.foldl (fun st r => if st.1.testBit (low r.1) = true then (st.1 ^^^ r.1, st.2 ^^^ r.2) else st) st
def tgs (cols : List Nat) (n : Nat) : List (Nat × Nat) × List Nat := (List.range n).foldl (fun st i =>
  if (tgl st.1 (cols.getD i 0, 1 <<< i)).1 = 0 then (st.1, st.2 ++ [(tgl st.1 (cols.getD i 0, 1 <<< i)).2]) else (st.1 ++ [tgl st.1 (cols.getD i 0, 1 <<< i)], st.2)) ([], [])
def tgd (cols : List Nat) : List (Nat × Nat) × List Nat := tgs cols cols.length
theorem tgs_succ (cols : List Nat) (n : Nat) : tgs cols (n + 1) = if (tgl (tgs cols n).1 (cols.getD n 0, 1 <<< n)).1 = 0 then ((tgs cols n).1, (tgs cols n).2 ++ [(tgl (tgs cols n).1 (cols.getD n 0, 1 <<< n)).2]) else ((tgs cols n).1 ++ [tgl (tgs cols n).1 (cols.getD n 0, 1 <<< n)], (tgs cols n).2) := by
  unfold tgs
  rw [List.range_succ, List.foldl_append]
  rfl
theorem tgs_len (cols : List Nat) : ∀ n, (tgs cols n).1.length + (tgs cols n).2.length = n
  | 0 => rfl
  | n + 1 => by
    have := tgs_len cols n
    rw [tgs_succ]
    split <;> simp <;> omega
theorem rk_app_len (a : List Nat) : ∀ b, rk (a ++ b) ≤ rk a + b.length := snoc_rec (p := fun b => rk (a ++ b) ≤ rk a + b.length) (by simp) (fun b x ih => by
  rw [← List.append_assoc, rk_snoc]
  split <;> simp <;> omega)
theorem rk_app (a b : List Nat) : rk (a ++ b) ≤ rk a + rk b := by
  have e : rk (a ++ b) = rk (a ++ spn b) := rk_eq fun x => (span_app2 (fun _ => Iff.rfl) (fun z => (spn_span b z).symm))
  rw [e]
  exact rk_app_len a (spn b)
theorem rk_left (a b : List Nat) : rk a ≤ rk (a ++ b) := rk_le fun x hx => .of (List.mem_append_left _ hx)
theorem rk_right (a b : List Nat) : rk b ≤ rk (a ++ b) := rk_le fun x hx => .of (List.mem_append_right _ hx)
theorem rk_perm {a b : List Nat} (p : a.Perm b) : rk a = rk b := rk_eq fun x => ⟨fun h => h.sub fun w hw => p.mem_iff.mp hw, fun h => h.sub fun w hw => p.mem_iff.mpr hw⟩
/-- units -/
def units (b : Nat) : List Nat := (List.range b).map fun i => 1 <<< i
theorem blen_unit (i : Nat) : blen (1 <<< i) = i + 1 := by
  have h : 1 <<< i ≠ 0 := by rw [Nat.one_shiftLeft]; exact Nat.ne_of_gt (Nat.two_pow_pos i)
  have h1 : blen (1 <<< i) ≤ i + 1 := by
    rw [blen_le, Nat.one_shiftLeft]
    exact Nat.pow_lt_pow_right (by decide) (Nat.lt_succ_self i)
  have h2 : ¬ blen (1 <<< i) ≤ i := by
    rw [blen_le, Nat.one_shiftLeft]
    exact Nat.lt_irrefl _
  omega
theorem unit_bit (i j : Nat) : (1 <<< i).testBit j = decide (i = j) := by
  rw [Nat.one_shiftLeft, Nat.testBit_two_pow]
theorem units_rws (b : Nat) : Rws (units b) := by
  refine ⟨fun r hr => ?_, ?_⟩
  · obtain ⟨i, _, rfl⟩ := List.mem_map.mp hr
    rw [Nat.one_shiftLeft]
    exact Nat.ne_of_gt (Nat.two_pow_pos i)
  · unfold units
    rw [List.pairwise_map]
    refine List.Pairwise.imp (R := fun a b => a ≠ b) (fun {i j} h => ?_) List.nodup_range
    rw [blen_unit, blen_unit, Nat.add_sub_cancel, Nat.add_sub_cancel, unit_bit, unit_bit]
    exact ⟨decide_eq_false h, decide_eq_false fun z => h z.symm⟩
theorem units_rk (b : Nat) : rk (units b) = b := by
  rw [spn_id (units_rws b)]
  simp [units]
theorem units_span {b x : Nat} (h : x < 2 ^ b) : Spn (units b) x := by
  have R := units_rws b
  rw [R.span]
  refine Classical.byContradiction fun hn => ?_
  have h1 : clr (units b) x < 2 ^ b := clr_lt (fun r hr => by
    obtain ⟨i, hi, rfl⟩ := List.mem_map.mp hr
    rw [Nat.one_shiftLeft]
    exact Nat.pow_lt_pow_right (by decide) (List.mem_range.mp hi)) h
  have h2 := testBit_top hn
  have h3 : blen (clr (units b) x) ≤ b := blen_le.mpr h1
  have h4 := blen_pos hn
  have h5 := clr_tops (x := x) R (1 <<< (blen (clr (units b) x) - 1)) (List.mem_map.mpr ⟨_, List.mem_range.mpr (by omega), rfl⟩)
  rw [blen_unit, Nat.add_sub_cancel] at h5
  rw [h5] at h2
  cases h2
/-- what is spanned by n bits has at most n dimensions; all of it has n -/
theorem rk_le_bits {ws : List Nat} {b : Nat} (h : ∀ w ∈ ws, w < 2 ^ b) : rk ws ≤ b := by
  rw [← units_rk b]
  exact rk_le fun x hx => units_span (h x hx)
theorem rk_full {ws : List Nat} {b : Nat} (h : ∀ u ∈ units b, Spn ws u) : b ≤ rk ws := by
  rw [← units_rk b]
  exact rk_le h
end LaneX
set_option linter.all false
namespace LaneX
/-! ### kernels, tags, meets: their sizes -/
theorem xor_cancel (a b : Nat) : a ^^^ (a ^^^ b) = b := by rw [← Nat.xor_assoc, Nat.xor_self, Nat.zero_xor]
theorem xor_cancel_right (a b : Nat) : a ^^^ b ^^^ b = a := by rw [Nat.xor_assoc, Nat.xor_self, Nat.xor_zero]
/-- a linear map of spans -/
structure Lin (φ : Nat → Nat) : Prop where
  z : φ 0 = 0
  x : ∀ a b, φ (a ^^^ b) = φ a ^^^ φ b
theorem Lin.spn {φ : Nat → Nat} (L : Lin φ) {l : List Nat} {y : Nat} (h : Spn l y) : Spn (l.map φ) (φ y) := by
  induction h with
  | zero => rw [L.z]; exact .zero
  | add hw _ ih => rw [L.x]; exact .add (List.mem_map.mpr ⟨_, hw, rfl⟩) ih
theorem Lin.back {φ : Nat → Nat} (L : Lin φ) {l : List Nat} {z : Nat} (h : Spn (l.map φ) z) : ∃ y, Spn l y ∧ φ y = z := by
  induction h with
  | zero => exact ⟨0, .zero, L.z⟩
  | add hw _ ih =>
    obtain ⟨y, hy, rfl⟩ := ih
    obtain ⟨u, hu, rfl⟩ := List.mem_map.mp hw
    exact ⟨y ^^^ u, .add hu hy, L.x _ _⟩
theorem Lin.comp {φ ψ : Nat → Nat} (L : Lin φ) (M : Lin ψ) : Lin (fun x => φ (ψ x)) := ⟨by rw [M.z, L.z], fun a b => by rw [M.x, L.x]⟩
theorem lin_clr (rows : List Nat) : Lin (clr rows) := ⟨clr_zero rows, clr_xor rows⟩
theorem lin_lft (rows : List Nat) : Lin (lft rows) := ⟨lft_zero rows, lft_xor rows⟩
theorem lin_shr (b : Nat) : Lin (fun x => x >>> b) := ⟨Nat.zero_shiftRight b, fun a c => Nat.shiftRight_xor_distrib⟩
theorem lin_mod (b : Nat) : Lin (fun x => x % 2 ^ b) := ⟨Nat.zero_mod _, fun a c => Nat.xor_mod_two_pow⟩
/-- taking away what S spans -/
structure Red (S : List Nat) (φ : Nat → Nat) : Prop where
  l : Lin φ
  s : ∀ x, Spn S (x ^^^ φ x)
  k : ∀ x, φ x = 0 ↔ Spn S x
theorem red_clr (S : List Nat) : Red S (clr (spn S)) := ⟨lin_clr _, fun x => (spn_span S _).mp (spn_clr _ x), fun x => clr_spn_zero⟩
theorem red_lft (S : List Nat) : Red S (lft (bas S)) := ⟨lin_lft _, fun x => (bas_span S _).mp (spn_lft _ x), fun x => lft_bas⟩
theorem Red.mem {S ls : List Nat} {φ : Nat → Nat} (R : Red S φ) (x : Nat) : Spn (ls.map φ) (φ x) ↔ Spn (S ++ ls) x := by
  constructor
  · intro h
    have h1 : Spn (S ++ ls) (φ x) := h.mono fun y hy => by
      obtain ⟨u, hu, rfl⟩ := List.mem_map.mp hy
      have a := ((R.s u).sub (vs := S ++ ls) fun z hz => List.mem_append_left _ hz).xor (Spn.of (List.mem_append_right S hu))
      rwa [Nat.xor_comm u, xor_cancel_right] at a
    have a := ((R.s x).sub (vs := S ++ ls) fun z hz => List.mem_append_left _ hz).xor h1
    rwa [xor_cancel_right] at a
  · intro h
    induction h with
    | zero => rw [R.l.z]; exact .zero
    | @add y u hu _ ih =>
      rw [R.l.x]
      refine ih.xor ?_
      rcases List.mem_append.mp hu with hu | hu
      · rw [(R.k u).mpr (.of hu)]; exact .zero
      · exact .of (List.mem_map.mpr ⟨u, hu, rfl⟩)
theorem rk_snoc' (a : List Nat) (w : Nat) [Decidable (Spn a w)] : rk (a ++ [w]) = if Spn a w then rk a else rk a + 1 := by
  split
  · rename_i h; exact rk_snoc_in h
  · rename_i h; exact rk_snoc_out h
theorem Red.rk {S : List Nat} {φ : Nat → Nat} (R : Red S φ) : ∀ ls, rk (ls.map φ) + rk S = rk (S ++ ls) :=
  snoc_rec (p := fun ls => LaneX.rk (ls.map φ) + LaneX.rk S = LaneX.rk (S ++ ls)) (by simp [LaneX.rk, spn]) (fun a x ih => by
    rw [List.map_append, ← List.append_assoc]
    show LaneX.rk (a.map φ ++ [φ x]) + _ = _
    by_cases h : Spn (S ++ a) x
    · rw [rk_snoc_in h, rk_snoc_in ((R.mem x).mpr h)]; exact ih
    · rw [rk_snoc_out h, rk_snoc_out (fun z => h ((R.mem x).mp z))]; omega)
/-! ### images -/
theorem imf_lin (cols : List Nat) : ∀ n, Lin (fun x => imf cols x n)
  | 0 => ⟨rfl, fun _ _ => (Nat.xor_self 0).symm⟩
  | n + 1 => by
    have ih := imf_lin cols n
    refine ⟨by show imf cols 0 (n + 1) = 0; rw [imf_succ, Nat.zero_testBit]; exact ih.z, fun a b => ?_⟩
    have e := ih.x a b
    show imf cols (a ^^^ b) (n + 1) = imf cols a (n + 1) ^^^ imf cols b (n + 1)
    simp only [imf_succ, Nat.testBit_xor] at e ⊢
    rw [e]
    generalize imf cols a n = A
    generalize imf cols b n = B
    generalize cols.getD n 0 = c
    cases a.testBit n <;> cases b.testBit n <;> simp
    · rw [Nat.xor_assoc]
    · rw [Nat.xor_assoc, Nat.xor_comm B c, ← Nat.xor_assoc]
    · rw [Nat.xor_comm A c, Nat.xor_assoc c A, ← Nat.xor_assoc A, Nat.xor_comm c, Nat.xor_assoc, Nat.xor_self, Nat.xor_zero]
theorem lin_img (cols : List Nat) : Lin (img cols) := imf_lin cols _
theorem imf_unit (cols : List Nat) (i : Nat) : ∀ n, imf cols (2 ^ i) n = if i < n then cols.getD i 0 else 0
  | 0 => by simp [imf]
  | n + 1 => by
    rw [imf_succ, imf_unit cols i n, Nat.testBit_two_pow]
    by_cases h : i = n
    · subst h; simp
    · have : (i < n + 1) ↔ i < n := by omega
      simp [h, this]
theorem img_unit (cols : List Nat) {i : Nat} (h : i < cols.length) : img cols (2 ^ i) = cols.getD i 0 := by
  unfold img
  rw [imf_unit, if_pos h]
theorem imf_map {φ : Nat → Nat} (L : Lin φ) (cols : List Nat) (x : Nat) : ∀ n, imf (cols.map φ) x n = φ (imf cols x n)
  | 0 => L.z.symm
  | n + 1 => by
    rw [imf_succ, imf_succ, imf_map L cols x n]
    have e : (cols.map φ).getD n 0 = φ (cols.getD n 0) := by
      simp only [List.getD_eq_getElem?_getD, List.getElem?_map]
      cases cols[n]? with
      | none => exact L.z.symm
      | some c => rfl
    rw [e]
    split
    · rw [L.x]
    · rfl
theorem img_map {φ : Nat → Nat} (L : Lin φ) (cols : List Nat) (x : Nat) : img (cols.map φ) x = φ (img cols x) := by
  unfold img
  rw [List.length_map, imf_map L]
/-- one bit more -/
theorem bit_split {x n : Nat} (h : x < 2 ^ (n + 1)) : x < 2 ^ n ∨ (x ^^^ 2 ^ n < 2 ^ n ∧ x.testBit n = true) := by
  by_cases q : x.testBit n = true
  · refine .inr ⟨?_, q⟩
    have h1 : x ^^^ 2 ^ n < 2 ^ (n + 1) := Nat.xor_lt_two_pow h (Nat.pow_lt_pow_right (by decide) (Nat.lt_succ_self n))
    refine Classical.byContradiction fun z => ?_
    have h3 : blen (x ^^^ 2 ^ n) ≤ n + 1 := blen_le.mpr h1
    have h4 : ¬ blen (x ^^^ 2 ^ n) ≤ n := fun y => z (blen_le.mp y)
    have h5 : blen (x ^^^ 2 ^ n) = n + 1 := by omega
    have h6 : x ^^^ 2 ^ n ≠ 0 := fun e => by rw [e] at h5; simp [blen] at h5
    have h7 := testBit_top h6
    rw [h5, Nat.add_sub_cancel, Nat.testBit_xor, q, Nat.testBit_two_pow] at h7
    simp at h7
  · refine .inl (Classical.byContradiction fun z => q ?_)
    have h3 : blen x ≤ n + 1 := blen_le.mpr h
    have h4 : ¬ blen x ≤ n := fun y => z (blen_le.mp y)
    have h5 : blen x = n + 1 := by omega
    have h6 : x ≠ 0 := fun e => by rw [e] at h5; simp [blen] at h5
    have h7 := testBit_top h6
    rwa [h5, Nat.add_sub_cancel] at h7
theorem not_bit_of_lt {x n : Nat} (h : x < 2 ^ n) : x.testBit n = false := Nat.testBit_lt_two_pow h
theorem getD_mem {cols : List Nat} {i : Nat} (h : i < cols.length) : cols.getD i 0 ∈ cols := by
  rw [List.getD_eq_getElem?_getD, List.getElem?_eq_getElem h]
  exact List.getElem_mem h
theorem getD_take {cols : List Nat} {i n : Nat} (h : i < n) (hn : n ≤ cols.length) : cols.getD i 0 ∈ cols.take n := by
  have e : (cols.take n).getD i 0 = cols.getD i 0 := by
    simp only [List.getD_eq_getElem?_getD, List.getElem?_take, h, if_true]
  rw [← e]
  exact getD_mem (by rw [List.length_take]; omega)
theorem img_span {cols : List Nat} : ∀ {n x : Nat}, n ≤ cols.length → x < 2 ^ n → Spn (cols.take n) (img cols x)
  | 0, x, hn, h => by
    have : x = 0 := by simpa using h
    rw [this, (lin_img cols).z]; exact .zero
  | n + 1, x, hn, h => by
    rcases bit_split h with h | ⟨h, _⟩
    · exact (img_span (by omega) h).sub fun w hw => List.take_subset_take_left _ (Nat.le_succ n) hw
    · have a := (img_span (n := n) (by omega) h).sub (vs := cols.take (n + 1)) fun w hw => List.take_subset_take_left _ (Nat.le_succ n) hw
      rw [(lin_img cols).x, img_unit cols hn] at a
      have b := a.xor (.of (getD_take (Nat.lt_succ_self n) hn))
      rwa [xor_cancel_right] at b
theorem span_img {cols : List Nat} {n : Nat} (hn : n ≤ cols.length) {c : Nat} (h : Spn (cols.take n) c) : ∃ x, x < 2 ^ n ∧ img cols x = c := by
  induction h with
  | zero => exact ⟨0, Nat.two_pow_pos n, (lin_img cols).z⟩
  | @add y w hw _ ih =>
    obtain ⟨x, hx, rfl⟩ := ih
    obtain ⟨i, hi, rfl⟩ := List.getElem_of_mem hw
    rw [List.length_take] at hi
    refine ⟨x ^^^ 2 ^ i, Nat.xor_lt_two_pow hx (Nat.pow_lt_pow_right (by decide) (by omega)), ?_⟩
    rw [(lin_img cols).x, img_unit cols (by omega)]
    congr 1
    rw [List.getElem_take, List.getD_eq_getElem?_getD, List.getElem?_eq_getElem (by omega)]
    rfl
/-! ### the kernel's rows -/
theorem Rws.low {R : List Nat} (A : Rws R) (b : Nat) : Rws (R.filter fun r => decide (blen r ≤ b)) := ⟨fun r hr => A.nz r (List.mem_filter.mp hr).1, A.red.sublist List.filter_sublist⟩
theorem Rws.low_span {R : List Nat} (A : Rws R) (b x : Nat) : Spn (R.filter fun r => decide (blen r ≤ b)) x ↔ Spn R x ∧ x < 2 ^ b := by
  constructor
  · intro h
    exact ⟨h.sub fun w hw => (List.mem_filter.mp hw).1, h.lt fun w hw => blen_le.mp (by simpa using (List.mem_filter.mp hw).2)⟩
  · rintro ⟨h, hx⟩
    have L := A.low b
    rw [L.span]
    generalize hl : (R.filter fun r => decide (blen r ≤ b)) = low at *
    have lt : ∀ r ∈ low, r < 2 ^ b := fun w hw => blen_le.mp (by rw [← hl] at hw; simpa using (List.mem_filter.mp hw).2)
    have h1 : Spn R (clr low x) := by
      have a := h.xor ((spn_clr low x).sub (vs := R) fun w hw => by rw [← hl] at hw; exact (List.mem_filter.mp hw).1)
      rwa [xor_cancel] at a
    have h2 : clr low x < 2 ^ b := clr_lt lt hx
    refine Classical.byContradiction fun hn => ?_
    obtain ⟨r, hr, e⟩ := A.top_mem h1 hn
    have hm : r ∈ low := by
      rw [← hl]
      exact List.mem_filter.mpr ⟨hr, decide_eq_true (by rw [e]; exact blen_le.mpr h2)⟩
    have a := clr_tops (x := x) L r hm
    rw [e, testBit_top hn] at a
    cases a
theorem add_eq_xor {n a b : Nat} (h : b < 2 ^ n) : (a <<< n) + b = (a <<< n) ^^^ b := by
  have e : a <<< n + b = a <<< n ||| b := Nat.shiftLeft_add_eq_or_of_lt h a
  rw [e]
  apply Nat.eq_of_testBit_eq
  intro i
  rw [Nat.testBit_or, Nat.testBit_xor, Nat.testBit_shiftLeft]
  by_cases q : n ≤ i
  · have : b.testBit i = false := Nat.testBit_lt_two_pow (Nat.lt_of_lt_of_le h (Nat.pow_le_pow_right (by decide) q))
    simp [this]
  · simp [q]
theorem prs_fwd (cols : List Nat) {y : Nat} (h : Spn (prs cols) y) : ∃ x, x < 2 ^ cols.length ∧ y = (img cols x <<< cols.length) ^^^ x := by
  induction h with
  | zero => exact ⟨0, Nat.two_pow_pos _, by rw [(lin_img cols).z]; simp⟩
  | @add y w hw _ ih =>
    obtain ⟨x, hx, rfl⟩ := ih
    obtain ⟨i, hi, rfl⟩ := List.mem_map.mp hw
    have hi := List.mem_range.mp hi
    have hu : 2 ^ i < 2 ^ cols.length := Nat.pow_lt_pow_right (by decide) hi
    refine ⟨x ^^^ 2 ^ i, Nat.xor_lt_two_pow hx hu, ?_⟩
    rw [(lin_img cols).x, img_unit cols hi, Nat.one_shiftLeft, add_eq_xor hu, Nat.shiftLeft_xor_distrib, xor4]
theorem prs_bwd (cols : List Nat) : ∀ {n x : Nat}, n ≤ cols.length → x < 2 ^ n → Spn (prs cols) ((img cols x <<< cols.length) ^^^ x)
  | 0, x, hn, h => by
    have : x = 0 := by simpa using h
    rw [this, (lin_img cols).z]
    simp only [Nat.zero_shiftLeft, Nat.xor_self]
    exact .zero
  | n + 1, x, hn, h => by
    rcases bit_split h with h | ⟨h, _⟩
    · exact prs_bwd cols (by omega) h
    · have a := prs_bwd cols (n := n) (by omega) h
      have hu : 2 ^ n < 2 ^ cols.length := Nat.pow_lt_pow_right (by decide) hn
      have b : Spn (prs cols) ((cols.getD n 0 <<< cols.length) ^^^ 2 ^ n) := by
        rw [← add_eq_xor hu]
        refine .of (List.mem_map.mpr ⟨n, List.mem_range.mpr hn, ?_⟩)
        rw [Nat.one_shiftLeft]
      have c := a.xor b
      rw [(lin_img cols).x, img_unit cols hn, Nat.shiftLeft_xor_distrib, xor4, xor_cancel_right, xor_cancel_right] at c
      exact c
theorem ker_span (cols : List Nat) (x : Nat) : Spn (ker cols) x ↔ x < 2 ^ cols.length ∧ img cols x = 0 := by
  unfold ker prd
  rw [(spn_rws (prs cols)).low_span, spn_span]
  constructor
  · rintro ⟨h, hx⟩
    obtain ⟨y, hy, e⟩ := prs_fwd cols h
    have e2 : x >>> cols.length = img cols y := by
      rw [e, Nat.shiftRight_xor_distrib, Nat.shiftLeft_shiftRight, Nat.shiftRight_eq_div_pow, Nat.div_eq_of_lt hy, Nat.xor_zero]
    rw [Nat.shiftRight_eq_div_pow, Nat.div_eq_of_lt hx] at e2
    rw [← e2] at e
    simp only [Nat.zero_shiftLeft, Nat.zero_xor] at e
    rw [e]
    exact ⟨hy, e2.symm⟩
  · rintro ⟨hx, e⟩
    have a := prs_bwd cols (Nat.le_refl _) hx
    rw [e] at a
    simp only [Nat.zero_shiftLeft, Nat.zero_xor] at a
    exact ⟨a, hx⟩
/-! ### the tags -/
theorem tgl_fst : ∀ (rows : List (Nat × Nat)) (st : Nat × Nat), (tgl rows st).1 = lft (rows.map Prod.fst) st.1
  | [], _ => rfl
  | r :: rs, st => by
    show (tgl rs _).1 = lft _ _
    rw [tgl_fst rs]
    show _ = lft (rs.map Prod.fst) (if st.1.testBit (low r.1) = true then st.1 ^^^ r.1 else st.1)
    dsimp only
    split <;> rfl
theorem tgl_keep {p : Nat × Nat → Prop} (hx : ∀ a b, p a → p b → p (a.1 ^^^ b.1, a.2 ^^^ b.2)) : ∀ {rows : List (Nat × Nat)} {st : Nat × Nat}, (∀ r ∈ rows, p r) → p st → p (tgl rows st)
  | [], _, _, h => h
  | r :: rs, st, hr, h => by
    show p (tgl rs _)
    refine tgl_keep hx (fun s hs => hr s (.tail _ hs)) ?_
    dsimp only
    split
    · exact hx _ _ h (hr r (.head _))
    · exact h
theorem tgl_snd {n : Nat} : ∀ {rows : List (Nat × Nat)} {st : Nat × Nat}, (∀ r ∈ rows, r.2 < 2 ^ n) → (tgl rows st).2 ^^^ st.2 < 2 ^ n
  | [], st, _ => by show st.2 ^^^ st.2 < 2 ^ n; rw [Nat.xor_self]; exact Nat.two_pow_pos n
  | r :: rs, st, hr => by
    show (tgl rs _).2 ^^^ st.2 < 2 ^ n
    dsimp only
    split
    · have ih := tgl_snd (rows := rs) (st := (st.1 ^^^ r.1, st.2 ^^^ r.2)) fun s hs => hr s (.tail _ hs)
      have a := Nat.xor_lt_two_pow ih (hr r (.head _))
      dsimp only at a
      rwa [← Nat.xor_assoc, xor_cancel_right] at a
    · exact tgl_snd fun s hs => hr s (.tail _ hs)
/-- what holds of the tags of n columns -/
structure Tgi (cols : List Nat) (n : Nat) : Prop where
  im : ∀ r ∈ (tgs cols n).1, img cols r.2 = r.1 ∧ r.2 < 2 ^ n
  lw : Lws ((tgs cols n).1.map Prod.fst)
  sp : ∀ x, Spn ((tgs cols n).1.map Prod.fst) x ↔ Spn (cols.take n) x
  im0 : ∀ t ∈ (tgs cols n).2, img cols t = 0 ∧ t < 2 ^ n
  ind : Ind (tgs cols n).2
  all : ∀ x, x < 2 ^ n → img cols x = 0 → Spn (tgs cols n).2 x
theorem tgi (cols : List Nat) : ∀ n, n ≤ cols.length → Tgi cols n
  | 0, _ => ⟨fun r h => (by cases h), Lws.nil, fun x => Iff.rfl, fun t h => (by cases h), .nil, fun x h _ => (by
      have : x = 0 := by simpa using h
      rw [this]; exact .zero)⟩
  | n + 1, hn => by
    have I := tgi cols n (by omega)
    have hc := getD_take (Nat.lt_succ_self n) hn
    have ic : img cols (1 <<< n) = cols.getD n 0 := by rw [Nat.one_shiftLeft, img_unit cols hn]
    have mono : 2 ^ n ≤ 2 ^ (n + 1) := Nat.pow_le_pow_right (by decide) (Nat.le_succ n)
    have hu : 1 <<< n < 2 ^ (n + 1) := by rw [Nat.one_shiftLeft]; exact Nat.pow_lt_pow_right (by decide) (Nat.lt_succ_self n)
    have tk : cols.take (n + 1) = cols.take n ++ [cols.getD n 0] := by
      rw [List.take_succ, List.getD_eq_getElem?_getD, List.getElem?_eq_getElem (by omega)]; rfl
    have e1 := tgl_fst (tgs cols n).1 (cols.getD n 0, 1 <<< n)
    have e2 : img cols (tgl (tgs cols n).1 (cols.getD n 0, 1 <<< n)).2 = (tgl (tgs cols n).1 (cols.getD n 0, 1 <<< n)).1 ∧ (tgl (tgs cols n).1 (cols.getD n 0, 1 <<< n)).2 < 2 ^ (n + 1) :=
      tgl_keep (p := fun q => img cols q.2 = q.1 ∧ q.2 < 2 ^ (n + 1)) (fun a b ha hb => ⟨by show img cols (a.2 ^^^ b.2) = a.1 ^^^ b.1; rw [(lin_img cols).x, ha.1, hb.1], Nat.xor_lt_two_pow ha.2 hb.2⟩) (fun r hr => ⟨(I.im r hr).1, Nat.lt_of_lt_of_le (I.im r hr).2 mono⟩) ⟨ic, hu⟩
    have e3 : (tgl (tgs cols n).1 (cols.getD n 0, 1 <<< n)).2 ^^^ (1 <<< n) < 2 ^ n := tgl_snd (st := (cols.getD n 0, 1 <<< n)) fun r hr => (I.im r hr).2
    have bs := bstep_span ((tgs cols n).1.map Prod.fst) (cols.getD n 0)
    have bw := I.lw.step (cols.getD n 0)
    have sp' : ∀ x, Spn (bstep ((tgs cols n).1.map Prod.fst) (cols.getD n 0)) x ↔ Spn (cols.take (n + 1)) x := fun x => by rw [bs, tk, span_app I.sp]
    have stp := tgs_succ cols n
    generalize htl : tgl (tgs cols n).1 (cols.getD n 0, 1 <<< n) = tl at *
    have e1' : tl.1 = lft ((tgs cols n).1.map Prod.fst) (cols.getD n 0) := e1
    by_cases z : tl.1 = 0
    · rw [if_pos z] at stp
      have ez : bstep ((tgs cols n).1.map Prod.fst) (cols.getD n 0) = (tgs cols n).1.map Prod.fst := by unfold bstep; rw [if_pos (by rw [← e1']; exact z)]
      rw [ez] at sp'
      refine ⟨?_, ?_, ?_, ?_, ?_, ?_⟩ <;> rw [stp]
      · exact fun r hr => ⟨(I.im r hr).1, Nat.lt_of_lt_of_le (I.im r hr).2 mono⟩
      · exact I.lw
      · exact sp'
      · intro t ht
        rcases List.mem_append.mp ht with ht | ht
        · exact ⟨(I.im0 t ht).1, Nat.lt_of_lt_of_le (I.im0 t ht).2 mono⟩
        · rcases List.mem_singleton.mp ht with rfl
          exact ⟨e2.1.trans z, e2.2⟩
      · refine .snoc I.ind fun hs => ?_
        have lt := hs.lt fun w hw => (I.im0 w hw).2
        have a := Nat.xor_lt_two_pow lt e3
        rw [xor_cancel, Nat.one_shiftLeft] at a
        exact Nat.lt_irrefl _ a
      · intro x hx h0
        have sub : ∀ w ∈ (tgs cols n).2, w ∈ (tgs cols n).2 ++ [tl.2] := fun w hw => List.mem_append_left _ hw
        rcases bit_split hx with h | ⟨h, _⟩
        · exact (I.all x h h0).sub sub
        · have a : x ^^^ tl.2 < 2 ^ n := by
            have := Nat.xor_lt_two_pow h e3
            rwa [Nat.one_shiftLeft, Nat.xor_comm tl.2, Nat.xor_assoc, xor_cancel] at this
          have b := (I.all _ a (by rw [(lin_img cols).x, h0, e2.1, z]; rfl)).sub sub
          have c := b.xor (.of (List.mem_append_right _ (List.mem_singleton_self tl.2)))
          rwa [xor_cancel_right] at c
    · rw [if_neg z] at stp
      have ez : bstep ((tgs cols n).1.map Prod.fst) (cols.getD n 0) = (tgs cols n).1.map Prod.fst ++ [tl.1] := by unfold bstep; rw [if_neg (by rw [← e1']; exact z), ← e1']
      rw [ez] at sp' bw
      refine ⟨?_, ?_, ?_, ?_, ?_, ?_⟩ <;> rw [stp]
      · intro r hr
        rcases List.mem_append.mp hr with hr | hr
        · exact ⟨(I.im r hr).1, Nat.lt_of_lt_of_le (I.im r hr).2 mono⟩
        · rcases List.mem_singleton.mp hr with rfl
          exact e2
      · rw [List.map_append]; exact bw
      · rw [List.map_append]; exact sp'
      · exact fun t ht => ⟨(I.im0 t ht).1, Nat.lt_of_lt_of_le (I.im0 t ht).2 mono⟩
      · exact I.ind
      · intro x hx h0
        rcases bit_split hx with h | ⟨h, _⟩
        · exact I.all x h h0
        · exfalso
          have a := img_span (cols := cols) (n := n) (by omega) h
          rw [(lin_img cols).x, h0, Nat.zero_xor, img_unit cols hn, ← I.sp, I.lw.span] at a
          exact z (e1'.trans a)
theorem tgd_span (cols : List Nat) (x : Nat) : Spn (tgd cols).2 x ↔ x < 2 ^ cols.length ∧ img cols x = 0 := by
  have I := tgi cols cols.length (Nat.le_refl _)
  constructor
  · intro h
    refine ⟨h.lt fun w hw => (I.im0 w hw).2, ?_⟩
    induction h with
    | zero => exact (lin_img cols).z
    | add hw _ ih => rw [(lin_img cols).x, ih, (I.im0 _ hw).1]; rfl
  · exact fun h => I.all x h.1 h.2
theorem tgd_len (cols : List Nat) : (tgd cols).2.length + rk cols = cols.length := by
  have I := tgi cols cols.length (Nat.le_refl _)
  have a := I.lw.rk
  have b : rk ((tgs cols cols.length).1.map Prod.fst) = rk cols := rk_eq fun x => by rw [I.sp, List.take_length]
  rw [List.length_map] at a
  have c := tgs_len cols cols.length
  unfold tgd
  omega
theorem tgd_rk (cols : List Nat) : rk (tgd cols).2 = (tgd cols).2.length := (tgi cols cols.length (Nat.le_refl _)).ind.rk
theorem ker_len_eq (cols : List Nat) : (ker cols).length + rk cols = cols.length := by
  have a : rk (ker cols) = rk (tgd cols).2 := rk_eq fun x => by rw [ker_span, tgd_span]
  rw [spn_id (ker_rws cols), tgd_rk] at a
  have := tgd_len cols
  omega
end LaneX
set_option linter.all false
namespace LaneX
/-! ### twins, partners -/
theorem span_clr_img (S ls : List Nat) (x : Nat) : Spn (ker (ls.map (clr (spn S)))) x ↔ x < 2 ^ ls.length ∧ Spn S (img ls x) := by
  rw [ker_span, List.length_map, img_map (lin_clr _), clr_spn_zero]
theorem span_tag (S ls : List Nat) (x : Nat) : Spn (tgd (ls.map (lft (bas S)))).2 x ↔ x < 2 ^ ls.length ∧ Spn S (img ls x) := by
  rw [tgd_span, List.length_map, img_map (lin_lft _), lft_bas]
theorem ksz (S ls : List Nat) : (spn (ker (ls.map (clr (spn S))))).length + rk (S ++ ls) = ls.length + rk S := by
  have a := ker_len_eq (ls.map (clr (spn S)))
  have b := (red_clr S).rk ls
  have c := spn_id (ker_rws (ls.map (clr (spn S))))
  unfold rk at c
  rw [List.length_map] at a
  omega
theorem tsz (S ls : List Nat) : (tgd (ls.map (lft (bas S)))).2.length + rk (S ++ ls) = ls.length + rk S := by
  have a := tgd_len (ls.map (lft (bas S)))
  have b := (red_lft S).rk ls
  rw [List.length_map] at a
  omega
theorem app_spn (A ws : List Nat) (x : Nat) : Spn (A ++ spn ws) x ↔ Spn (A ++ ws) x := span_app2 (fun _ => Iff.rfl) (fun z => spn_span ws z)
theorem rk_app_spn (A ws : List Nat) : rk (A ++ spn ws) = rk (A ++ ws) := rk_eq (app_spn A ws)
theorem twn_span (ss ls : List Nat) (x : Nat) : Spn (twn ss ls) x ↔ x < 2 ^ ls.length ∧ Spn ss (img ls x) := by
  unfold twn
  rw [spn_span, span_clr_img]
theorem prt_span (ss ls ws : List Nat) (x : Nat) : Spn (prt ss ls (spn ws)) x ↔ x < 2 ^ ls.length ∧ Spn (ss ++ ws) (img ls x) := by
  unfold prt prw
  rw [spn_span, span_clr_img, app_spn]
theorem twn_size (ss ls : List Nat) : (twn ss ls).length + rk (ss ++ ls) = ls.length + rk ss := ksz ss ls
theorem prt_size (ss ls ws : List Nat) : (prt ss ls (spn ws)).length + rk (ss ++ ws ++ ls) = ls.length + rk (ss ++ ws) := by
  have a := ksz (ss ++ spn ws) ls
  rw [rk_app_spn] at a
  have b : rk (ss ++ spn ws ++ ls) = rk (ss ++ ws ++ ls) := rk_eq fun x => span_app fun z => app_spn ss ws z
  rw [b] at a
  exact a
theorem twn_tag (ss ls : List Nat) : (twn ss ls).length = (tgd (ls.map (lft (bas ss)))).2.length := by
  have a := twn_size ss ls
  have b := tsz ss ls
  omega
theorem prt_rk (ss ls ws : List Nat) : rk (prt ss ls (spn ws)) = (prt ss ls (spn ws)).length := spn_id (spn_rws _)
theorem prt_tag (ss ls ws : List Nat) : (prt ss ls (spn ws)).length = rk (tgd (ls.map (lft (bas (ss ++ ws))))).2 := by
  rw [← prt_rk]
  exact rk_eq fun x => by rw [prt_span, span_tag]
theorem prt_tag2 (ss ls ws : List Nat) : rk ((tgd (ls.map (lft (bas (ss ++ ws))))).2 ++ prt ss ls (spn ws)) = (prt ss ls (spn ws)).length := by
  rw [← prt_rk]
  refine Nat.le_antisymm (rk_le fun x hx => ?_) (rk_right _ _)
  rcases List.mem_append.mp hx with hx | hx
  · rw [prt_span, ← span_tag]; exact .of hx
  · exact .of hx
/-! ### completing -/
theorem cms_span {A : List Nat} (R : Rws A) (B : List Nat) : (∀ x, Spn (cms A B).1 x ↔ Spn (A ++ B) x) ∧ (∀ x, Spn (cms A B).1 x ↔ Spn (A ++ (cms A B).2) x) := by
  refine snoc_rec (p := fun B => (∀ x, Spn (cms A B).1 x ↔ Spn (A ++ B) x) ∧ (∀ x, Spn (cms A B).1 x ↔ Spn (A ++ (cms A B).2) x)) ⟨fun x => by simp [cms], fun x => by simp [cms]⟩ (fun a r ih => ?_) B
  have R' := cms_rws R a
  rw [cms_snoc, ← List.append_assoc]
  split
  · rename_i h
    have hr := (ih.1 r).mp (R'.span.mpr h)
    refine ⟨fun x => ?_, ih.2⟩
    rw [ih.1 x]
    constructor
    · exact fun hx => hx.sub fun w hw => List.mem_append_left _ hw
    · refine fun hx => hx.mono fun y hy => ?_
      rcases List.mem_append.mp hy with hy | hy
      · exact .of hy
      · rcases List.mem_singleton.mp hy with rfl; exact hr
  · refine ⟨fun x => ?_, fun x => ?_⟩
    · rw [grw_span, span_app ih.1]
    · show Spn (grw _ _) x ↔ Spn (A ++ ((cms A a).2 ++ [r])) x
      rw [grw_span, span_app ih.2, List.append_assoc]
theorem cmpl_len {A : List Nat} (R : Rws A) (B : List Nat) : (cmpl A B).length + rk A = rk (A ++ B) := by
  unfold cmpl
  refine snoc_rec (p := fun B => (cms A B).2.length + rk A = rk (A ++ B)) (by simp [cms]) (fun a r ih => ?_) B
  have R' := cms_rws R a
  have S := (cms_span R a).1
  rw [cms_snoc, ← List.append_assoc]
  split
  · rename_i h
    rw [rk_snoc_in ((S r).mp (R'.span.mpr h))]; exact ih
  · rename_i h
    rw [rk_snoc_out fun z => h (R'.span.mp ((S r).mpr z)), List.length_append]
    simp only [List.length_cons, List.length_nil]
    omega
theorem cmpl_mem {A : List Nat} (B : List Nat) : ∀ x ∈ cmpl A B, x ∈ B := by
  unfold cmpl
  refine snoc_rec (p := fun B => ∀ x ∈ (cms A B).2, x ∈ B) (fun x hx => by cases hx) (fun a r ih x hx => ?_) B
  rw [cms_snoc] at hx
  split at hx
  · exact List.mem_append_left _ (ih x hx)
  · rcases List.mem_append.mp hx with hx | hx
    · exact List.mem_append_left _ (ih x hx)
    · exact List.mem_append_right _ hx
theorem cmpl_ind {A : List Nat} (R : Rws A) (B : List Nat) {φ : Nat → Nat} (L : Lin φ) : (∀ y, Spn B y → φ y = 0 → Spn A y) → Ind ((cmpl A B).map φ) := by
  unfold cmpl
  refine snoc_rec (p := fun B => (∀ y, Spn B y → φ y = 0 → Spn A y) → Ind ((cms A B).2.map φ)) (fun _ => .nil) (fun a r ih k => ?_) B
  have R' := cms_rws R a
  have S := (cms_span R a).2
  have ih := ih fun y hy => k y (hy.sub fun w hw => List.mem_append_left _ hw)
  have mem := cmpl_mem (A := A) a
  unfold cmpl at mem
  rw [cms_snoc]
  split
  · exact ih
  · rename_i h
    show Ind (((cms A a).2 ++ [r]).map φ)
    rw [List.map_append]
    refine .snoc ih fun hs => h (R'.span.mp ((S r).mpr ?_))
    obtain ⟨y, hy, e⟩ := L.back hs
    have hyr : Spn A (y ^^^ r) := by
      refine k _ ?_ (by rw [L.x, e, Nat.xor_self])
      exact (hy.sub fun w hw => List.mem_append_left _ (mem w hw)).xor (.of (List.mem_append_right _ (List.mem_singleton_self r)))
    have c := (hyr.sub (vs := A ++ (cms A a).2) fun w hw => List.mem_append_left _ hw).xor (hy.sub (vs := A ++ (cms A a).2) fun w hw => List.mem_append_right _ hw)
    rwa [Nat.xor_comm y r, xor_cancel_right] at c
/-! ### meets -/
theorem Rws.ind {rows : List Nat} (R : Rws rows) : Ind rows := by
  have : ∀ n (l : List Nat), l.length = n → Rws l → Ind l := by
    intro n
    induction n with
    | zero => intro l hl _; rw [List.length_eq_zero_iff.mp hl]; exact .nil
    | succ n ih =>
      intro l hl L
      have hne : l ≠ [] := fun e => by rw [e] at hl; cases hl
      have e := List.dropLast_concat_getLast hne
      rw [← e] at L ⊢
      have hp := List.pairwise_append.mp L.red
      have L' : Rws l.dropLast := ⟨fun r hr => L.nz r (List.mem_append_left _ hr), hp.1⟩
      refine .snoc (ih _ (by rw [List.length_dropLast, hl]; rfl) L') fun hs => ?_
      have z := L'.span.mp hs
      rw [clr_of_none fun r hr => (hp.2.2 r hr _ (List.mem_singleton_self _)).2] at z
      exact L.nz _ (List.mem_append_right _ (List.mem_singleton_self _)) z
  exact this _ rows rfl R
theorem shl_shr (b x : Nat) : (x <<< b) >>> b = x := Nat.shiftLeft_shiftRight x b
theorem shl_mod (b x : Nat) : (x <<< b) % 2 ^ b = 0 := by rw [Nat.shiftLeft_eq]; exact Nat.mul_mod_left _ _
theorem map_shl_shr (b : Nat) (B : List Nat) : (B.map fun r => r <<< b).map (fun x => x >>> b) = B := by
  rw [List.map_map]
  conv => rhs; rw [← List.map_id B]
  exact List.map_congr_left fun x _ => shl_shr b x
theorem ind_shl (b : Nat) {B : List Nat} (h : Ind B) : Ind (B.map fun r => r <<< b) := by
  induction h with
  | nil => exact .nil
  | @snoc a w _ hw ih =>
    rw [List.map_append]
    refine .snoc ih fun hs => hw ?_
    have a := (lin_shr b).spn hs
    rw [map_shl_shr] at a
    dsimp only at a
    rwa [shl_shr] at a
theorem ind_pairs (b : Nat) {A B : List Nat} (hB : Ind B) (hA : Ind A) (lt : ∀ x ∈ A, x < 2 ^ b) : Ind ((B.map fun r => r <<< b) ++ A.map fun r => (r <<< b) + r) := by
  induction hA with
  | nil => simpa using ind_shl b hB
  | @snoc a w _ hw ih =>
    have ih := ih fun x hx => lt x (List.mem_append_left _ hx)
    have hwl := lt w (List.mem_append_right _ (List.mem_singleton_self w))
    rw [List.map_append, ← List.append_assoc]
    refine .snoc ih fun hs => hw ?_
    have q := (lin_mod b).spn hs
    have pm : ∀ r, r < 2 ^ b → (r <<< b + r) % 2 ^ b = r := fun r hr => by
      rw [Nat.add_mod, shl_mod, Nat.zero_add, Nat.mod_mod, Nat.mod_eq_of_lt hr]
    dsimp only at q
    rw [pm w hwl] at q
    refine q.mono fun y hy => ?_
    obtain ⟨z, hz, rfl⟩ := List.mem_map.mp hy
    rcases List.mem_append.mp hz with hz | hz
    · obtain ⟨r, hr, rfl⟩ := List.mem_map.mp hz
      rw [shl_mod]; exact .zero
    · obtain ⟨r, hr, rfl⟩ := List.mem_map.mp hz
      rw [pm r (lt r (List.mem_append_left _ hr))]; exact .of hr
theorem blen_shr (b r : Nat) : blen (r >>> b) = blen r - b := by
  by_cases h : blen r ≤ b
  · have : r >>> b = 0 := by rw [Nat.shiftRight_eq_div_pow, Nat.div_eq_of_lt (blen_le.mp h)]
    rw [this, show blen r - b = 0 by omega]; rfl
  · have hr : r ≠ 0 := fun e => by rw [e] at h; simp [blen] at h
    have t : (r >>> b).testBit (blen r - b - 1) = true := by
      rw [Nat.testBit_shiftRight, show b + (blen r - b - 1) = blen r - 1 by omega]; exact testBit_top hr
    have h1 : ¬ blen (r >>> b) ≤ blen r - b - 1 := fun z => by rw [testBit_ge z] at t; cases t
    have h2 : blen (r >>> b) ≤ blen r - b := by
      rw [blen_le, Nat.shiftRight_eq_div_pow, Nat.div_lt_iff_lt_mul (Nat.two_pow_pos b), ← Nat.pow_add, show blen r - b + b = blen r by omega]
      exact lt_blen r
    omega
theorem Rws.high {R : List Nat} (A : Rws R) (b : Nat) : Rws ((R.filter fun r => !decide (blen r ≤ b)).map fun x => x >>> b) := by
  have hb : ∀ r ∈ R.filter fun r => !decide (blen r ≤ b), b < blen r := fun r hr => by
    have := (List.mem_filter.mp hr).2
    simp at this
    omega
  refine ⟨fun r hr => ?_, ?_⟩
  · obtain ⟨x, hx, rfl⟩ := List.mem_map.mp hr
    intro e
    have a := blen_shr b x
    rw [e] at a
    have := hb x hx
    have : blen 0 = 0 := rfl
    omega
  · rw [List.pairwise_map]
    refine (A.red.sublist List.filter_sublist).imp_of_mem fun {x y} hx hy h => ?_
    have a := hb x hx
    have c := hb y hy
    rw [blen_shr, blen_shr, Nat.testBit_shiftRight, Nat.testBit_shiftRight, show b + (blen y - b - 1) = blen y - 1 by omega, show b + (blen x - b - 1) = blen x - 1 by omega]
    exact h
theorem filter_two (p : Nat → Bool) : ∀ R : List Nat, (R.filter p).length + (R.filter fun r => !p r).length = R.length
  | [] => rfl
  | r :: rs => by
    have := filter_two p rs
    cases h : p r <;> simp [List.filter_cons, h] <;> omega
theorem Rws.split {R : List Nat} (A : Rws R) (b : Nat) : (R.filter fun r => decide (blen r ≤ b)).length + rk (R.map fun x => x >>> b) = R.length := by
  have a := spn_id (A.high b)
  rw [List.length_map] at a
  have e : rk (R.map fun x => x >>> b) = rk ((R.filter fun r => !decide (blen r ≤ b)).map fun x => x >>> b) := by
    refine Nat.le_antisymm (rk_le fun x hx => ?_) (rk_le fun x hx => ?_)
    · obtain ⟨r, hr, rfl⟩ := List.mem_map.mp hx
      by_cases h : blen r ≤ b
      · rw [Nat.shiftRight_eq_div_pow, Nat.div_eq_of_lt (blen_le.mp h)]; exact .zero
      · exact .of (List.mem_map.mpr ⟨r, List.mem_filter.mpr ⟨hr, by simpa using h⟩, rfl⟩)
    · obtain ⟨r, hr, rfl⟩ := List.mem_map.mp hx
      exact .of (List.mem_map.mpr ⟨r, (List.mem_filter.mp hr).1, rfl⟩)
  have := filter_two (fun r => decide (blen r ≤ b)) R
  omega
theorem mtd_len {b : Nat} {A B : List Nat} (RA : Rws A) (RB : Rws B) (lt : ∀ x ∈ A, x < 2 ^ b) : (mtd b A B).length + rk (A ++ B) = A.length + B.length := by
  have a := (spn_rws (mts b A B)).split b
  have r1 : (spn (mts b A B)).length = A.length + B.length := by
    have e : rk (mts b A B) = rk ((B.map fun r => r <<< b) ++ A.map fun r => (r <<< b) + r) := rk_perm List.perm_append_comm
    have i := (ind_pairs b RB.ind RA.ind lt).rk
    rw [← e] at i
    show rk (mts b A B) = _
    rw [i]
    simp
    omega
  have r2 : rk ((spn (mts b A B)).map fun x => x >>> b) = rk (A ++ B) := by
    have e1 : ∀ x, Spn ((spn (mts b A B)).map fun x => x >>> b) x ↔ Spn ((mts b A B).map fun x => x >>> b) x := fun x => by
      constructor
      · intro h
        obtain ⟨y, hy, rfl⟩ := (lin_shr b).back h
        exact (lin_shr b).spn ((spn_span _ y).mp hy)
      · intro h
        obtain ⟨y, hy, rfl⟩ := (lin_shr b).back h
        exact (lin_shr b).spn ((spn_span _ y).mpr hy)
    rw [rk_eq e1]
    unfold mts
    rw [List.map_append, map_shl_shr, List.map_map]
    have e2 : A.map ((fun x => x >>> b) ∘ fun r => (r <<< b) + r) = A := by
      conv => rhs; rw [← List.map_id A]
      refine List.map_congr_left fun x hx => ?_
      show (x <<< b + x) >>> b = x
      rw [add_eq_xor (lt x hx), Nat.shiftRight_xor_distrib, shl_shr, Nat.shiftRight_eq_div_pow, Nat.div_eq_of_lt (lt x hx), Nat.xor_zero]
    rw [e2]
  rw [r1, r2] at a
  exact a
/-! ### what the law asks -/
theorem kpt_eq {b : Nat} {ss ws : List Nat} (hs : ∀ x ∈ ss, x < 2 ^ b) : kpt b ss (spn ws) = ((rk (ss ++ ws) - rk ws : Nat) : Int) := by
  have a := mtd_len (b := b) (spn_rws ss) (spn_rws ws) (spn_lt hs)
  have c : rk (spn ss ++ spn ws) = rk (ss ++ ws) := rk_eq fun x => span_app2 (fun z => spn_span ss z) (fun z => spn_span ws z)
  have d := spn_id (mtd_rws b (spn ss) (spn ws))
  have e1 : (spn (mtd b (spn ss) (spn ws))).length = (mtd b (spn ss) (spn ws)).length := d
  have e2 : (spn ss).length = rk ss := rfl
  have e3 : (spn ws).length = rk ws := rfl
  have r := rk_right ss ws
  unfold kpt
  rw [e1, e2]
  rw [c, e2, e3] at a
  omega
theorem twn_sub_prt (ss ls ws : List Nat) : rk (twn ss ls ++ prt ss ls (spn ws)) = rk (prt ss ls (spn ws)) := by
  refine Nat.le_antisymm (rk_le fun x hx => ?_) (rk_right _ _)
  rcases List.mem_append.mp hx with hx | hx
  · have := (twn_span ss ls x).mp (.of hx)
    exact (prt_span ss ls ws x).mpr ⟨this.1, this.2.sub fun w hw => List.mem_append_left _ hw⟩
  · exact .of hx
theorem ldr_size {b : Nat} {ss ls ws : List Nat} (hs : ∀ x ∈ ss, x < 2 ^ b) (hl : ∀ x ∈ ls, x < 2 ^ b) (hw : ∀ x ∈ ws, x < 2 ^ b) (hb : b ≤ rk (ss ++ ls)) : (ldr ss ls (spn ws)).length = rk (ss ++ ws) - rk ss := by
  have a := cmpl_len (spn_rws (ker (ls.map (clr (spn ss))))) (prt ss ls (spn ws))
  have a' : (ldr ss ls (spn ws)).length + rk (twn ss ls) = rk (twn ss ls ++ prt ss ls (spn ws)) := a
  rw [twn_sub_prt, prt_rk] at a'
  have c : rk (twn ss ls) = (twn ss ls).length := spn_id (spn_rws _)
  have d := twn_size ss ls
  have e := prt_size ss ls ws
  have f : rk (ss ++ ls) = b := Nat.le_antisymm (rk_le_bits fun x hx => (List.mem_append.mp hx).elim (hs x) (hl x)) hb
  have g : rk (ss ++ ws ++ ls) = b := by
    refine Nat.le_antisymm (rk_le_bits fun x hx => ?_) (Nat.le_trans hb (rk_le fun x hx => ?_))
    · rcases List.mem_append.mp hx with hx | hx
      · exact (List.mem_append.mp hx).elim (hs x) (hw x)
      · exact hl x hx
    · rcases List.mem_append.mp hx with hx | hx
      · exact .of (List.mem_append_left _ (List.mem_append_left _ hx))
      · exact .of (List.mem_append_right _ hx)
  have h := rk_left ss ws
  omega
theorem ldr_mem {ss ls ws : List Nat} {x : Nat} (h : x ∈ ldr ss ls (spn ws)) : x < 2 ^ ls.length ∧ lft (bas (ss ++ ws)) (img ls x) = 0 := by
  have := (prt_span ss ls ws x).mp (.of (cmpl_mem _ x h))
  exact ⟨this.1, lft_bas.mpr this.2⟩
theorem ldr_rk (ss ls ws : List Nat) : rk ((ldr ss ls (spn ws)).map fun x => lft (bas ss) (img ls x)) = (ldr ss ls (spn ws)).length := by
  have L : Lin (fun x => lft (bas ss) (img ls x)) := (lin_lft _).comp (lin_img ls)
  have := (cmpl_ind (A := twn ss ls) (spn_rws _) (prt ss ls (spn ws)) L fun y hy e => (twn_span ss ls y).mpr ⟨((prt_span ss ls ws y).mp hy).1, lft_bas.mp e⟩).rk
  rw [List.length_map] at this
  exact this
theorem smr_eq {b : Nat} {ss ls ws : List Nat} (hs : ∀ x ∈ ss, x < 2 ^ b) (hl : ∀ x ∈ ls, x < 2 ^ b) (hw : ∀ x ∈ ws, x < 2 ^ b) (hb : b ≤ rk (ss ++ ls)) :
    smr b ss ls (spn ws) = rdf ((rk (ss ++ ws) - rk ws) - (tgd (ls.map (lft (bas ss)))).2.length) (rk (ss ++ ws) - rk ss) := by
  unfold smr
  rw [kpt_eq hs, ldr_size hs hl hw hb, ← twn_tag]
  congr 1
  omega
/-! ### the fewest rounds -/
/-- what is reached -/
def rch (b l t : Nat) : Nat → Nat
  | 0 => 1 <<< b
  | i + 1 => rch b l t i + min (rch b l t i) (1 <<< (l + t))
theorem rch_dbl {b l t : Nat} : ∀ i, i ≤ l + t + 1 - b → b ≤ l + t ∨ i = 0 → rch b l t i = 2 ^ (b + i)
  | 0, _, _ => Nat.one_shiftLeft b
  | i + 1, h, hb => by
    have hb' : b ≤ l + t := by omega
    have ih := rch_dbl (b := b) (l := l) (t := t) i (by omega) (.inl hb')
    show rch b l t i + min (rch b l t i) (1 <<< (l + t)) = _
    rw [ih, Nat.one_shiftLeft, Nat.min_eq_left (Nat.pow_le_pow_right (by decide) (by omega)), ← Nat.add_assoc, Nat.pow_succ]
    omega
theorem rch_ge {b l t d : Nat} (h : 2 ^ (l + t) ≤ rch b l t d) : ∀ j, rch b l t (d + j) = rch b l t d + j * 2 ^ (l + t)
  | 0 => by simp
  | j + 1 => by
    have ih := rch_ge h j
    show rch b l t (d + j) + min (rch b l t (d + j)) (1 <<< (l + t)) = _
    rw [Nat.one_shiftLeft, Nat.min_eq_right (by rw [ih]; exact Nat.le_trans h (Nat.le_add_right _ _)), ih, Nat.succ_mul]
    omega
theorem rch_lt {b l t r : Nat} (h : rch b l t r = 2 ^ (b + l)) : ∀ i, i < r → rch b l t i < 2 ^ (b + l) := by
  have up : ∀ i j, i ≤ j → rch b l t i ≤ rch b l t j := by
    intro i j hij
    induction hij with
    | refl => exact Nat.le_refl _
    | step _ ih => exact Nat.le_trans ih (Nat.le_add_right _ _)
  have pos : ∀ i, 0 < rch b l t i := fun i => Nat.lt_of_lt_of_le (by show 0 < 1 <<< b; rw [Nat.one_shiftLeft]; exact Nat.two_pow_pos b) (up 0 i (Nat.zero_le _))
  intro i hi
  have a := up (i + 1) r hi
  have c : rch b l t (i + 1) = rch b l t i + min (rch b l t i) (1 <<< (l + t)) := rfl
  have d : 0 < min (rch b l t i) (1 <<< (l + t)) := by
    rw [Nat.one_shiftLeft]
    have := pos i
    have := Nat.two_pow_pos (l + t)
    omega
  omega
theorem rch_rdf (b l t : Nat) : rch b l t (rdf (b - t) l) = 2 ^ (b + l) := by
  by_cases h : b ≤ t
  · have e : rdf (b - t) l = l := by
      rw [show b - t = 0 by omega]
      unfold rdf
      split
      · have : l = 0 := by omega
        subst this; rfl
      · simp
    rw [e, rch_dbl l (by omega) (.inl (by omega))]
  · obtain ⟨a, rfl⟩ : ∃ a, b = t + a := ⟨b - t, by omega⟩
    rw [show t + a - t = a by omega]
    unfold rdf
    split
    · rename_i hl
      obtain ⟨c, rfl⟩ : ∃ c, a = l + c := ⟨a - l, by omega⟩
      have q := rch_ge (b := t + (l + c)) (l := l) (t := t) (d := 0) (by show _ ≤ 1 <<< _; rw [Nat.one_shiftLeft]; exact Nat.pow_le_pow_right (by decide) (by omega)) (1 <<< (l + c) - 1 <<< (l + c - l))
      rw [Nat.zero_add] at q
      rw [q, show l + c - l = c by omega]
      show 1 <<< _ + _ = _
      rw [Nat.one_shiftLeft, Nat.one_shiftLeft, Nat.one_shiftLeft, Nat.sub_mul, ← Nat.pow_add, ← Nat.pow_add]
      have m : 2 ^ (c + (l + t)) ≤ 2 ^ (l + c + (l + t)) := Nat.pow_le_pow_right (by decide) (by omega)
      have e1 : t + (l + c) = c + (l + t) := by omega
      have e2 : c + (l + t) + l = l + c + (l + t) := by omega
      rw [e1, e2]
      omega
    · rename_i hl
      obtain ⟨c, rfl⟩ : ∃ c, l = a + c := ⟨l - a, by omega⟩
      have q0 : rch (t + a) (a + c) t c = 2 ^ (t + a + c) := rch_dbl c (by omega) (.inl (by omega))
      have q := rch_ge (b := t + a) (l := a + c) (t := t) (d := c) (by rw [q0]; exact Nat.pow_le_pow_right (by decide) (by omega)) (2 ^ a - 1)
      have p := Nat.two_pow_pos a
      rw [Nat.one_shiftLeft, show 2 ^ a - 1 + (a + c) - a = c + (2 ^ a - 1) by omega, q, q0, Nat.sub_mul, Nat.one_mul, ← Nat.pow_add]
      have e1 : t + a + c = a + c + t := by omega
      have e2 : t + a + (a + c) = a + (a + c + t) := by omega
      have m : 2 ^ (a + c + t) ≤ 2 ^ (a + (a + c + t)) := Nat.pow_le_pow_right (by decide) (by omega)
      rw [e1, e2]
      omega
theorem rdf_small {n l : Nat} (h : n ≤ 5) (hl : l ≤ 300) : rdf n l < 400 := by
  unfold rdf
  have : 2 ^ n ≤ 2 ^ 5 := Nat.pow_le_pow_right (by decide) h
  rw [Nat.one_shiftLeft]
  split
  · exact Nat.lt_of_le_of_lt (Nat.sub_le _ _) (by omega)
  · omega
theorem fewest_ok {b l t : Nat} (hl : l ≤ 300) : b ≤ 5 → rdf (b - t) l < 400 ∧ 1 <<< (b + l) ≤ rch b l t (rdf (b - t) l) ∧ ∀ i, i < rdf (b - t) l → rch b l t i < 1 <<< (b + l) := fun hb => by
  have h := rch_rdf b l t
  refine ⟨rdf_small (by omega) hl, ?_, ?_⟩
  · rw [h, Nat.one_shiftLeft]; exact Nat.le_refl _
  · rw [Nat.one_shiftLeft]; exact rch_lt h
end LaneX
set_option linter.all false
namespace LaneX
/-! ### numbers by their bits -/
def bitsOf (f : Nat → Bool) : Nat → Nat
  | 0 => 0
  | n + 1 => bitsOf f n ^^^ (if f n = true then 2 ^ n else 0)
theorem bitsOf_lt (f : Nat → Bool) : ∀ n, bitsOf f n < 2 ^ n
  | 0 => Nat.zero_lt_one
  | n + 1 => by
    have h := bitsOf_lt f n
    have m : 2 ^ n ≤ 2 ^ (n + 1) := Nat.pow_le_pow_right (by decide) (Nat.le_succ n)
    unfold bitsOf
    refine Nat.xor_lt_two_pow (Nat.lt_of_lt_of_le h m) ?_
    split
    · exact Nat.pow_lt_pow_right (by decide) (Nat.lt_succ_self n)
    · exact Nat.two_pow_pos _
theorem bitsOf_bit (f : Nat → Bool) : ∀ n i, (bitsOf f n).testBit i = (decide (i < n) && f i)
  | 0, i => by simp [bitsOf]
  | n + 1, i => by
    unfold bitsOf
    rw [Nat.testBit_xor, bitsOf_bit f n i]
    by_cases e : i = n
    · subst e
      cases h : f i
      · simp
      · simp [Nat.testBit_two_pow]
    · have : (i < n + 1) ↔ i < n := by omega
      cases h : f n
      · simp [this]
      · simp [this, Nat.testBit_two_pow, show ¬ n = i from fun z => e z.symm]
theorem bitsOf_xor (f g : Nat → Bool) (n : Nat) : bitsOf (fun i => f i ^^ g i) n = bitsOf f n ^^^ bitsOf g n := by
  apply Nat.eq_of_testBit_eq
  intro i
  rw [Nat.testBit_xor, bitsOf_bit, bitsOf_bit, bitsOf_bit]
  cases decide (i < n) <;> simp
theorem imf_congr {cols : List Nat} {x y : Nat} : ∀ {n}, (∀ i, i < n → x.testBit i = y.testBit i) → imf cols x n = imf cols y n
  | 0, _ => rfl
  | n + 1, h => by rw [imf_succ, imf_succ, imf_congr fun i hi => h i (by omega), h n (by omega)]
theorem img_congr {cols : List Nat} {x y : Nat} (h : ∀ i, i < cols.length → x.testBit i = y.testBit i) : img cols x = img cols y := imf_congr h
theorem imf_cols {P Q : List Nat} {x : Nat} : ∀ {n}, (∀ i, i < n → P.getD i 0 = Q.getD i 0) → imf P x n = imf Q x n
  | 0, _ => rfl
  | n + 1, h => by rw [imf_succ, imf_succ, imf_cols fun i hi => h i (by omega), h n (by omega)]
/-- columns one by one added -/
theorem imf_add {P Q R : List Nat} {x : Nat} : ∀ {n}, (∀ i, i < n → R.getD i 0 = P.getD i 0 ^^^ Q.getD i 0) → imf R x n = imf P x n ^^^ imf Q x n
  | 0, _ => (Nat.xor_self 0).symm
  | n + 1, h => by
    rw [imf_succ, imf_succ, imf_succ, imf_add fun i hi => h i (by omega), h n (by omega)]
    split
    · rw [xor4]
    · rfl
/-! ### the coefficients of rows in a word -/
def cof (R : List Nat) (l : Nat) : Nat := bitsOf (fun i => l.testBit (blen (R.getD i 0) - 1)) R.length
theorem cof_lt (R : List Nat) (l : Nat) : cof R l < 2 ^ R.length := bitsOf_lt _ _
theorem cof_bit {R : List Nat} {l i : Nat} (h : i < R.length) : (cof R l).testBit i = l.testBit (blen (R.getD i 0) - 1) := by
  unfold cof
  rw [bitsOf_bit, decide_eq_true h]; rfl
theorem cof_xor (R : List Nat) (x y : Nat) : cof R (x ^^^ y) = cof R x ^^^ cof R y := by
  unfold cof
  rw [← bitsOf_xor]
  congr 1
  funext i
  rw [Nat.testBit_xor]
theorem clr_take {R : List Nat} (A : Rws R) (l : Nat) : ∀ k, k ≤ R.length → clr (R.take k) l = l ^^^ imf R (cof R l) k
  | 0, _ => by show l = l ^^^ 0; rw [Nat.xor_zero]
  | k + 1, h => by
    have tk : R.take (k + 1) = R.take k ++ [R.getD k 0] := by
      rw [List.take_succ, List.getD_eq_getElem?_getD, List.getElem?_eq_getElem (by omega)]; rfl
    have ih := clr_take A l k (by omega)
    rw [tk, clr_append, imf_succ]
    show clr [R.getD k 0] _ = _
    rw [clr_cons]
    show _ ^^^ bx _ _ = _
    have red := A.red
    have hb : (clr (R.take k) l).testBit (blen (R.getD k 0) - 1) = l.testBit (blen (R.getD k 0) - 1) := by
      refine clr_bit fun r hr => ?_
      have e : R = R.take k ++ R.drop k := (List.take_append_drop k R).symm
      rw [e] at red
      have := (List.pairwise_append.mp red).2.2 r hr (R.getD k 0) (by
        rw [List.getD_eq_getElem?_getD, List.getElem?_eq_getElem (by omega), List.drop_eq_getElem_cons (by omega)]
        exact .head _)
      exact this.1
    rw [hb, ← cof_bit (by omega), ih]
    cases (cof R l).testBit k
    · simp [bx]
    · simp only [bx, if_true]
      rw [Nat.xor_assoc]
theorem img_cof {R : List Nat} (A : Rws R) (l : Nat) : img R (cof R l) = l ^^^ clr R l := by
  have := clr_take A l R.length (Nat.le_refl _)
  rw [List.take_length] at this
  rw [this, xor_cancel]
  rfl
theorem clr_idem {R : List Nat} (A : Rws R) (l : Nat) : clr R (clr R l) = clr R l := clr_of_none fun r hr => clr_tops A r hr
theorem getD_mem' {R : List Nat} {i : Nat} (h : i < R.length) : R.getD i 0 ∈ R := getD_mem h
theorem cof_clr {R : List Nat} (A : Rws R) (l : Nat) : cof R (clr R l) = 0 := by
  apply Nat.eq_of_testBit_eq
  intro i
  rw [Nat.zero_testBit]
  by_cases h : i < R.length
  · rw [cof_bit h]; exact clr_tops A _ (getD_mem h)
  · exact Nat.testBit_lt_two_pow (Nat.lt_of_lt_of_le (cof_lt R _) (Nat.pow_le_pow_right (by decide) (by omega)))
theorem imf_bit {R : List Nat} {t c : Nat} : ∀ {n}, (∀ i, i < n → (R.getD i 0).testBit t = false) → (imf R c n).testBit t = false
  | 0, _ => Nat.zero_testBit _
  | n + 1, h => by
    have ih := imf_bit (c := c) fun i hi => h i (Nat.lt_succ_of_lt hi)
    rw [imf_succ]
    split
    · rw [Nat.testBit_xor, ih, h n (Nat.lt_succ_self n)]; rfl
    · exact ih
theorem Rws.getD_bit {R : List Nat} (A : Rws R) {i j : Nat} (hi : i < R.length) (hj : j < R.length) (h : i ≠ j) : (R.getD i 0).testBit (blen (R.getD j 0) - 1) = false := by
  have e : ∀ k, k < R.length → R.getD k 0 = R[k]?.getD 0 := fun k _ => List.getD_eq_getElem?_getD
  have p := List.pairwise_iff_getElem.mp A.red
  rw [List.getD_eq_getElem?_getD, List.getD_eq_getElem?_getD, List.getElem?_eq_getElem hi, List.getElem?_eq_getElem hj]
  show R[i].testBit (blen R[j] - 1) = false
  rcases Nat.lt_or_ge i j with q | q
  · exact (p i j hi hj q).1
  · exact (p j i hj hi (by omega)).2
theorem imf_top {R : List Nat} (A : Rws R) {j c : Nat} (hj : j < R.length) : ∀ n, n ≤ R.length → (imf R c n).testBit (blen (R.getD j 0) - 1) = (decide (j < n) && c.testBit j)
  | 0, _ => by show (0 : Nat).testBit _ = _; simp
  | n + 1, hn => by
    have ih := imf_top A (c := c) hj n (by omega)
    rw [imf_succ]
    by_cases e : j = n
    · subst e
      have z : decide (j < j) = false := by simp
      rw [z, Bool.false_and] at ih
      have t := testBit_top (A.nz _ (getD_mem hj))
      cases q : c.testBit j
      · rw [if_neg (by simp), ih]; simp
      · rw [if_pos rfl, Nat.testBit_xor, ih, t]; simp
    · have b := A.getD_bit (i := n) (j := j) (by omega) hj (fun z => e z.symm)
      have d : (j < n + 1) ↔ j < n := by omega
      cases q : c.testBit n
      · rw [if_neg (by simp), ih]; simp [d]
      · rw [if_pos rfl, Nat.testBit_xor, ih, b]; simp [d]
theorem cof_img {R : List Nat} (A : Rws R) {c : Nat} (h : c < 2 ^ R.length) : cof R (img R c) = c := by
  apply Nat.eq_of_testBit_eq
  intro i
  by_cases hi : i < R.length
  · rw [cof_bit hi]
    unfold img
    rw [imf_top A hi _ (Nat.le_refl _), decide_eq_true hi]; rfl
  · have m : 2 ^ R.length ≤ 2 ^ i := Nat.pow_le_pow_right (by decide) (by omega)
    rw [Nat.testBit_lt_two_pow (Nat.lt_of_lt_of_le (cof_lt R _) m), Nat.testBit_lt_two_pow (Nat.lt_of_lt_of_le h m)]
theorem clr_img {R : List Nat} (A : Rws R) (c : Nat) : clr R (img R c) = 0 := by
  rw [← A.span]
  have : ∀ n, n ≤ R.length → Spn R (imf R c n) := by
    intro n
    induction n with
    | zero => intro _; exact .zero
    | succ n ih =>
      intro h
      rw [imf_succ]
      split
      · exact (ih (by omega)).xor (.of (getD_mem h))
      · exact ih (by omega)
  exact this _ (Nat.le_refl _)
/-! ### a word cleared stays as short -/
theorem clr_lt' {k : Nat} : ∀ {rows : List Nat} {w : Nat}, w < 2 ^ k → clr rows w < 2 ^ k
  | [], w, h => h
  | r :: rs, w, h => by
    rw [clr_cons]
    refine clr_lt' ?_
    cases q : w.testBit (blen r - 1) with
    | false => simpa [bx] using h
    | true =>
      simp only [bx, if_true]
      refine Nat.xor_lt_two_pow h ?_
      by_cases z : r = 0
      · rw [z]; exact Nat.two_pow_pos k
      · rw [← blen_le]
        have b := blen_pos z
        refine Classical.byContradiction fun n => ?_
        rw [testBit_ge (n := w) (i := blen r - 1) (Nat.le_trans (blen_le.mpr h) (by omega))] at q
        cases q
/-! ### solving -/
def slv (ss : List Nat) (g : Nat) : Nat := clr (prd ss) (g <<< ss.length)
theorem slv_ok {ss : List Nat} {g : Nat} (h : Spn ss g) : slv ss g < 2 ^ ss.length ∧ img ss (slv ss g) = g := by
  have h' : Spn (ss.take ss.length) g := by rw [List.take_length]; exact h
  obtain ⟨x, hx, rfl⟩ := span_img (Nat.le_refl _) h'
  have R := spn_rws (prs ss)
  have e1 : img ss x <<< ss.length = ((img ss x <<< ss.length) ^^^ x) ^^^ x := (xor_cancel_right _ _).symm
  have e2 : slv ss (img ss x) = clr (prd ss) x := by
    have z : clr (prd ss) ((img ss x <<< ss.length) ^^^ x) = 0 := R.span.mp ((spn_span _ _).mpr (prs_bwd ss (Nat.le_refl _) hx))
    unfold slv
    rw [e1, clr_xor, z, Nat.zero_xor]
  have h2 : clr (prd ss) x < 2 ^ ss.length := clr_lt' hx
  rw [e2]
  refine ⟨h2, ?_⟩
  have h3 := (spn_span (prs ss) _).mp (spn_clr (prd ss) x)
  have h4 : Spn (ker ss) (x ^^^ clr (prd ss) x) := by
    unfold ker prd
    rw [R.low_span, spn_span]
    exact ⟨h3, Nat.xor_lt_two_pow hx h2⟩
  have h5 := ((ker_span ss _).mp h4).2
  rw [(lin_img ss).x] at h5
  exact (xor_eq_zero h5).symm
/-! ### writes -/
section
variable (ss ls : List Nat)
def wmn : Nat := min (spn ss).length (twn ss ls).length
def wgoal (i : Nat) (tw : Nat) : Nat := img ls tw ^^^ (if i < wmn ss ls then (spn ss).getD i 0 else 0)
def wtn (i : Nat) (tw : Nat) : Nat × Nat := (blen tw - 1, slv ss (wgoal ss ls i tw))
def wts : List (Nat × Nat) := (List.range (twn ss ls).length).map fun i => wtn ss ls i ((twn ss ls).getD i 0)
def wst : List Nat := ((spn ss).drop (wmn ss ls)).map (slv ss)
def wslot (n l : Nat) : Nat := (wts ss ls).foldl (fun s p => if l.testBit p.1 = true then s ^^^ p.2 else s) (img (wst ss ls) n)
def went (n l : Nat) : Nat := img ss (wslot ss ls n l) ^^^ img ls l
end
section
variable {ss ls : List Nat}
theorem wfold {ps : List (Nat × Nat)} {l s : Nat} : ps.foldl (fun s p => if l.testBit p.1 = true then s ^^^ p.2 else s) s = s ^^^ img (ps.map Prod.snd) (bitsOf (fun i => l.testBit (ps.getD i (0, 0)).1) ps.length) := by
  have : ∀ k, k ≤ ps.length → (ps.take k).foldl (fun s p => if l.testBit p.1 = true then s ^^^ p.2 else s) s = s ^^^ imf (ps.map Prod.snd) (bitsOf (fun i => l.testBit (ps.getD i (0, 0)).1) ps.length) k := by
    intro k
    induction k with
    | zero => intro _; show s = s ^^^ 0; rw [Nat.xor_zero]
    | succ k ih =>
      intro h
      have tk : ps.take (k + 1) = ps.take k ++ [ps.getD k (0, 0)] := by
        rw [List.take_succ, List.getD_eq_getElem?_getD, List.getElem?_eq_getElem (by omega)]; rfl
      have e : (ps.map Prod.snd).getD k 0 = (ps.getD k (0, 0)).2 := by
        simp only [List.getD_eq_getElem?_getD, List.getElem?_map, List.getElem?_eq_getElem (show k < ps.length by omega)]
        rfl
      rw [tk, List.foldl_append, ih (by omega), imf_succ, bitsOf_bit, decide_eq_true (show k < ps.length by omega), e]
      show (if _ then _ else _) = _
      simp only [Bool.true_and]
      split
      · rw [Nat.xor_assoc]
      · rfl
  have q := this ps.length (Nat.le_refl _)
  rw [List.take_length] at q
  rw [q]
  unfold img
  rw [List.length_map]
theorem twn_rws (ss ls : List Nat) : Rws (twn ss ls) := spn_rws _
theorem wgoal_in (i : Nat) {tw : Nat} (h : tw ∈ twn ss ls) : Spn ss (wgoal ss ls i tw) := by
  refine ((twn_span ss ls tw).mp (.of h)).2.xor ?_
  split
  · rename_i hi
    rw [← spn_span]
    exact .of (getD_mem (by unfold wmn at hi; omega))
  · exact .zero
theorem wts_len : (wts ss ls).length = (twn ss ls).length := by simp [wts]
theorem wts_get {i : Nat} (h : i < (twn ss ls).length) : (wts ss ls).getD i (0, 0) = wtn ss ls i ((twn ss ls).getD i 0) := by
  unfold wts
  rw [List.getD_eq_getElem?_getD, List.getElem?_map, List.getElem?_range h]
  rfl
theorem wslot_eq (n l : Nat) : wslot ss ls n l = img (wst ss ls) n ^^^ img ((wts ss ls).map Prod.snd) (cof (twn ss ls) l) := by
  unfold wslot
  rw [wfold]
  congr 1
  refine img_congr fun i hi => ?_
  rw [List.length_map, wts_len] at hi
  rw [bitsOf_bit, wts_len, decide_eq_true hi, wts_get hi, cof_bit hi]
  rfl
theorem wst_lt : ∀ x ∈ wst ss ls, x < 2 ^ ss.length := fun x hx => by
  obtain ⟨r, hr, rfl⟩ := List.mem_map.mp hx
  exact (slv_ok ((spn_span ss r).mp (.of (List.mem_of_mem_drop hr)))).1
theorem wts_lt : ∀ p ∈ wts ss ls, p.2 < 2 ^ ss.length := fun p hp => by
  obtain ⟨i, hi, rfl⟩ := List.mem_map.mp hp
  exact (slv_ok (wgoal_in i (getD_mem (List.mem_range.mp hi)))).1
theorem imf_lt {b : Nat} {cs : List Nat} (h : ∀ c ∈ cs, c < 2 ^ b) (x : Nat) : ∀ n, imf cs x n < 2 ^ b
  | 0 => Nat.two_pow_pos b
  | n + 1 => by
    rw [imf_succ]
    split
    · refine Nat.xor_lt_two_pow (imf_lt h x n) ?_
      rw [List.getD_eq_getElem?_getD]
      cases q : cs[n]? with
      | none => exact Nat.two_pow_pos b
      | some c => exact h c (List.mem_of_getElem? q)
    · exact imf_lt h x n
theorem wslot_lt (n l : Nat) : wslot ss ls n l < 2 ^ ss.length := by
  rw [wslot_eq]
  refine Nat.xor_lt_two_pow (imf_lt wst_lt _ _) (imf_lt (fun c hc => ?_) _ _)
  obtain ⟨p, hp, rfl⟩ := List.mem_map.mp hc
  exact wts_lt p hp
theorem img_self_map {ss cols : List Nat} (h : ∀ r ∈ cols, Spn ss r) (x : Nat) : img ss (img (cols.map (slv ss)) x) = img cols x := by
  rw [← img_map (lin_img ss), List.map_map]
  unfold img
  rw [List.length_map]
  refine imf_cols fun i hi => ?_
  simp only [List.getD_eq_getElem?_getD, List.getElem?_map, List.getElem?_eq_getElem hi]
  exact (slv_ok (h _ (List.getElem_mem hi))).2
theorem went_eq (n l : Nat) : went ss ls n l = img ((spn ss).drop (wmn ss ls)) n ^^^ img ((spn ss).take (wmn ss ls)) (cof (twn ss ls) l) ^^^ img ls (clr (twn ss ls) l) := by
  unfold went
  rw [wslot_eq, (lin_img ss).x]
  have e1 : img ss (img (wst ss ls) n) = img ((spn ss).drop (wmn ss ls)) n := img_self_map (fun r hr => (spn_span ss r).mp (.of (List.mem_of_mem_drop hr))) n
  have e2 : img ss (img ((wts ss ls).map Prod.snd) (cof (twn ss ls) l)) = img ls (img (twn ss ls) (cof (twn ss ls) l)) ^^^ img ((spn ss).take (wmn ss ls)) (cof (twn ss ls) l) := by
    have a : (wts ss ls).map Prod.snd = ((List.range (twn ss ls).length).map fun i => wgoal ss ls i ((twn ss ls).getD i 0)).map (slv ss) := by
      unfold wts
      rw [List.map_map, List.map_map]
      rfl
    rw [a, img_self_map (fun r hr => by
      obtain ⟨i, hi, rfl⟩ := List.mem_map.mp hr
      exact wgoal_in i (getD_mem (List.mem_range.mp hi))), ← img_map (lin_img ls)]
    unfold img
    rw [List.length_map, List.length_map, List.length_range, List.length_take]
    have pad : ∀ k c, wmn ss ls ≤ k → imf ((spn ss).take (wmn ss ls)) c (min (wmn ss ls) (spn ss).length) = imf ((spn ss).take (wmn ss ls)) c k := by
      intro k c hk
      have m : min (wmn ss ls) (spn ss).length = wmn ss ls := by unfold wmn; omega
      rw [m]
      induction k with
      | zero => rw [show wmn ss ls = 0 by omega]
      | succ k ih =>
        by_cases q : wmn ss ls = k + 1
        · rw [q]
        · rw [imf_succ, ← ih (by omega)]
          have z : ((spn ss).take (wmn ss ls)).getD k 0 = 0 := by
            rw [List.getD_eq_getElem?_getD, List.getElem?_eq_none (by rw [List.length_take]; omega)]; rfl
          rw [z, Nat.xor_zero, ite_self]
    rw [pad (twn ss ls).length _ (by unfold wmn; omega)]
    refine imf_add fun i hi => ?_
    have g1 : ((List.range (twn ss ls).length).map fun i => wgoal ss ls i ((twn ss ls).getD i 0)).getD i 0 = wgoal ss ls i ((twn ss ls).getD i 0) := by
      rw [List.getD_eq_getElem?_getD, List.getElem?_map, List.getElem?_range hi]; rfl
    have g2 : ((twn ss ls).map (img ls)).getD i 0 = img ls ((twn ss ls).getD i 0) := by
      simp only [List.getD_eq_getElem?_getD, List.getElem?_map, List.getElem?_eq_getElem hi]
      rfl
    have g3 : ((spn ss).take (wmn ss ls)).getD i 0 = if i < wmn ss ls then (spn ss).getD i 0 else 0 := by
      simp only [List.getD_eq_getElem?_getD, List.getElem?_take]
      split <;> rfl
    rw [g1]
    show _ = ((twn ss ls).map (img ls)).getD i 0 ^^^ _
    rw [g2, g3]
    rfl
  rw [e1, e2, img_cof (twn_rws ss ls), (lin_img ls).x]
  generalize img ((spn ss).drop (wmn ss ls)) n = A
  generalize img ((spn ss).take (wmn ss ls)) (cof (twn ss ls) l) = B
  generalize img ls (clr (twn ss ls) l) = C
  generalize img ls l = D
  have q : D ^^^ C ^^^ B ^^^ D = B ^^^ C := by
    rw [Nat.xor_comm (D ^^^ C ^^^ B) D, Nat.xor_assoc D C B, xor_cancel, Nat.xor_comm]
  rw [Nat.xor_assoc A, q, Nat.xor_assoc A]
theorem img_app {P Q : List Nat} {x y : Nat} (h : x < 2 ^ P.length) : img (P ++ Q) (x ^^^ (y <<< P.length)) = img P x ^^^ img Q y := by
  have h1 : ∀ k, k ≤ P.length → imf (P ++ Q) (x ^^^ (y <<< P.length)) k = imf P x k := by
    intro k hk
    rw [imf_cols (P := P ++ Q) (Q := P) (fun i hi => by simp only [List.getD_eq_getElem?_getD, List.getElem?_append_left (show i < P.length by omega)])]
    refine imf_congr fun i hi => ?_
    rw [Nat.testBit_xor, Nat.testBit_shiftLeft]
    have : ¬ (P.length ≤ i) := by omega
    simp [this]
  have h2 : ∀ k, imf (P ++ Q) (x ^^^ (y <<< P.length)) (P.length + k) = imf P x P.length ^^^ imf Q y k := by
    intro k
    induction k with
    | zero => rw [Nat.add_zero, h1 _ (Nat.le_refl _)]; show _ = _ ^^^ 0; rw [Nat.xor_zero]
    | succ k ih =>
      rw [← Nat.add_assoc, imf_succ, imf_succ, ih]
      have g : (P ++ Q).getD (P.length + k) 0 = Q.getD k 0 := by
        simp only [List.getD_eq_getElem?_getD, List.getElem?_append_right (Nat.le_add_right P.length k), Nat.add_sub_cancel_left]
      have t : (x ^^^ (y <<< P.length)).testBit (P.length + k) = y.testBit k := by
        rw [Nat.testBit_xor, Nat.testBit_shiftLeft, Nat.testBit_lt_two_pow (Nat.lt_of_lt_of_le h (Nat.pow_le_pow_right (by decide) (Nat.le_add_right _ _)))]
        simp
      rw [g, t]
      split
      · rw [Nat.xor_assoc]
      · rfl
  unfold img
  rw [List.length_append, h2]
theorem ind_inj {A : List Nat} (h : rk A = A.length) {x : Nat} (hx : x < 2 ^ A.length) (e : img A x = 0) : x = 0 := by
  have k := ker_len_eq A
  have z : ker A = [] := List.length_eq_zero_iff.mp (by omega)
  have s := (ker_span A x).mpr ⟨hx, e⟩
  rw [z] at s
  exact s.nil
theorem in_full {ws : List Nat} {b e : Nat} (h : ∀ w ∈ ws, w < 2 ^ b) (hb : b ≤ rk ws) (he : e < 2 ^ b) : Spn ws e := by
  refine Classical.byContradiction fun n => ?_
  have a := rk_snoc_out n
  have c := rk_le_bits (ws := ws ++ [e]) (b := b) fun w hw => by
    rcases List.mem_append.mp hw with hw | hw
    · exact h w hw
    · rcases List.mem_singleton.mp hw with rfl; exact he
  omega
theorem span_split {a b : List Nat} {e : Nat} (h : Spn (a ++ b) e) : ∃ s q, Spn a s ∧ Spn b q ∧ e = s ^^^ q := by
  induction h with
  | zero => exact ⟨0, 0, .zero, .zero, rfl⟩
  | @add y w hw _ ih =>
    obtain ⟨s, q, hs, hq, rfl⟩ := ih
    rcases List.mem_append.mp hw with hw | hw
    · exact ⟨s ^^^ w, q, .add hw hs, hq, by rw [Nat.xor_assoc, Nat.xor_assoc, Nat.xor_comm q w]⟩
    · exact ⟨s, q ^^^ w, hs, .add hw hq, by rw [Nat.xor_assoc]⟩
section
variable {b : Nat} (hs : ∀ x ∈ ss, x < 2 ^ b) (hl : ∀ x ∈ ls, x < 2 ^ b) (hb : b ≤ rk (ss ++ ls))
include hs hl hb
theorem wcount : (spn ss).length - wmn ss ls = b - ls.length := by
  have a := twn_size ss ls
  have f : rk (ss ++ ls) = b := Nat.le_antisymm (rk_le_bits fun x hx => (List.mem_append.mp hx).elim (hs x) (hl x)) hb
  have e2 : (spn ss).length = rk ss := rfl
  unfold wmn
  omega
theorem went_surj {e : Nat} (he : e < 2 ^ b) : ∃ n l, n < 2 ^ (b - ls.length) ∧ l < 2 ^ ls.length ∧ went ss ls n l = e := by
  have wc := wcount hs hl hb
  have R := twn_rws ss ls
  have A := spn_rws ss
  obtain ⟨s, q, h1, h2, rfl⟩ := span_split (in_full (fun w hw => (List.mem_append.mp hw).elim (hs w) (hl w)) hb he)
  have h2' : Spn (ls.take ls.length) q := by rw [List.take_length]; exact h2
  obtain ⟨l0, hl0, rfl⟩ := span_img (Nat.le_refl _) h2'
  have tb : ∀ r ∈ twn ss ls, r < 2 ^ ls.length := fun r hr => ((twn_span ss ls r).mp (.of hr)).1
  have hc : clr (twn ss ls) l0 < 2 ^ ls.length := clr_lt tb hl0
  -- what is left lies in the slot space
  have h3 : Spn ss (s ^^^ img ls l0 ^^^ img ls (clr (twn ss ls) l0)) := by
    rw [Nat.xor_assoc, ← (lin_img ls).x]
    exact h1.xor ((twn_span ss ls _).mp (spn_clr _ l0)).2
  have h4 : Spn ((spn ss).take (spn ss).length) (s ^^^ img ls l0 ^^^ img ls (clr (twn ss ls) l0)) := by rw [List.take_length, spn_span]; exact h3
  obtain ⟨x, hx, ex⟩ := span_img (Nat.le_refl _) h4
  have m1 : wmn ss ls ≤ (spn ss).length := by unfold wmn; omega
  have m2 : wmn ss ls ≤ (twn ss ls).length := by unfold wmn; omega
  have tl : ((spn ss).take (wmn ss ls)).length = wmn ss ls := by rw [List.length_take]; omega
  have cl : x % 2 ^ wmn ss ls < 2 ^ wmn ss ls := Nat.mod_lt _ (Nat.two_pow_pos _)
  have cl2 : x % 2 ^ wmn ss ls < 2 ^ (twn ss ls).length := Nat.lt_of_lt_of_le cl (Nat.pow_le_pow_right (by decide) m2)
  refine ⟨x >>> wmn ss ls, clr (twn ss ls) l0 ^^^ img (twn ss ls) (x % 2 ^ wmn ss ls), ?_, Nat.xor_lt_two_pow hc (imf_lt tb _ _), ?_⟩
  · rw [Nat.shiftRight_eq_div_pow, ← wc]
    rw [Nat.div_lt_iff_lt_mul (Nat.two_pow_pos _), ← Nat.pow_add, show (spn ss).length - wmn ss ls + wmn ss ls = (spn ss).length by omega]
    exact hx
  · rw [went_eq, cof_xor, cof_clr R, Nat.zero_xor, cof_img R cl2, clr_xor, clr_idem R, clr_img R, Nat.xor_zero]
    have q := img_app (P := (spn ss).take (wmn ss ls)) (Q := (spn ss).drop (wmn ss ls)) (x := x % 2 ^ wmn ss ls) (y := x >>> wmn ss ls) (by rw [tl]; exact cl)
    rw [List.take_append_drop, tl, Nat.xor_comm (x % _), ← add_eq_xor cl, Nat.shiftRight_eq_div_pow, Nat.shiftLeft_eq, Nat.mul_comm, Nat.div_add_mod, ex] at q
    rw [Nat.shiftRight_eq_div_pow, Nat.xor_comm (img _ _) (img _ _), ← q, xor_cancel_right]
theorem went_zero (ht : ls.length ≤ b) {n l : Nat} (hn : n < 2 ^ (b - ls.length)) (hl2 : l < 2 ^ ls.length) (h : went ss ls n l = 0) : n = 0 ∧ l = 0 := by
  have wc := wcount hs hl hb
  have R := twn_rws ss ls
  have A := spn_rws ss
  have a := twn_size ss ls
  have f : rk (ss ++ ls) = b := Nat.le_antisymm (rk_le_bits fun x hx => (List.mem_append.mp hx).elim (hs x) (hl x)) hb
  have e2 : (spn ss).length = rk ss := rfl
  have m : wmn ss ls = (twn ss ls).length := by unfold wmn; omega
  have m1 : wmn ss ls ≤ (spn ss).length := by unfold wmn; omega
  have tl : ((spn ss).take (wmn ss ls)).length = wmn ss ls := by rw [List.length_take]; omega
  have tb : ∀ r ∈ twn ss ls, r < 2 ^ ls.length := fun r hr => ((twn_span ss ls r).mp (.of hr)).1
  have cl : cof (twn ss ls) l < 2 ^ ((spn ss).take (wmn ss ls)).length := by rw [tl, m]; exact cof_lt _ _
  rw [went_eq] at h
  have q := img_app (Q := (spn ss).drop (wmn ss ls)) (y := n) cl
  rw [List.take_append_drop, tl] at q
  rw [Nat.xor_comm (img ((spn ss).drop _) _), ← q] at h
  have h' := xor_eq_zero h
  have sA : ∀ x k, k ≤ (spn ss).length → Spn ss (imf (spn ss) x k) := by
    intro x k
    induction k with
    | zero => intro _; exact .zero
    | succ k ih =>
      intro hk
      rw [imf_succ]
      split
      · exact (ih (by omega)).xor ((spn_span ss _).mp (.of (getD_mem hk)))
      · exact ih (by omega)
  have hz : clr (twn ss ls) l = 0 := by
    have s1 : Spn (twn ss ls) (clr (twn ss ls) l) := (twn_span ss ls _).mpr ⟨clr_lt tb hl2, by rw [← h']; exact sA _ _ (Nat.le_refl _)⟩
    have s2 := R.span.mp s1
    rwa [clr_idem R] at s2
  rw [hz, (lin_img ls).z] at h'
  have big : cof (twn ss ls) l ^^^ (n <<< wmn ss ls) < 2 ^ (spn ss).length := by
    refine Nat.xor_lt_two_pow (Nat.lt_of_lt_of_le cl (Nat.pow_le_pow_right (by decide) (by rw [tl]; exact m1))) ?_
    rw [Nat.shiftLeft_eq, show (spn ss).length = (b - ls.length) + wmn ss ls by omega, Nat.pow_add]
    exact Nat.mul_lt_mul_of_pos_right hn (Nat.two_pow_pos _)
  have z := ind_inj (spn_id A) big h'
  have n0 : n = 0 := by
    have := congrArg (fun x => x >>> wmn ss ls) z
    simp only [Nat.shiftRight_xor_distrib, Nat.shiftLeft_shiftRight, Nat.zero_shiftRight] at this
    rw [Nat.shiftRight_eq_div_pow, Nat.div_eq_of_lt (by rw [tl] at cl; exact cl), Nat.zero_xor] at this
    exact this
  rw [n0, Nat.zero_shiftLeft, Nat.xor_zero] at z
  have il := img_cof R l
  rw [z, (lin_img _).z, hz, Nat.xor_zero] at il
  exact ⟨n0, il.symm⟩
theorem went_inj (ht : ls.length ≤ b) {n l n' l' : Nat} (hn : n < 2 ^ (b - ls.length)) (hl2 : l < 2 ^ ls.length) (hn' : n' < 2 ^ (b - ls.length)) (hl2' : l' < 2 ^ ls.length) (h : went ss ls n l = went ss ls n' l') : n = n' ∧ l = l' := by
  have e : went ss ls (n ^^^ n') (l ^^^ l') = 0 := by
    have : went ss ls (n ^^^ n') (l ^^^ l') = went ss ls n l ^^^ went ss ls n' l' := by
      rw [went_eq, went_eq, went_eq, cof_xor, clr_xor, (lin_img _).x, (lin_img _).x, (lin_img _).x]
      rw [xor4 (img _ n), xor4 (_ ^^^ _) (_ ^^^ _)]
    rw [this, h, Nat.xor_self]
  obtain ⟨a, c⟩ := went_zero hs hl hb ht (Nat.xor_lt_two_pow hn hn') (Nat.xor_lt_two_pow hl2 hl2') e
  exact ⟨xor_eq_zero a, xor_eq_zero c⟩
end
end
end LaneX
set_option linter.all false
namespace LaneX
/-! ### the sums that lanes hold, step by step (k36) -/
theorem span_snoc {A : List Nat} {w x : Nat} : Spn (A ++ [w]) x ↔ Spn A x ∨ Spn A (x ^^^ w) := by
  constructor
  · intro h
    obtain ⟨s, q, h1, h2, rfl⟩ := span_split h
    have : q = 0 ∨ q = w := by
      clear h
      induction h2 with
      | zero => exact .inl rfl
      | add hw _ ih =>
        rcases List.mem_singleton.mp hw with rfl
        rcases ih with rfl | rfl
        · rw [Nat.zero_xor]; exact .inr rfl
        · rw [Nat.xor_self]; exact .inl rfl
    rcases this with rfl | rfl
    · rw [Nat.xor_zero]; exact .inl h1
    · rw [xor_cancel_right]; exact .inr h1
  · rintro (h | h)
    · exact h.sub fun z hz => List.mem_append_left _ hz
    · have a : Spn (A ++ [w]) (x ^^^ w) := h.sub fun z hz => List.mem_append_left _ hz
      have b : Spn (A ++ [w]) w := .of (List.mem_append_right _ (List.mem_singleton_self _))
      have := a.xor b
      rwa [xor_cancel_right] at this
/-- an entry that a lane knows of behind the steps P -/
def Ent (ss ls P : List Nat) (L e : Nat) : Prop := Spn (ss ++ P.map (img ls)) (e ^^^ img ls L)
theorem ent_nil {ss ls : List Nat} {L e : Nat} : Ent ss ls [] L e ↔ ∃ s, s < 2 ^ ss.length ∧ img ls L ^^^ img ss s = e := by
  unfold Ent
  rw [List.map_nil, List.append_nil]
  constructor
  · intro h
    obtain ⟨x, hx, e1⟩ := span_img (cols := ss) (Nat.le_refl _) (by rwa [List.take_length])
    refine ⟨x, hx, ?_⟩
    rw [e1, Nat.xor_comm e, xor_cancel]
  · rintro ⟨s, hs, rfl⟩
    rw [Nat.xor_comm, xor_cancel]
    have := img_span (cols := ss) (Nat.le_refl _) hs
    rwa [List.take_length] at this
theorem ent_snoc {ss ls P : List Nat} {p L e : Nat} : Ent ss ls (P ++ [p]) L e ↔ Ent ss ls P L e ∨ Ent ss ls P (L ^^^ p) e := by
  unfold Ent
  rw [List.map_append, List.map_singleton, ← List.append_assoc, span_snoc, (lin_img ls).x, Nat.xor_assoc]
theorem ent_apart {ss ls P : List Nat} {p L e : Nat} (hp : ¬ Spn (ss ++ P.map (img ls)) (img ls p)) (h1 : Ent ss ls P L e) (h2 : Ent ss ls P (L ^^^ p) e) : False := by
  refine hp ?_
  have := Spn.xor h1 h2
  rw [(lin_img ls).x] at this
  have e1 : e ^^^ img ls L ^^^ (e ^^^ (img ls L ^^^ img ls p)) = img ls p := by
    rw [← Nat.xor_assoc e, xor_cancel]
  rwa [e1] at this
theorem ent_lt {b : Nat} {ss ls P : List Nat} (hs : ∀ x ∈ ss, x < 2 ^ b) (hl : ∀ x ∈ ls, x < 2 ^ b) {L e : Nat} (h : Ent ss ls P L e) : e < 2 ^ b := by
  have a : e ^^^ img ls L < 2 ^ b := Spn.lt h fun w hw => by
    rcases List.mem_append.mp hw with hw | hw
    · exact hs w hw
    · obtain ⟨p, _, rfl⟩ := List.mem_map.mp hw
      exact imf_lt hl _ _
  have b1 : img ls L < 2 ^ b := imf_lt hl _ _
  have := Nat.xor_lt_two_pow a b1
  rwa [xor_cancel_right] at this
/-- steps that are independent beside the slots -/
def Fre (ss ls P : List Nat) : Prop := rk (ss ++ P.map (img ls)) = rk ss + P.length
theorem Fre.perm {ss ls P Q : List Nat} (h : Fre ss ls P) (p : Q.Perm P) : Fre ss ls Q := by
  unfold Fre at *
  rw [p.length_eq, ← h]
  exact rk_perm ((p.map _).append_left ss)
theorem Fre.head {ss ls P Q : List Nat} (h : Fre ss ls (P ++ Q)) : Fre ss ls P := by
  unfold Fre at *
  rw [List.map_append, ← List.append_assoc, List.length_append] at h
  have a := rk_app_len (ss ++ P.map (img ls)) (Q.map (img ls))
  have b := rk_app_len ss (P.map (img ls))
  rw [List.length_map] at a b
  omega
theorem Fre.out {ss ls P : List Nat} {p : Nat} (h : Fre ss ls (P ++ [p])) : ¬ Spn (ss ++ P.map (img ls)) (img ls p) := by
  intro z
  have a := h.head
  unfold Fre at *
  rw [List.map_append, List.map_singleton, ← List.append_assoc, rk_snoc_in z, List.length_append] at h
  simp only [List.length_singleton] at h
  omega
theorem ldr_free (ss ls ws : List Nat) : Fre ss ls (ldr ss ls (spn ws)) := by
  have a := (red_lft ss).rk ((ldr ss ls (spn ws)).map (img ls))
  rw [List.map_map] at a
  have b := ldr_rk ss ls ws
  unfold Fre
  have e : (fun x => lft (bas ss) (img ls x)) = lft (bas ss) ∘ img ls := rfl
  rw [e] at b
  omega
theorem ldr_spans {b : Nat} {ss ls ws : List Nat} (hs : ∀ x ∈ ss, x < 2 ^ b) (hl : ∀ x ∈ ls, x < 2 ^ b) (hw : ∀ x ∈ ws, x < 2 ^ b) (hb : b ≤ rk (ss ++ ls)) {w : Nat} (h : Spn ws w) : Spn (ss ++ (ldr ss ls (spn ws)).map (img ls)) w := by
  have wl : w < 2 ^ b := h.lt hw
  obtain ⟨s, q, h1, h2, rfl⟩ := span_split (in_full (ws := ss ++ ls) (fun w hw => (List.mem_append.mp hw).elim (hs w) (hl w)) hb wl)
  obtain ⟨x, hx, rfl⟩ := span_img (cols := ls) (Nat.le_refl _) (by rwa [List.take_length])
  have px : Spn (ss ++ ws) (img ls x) := by
    have a : Spn (ss ++ ws) (s ^^^ img ls x) := h.sub fun z hz => List.mem_append_right _ hz
    have c : Spn (ss ++ ws) s := h1.sub fun z hz => List.mem_append_left _ hz
    have := c.xor a
    rwa [xor_cancel] at this
  have pp : Spn (prt ss ls (spn ws)) x := (prt_span ss ls ws x).mpr ⟨hx, px⟩
  have R : Rws (twn ss ls) := spn_rws _
  have cs := cms_span R (prt ss ls (spn ws))
  have q2 : Spn (twn ss ls ++ ldr ss ls (spn ws)) x := (cs.2 x).mp ((cs.1 x).mpr (pp.sub fun z hz => List.mem_append_right _ hz))
  obtain ⟨t, y, ht, hy, rfl⟩ := span_split q2
  have i1 : Spn ss (img ls t) := ((twn_span ss ls t).mp ht).2
  have i2 : Spn ((ldr ss ls (spn ws)).map (img ls)) (img ls y) := (lin_img ls).spn hy
  rw [(lin_img ls).x, ← Nat.xor_assoc]
  exact ((h1.xor i1).sub fun z hz => List.mem_append_left _ hz).xor (i2.sub fun z hz => List.mem_append_right _ hz)
theorem coset_span {ws : List Nat} {x y : Nat} : lft (bas ws) x = lft (bas ws) y ↔ Spn ws (x ^^^ y) := by
  rw [← lft_bas, lft_xor]
  exact ⟨fun h => by rw [h, Nat.xor_self], fun h => xor_eq_zero h⟩
/-- behind all steps a lane knows of all entries of the cosets of which it holds one -/
theorem ent_all {b : Nat} {ss ls ws P : List Nat} (hs : ∀ x ∈ ss, x < 2 ^ b) (hl : ∀ x ∈ ls, x < 2 ^ b) (hw : ∀ x ∈ ws, x < 2 ^ b) (hb : b ≤ rk (ss ++ ls)) (hP : P.Perm (ldr ss ls (spn ws))) {L e0 e : Nat} (h0 : Ent ss ls [] L e0)
    (he : lft (bas ws) e = lft (bas ws) e0) : Ent ss ls P L e := by
  have a := ldr_spans hs hl hw hb (coset_span.mp he)
  have c : Spn (ss ++ P.map (img ls)) (e ^^^ e0) := a.sub fun z hz => by
    rcases List.mem_append.mp hz with hz | hz
    · exact List.mem_append_left _ hz
    · exact List.mem_append_right _ ((hP.map (img ls)).mem_iff.mpr hz)
  unfold Ent at *
  rw [List.map_nil, List.append_nil] at h0
  have d := c.xor (h0.sub (vs := ss ++ P.map (img ls)) fun z hz => List.mem_append_left _ hz)
  have e1 : e ^^^ e0 ^^^ (e0 ^^^ img ls L) = e ^^^ img ls L := by rw [Nat.xor_assoc, xor_cancel]
  rwa [e1] at d
/-- with one of the steps left out it lacks one of them -/
theorem ent_less {b : Nat} {ss ls ws P : List Nat} {p : Nat} (hs : ∀ x ∈ ss, x < 2 ^ b) (hl : ∀ x ∈ ls, x < 2 ^ b) (hw : ∀ x ∈ ws, x < 2 ^ b) (hP : ldr ss ls (spn ws) = p :: P) {L e0 : Nat} (h0 : Ent ss ls [] L e0) :
    ∃ e, e < 2 ^ b ∧ lft (bas ws) e = lft (bas ws) e0 ∧ ¬ Ent ss ls P L e := by
  have F : Fre ss ls (P ++ [p]) := (ldr_free ss ls ws).perm (by rw [hP]; exact List.perm_append_comm)
  have hp : p ∈ ldr ss ls (spn ws) := by rw [hP]; exact List.mem_cons_self
  have m := lft_bas.mp (ldr_mem hp).2
  obtain ⟨s, w, h1, h2, e1⟩ := span_split m
  refine ⟨e0 ^^^ w, Nat.xor_lt_two_pow (ent_lt hs hl h0) (h2.lt hw), coset_span.mpr ?_, fun z => F.out ?_⟩
  · rw [Nat.xor_comm e0, xor_cancel_right]; exact h2
  · unfold Ent at *
    rw [List.map_nil, List.append_nil] at h0
    have d := (z.xor (h0.sub (vs := ss ++ P.map (img ls)) fun z hz => List.mem_append_left _ hz)).xor (h1.sub (vs := ss ++ P.map (img ls)) fun z hz => List.mem_append_left _ hz)
    have e2 : e0 ^^^ w ^^^ img ls L ^^^ (e0 ^^^ img ls L) ^^^ s = img ls p := by
      rw [e1, Nat.xor_assoc e0 w, xor4, Nat.xor_self, Nat.zero_xor, xor_cancel_right, Nat.xor_comm]
    rwa [e2] at d
/-! ### masks -/
/-- the word with ones where p, below n -/
def mask (p : Nat → Bool) (n : Nat) : Nat := (((List.range n).filter p).map fun i => 1 <<< i).sum
theorem mask_bits (p : Nat → Bool) : ∀ n, mask p n = bitsOf p n
  | 0 => rfl
  | n + 1 => by
    have ih := mask_bits p n
    unfold mask at *
    rw [List.range_succ, List.filter_append, List.map_append, List.sum_append, ih]
    apply Nat.eq_of_testBit_eq
    intro i
    rw [bitsOf_bit]
    have lt := bitsOf_lt p n
    by_cases h : p n = true
    · have e : ((List.filter p [n]).map fun i => 1 <<< i).sum = 2 ^ n := by simp [h, Nat.one_shiftLeft]
      rw [e, Nat.add_comm]
      by_cases hi : i = n
      · subst hi
        rw [Nat.testBit_two_pow_add_eq, bitsOf_bit]
        simp [h]
      · rcases Nat.lt_or_gt_of_ne hi with hi | hi
        · rw [Nat.testBit_two_pow_add_gt hi, bitsOf_bit]
          have : i < n + 1 := by omega
          simp [hi, this]
        · rw [Nat.testBit_lt_two_pow]
          · simp; omega
          · have : 2 ^ (n + 1) ≤ 2 ^ i := Nat.pow_le_pow_right (by decide) hi
            rw [Nat.pow_succ] at this
            omega
    · have e : ((List.filter p [n]).map fun i => 1 <<< i).sum = 0 := by simp [h]
      rw [e, Nat.add_zero, bitsOf_bit]
      by_cases hi : i = n
      · subst hi; simp [h]
      · have : (i < n) ↔ (i < n + 1) := by omega
        simp [this]
theorem mask_bit (p : Nat → Bool) (n i : Nat) : (mask p n).testBit i = (decide (i < n) && p i) := by rw [mask_bits, bitsOf_bit]
theorem mask_lt (p : Nat → Bool) (n : Nat) : mask p n < 2 ^ n := by rw [mask_bits]; exact bitsOf_lt _ _
/-- m is the word of the entries of E whose coset is c -/
def Msk (rows : List Nat) (E : Nat → Prop) (c m : Nat) : Prop := ∀ e, m.testBit e = true ↔ E e ∧ lft rows e = c
theorem Msk.or {rows : List Nat} {E F : Nat → Prop} {c m n : Nat} (h : Msk rows E c m) (g : Msk rows F c n) : Msk rows (fun e => E e ∨ F e) c (m ||| n) := fun e => by
  rw [Nat.testBit_or, Bool.or_eq_true, h e, g e]
  constructor
  · rintro (⟨a, b⟩ | ⟨a, b⟩)
    · exact ⟨.inl a, b⟩
    · exact ⟨.inr a, b⟩
  · rintro ⟨a | a, b⟩
    · exact .inl ⟨a, b⟩
    · exact .inr ⟨a, b⟩
theorem Msk.and {rows : List Nat} {E F : Nat → Prop} {c m n : Nat} (h : Msk rows E c m) (g : Msk rows F c n) (d : ∀ e, E e → F e → False) : m &&& n = 0 := by
  apply Nat.eq_of_testBit_eq
  intro e
  rw [Nat.zero_testBit, Nat.testBit_and]
  cases h1 : m.testBit e with
  | false => rfl
  | true =>
    cases h2 : n.testBit e with
    | false => rfl
    | true => exact (d e ((h e).mp h1).1 ((g e).mp h2).1).elim
theorem Msk.zero {rows : List Nat} {E : Nat → Prop} {c : Nat} (h : ∀ e, E e → lft rows e ≠ c) : Msk rows E c 0 := fun e => by
  rw [Nat.zero_testBit]
  exact ⟨fun z => (by cases z), fun z => (h e z.1 z.2).elim⟩
theorem Msk.congr {rows : List Nat} {E F : Nat → Prop} {c m : Nat} (h : Msk rows E c m) (g : ∀ e, E e ↔ F e) : Msk rows F c m := fun e => by rw [h e, g e]
theorem Msk.unit {rows : List Nat} (e : Nat) : Msk rows (fun x => x = e) (lft rows e) (1 <<< e) := fun x => by
  rw [unit_bit, decide_eq_true_iff]
  exact ⟨fun h => by subst h; exact ⟨rfl, rfl⟩, fun h => h.1.symm⟩
theorem Msk.whole {rows : List Nat} {E : Nat → Prop} {c m n : Nat} (h : Msk rows E c m) (lt : ∀ e, E e → e < n) (all : ∀ e, e < n → lft rows e = c → E e) : m = mask (fun e => decide (lft rows e = c)) n := by
  apply Nat.eq_of_testBit_eq
  intro e
  rw [mask_bit, Bool.eq_iff_iff, h e, Bool.and_eq_true, decide_eq_true_iff, decide_eq_true_iff]
  exact ⟨fun z => ⟨lt e z.1, z.2⟩, fun z => ⟨all e z.1 z.2, z.2⟩⟩
theorem Msk.less {rows : List Nat} {E : Nat → Prop} {c m n : Nat} (h : Msk rows E c m) (ex : ∃ e, e < n ∧ lft rows e = c ∧ ¬ E e) : m ≠ mask (fun e => decide (lft rows e = c)) n := by
  obtain ⟨e, h1, h2, h3⟩ := ex
  rintro rfl
  have := (h e).mp (by rw [mask_bit]; simp [h1, h2])
  exact h3 this.1
end LaneX
set_option Elab.async false
set_option linter.all false
set_option maxRecDepth 100000
set_option maxHeartbeats 4000000
namespace LaneX
open PySem PySem.Spec PyProof.Rows L2

/-! ### natural numbers as values -/
abbrev vN (n : Nat) : V := .int (n : Int)
theorem nnAnd (n m : Nat) : Builtin.bitAnd (n : Int) (m : Int) = ((n &&& m : Nat) : Int) := by
  unfold Builtin.bitAnd
  have h1 : decide (0 ≤ (n : Int)) = true := decide_eq_true (Int.natCast_nonneg _)
  have h2 : decide (0 ≤ (m : Int)) = true := decide_eq_true (Int.natCast_nonneg _)
  simp
theorem nnOr (n m : Nat) : Builtin.bitOr (n : Int) (m : Int) = ((n ||| m : Nat) : Int) := by
  rw [bitOr_nn (Int.natCast_nonneg _) (Int.natCast_nonneg _)]
  simp
theorem and_or_xor (n m : Nat) : (n ||| m) = (n ^^^ m) + (n &&& m) := by
  have h : (n ^^^ m) &&& (n &&& m) = 0 := by
    apply Nat.eq_of_testBit_eq
    intro i
    simp only [Nat.testBit_and, Nat.testBit_xor, Nat.zero_testBit]
    cases n.testBit i <;> cases m.testBit i <;> rfl
  have h2 : (n ^^^ m) ||| (n &&& m) = n ||| m := by
    apply Nat.eq_of_testBit_eq
    intro i
    simp only [Nat.testBit_and, Nat.testBit_xor, Nat.testBit_or]
    cases n.testBit i <;> cases m.testBit i <;> rfl
  have add : ∀ (k a b : Nat), a < 2 ^ k → a &&& b = 0 → a + b = a ||| b := by
    intro k
    induction k with
    | zero =>
      intro a b ha _
      have : a = 0 := by simpa using ha
      subst this
      simp
    | succ k ih =>
      intro a b ha hab
      have e1 : a / 2 &&& b / 2 = 0 := by
        rw [← Nat.and_div_two, hab]
      have e2 := ih (a / 2) (b / 2) (by rw [Nat.pow_succ] at ha; omega) e1
      have e3 : (a ||| b) / 2 = a / 2 ||| b / 2 := Nat.or_div_two
      have e8 : a / 2 + b / 2 = (a ||| b) / 2 := by rw [e3]; exact e2
      clear e1 e2 e3 ih
      have e5 : (a &&& b).testBit 0 = false := by rw [hab]; simp
      have e6 : (a ||| b).testBit 0 = (a.testBit 0 || b.testBit 0) := Nat.testBit_or ..
      have e7 : (a.testBit 0 && b.testBit 0) = false := by rw [← Nat.testBit_and]; exact e5
      have t : ∀ x : Nat, x % 2 = if x.testBit 0 = true then 1 else 0 := by
        intro x
        rw [Nat.testBit_zero]
        split <;> simp_all
      have ta := t a
      have tb := t b
      have to := t (a ||| b)
      rw [e6] at to
      cases h1 : a.testBit 0 <;> cases h2 : b.testBit 0 <;> rw [h1] at ta to e7 <;> rw [h2] at tb to e7
      · simp only [Bool.or_false, Bool.false_eq_true, if_false] at ta tb to; omega
      · simp only [Bool.or_true, Bool.false_eq_true, if_false, if_true] at ta tb to; omega
      · simp only [Bool.or_false, Bool.false_eq_true, if_false, if_true] at ta tb to; omega
      · cases e7
  have := add ((n ^^^ m) + 1) (n ^^^ m) (n &&& m) (Nat.lt_of_lt_of_le Nat.lt_two_pow_self (Nat.pow_le_pow_right (by decide) (Nat.le_succ _))) h
  rw [h2] at this
  exact this.symm
theorem nnXor (n m : Nat) : Builtin.bitXor (n : Int) (m : Int) = ((n ^^^ m : Nat) : Int) := by
  unfold Builtin.bitXor
  rw [nnOr, nnAnd, and_or_xor]
  omega
theorem blen_bits (n : Nat) : Builtin.Int.intBits (n : Int) = blen n := by
  unfold Builtin.Int.intBits blen
  by_cases h : n = 0
  · subst h; rfl
  · have : ((n : Int) == 0) = false := by simp [h]
    rw [this]
    simp [h]

section
variable {X : Cx}
/-- two naturals, a condition, a natural -/
def rN (C : Nat → Nat → Prop) (g : Nat → Nat → Nat) : R2 := fun x y H Q => ∃ n m : Nat, x = .int (n : Int) ∧ y = .int (m : Int) ∧ C n m ∧ Q (.int (g n m : Nat)) H
def rN0 (g : Nat → Nat → Nat) : R2 := fun x y H Q => ∃ n m : Nat, x = .int (n : Int) ∧ y = .int (m : Int) ∧ Q (.int (g n m : Nat)) H
theorem on_xor : OpR X (binaryOp .BitXor) (fun x y H Q => ∃ n m : Nat, x = .int (n : Int) ∧ y = .int (m : Int) ∧ Q (.int ((n ^^^ m : Nat) : Int)) H) := by
  intro pins s σ H x y v u Q I rx ry h
  obtain ⟨n, m, rfl, rfl, q⟩ := h
  rw [← nnXor] at q
  exact op_xor pins s σ H _ _ v u Q I rx ry ⟨_, _, rfl, rfl, q⟩
theorem on_and : OpR X (binaryOp .BitAnd) (fun x y H Q => ∃ n m : Nat, x = .int (n : Int) ∧ y = .int (m : Int) ∧ Q (.int ((n &&& m : Nat) : Int)) H) := by
  intro pins s σ H x y v u Q I rx ry h
  obtain ⟨n, m, rfl, rfl, q⟩ := h
  rw [← nnAnd] at q
  exact op_and pins s σ H _ _ v u Q I rx ry ⟨_, _, rfl, rfl, q⟩
theorem on_or : OpR X (binaryOp .BitOr) (fun x y H Q => ∃ n m : Nat, x = .int (n : Int) ∧ y = .int (m : Int) ∧ Q (.int ((n ||| m : Nat) : Int)) H) := by
  intro pins s σ H x y v u Q I rx ry h
  obtain ⟨n, m, rfl, rfl, q⟩ := h
  rw [← nnOr] at q
  exact op_or pins s σ H _ _ v u Q I rx ry ⟨_, _, rfl, rfl, q⟩
theorem on_add : OpR X (binaryOp .Add) (fun x y H Q => ∃ n m : Nat, x = .int (n : Int) ∧ y = .int (m : Int) ∧ Q (.int ((n + m : Nat) : Int)) H) := op_addN
theorem on_sub : OpR X (binaryOp .Sub) (fun x y H Q => ∃ n m : Nat, x = .int (n : Int) ∧ y = .int (m : Int) ∧ (m ≤ n) ∧ Q (.int ((n - m : Nat) : Int)) H) := op_subN
theorem on_shr : OpR X (binaryOp .RShift) (fun x y H Q => ∃ n m : Nat, x = .int (n : Int) ∧ y = .int (m : Int) ∧ Q (.int ((n >>> m : Nat) : Int)) H) := by
  intro pins s σ H x y v u Q I rx ry h
  obtain ⟨n, m, rfl, rfl, q⟩ := h
  refine op_shrN pins s σ H _ _ v u Q I rx ry ⟨_, _, rfl, rfl, ?_⟩
  have e : ((n >>> m : Nat) : Int) = (n : Int) / 2 ^ m := by
    rw [Nat.shiftRight_eq_div_pow, Int.natCast_ediv]
    simp
  rw [← e]
  exact q
/-- a shift to the left: few bits in all -/
def CShN (n m : Nat) : Prop := blen n + m ≤ 100000000
theorem on_shl : OpR X (binaryOp .LShift) (fun x y H Q => ∃ n m : Nat, x = .int (n : Int) ∧ y = .int (m : Int) ∧ CShN n m ∧ Q (.int ((n <<< m : Nat) : Int)) H) := by
  intro pins s σ H x y v u Q I rx ry h
  obtain ⟨n, m, rfl, rfl, hc, q⟩ := h
  refine op_shlN pins s σ H _ _ v u Q I rx ry ⟨_, _, rfl, rfl, ⟨by omega, ?_⟩, ?_⟩
  · rw [blen_bits]
    have : blen n + m ≤ 100000000 := hc
    omega
  · have e : ((n <<< m : Nat) : Int) = (n : Int) * 2 ^ m := by
      rw [Nat.shiftLeft_eq]
      simp
    rw [← e]
    exact q
theorem on_mul : OpR X (binaryOp .Mult) (fun x y H Q => ∃ n m : Nat, x = .int (n : Int) ∧ y = .int (m : Int) ∧ (n < 2 ^ 64) ∧ Q (.int ((n * m : Nat) : Int)) H) := by
  intro pins s σ H x y v u Q I rx ry h
  obtain ⟨n, m, rfl, rfl, c, q⟩ := h
  rw [Int.natCast_mul] at q
  exact op_mul pins s σ H _ _ v u Q I rx ry ⟨_, _, rfl, rfl, show CMul (n : Int) (m : Int) from Or.inl ⟨by omega, by have : n < 18446744073709551616 := c; omega⟩, q⟩
theorem on_fdiv : OpR X (binaryOp .FloorDiv) (fun x y H Q => ∃ n m : Nat, x = .int (n : Int) ∧ y = .int (m : Int) ∧ (0 < m ∧ m < 1073741824) ∧ Q (.int ((n / m : Nat) : Int)) H) := op_fdivNN
/-- the left one any size, the divisor below 2 ^ 9000 -/
theorem on_fdivW : OpR X (binaryOp .FloorDiv) (fun x y H Q => ∃ n m : Nat, x = .int (n : Int) ∧ y = .int (m : Int) ∧ (0 < m ∧ m < 2 ^ 8999) ∧ Q (.int ((n / m : Nat) : Int)) H) := by
  intro pins s σ H x y v u Q I rx ry h
  obtain ⟨n, m, rfl, rfl, ⟨c1, c2⟩, q⟩ := h
  rw [Int.natCast_ediv] at q
  refine op_fdivW pins s σ H _ _ v u Q I rx ry ⟨_, _, rfl, rfl, wide_div (b := 8999) (by omega) ?_ (by decide) (by decide), q⟩
  simpa using c2
theorem on_mod : OpR X (binaryOp .Mod) (fun x y H Q => ∃ n m : Nat, x = .int (n : Int) ∧ y = .int (m : Int) ∧ (0 < m) ∧ Q (.int ((n % m : Nat) : Int)) H) := by
  intro pins s σ H x y v u Q I rx ry h
  obtain ⟨n, m, rfl, rfl, c, q⟩ := h
  rw [Int.natCast_emod] at q
  exact op_mod pins s σ H _ _ v u Q I rx ry ⟨_, _, rfl, rfl, show (0 : Int) < (m : Int) by have : 0 < m := c; omega, q⟩
end
end LaneX
set_option Elab.async false
set_option linter.all false
set_option maxRecDepth 100000
set_option maxHeartbeats 4000000
namespace LaneX
open PySem PySem.Spec PyProof.Rows L2

/-! ### defs, methods, classes by their names -/
section
variable (P : Program) (w : World) (K : PySem.W.Frag) (mg : Str → Option Value) (base : Heap)
/-- the def x keeps the promise sp at level k -/
structure Dn (k : Nat) (x : Str) (ps : List Str) (sp : Sp) : Prop where
  ex : ∃ (f : Addr) (fd : FuncData), mg x = some (.ref f) ∧ PySem.W.keepIn K (.ref f) = true ∧ Binds K fd ps [] ∧ FnOk P w K mg base CX0 k f fd ps sp
/-- the method m of the class at C -/
structure Mn (k : Nat) (C : Addr) (m : Str) (ps : List Str) (sp : Sp) : Prop where
  cl : Cls K C
  ex : ∃ (f : Addr) (fd : FuncData), Meth K C m f ∧ Binds K fd ps [] ∧ FnOk P w K mg base CX0 k f fd ps sp
/-- the class x at C, made by its __init__ -/
structure Kn (k : Nat) (C : Addr) (x : Str) (ps : List Str) (sp : Sp) : Prop where
  gl : mg x = some (.ref C)
  ex : ∃ (f : Addr) (fd : FuncData), Mk K C f ∧ Binds K fd ps [] ∧ FnOk P w K mg base CX0 k f fd ps sp
end
section
variable {X : Cx} {k j : Nat} {x m : Str} {ps : List Str} {sp : Sp} {C : Addr} {p pos apos : Pos} {e o : Expr} {es : List Expr} {t : TA} {to : TE}
theorem pe_d (D : Dn X.prog X.w X.K X.mg X.base k x ps sp) (hr : Room j X.A) (ha : PA X (e :: es) t) (hk : k ≤ j := by decide) (hg : Gl X x := by rfl) (hdb : (x == ("__debug__" : Str)) = false := by decide)
    (he : starEach (e :: es) X.env = (false, eval e X.env) :: starEach es X.env := by rfl) (hpl : (backTo pos (starEach es X.env)).any (·.1) = false := by rfl) :
    PE X (.Call (.Name x p) (e :: es) [] pos) (tCall sp [] E0 t) := by
  obtain ⟨f, fd, h1, h2, h3, h4⟩ := D.ex
  exact pe_call h4 (hr.mono hk) hg h1 h2 h3 .nil pass0 ha hdb he hpl
theorem pe_k (D : Kn X.prog X.w X.K X.mg X.base k C x ps sp) (hr : Room j X.A) (ha : PA X (e :: es) t) (hk : k + 1 ≤ j := by decide) (hg : Gl X x := by rfl) (hdb : (x == ("__debug__" : Str)) = false := by decide)
    (he : starEach (e :: es) X.env = (false, eval e X.env) :: starEach es X.env := by rfl) (hpl : (backTo pos (starEach es X.env)).any (·.1) = false := by rfl) :
    PE X (.Call (.Name x p) (e :: es) [] pos) (tMake C sp [] E0 t) := by
  obtain ⟨f, fd, h1, h3, h4⟩ := D.ex
  exact pe_make h1 h4 (hr.mono hk) hg D.gl h3 .nil pass0 ha hdb he hpl
theorem pe_m {pl : Sem Bool} (ho : PE X o to) (D : Mn X.prog X.w X.K X.mg X.base k C m ps sp) (hr : Room j X.A) (ha : PA X (e :: es) t) (hk : k ≤ j := by decide)
    (hst : starEach (e :: es) X.env = (false, eval e X.env) :: starEach es X.env := by rfl) (hpl : (backTo pos (starEach es X.env)).any (·.1) = false := by rfl)
    (ht : eval (.Call (.Attribute o m apos) (e :: es) [] pos) X.env = (do
      let ov ← eval o X.env
      standAt apos.atName
      let (f, first) ← holding [ov] (getMethod ov m pl)
      callWith pos f first (backTo pos (starEach (e :: es) X.env)) (backToKw pos (keywordEach [] X.env))) := by rfl) :
    PE X (.Call (.Attribute o m apos) (e :: es) [] pos) (tMeth C m sp [] E0 to t) := by
  obtain ⟨f, fd, h1, h3, h4⟩ := D.ex
  exact pe_meth ho D.cl h1 h4 (hr.mono hk) h3 .nil pass0 ha hst hpl ht
theorem pe_m0 {pl : Sem Bool} (ho : PE X o to) (D : Mn X.prog X.w X.K X.mg X.base k C m ps sp) (hr : Room j X.A) (hk : k ≤ j := by decide)
    (ht : eval (.Call (.Attribute o m apos) [] [] pos) X.env = (do
      let ov ← eval o X.env
      standAt apos.atName
      let (f, first) ← holding [ov] (getMethod ov m pl)
      callWith pos f first (backTo pos (starEach [] X.env)) (backToKw pos (keywordEach [] X.env))) := by rfl) :
    PE X (.Call (.Attribute o m apos) [] [] pos) (tMeth C m sp [] E0 to tNil) := by
  obtain ⟨f, fd, h1, h3, h4⟩ := D.ex
  exact pe_meth0 ho D.cl h1 h4 (hr.mono hk) h3 .nil pass0 ht
end
/-- a def of the text (no defaults) -/
abbrev FnP (K : PySem.W.Frag) (x qual : Str) (st : Stmt) (f : Addr) (fd : FuncData) : Prop := FunD K x qual (defArgs st) (defBody st) (defScope st) [] [] f fd
section
variable {P : Program} {w : World} {K : PySem.W.Frag} {mg : Str → Option Value} {base : Heap}
theorem fnok {x qual : Str} {st : Stmt} {f : Addr} {fd : FuncData} {N ps : List Str} {k : Nat} {sp : Sp} (F : FnP K x qual st f fd) (S : FnScope N ps (defScope st)) (len : ∀ vs H Q E, sp vs H Q E → vs.length = ps.length)
    (hbody : ∀ (cdv : Value) (A : Around) (outer : List Env) (s : Shared) (H : Hp) (vs : List V) (Q : VK) (E : XK), Room k (A.deeper (envOfC qual (defScope st) s.heap.objs.size f cdv)) → sp vs H Q E →
      ∃ t, PSs (cxOf CX0 P w K mg base N qual (defScope st) f cdv A outer s H E).nox (defBody st) t ∧ t { nx := fun _ H' => Q .non H', rt := Q } (start N vs) H) : FnOk P w K mg base CX0 (k + 1) f fd ps sp := by
  refine F.ok S len (fun cdv A outer s H vs Q E hr h => ?_)
  obtain ⟨t, h1, h2⟩ := hbody cdv A outer s H vs Q E hr h
  exact ⟨t, PSs.nox h1, h2⟩
end

/-! ### lists and tuples alike -/
def Sq (K : PySem.W.Frag) (H : Hp) (a : Addr) (xs : List V) : Prop := SqL K H a xs ∨ SqT K H a xs
def iSeq (K : PySem.W.Frag) (tl : TE) : TI := fun σ H R => tl σ H fun x H1 => ∃ (a : Addr) (xs : List V), x = .ref a ∧ ((SqL K H1 a xs ∧ R (Itl K a) H1) ∨ (SqT K H1 a xs ∧ R (Itt K a) H1))
theorem pi_seq {X : Cx} {tg : Expr} {l : Expr} {tl : TE} (hl : PE X l tl) : PI X tg l (iSeq X.K tl) := by
  refine ⟨fun pins s σ H R I h => ?_⟩
  refine thn (hl.run pins s σ H _ I h) fun v s1 hh => ?_
  obtain ⟨x, H1, I1, r1, a, xs, e, q⟩ := hh
  subst e
  cases r1
  have fp : ∀ b ∈ [s1.heap.objs.size], FpOk X pins H1 b := fun b hb => by
    have e : b = s1.heap.objs.size := by simpa using hb
    subst e
    exact I1.fpOk (Nat.le_refl _) (I1.hok.fresh (Nat.le_refl _))
  rcases q with ⟨hq, q⟩ | ⟨hq, q⟩
  · obtain ⟨its, rv, p, hz⟩ := I1.list hq
    exact wpAny_pyIter_list p.isList ⟨_, _, _, _, H1, rfl, I1.kept (t' := s1.toks) fun b o e => Heap.get?_push_of_some _ e, turn_list a _, ⟨_, Heap.get?_push_size _ rfl, rfl, rfl⟩, fp, q⟩
  · obtain ⟨its, rv, p, hz⟩ := I1.tuple hq
    exact wpAny_pyIter_tuple (show s1.heap.IsTuple a its.toArray from p) ⟨_, _, _, _, H1, rfl, I1.kept (t' := s1.toks) fun b o e => Heap.get?_push_of_some _ e, turn_tuple a _, ⟨_, Heap.get?_push_size _ rfl, rfl, rfl⟩, fp, q⟩

/-! ### heaps: all is kept; all but dicts is kept -/
/-- all but a dict whose first key is a text (the pen) -/
def notD : HO → Bool
  | .dK ((.inr _, _) :: _) => false
  | _ => true
structure Kp (H H' : Hp) : Prop where
  keep : ∀ b o, H b = some o → notD o = true → H' b = some o
  free : ∀ b, H' b = none → H b = none
instance {H H' : Hp} : CoeFun (Kp H H') (fun _ => ∀ b o, H b = some o → notD o = true → H' b = some o) := ⟨Kp.keep⟩
theorem Kp.refl (H : Hp) : Kp H H := ⟨fun _ _ h _ => h, fun _ h => h⟩
theorem Kp.of {H H' : Hp} (s : Same H H') : Kp H H' := ⟨fun b o h _ => s b o h, fun b h => s.free h⟩
theorem Kp.trans {H H1 H2 : Hp} (a : Kp H H1) (b : Kp H1 H2) : Kp H H2 := ⟨fun c o h n => b.keep c o (a.keep c o h n) n, fun c h => a.free c (b.free c h)⟩
theorem upd_new {H : Hp} {p a : Addr} {o u : HO} (n : H p = none) (h : H a = some u) : upd H p o a = some u := (upd_ne (ne_of_none h n)).trans h
theorem same_new {H H' : Hp} {p : Addr} {o : HO} (s : Same H H') (n : H' p = none) : Same H (upd H' p o) := fun b u e => upd_new n (s b u e)
theorem same_new0 {H : Hp} {p : Addr} {o : HO} (n : H p = none) : Same H (upd H p o) := fun b u e => upd_new n e
/-- a list of one's own is written -/
theorem same_put {H H' : Hp} {p : Addr} {o : HO} (s : Same H H') (n : H p = none) : Same H (upd H' p o) := fun b u e => (upd_ne (ne_of_none e n)).trans (s b u e)
theorem upd_free {H : Hp} {p b : Addr} {o : HO} (h : upd H p o b = none) : H b = none := by
  by_cases e : b = p
  · subst e; rw [upd_same] at h; cases h
  · rw [upd_ne e] at h; exact h
theorem kp_new {H H' : Hp} {p : Addr} {o : HO} (s : Kp H H') (n : H' p = none) : Kp H (upd H' p o) := ⟨fun b u e q => upd_new n (s.keep b u e q), fun b h => s.free b (upd_free h)⟩
theorem kp_put {H H' : Hp} {p : Addr} {o : HO} (s : Kp H H') (n : H p = none) : Kp H (upd H' p o) := ⟨fun b u e q => (upd_ne (ne_of_none e n)).trans (s.keep b u e q), fun b h => s.free b (upd_free h)⟩
theorem same_l {H H' : Hp} (s : Same H H') {a : Addr} {xs : List V} (h : H a = some (.lst xs)) : H' a = some (.lst xs) := s _ _ h
theorem same_sq {K : PySem.W.Frag} {H H' : Hp} (s : Same H H') {a : Addr} {xs : List V} (h : Sq K H a xs) : Sq K H' a xs := by
  rcases h with h | h
  · exact .inl (s.seq h)
  · refine .inr ?_
    rcases h with (h | ⟨o, h⟩) | h
    · exact .inl (.inl (s _ _ h))
    · exact .inl (.inr ⟨o, s _ _ h⟩)
    · exact .inr h
theorem kp_sqL {K : PySem.W.Frag} {H H' : Hp} (s : Kp H H') {a : Addr} {xs : List V} (h : SqL K H a xs) : SqL K H' a xs := by
  rcases h with (h | ⟨o, h⟩) | h
  · exact .inl (.inl (s _ _ h rfl))
  · exact .inl (.inr ⟨o, s _ _ h rfl⟩)
  · exact .inr h
theorem kp_sqT {K : PySem.W.Frag} {H H' : Hp} (s : Kp H H') {a : Addr} {xs : List V} (h : SqT K H a xs) : SqT K H' a xs := by
  rcases h with (h | ⟨o, h⟩) | h
  · exact .inl (.inl (s _ _ h rfl))
  · exact .inl (.inr ⟨o, s _ _ h rfl⟩)
  · exact .inr h
theorem kp_sq {K : PySem.W.Frag} {H H' : Hp} (s : Kp H H') {a : Addr} {xs : List V} (h : Sq K H a xs) : Sq K H' a xs := h.elim (fun h => .inl (kp_sqL s h)) fun h => .inr (kp_sqT s h)
theorem Sq.l {K : PySem.W.Frag} {H : Hp} {a : Addr} {xs : List V} (h : H a = some (.lst xs)) : Sq K H a xs := .inl (SqL.of h)
theorem Sq.t {K : PySem.W.Frag} {H : Hp} {a : Addr} {xs : List V} (h : H a = some (.tup xs)) : Sq K H a xs := .inr (SqT.of h)

/-- a tracked list or tuple -/
def Tq (H : Hp) (a : Addr) (xs : List V) : Prop := H a = some (.lst xs) ∨ H a = some (.tup xs)
theorem Tq.sq {K : PySem.W.Frag} {H : Hp} {a : Addr} {xs : List V} (h : Tq H a xs) : Sq K H a xs := h.elim Sq.l Sq.t
theorem Tq.l {H : Hp} {a : Addr} {xs : List V} (h : H a = some (.lst xs)) : Tq H a xs := .inl h
theorem Tq.t {H : Hp} {a : Addr} {xs : List V} (h : H a = some (.tup xs)) : Tq H a xs := .inr h
theorem same_tq {H H' : Hp} (s : Same H H') {a : Addr} {xs : List V} (h : Tq H a xs) : Tq H' a xs := h.elim (fun h => .inl (s _ _ h)) fun h => .inr (s _ _ h)
theorem kp_tq {H H' : Hp} (s : Kp H H') {a : Addr} {xs : List V} (h : Tq H a xs) : Tq H' a xs := h.elim (fun h => .inl (s _ _ h rfl)) fun h => .inr (s _ _ h rfl)
theorem Tq.new {H : Hp} {a p : Addr} {o : HO} {xs : List V} (h : Tq H a xs) (n : H p = none) : Tq (upd H p o) a xs := h.elim (fun h => .inl (upd_new n h)) fun h => .inr (upd_new n h)
theorem Tq.sqlt {K : PySem.W.Frag} {H : Hp} {a : Addr} {xs : List V} (h : Tq H a xs) : SqL K H a xs ∨ SqT K H a xs := h.elim (fun h => .inl (SqL.of h)) fun h => .inr (SqT.of h)
theorem Tq.ty {K : PySem.W.Frag} {H : Hp} {a : Addr} {xs : List V} (h : Tq H a xs) : ∃ t, TyX K H (.ref a) t ∧ PySem.W.kitAny K t [.type "list", .type "tuple"] = some true := by
  rcases h with h | h
  · exact ⟨_, .base (.lst h), kitAny_cons (b := true) (kit_ty (by decide +kernel)) (fun z => by cases z) (fun _ => rfl)⟩
  · exact ⟨_, .base (.tup h), kitAny_cons (b := false) (kit_ty (by decide +kernel)) (fun _ => kitAny_cons (b := true) (kit_ty (by decide +kernel)) (fun z => by cases z) (fun _ => rfl)) (fun z => by cases z)⟩

theorem same_free {H H' : Hp} (e : Same H H') {l : Addr} (h : H' l = none) : H l = none := e.free h
theorem map_get {α : Type} {g : α → V} {l : List α} {i : Nat} {x : V} (h : (l.map g)[i]? = some x) : ∃ n, l[i]? = some n ∧ x = g n := by
  rw [List.getElem?_map] at h
  cases e : l[i]? with
  | none => rw [e] at h; cases h
  | some n => rw [e] at h; exact ⟨n, rfl, (Option.some.inj h).symm⟩
/-! ### a for, a comprehension over a list or tuple, over a range -/
def ForR (g : TG) (tb : TS) (D : Ends) (σ : L2.St) : It → Hp → Prop := fun J H => ∃ W : Nat → Nat → L2.St → Hp → Prop, (∃ m, W 0 m σ H) ∧ ∀ i m σ H, W i m σ H →
  (J.stop i H ∧ D.nx σ H) ∨ (J.go i H ∧ ∃ N : L2.St → Hp → Prop, (∀ σ' H', N σ' H' → ∃ m', m' < m ∧ W (i + 1) m' σ' H') ∧ ∀ x H', J.yld i H x H' → g x σ H' fun σ2 H2 => tb { D with nx := N, ct := N, bk := D.nx } σ2 H2)
def LcR (g : TG) (tt : TT) (te : TE) (vs : List Nat) (σ : L2.St) (Q : Addr → Hp → Prop) : It → Hp → Prop := fun J H1 => ∀ D, H1 D = none → ∃ W : Nat → Nat → Hp → Prop, (∃ m, W 0 m (upd H1 D (.lst []))) ∧ ∀ i m H, W i m H →
  (J.stop i H ∧ Q D H) ∨ (J.go i H ∧ ∃ Nx : Hp → Prop, (∀ H', Nx H' → ∃ m', m' < m ∧ W (i + 1) m' H') ∧ ∀ x H', J.yld i H x H' → g x (wipe σ vs) H' fun σ2 H2 => wipe σ2 vs = wipe σ vs ∧ tt σ2 H2 fun b H3 =>
    if b = true then te σ2 H3 fun y H4 => ∃ acc, H4 D = some (.lst acc) ∧ acc.length < sizeLine ∧ Nx (upd H4 D (.lst (acc ++ [y]))) else Nx H3)
theorem for_seq {K : PySem.W.Frag} {a : Addr} {xs : List V} {g : TG} {tb : TS} {D : Ends} {σ : L2.St} {H : Hp} (hS : Sq K H a xs) (Pv : Nat → L2.St → Hp → Prop) (h0 : Pv 0 σ H) (hk : ∀ i σ' H', Pv i σ' H' → Kp H H')
    (hs : ∀ i x σ H, xs[i]? = some x → Pv i σ H → g x σ H fun σ2 H2 => tb { D with nx := Pv (i + 1), ct := Pv (i + 1), bk := D.nx } σ2 H2) (hd : ∀ σ H, Pv xs.length σ H → D.nx σ H) :
    ∃ (a' : Addr) (xs' : List V), V.ref a = .ref a' ∧ ((SqL K H a' xs' ∧ ForR g tb D σ (Itl K a') H) ∨ (SqT K H a' xs' ∧ ForR g tb D σ (Itt K a') H)) := by
  refine ⟨a, xs, rfl, ?_⟩
  rcases hS with h | h
  · exact .inl ⟨h, for_it walk_list Pv h0 (fun i σ' H' hi p => kp_sqL (hk i σ' H' p) h) (fun i x σ' H' H'' _ p y => by obtain ⟨e, hx⟩ := y; subst e; exact hs i x σ' _ hx p) hd⟩
  · exact .inr ⟨h, for_it walk_tup Pv h0 (fun i σ' H' hi p => kp_sqT (hk i σ' H' p) h) (fun i x σ' H' H'' _ p y => by obtain ⟨e, hx⟩ := y; subst e; exact hs i x σ' _ hx p) hd⟩
/-- .. where what is walked alone must stay -/
theorem for_sq2 {K : PySem.W.Frag} {a : Addr} {xs : List V} {g : TG} {tb : TS} {D : Ends} {σ : L2.St} {H : Hp} (hS : Tq H a xs) (Pv : Nat → L2.St → Hp → Prop) (h0 : Pv 0 σ H) (hk : ∀ i σ' H', Pv i σ' H' → ∀ o, H a = some o → H' a = some o)
    (hs : ∀ i x σ H, xs[i]? = some x → Pv i σ H → g x σ H fun σ2 H2 => tb { D with nx := Pv (i + 1), ct := Pv (i + 1), bk := D.nx } σ2 H2) (hd : ∀ σ H, Pv xs.length σ H → D.nx σ H) :
    ∃ (a' : Addr) (xs' : List V), V.ref a = .ref a' ∧ ((SqL K H a' xs' ∧ ForR g tb D σ (Itl K a') H) ∨ (SqT K H a' xs' ∧ ForR g tb D σ (Itt K a') H)) := by
  refine ⟨a, xs, rfl, ?_⟩
  rcases hS with h | h
  · exact .inl ⟨SqL.of h, for_it walk_list Pv h0 (fun i σ' H' hi p => SqL.of (hk i σ' H' p _ h)) (fun i x σ' H' H'' _ p y => by obtain ⟨e, hx⟩ := y; subst e; exact hs i x σ' _ hx p) hd⟩
  · exact .inr ⟨SqT.of h, for_it walk_tup Pv h0 (fun i σ' H' hi p => SqT.of (hk i σ' H' p _ h)) (fun i x σ' H' H'' _ p y => by obtain ⟨e, hx⟩ := y; subst e; exact hs i x σ' _ hx p) hd⟩
/-- what stood under the loop stands, by what stood ahead -/
theorem stay_of {H HB H2 : Hp} {a : Addr} {u : HO} (h : H a = some u) (s0 : Same H HB) (s2 : ∀ c o, H c = some o → H2 c = some o) : ∀ o, HB a = some o → H2 a = some o := fun o ho => by
  rw [s0 _ _ h] at ho
  cases ho
  exact s2 _ _ h
/-- Pv speaks of the heap and the new list at D -/
theorem lc_seq {K : PySem.W.Frag} {a : Addr} {xs : List V} {g : TG} {tt : TT} {te : TE} {vs : List Nat} {σ : L2.St} {H : Hp} {Q : Addr → Hp → Prop} (hS : Sq K H a xs) (Pv : Addr → Nat → Hp → Prop) (h0 : ∀ D, H D = none → Pv D 0 (upd H D (.lst [])))
    (hk : ∀ D i H', H D = none → Pv D i H' → Kp H H')
    (hs : ∀ D i x H', H D = none → xs[i]? = some x → Pv D i H' → g x (wipe σ vs) H' fun σ2 H2 => wipe σ2 vs = wipe σ vs ∧ tt σ2 H2 fun b H3 =>
      if b = true then te σ2 H3 fun y H4 => ∃ acc, H4 D = some (.lst acc) ∧ acc.length < sizeLine ∧ Pv D (i + 1) (upd H4 D (.lst (acc ++ [y]))) else Pv D (i + 1) H3) (hd : ∀ D H', H D = none → Pv D xs.length H' → Q D H') :
    ∃ (a' : Addr) (xs' : List V), V.ref a = .ref a' ∧ ((SqL K H a' xs' ∧ LcR g tt te vs σ Q (Itl K a') H) ∨ (SqT K H a' xs' ∧ LcR g tt te vs σ Q (Itt K a') H)) := by
  refine ⟨a, xs, rfl, ?_⟩
  rcases hS with h | h
  · exact .inl ⟨h, fun D hD => lc_it walk_list (Pv D) (h0 D hD) (fun i H' _ p => kp_sqL (hk D i H' hD p) h) (fun i x H' H'' _ p y => by obtain ⟨e, hx⟩ := y; subst e; exact hs D i x _ hD hx p) fun H' p => hd D H' hD p⟩
  · exact .inr ⟨h, fun D hD => lc_it walk_tup (Pv D) (h0 D hD) (fun i H' _ p => kp_sqT (hk D i H' hD p) h) (fun i x H' H'' _ p y => by obtain ⟨e, hx⟩ := y; subst e; exact hs D i x _ hD hx p) fun H' p => hd D H' hD p⟩
/-! ### pure comprehensions -/
theorem br {b : Bool} {A B : Prop} (h1 : b = true → A) (h2 : b = false → B) : if b = true then A else B := by
  cases b with
  | true => exact iteT (h1 rfl)
  | false => exact iteF (h2 rfl)
theorem take_succ {α : Type} {l : List α} {i : Nat} {x : α} (h : l[i]? = some x) : l.take (i + 1) = l.take i ++ [x] := by
  rw [List.take_succ, h]
  rfl
theorem size6 {n : Nat} (h : n ≤ 1000000) : n < sizeLine := by rw [sizeLine_eq]; omega
theorem size6' {n : Nat} (h : n ≤ 1000000) : n ≤ sizeLine := Nat.le_of_lt (size6 h)
section
variable {α : Type} {K : PySem.W.Frag} {g : TG} {tt : TT} {te : TE} {vs : List Nat} {σ : L2.St} {H : Hp} {Q : Addr → Hp → Prop}
/-- one turn of a comprehension: all is kept, the item is v n if p n -/
def LcT (g : TG) (tt : TT) (te : TE) (vs : List Nat) (σ : L2.St) (x : V) (H' : Hp) (p : Bool) (v : V) : Prop :=
  ∀ (Z : VK) (Nx : Hp → Prop), (p = true → ∀ H4, Same H' H4 → Z v H4) → (p = false → ∀ H4, Same H' H4 → Nx H4) →
    g x (wipe σ vs) H' fun σ2 H2 => wipe σ2 vs = wipe σ vs ∧ tt σ2 H2 fun b H3 => if b = true then te σ2 H3 Z else Nx H3
theorem lc_turn {l : List α} {ι : α → V} {p : α → Bool} {v : α → V} (hlen : l.length ≤ 1000000) {D : Addr} {i : Nat} {n : α} {H' : Hp} (hD : H D = none) (hn : l[i]? = some n) (s : Same H H') (hH : H' D = some (.lst (((l.take i).filter p).map v)))
    (hs : LcT g tt te vs σ (ι n) H' (p n) (v n)) :
    g (ι n) (wipe σ vs) H' fun σ2 H2 => wipe σ2 vs = wipe σ vs ∧ tt σ2 H2 fun b H3 =>
      if b = true then te σ2 H3 fun y H4 => ∃ acc, H4 D = some (.lst acc) ∧ acc.length < sizeLine ∧ (Same H (upd H4 D (.lst (acc ++ [y]))) ∧ upd H4 D (.lst (acc ++ [y])) D = some (.lst (((l.take (i + 1)).filter p).map v))) else (Same H H3 ∧ H3 D = some (.lst (((l.take (i + 1)).filter p).map v))) := by
  have e1 := take_succ hn
  refine hs _ _ (fun hp H4 s4 => ⟨_, s4 _ _ hH, ?_, same_put (s.trans s4) hD, ?_⟩) (fun hp H4 s4 => ⟨s.trans s4, ?_⟩)
  · refine size6 (Nat.le_trans ?_ hlen)
    rw [List.length_map]
    exact Nat.le_trans (List.length_filter_le _ _) (by rw [List.length_take]; omega)
  · rw [upd_same, e1, List.filter_append, List.map_append]
    simp [hp]
  · rw [s4 _ _ hH, e1, List.filter_append, List.map_append]
    simp [hp]
theorem lc_pure {a : Addr} (l : List α) (ι : α → V) (p : α → Bool) (v : α → V) (hS : Tq H a (l.map ι)) (hlen : l.length ≤ 1000000) (hs : ∀ n H', n ∈ l → Same H H' → LcT g tt te vs σ (ι n) H' (p n) (v n))
    (hd : ∀ D H', H D = none → Same H H' → H' D = some (.lst ((l.filter p).map v)) → Q D H') :
    ∃ (a' : Addr) (xs' : List V), V.ref a = .ref a' ∧ ((SqL K H a' xs' ∧ LcR g tt te vs σ Q (Itl K a') H) ∨ (SqT K H a' xs' ∧ LcR g tt te vs σ Q (Itt K a') H)) := by
  refine lc_seq hS.sq (fun D i H' => Same H H' ∧ H' D = some (.lst (((l.take i).filter p).map v))) (fun D hD => ⟨same_new0 hD, upd_same⟩) (fun D i H' hD hp => Kp.of hp.1) (fun D i x H' hD hx hp => ?_) (fun D H' hD hp => ?_)
  · obtain ⟨n, hn, rfl⟩ := map_get hx
    exact lc_turn hlen hD hn hp.1 hp.2 (hs n H' (List.mem_of_getElem? hn) hp.1)
  · obtain ⟨h1, h2⟩ := hp
    rw [List.length_map, List.take_length] at h2
    exact hd D H' hD h1 h2
theorem range_get {n i : Nat} (h : i < n) : (List.range n)[i]? = some i := by simp [h]
/-- .. over range(n) -/
theorem lc_pureR {n : Nat} (p : Nat → Bool) (v : Nat → V) (hlen : n ≤ 1000000) (hs : ∀ i H', i < n → Same H H' → LcT g tt te vs σ (vN i) H' (p i) (v i))
    (hd : ∀ D H', H D = none → Same H H' → H' D = some (.lst (((List.range n).filter p).map v)) → Q D H') : LcR g tt te vs σ Q (Itr 0 n) H := by
  intro D hD
  refine lc_range (fun i H' => Same H H' ∧ H' D = some (.lst ((((List.range n).take i).filter p).map v))) ⟨same_new0 hD, by simpa using upd_same⟩ (fun i H' hi hp => ?_) (fun H' hp => ?_)
  · have q := lc_turn (ι := vN) (l := List.range n) (by simpa using hlen) hD (range_get hi) hp.1 hp.2 (hs i H' hi hp.1)
    rw [show (0 : Int) + (i : Int) = (i : Int) by omega]
    exact q
  · obtain ⟨h1, h2⟩ := hp
    rw [List.take_of_length_le (by simp)] at h2
    exact hd D H' hD h1 h2
end
section
variable {X : Cx}
/-- sorted(xs), naturals -/
theorem cr_sortedN : CallR X (.builtin "sorted") (fun xs H Q => ∃ (a : Addr) (ns : List Nat), xs = [.ref a] ∧ H a = some (.lst (ns.map vN)) ∧ ∀ p, H p = none → Q (.ref p) (upd H p (.lst ((srt ns).map vN)))) := by
  intro pins s σ H xs us Q I r h
  obtain ⟨a, ns, rfl, hS, h⟩ := h
  have em : ∀ l : List Nat, l.map vN = (l.map Int.ofNat).map V.int := fun l => by rw [List.map_map]; rfl
  refine cr_sortedI pins s σ H _ us Q I r ⟨a, ns.map Int.ofNat, rfl, SqL.of (by rw [← em]; exact hS), fun ns' p hp hs hn => ?_⟩
  have e : ns' = (srt ns).map Int.ofNat := by
    have e1 : ns' = (ns'.map Int.toNat).map Int.ofNat := by
      rw [List.map_map]
      have : ∀ z ∈ ns', (Int.ofNat ∘ Int.toNat) z = z := fun z hz => by
        obtain ⟨k, _, hk⟩ := List.mem_map.mp (hp.mem_iff.mp hz)
        subst hk
        rfl
      rw [List.map_congr_left this, List.map_id']
    have e2 : ns'.map Int.toNat = srt ns := by
      refine srt_of ?_ ?_
      · have := hp.map Int.toNat
        rw [List.map_map] at this
        have e3 : ns.map (Int.toNat ∘ Int.ofNat) = ns := by
          exact (List.map_congr_left (g := id) (fun z _ => rfl)).trans (List.map_id _)
        rw [e3] at this
        exact this
      · rw [List.pairwise_map]
        exact hs.imp fun h => by omega
    rw [← e2]
    exact e1
  rw [e, ← em]
  exact h p hn
end
/-! ### items by place, ranges -/
section
variable {X : Cx}
def rIxQ : R2 := fun x y H Q => ∃ (p : Addr) (xs : List V) (n : Nat) (v : V), x = .ref p ∧ y = .int (n : Int) ∧ Tq H p xs ∧ xs[n]? = some v ∧ Q v H
theorem ix_q : IxR X rIxQ := by
  intro value slice pins s σ H x y v u Q I rx ry h hs
  obtain ⟨p, xs, n, z, rfl, rfl, hq, he, q⟩ := h
  refine ix_seq value slice pins s σ H _ _ v u Q I rx ry ?_ hs
  rcases hq with hq | hq
  · exact .inl ⟨p, xs, n, z, rfl, rfl, SqL.of hq, atI_nat he, q⟩
  · exact .inr (.inl ⟨p, xs, n, z, rfl, rfl, SqT.of hq, atI_nat he, q⟩)
theorem call_lenQ : CallR X (.builtin "len") (fun xs H Q => ∃ (p : Addr) (ys : List V), xs = [.ref p] ∧ Tq H p ys ∧ Q (.int (ys.length : Nat)) H) := by
  intro pins s σ H xs us Q I r h
  obtain ⟨p, ys, rfl, hq, q⟩ := h
  exact call_len_seq pins s σ H _ us Q I r ⟨p, ys, rfl, hq.sqlt, q⟩
theorem call_listQ : CallR X (.type "list") (fun xs H Q => ∃ (p : Addr) (ys : List V), xs = [.ref p] ∧ Tq H p ys ∧ ∀ l, H l = none → Q (.ref l) (upd H l (.lst ys))) := by
  intro pins s σ H xs us Q I r h
  obtain ⟨p, ys, rfl, hq, q⟩ := h
  exact call_list_of pins s σ H _ us Q I r ⟨p, ys, rfl, hq.sqlt, q⟩
/-- tuple(xs), xs a list -/
theorem call_tupleQ : CallR X (.type "tuple") (fun xs H Q => ∃ (p : Addr) (ys : List V), xs = [.ref p] ∧ H p = some (.lst ys) ∧ ∀ l, H l = none → Q (.ref l) (upd H l (.tup ys))) := by
  intro pins s σ H xs us Q I r h
  obtain ⟨p, ys, rfl, hq, q⟩ := h
  exact call_tuple_of pins s σ H _ us Q I r ⟨p, ys, rfl, .inl ⟨SqL.of hq, q⟩⟩
end
end LaneX
set_option Elab.async false
set_option linter.all false
set_option maxRecDepth 100000
set_option maxHeartbeats 4000000
namespace LaneX
open PySem PySem.Spec PyProof.Rows L2
/-! ### an operator of an own class, both operands of that class -/
def rOwn (C : Addr) (sp : Sp) : R2 := fun x y H Q => ∃ (a b dx dy : Addr) (fs gs : List (Str × V)), x = .ref a ∧ y = .ref b ∧ H a = some (.ins C dx fs) ∧ H b = some (.ins C dy gs) ∧ sp [.ref a, .ref b] H Q E0
section
variable {X : Cx}
theorem back_of {pins : List (Addr × Obj)} {σ : L2.St} {Q : VK} {v : Value} {s : Shared} (h : EP X pins σ Q v s) : PySem.W.CmpBack (EP X pins σ Q) v s := by
  have h' := h
  obtain ⟨x, H', I, r, q⟩ := h'
  have nn : v ≠ Value.notImplemented := fun z => by
    subst z
    cases x with
    | non => exact absurd (show Value.notImplemented = Value.none from r) (fun z => nomatch z)
    | bl b => exact absurd (show Value.notImplemented = Value.bool b from r) (fun z => nomatch z)
    | int i => obtain ⟨t, z⟩ := (show ∃ t, Value.notImplemented = Value.int i t from r); exact nomatch z
    | str i => obtain ⟨t, z⟩ := (show ∃ t, Value.notImplemented = Value.str i t from r); exact nomatch z
    | byt i => obtain ⟨t, z⟩ := (show ∃ t, Value.notImplemented = Value.bytes i t from r); exact nomatch z
    | flt i => obtain ⟨t, z⟩ := (show ∃ t, Value.notImplemented = Value.float i t from r); exact nomatch z
    | ref a => exact absurd (show Value.notImplemented = Value.ref a from r) (fun z => nomatch z)
    | ty n => exact absurd (show Value.notImplemented = Value.type n from r) (fun z => nomatch z)
  cases v <;> first | exact h | exact absurd rfl nn
theorem op_own {op : Operator} {m : Str} {k j : Nat} {C : Addr} {ps : List Str} {sp : Sp} (hm : m = PySem.dunder op.info.2) (D : Mn X.prog X.w X.K X.mg X.base k C m ps sp) (hc : PySem.W.selfFirst X.K C = true) (hr : Room j X.A) (hk : k ≤ j := by decide) : OpR X (binaryOp op) (rOwn C sp) := by
  intro pins s σ H x y v u Q I rx ry h
  obtain ⟨a, b, dx, dy, fs, gs, rfl, rfl, ha, hb, hsp⟩ := h
  obtain ⟨f, fd, h1, h3, h4⟩ := D.ex
  cases (show v = Value.ref a from rx)
  cases (show u = Value.ref b from ry)
  obtain ⟨mA, O, _⟩ := ins_get I.hok ha
  obtain ⟨od, J, _⟩ := O.look
  obtain ⟨mB, O2, _⟩ := ins_get I.hok hb
  obtain ⟨od2, J2, _⟩ := O2.look
  obtain ⟨mm, F⟩ := I.fr
  subst hm
  refine PySem.W.binop_K F I.mod.kin J J2.type hc h1.at_ h1.fn ?_
  exact wpAny_mono (run_fn h4 (hr.mono hk) h3 .nil pass0 I (vs := [.ref a, .ref b]) (.cons rfl (.cons rfl .nil)) hsp) (fun v s' hq => back_of hq) fun _ _ z => z
end
end LaneX
set_option Elab.async false
set_option linter.all false
set_option maxRecDepth 100000
set_option maxHeartbeats 4000000
namespace LaneX
open PySem PySem.Spec PyProof.Rows L2
/-! ### lists of ints compared -/
theorem dpAll_ints {K : PySem.W.Frag} {H : Hp} : ∀ ns : List Int, DpAll K H (ns.map V.int) (ns.map PyData.int)
  | [] => .nil
  | n :: r => .cons (.int n) (dpAll_ints r)
theorem eqvAll_ints : ∀ ns ms : List Int, PyData.eqvAll (ns.map PyData.int) (ms.map PyData.int) = decide (ns = ms)
  | [], [] => rfl
  | [], _ :: _ => rfl
  | _ :: _, [] => rfl
  | n :: r, m :: q => by
    show (PyData.eqv (.int n) (.int m) && PyData.eqvAll (r.map PyData.int) (q.map PyData.int)) = _
    rw [eqvAll_ints r q]
    show ((n == m) && decide (r = q)) = _
    by_cases h : n = m
    · subst h; simp
    · simp [h]
theorem shaped_tints (ns : List Int) : SeqAt.shaped (.tuple (ns.map PyData.int)) = true := by
  have h := PySem.W.ke_shaped_ints ns
  unfold SeqAt.shaped at h ⊢
  exact h
section
variable {X : Cx}
theorem op_neL (hu : X.A.units + 64 < cLine) : OpR X (compareOp .NotEq) (fun x y H Q => ∃ (a b : Addr) (ns ms : List Int), x = .ref a ∧ y = .ref b ∧ H a = some (.lst (ns.map V.int)) ∧ H b = some (.lst (ms.map V.int)) ∧ Q (.bl (!decide (ns = ms))) H) := by
  intro pins s σ H x y v u Q I rx ry h
  obtain ⟨a, b, ns, ms, rfl, rfl, ha, hb, q⟩ := h
  refine op_neD hu pins s σ H _ _ v u Q I rx ry ⟨.list (ns.map .int), .list (ms.map .int), .lst (SqL.of ha) (dpAll_ints ns), .lst (SqL.of hb) (dpAll_ints ms), PySem.W.ke_shaped_ints ns, PySem.W.ke_shaped_ints ms, ?_⟩
  show Q (.bl (!PyData.eqvAll (ns.map .int) (ms.map .int))) H
  rw [eqvAll_ints]
  exact q
theorem op_eqL (hu : X.A.units + 64 < cLine) : OpR X (compareOp .Eq) (fun x y H Q => ∃ (a b : Addr) (ns ms : List Int), x = .ref a ∧ y = .ref b ∧ H a = some (.lst (ns.map V.int)) ∧ H b = some (.lst (ms.map V.int)) ∧ Q (.bl (decide (ns = ms))) H) := by
  intro pins s σ H x y v u Q I rx ry h
  obtain ⟨a, b, ns, ms, rfl, rfl, ha, hb, q⟩ := h
  refine op_eqD hu pins s σ H _ _ v u Q I rx ry ⟨.list (ns.map .int), .list (ms.map .int), .lst (SqL.of ha) (dpAll_ints ns), .lst (SqL.of hb) (dpAll_ints ms), PySem.W.ke_shaped_ints ns, PySem.W.ke_shaped_ints ms, ?_⟩
  show Q (.bl (PyData.eqvAll (ns.map .int) (ms.map .int))) H
  rw [eqvAll_ints]
  exact q
theorem vN_ints (l : List Nat) : l.map vN = (l.map Int.ofNat).map V.int := by rw [List.map_map]; rfl
/-- a list of naturals against the empty list -/
theorem op_neE (hu : X.A.units + 64 < cLine) : OpR X (compareOp .NotEq) (fun x y H Q => ∃ (a b : Addr) (ns : List Nat), x = .ref a ∧ y = .ref b ∧ H a = some (.lst (ns.map vN)) ∧ H b = some (.lst []) ∧ Q (.bl (!ns.isEmpty)) H) := by
  intro pins s σ H x y v u Q I rx ry h
  obtain ⟨a, b, ns, rfl, rfl, ha, hb, q⟩ := h
  rw [vN_ints] at ha
  refine op_neL hu pins s σ H _ _ v u Q I rx ry ⟨a, b, _, [], rfl, rfl, ha, hb, ?_⟩
  have e : (!decide (ns.map Int.ofNat = [])) = !ns.isEmpty := by cases ns <;> simp
  rw [e]
  exact q
theorem op_eqE (hu : X.A.units + 64 < cLine) : OpR X (compareOp .Eq) (fun x y H Q => ∃ (a b : Addr) (ns : List Nat), x = .ref a ∧ y = .ref b ∧ H a = some (.lst (ns.map vN)) ∧ H b = some (.lst []) ∧ Q (.bl ns.isEmpty) H) := by
  intro pins s σ H x y v u Q I rx ry h
  obtain ⟨a, b, ns, rfl, rfl, ha, hb, q⟩ := h
  rw [vN_ints] at ha
  refine op_eqL hu pins s σ H _ _ v u Q I rx ry ⟨a, b, _, [], rfl, rfl, ha, hb, ?_⟩
  have e : decide (ns.map Int.ofNat = []) = ns.isEmpty := by cases ns <;> simp
  rw [e]
  exact q
/-- min and max of two naturals -/
theorem call_minN (hc : X.calm = true) : CallR X (.builtin "min") (fun xs H Q => ∃ n m : Nat, xs = [.int (n : Int), .int (m : Int)] ∧ Q (.int ((min n m : Nat) : Int)) H) := by
  intro pins s σ H xs us Q I r h
  obtain ⟨n, m, rfl, q⟩ := h
  refine call_min2 hc pins s σ H _ us Q I r ⟨_, _, rfl, ?_⟩
  have e : (if (m : Int) < (n : Int) then (m : Int) else (n : Int)) = ((min n m : Nat) : Int) := by split <;> omega
  rw [e]
  exact q
/-! ### numbers -/
theorem call_intQ : CallR X (.type "int") (fun xs H Q => ∃ i : Int, xs = [.int i] ∧ Q (.int i) H) := by
  intro pins s σ H xs us Q I r h
  obtain ⟨i, rfl, q⟩ := h
  exact call_int1 pins s σ H _ us Q I r (.inl ⟨i, rfl, q⟩)
theorem call_absN : CallR X (.builtin "abs") (fun xs H Q => ∃ i : Int, xs = [.int i] ∧ Q (.int (i.natAbs : Nat)) H) := by
  intro pins s σ H xs us Q I r h
  obtain ⟨i, rfl, q⟩ := h
  refine call_abs pins s σ H _ us Q I r ⟨i, rfl, ?_⟩
  have e : (if i < 0 then -i else i) = (i.natAbs : Int) := by split <;> omega
  rw [e]
  exact q
theorem on_pow : OpR X (binaryOp .Pow) (fun x y H Q => ∃ n m : Nat, x = .int (n : Int) ∧ y = .int (m : Int) ∧ (n < 2 ^ 64 ∧ m ≤ 1000000) ∧ Q (.int ((n ^ m : Nat) : Int)) H) := by
  intro pins s σ H x y v u Q I rx ry h
  obtain ⟨n, m, rfl, rfl, ⟨c1, c2⟩, q⟩ := h
  refine op_pow pins s σ H _ _ v u Q I rx ry ⟨_, _, rfl, rfl, ⟨by omega, by omega, by simpa using c1⟩, ?_⟩
  rw [Int.natCast_pow] at q
  exact q
/-- an int of any sign, a positive divisor -/
theorem on_modI : OpR X (binaryOp .Mod) (fun x y H Q => ∃ (i : Int) (m : Nat), x = .int i ∧ y = .int (m : Int) ∧ 0 < m ∧ Q (.int ((i % (m : Int)).toNat : Nat)) H) := by
  intro pins s σ H x y v u Q I rx ry h
  obtain ⟨i, m, rfl, rfl, c, q⟩ := h
  have e : (((i % (m : Int)).toNat : Nat) : Int) = i % (m : Int) := by
    have := Int.emod_nonneg i (b := (m : Int)) (by omega)
    omega
  rw [e] at q
  exact op_mod pins s σ H _ _ v u Q I rx ry ⟨_, _, rfl, rfl, show (0 : Int) < (m : Int) by omega, q⟩
end
section
variable {X : Cx}
theorem and_neg (n : Nat) : Builtin.bitAnd (n : Int) (-(n : Int)) = ((lwb n : Nat) : Int) := by
  unfold Builtin.bitAnd lwb
  by_cases h : n = 0
  · subst h
    rfl
  · have h1 : decide (0 ≤ (n : Int)) = true := decide_eq_true (Int.natCast_nonneg _)
    have h2 : decide (0 ≤ -(n : Int)) = false := decide_eq_false (by omega)
    rw [h1, h2]
    show (n : Int) - (((n : Int).toNat &&& (Builtin.bitNot (-(n : Int))).toNat : Nat) : Int) = _
    have e : (Builtin.bitNot (-(n : Int))).toNat = n - 1 := by
      unfold Builtin.bitNot
      omega
    rw [e, Int.toNat_natCast]
    have le : n &&& (n - 1) ≤ n := Nat.and_le_left
    omega
/-- n & -n -/
theorem on_low : OpR X (binaryOp .BitAnd) (fun x y H Q => ∃ n : Nat, x = .int (n : Int) ∧ y = .int (-(n : Int)) ∧ Q (.int ((lwb n : Nat) : Int)) H) := by
  intro pins s σ H x y v u Q I rx ry h
  obtain ⟨n, rfl, rfl, q⟩ := h
  rw [← and_neg] at q
  exact op_and pins s σ H _ _ v u Q I rx ry ⟨_, _, rfl, rfl, q⟩
end
/-! ### the pen -/
def pen (a b c : Str) (lc : Addr) (n m : Nat) : List (Key × V) := [(.inr a, .ref lc), (.inr b, vN n), (.inr c, vN m)]
structure PenN (a b c : Str) : Prop where
  ab : a ≠ b
  ac : a ≠ c
  bc : b ≠ c
def PenAt (a b c : Str) (H : Hp) (p lc : Addr) (N : Nat) : Prop := ∃ (cs : List Int) (n m : Nat), H p = some (.dK (pen a b c lc n m)) ∧ H lc = some (.lst (cs.map V.int)) ∧ n ≤ N
section
variable {a b c : Str} {H H' : Hp} {p lc : Addr} {N M : Nat}
theorem PenAt.mono (h : PenAt a b c H p lc N) (l : N ≤ M) : PenAt a b c H p lc M := by
  obtain ⟨cs, n, m, h1, h2, h3⟩ := h
  exact ⟨cs, n, m, h1, h2, Nat.le_trans h3 l⟩
theorem PenAt.same (h : PenAt a b c H p lc N) (s : Same H H') : PenAt a b c H' p lc N := by
  obtain ⟨cs, n, m, h1, h2, h3⟩ := h
  exact ⟨cs, n, m, s _ _ h1, s _ _ h2, h3⟩
theorem PenAt.ne (h : PenAt a b c H p lc N) {l : Addr} (hl : H l = none) : lc ≠ l ∧ p ≠ l := by
  obtain ⟨cs, n, m, h1, h2, h3⟩ := h
  exact ⟨ne_of_none h2 hl, ne_of_none h1 hl⟩
/-- a list of one's own is written -/
theorem PenAt.put {l : Addr} {o : HO} (h : PenAt a b c H p lc N) (h1 : lc ≠ l ∧ p ≠ l) : PenAt a b c (upd H l o) p lc N := by
  obtain ⟨cs, n, m, g1, g2, g3⟩ := h
  exact ⟨cs, n, m, (upd_ne h1.2).trans g1, (upd_ne h1.1).trans g2, g3⟩
theorem pen_a (n m : Nat) : valV (pen a b c lc n m) (.inr a) = some (.ref lc) := valV_pos rfl
theorem pen_b (hN : PenN a b c) (n m : Nat) : valV (pen a b c lc n m) (.inr b) = some (vN n) := by
  unfold pen valV
  simp [hN.ab]
theorem pen_c (hN : PenN a b c) (n m : Nat) : valV (pen a b c lc n m) (.inr c) = some (vN m) := by
  unfold pen valV
  simp [hN.ac, hN.bc]
theorem pen_pb (hN : PenN a b c) (n m k : Nat) : putK (pen a b c lc n m) (.inr b) (vN k) = pen a b c lc k m := by
  unfold pen putK
  simp [hN.ab, hN.bc.symm]
theorem pen_pc (hN : PenN a b c) (n m k : Nat) : putK (pen a b c lc n m) (.inr c) (vN k) = pen a b c lc n k := by
  unfold pen putK
  simp [hN.ac, hN.bc]
theorem pen_len (n m : Nat) : (pen a b c lc n m).length < sizeLine := by
  show 3 < sizeLine
  decide
end
end LaneX
set_option Elab.async false
set_option linter.all false
set_option maxRecDepth 100000
set_option maxHeartbeats 4000000
namespace LaneX
open PySem PySem.Spec PyProof.Rows L2
/-! ### == and != of own classes -/
section
variable {X : Cx}
/-- an own def, called somewhere below the running body -/
theorem call_below {k : Nat} {f : Addr} {fd : FuncData} {ps : List Str} {sp : Sp} {A : Around} {pins : List (Addr × Obj)} {σ : L2.St} {H : Hp} {s : Shared} {vs : List V} {us : List Value} {Q : VK} (F : FnOk X.prog X.w X.K X.mg X.base CX0 k f fd ps sp) (hb : Binds X.K fd ps [])
    (sb : Sub X k A) (I : Inv X pins σ H s) (r : Vals vs us) (hsp : sp vs H Q E0) : wpAny (model X.prog X.w) A (call (.ref f) us) (EP X pins σ Q) X.xe s := by
  have e0 : Env0 X.prog X.w X.K X.mg X.base A X.stack s H := by
    have e := I.env0
    exact ⟨by rw [sb.fr]; exact e.frames, e.mod, e.bs, e.bsz, e.funs, e.frf, e.hok, e.bare⟩
  have hl := F.len _ _ _ _ hsp
  refine wpAny_call (codeAny_mono (F.run A X.stack s H ⟨us, []⟩ us vs _ E0 sb.room e0 (by
    have := hb s us I.kIn (by have := r.length; simp; omega)
    simpa using this) r hsp) fun r s' hq => ?_)
  cases r with
  | error e => exact pass0 pins σ H s e s' I hq
  | ok fl =>
    cases fl with
    | ret w =>
      obtain ⟨z, H', I', rz, q⟩ := I.after hq
      exact ⟨z, H', I', rz, q⟩
    | next => exact False.elim hq
    | brk => exact False.elim hq
    | cont => exact False.elim hq
/-- x == y, both of the class at C, by its own __eq__ -/
theorem op_eqO {k j : Nat} {C : Addr} {ps : List Str} {sp : Sp} (D : Mn X.prog X.w X.K X.mg X.base k C "__eq__" ps sp) (hr : Room j X.A) (hk : k ≤ j := by decide) : OpR X (compareOp .Eq) (rOwn C sp) := by
  intro pins s σ H x y v u Q I rx ry h
  obtain ⟨a, b, dx, dy, fs, gs, rfl, rfl, ha, hb, hsp⟩ := h
  obtain ⟨f, fd, h1, h3, h4⟩ := D.ex
  cases (show v = Value.ref a from rx)
  cases (show u = Value.ref b from ry)
  obtain ⟨mA, O, _⟩ := ins_get I.hok ha
  obtain ⟨od, J, _⟩ := O.look
  obtain ⟨mB, O2, _⟩ := ins_get I.hok hb
  obtain ⟨od2, J2, _⟩ := O2.look
  obtain ⟨mm, F⟩ := I.fr
  show wpAny (model X.prog X.w) X.A (richCompare .Eq (.ref a) (.ref b)) (EP X pins σ Q) X.xe s
  refine PySem.W.cmp_K (op := .Eq) (tb := .ref C) hr.units0 F I.mod.kin J J2.type (by simp [PySem.W.notFirst]) h1.at_ h1.fn ?_
  exact wpAny_mono (call_below (vs := [.ref a, .ref b]) (us := [Value.ref a, Value.ref b]) h4 h3 ⟨hr.mono hk, rfl⟩ I (.cons rfl (.cons rfl .nil)) hsp) (fun v s' hq => back_of hq) fun _ _ z => z
/-- x != y, both of the class at C, by its own __eq__ (no own __ne__) -/
def rNeO (C : Addr) (sp : Sp) : R2 := fun x y H Q => ∃ (a b dx dy : Addr) (fs gs : List (Str × V)), x = .ref a ∧ y = .ref b ∧ H a = some (.ins C dx fs) ∧ H b = some (.ins C dy gs) ∧ sp [.ref a, .ref b] H (fun v H' => ∃ r : Bool, v = .bl r ∧ Q (.bl (!r)) H') E0
theorem ifBound_ne {M : Model} {A : Around} {E : Value → Shared → Prop} {s : Shared} {K : PySem.W.Frag} {x C : Addr} {ox : Obj} {od : Option Obj} {args : List Value} {Q : Option Value → Shared → Prop} (X : K.In s.heap) (I : PySem.W.InstAt s.heap x ox C od)
    (hs : PySem.W.findIn K (.ref C) "__ne__" = some (some (.builtin "object.__ne__"))) (h : wpAny M A (call (.builtin "object.__ne__") (.ref x :: args)) (fun v => Q (some v)) E s) : wpAny M A (callSpecialIfBound? (.ref x) "__ne__" args) Q E s := by
  simp only [callSpecialIfBound?, bindSpecialIfBound?]
  refine wpAny_holding (wpAny_bind (wpAny_bind (wpAny_bind (I.type.here ((PySem.W.looks_findIn X hs).here ?_)))))
  refine wpAny_bind (wpAny_askSetting (wpAny_ite ?_))
  have fin : wpAny M A (call (.builtin "object.__ne__") ([.ref x] ++ args) >>= fun v => pure (some v)) Q E s := wpAny_bind (wpAny_mono h (fun v s' h' => wpAny_pure h') fun _ _ h' => h')
  split
  · exact wpAny_bind (wpAny_of_eq (F.cmp_object.ne.bind _) (wpAny_pure (by exact fin)))
  · exact wpAny_tryCatch (wpAny_bind (wpAny_of_eq (F.cmp_object.ne.bind _) (wpAny_pure (by exact fin))))
theorem op_neO {k j : Nat} {C : Addr} {ps : List Str} {sp : Sp} (D : Mn X.prog X.w X.K X.mg X.base k C "__eq__" ps sp) (hne : PySem.W.findIn X.K (.ref C) "__ne__" = some (some (.builtin "object.__ne__"))) (hm : PySem.W.mroIn X.K C (.type "object") = some true) (hr : Room j X.A) (hk : k + 1 ≤ j := by decide) :
    OpR X (compareOp .NotEq) (rNeO C sp) := by
  intro pins s σ H x y v u Q I rx ry h
  obtain ⟨a, b, dx, dy, fs, gs, rfl, rfl, ha, hb, hsp⟩ := h
  obtain ⟨f, fd, h1, h3, h4⟩ := D.ex
  cases (show v = Value.ref a from rx)
  cases (show u = Value.ref b from ry)
  obtain ⟨mA, O, _⟩ := ins_get I.hok ha
  obtain ⟨od, J, _⟩ := O.look
  obtain ⟨mB, O2, _⟩ := ins_get I.hok hb
  obtain ⟨od2, J2, _⟩ := O2.look
  have KX := I.kIn
  have r1 : Room (k + 1) X.A := hr.mono hk
  have rb := call_below (A := X.A.in1) h4 h3 ⟨r1.in1, rfl⟩ I (.cons rfl (.cons rfl .nil)) hsp (vs := [.ref a, .ref b]) (us := [Value.ref a, Value.ref b])
  have hu1 : X.A.in1.units < cLine := r1.in1.units0
  have one : wpAny (model X.prog X.w) X.A (tryCompare (.ref a) "__ne__" (.ref b)) (fun r s' => ∃ v, r = some v ∧ EP X pins σ Q v s') X.xe s := by
    unfold tryCompare
    refine wpAny_bind (ifBound_ne KX J hne (wpAny_call (codeAny_call_builtin F.cmp_object.ne.plain F.cmpEntry_ne (PySem.W.check_slot F.cmpKind_ne F.cmpSplit_ne (J.type.andThen (PySem.W.looks_mroIn KX hm)) (F.cmpArgs_ne _ _) ?_))))
    unfold Builtin.«object.__ne__»
    repeat (first | with_reducible refine wpAny_cRoomFor hu1 ?_ | (with_reducible refine PySem.W.ifBound_K KX J h1.at_ h1.fn ?_; refine wpAny_mono rb ?_ ?_) | wp_step)
    · intro v s' hq
      obtain ⟨z, H', I', rz, r, ez, q⟩ := hq
      subst ez
      cases (show v = Value.bool r from rz)
      refine wpAny_bind (wpAny_truthy_bool (wpAny_pure ?_))
      exact wpAny_pure ⟨_, rfl, .bl (!r), H', I', rfl, q⟩
    · exact fun _ _ z => z
  show wpAny (model X.prog X.w) X.A (richCompare .NotEq (.ref a) (.ref b)) (EP X pins σ Q) X.xe s
  unfold richCompare
  simp only [oneThing_ref]
  refine wpAny_holding (wpAny_bind (wpAny_cRoomFor hr.units0 ?_))
  refine wpAny_bind (J.type.here (wpAny_bind (J2.type.here ?_)))
  rw [if_neg (by simp)]
  refine wpAny_bind (wpAny_pure ?_)
  simp only [Bool.false_eq_true, if_false]
  refine wpAny_bind (wpAny_mono one (fun r s' z => ?_) fun _ _ e => e)
  obtain ⟨v, rfl, hq⟩ := z
  exact wpAny_pure hq
/-- x == y of two instances of one class without an own __eq__ -/
def rEqI (C : Addr) : R2 := fun x y H Q => ∃ (a b dx dy : Addr) (fs gs : List (Str × V)), x = .ref a ∧ y = .ref b ∧ a ≠ b ∧ H a = some (.ins C dx fs) ∧ H b = some (.ins C dy gs) ∧ Q (.bl false) H
theorem op_eqI {j : Nat} {C : Addr} (heq : PySem.W.findIn X.K (.ref C) "__eq__" = some (some (.builtin "object.__eq__"))) (hm : PySem.W.mroIn X.K C (.type "object") = some true) (hr : Room j X.A) : OpR X (compareOp .Eq) (rEqI C) := by
  intro pins s σ H x y v u Q I rx ry h
  obtain ⟨a, b, dx, dy, fs, gs, rfl, rfl, hne, ha, hb, q⟩ := h
  cases (show v = Value.ref a from rx)
  cases (show u = Value.ref b from ry)
  obtain ⟨mA, O, _⟩ := ins_get I.hok ha
  obtain ⟨od, J, _⟩ := O.look
  obtain ⟨mB, O2, _⟩ := ins_get I.hok hb
  obtain ⟨od2, J2, _⟩ := O2.look
  have KX := I.kIn
  have one : ∀ {x y : Addr} {ox oy : Obj} {ex ey : Option Obj}, x ≠ y → PySem.W.InstAt s.heap x ox C ex → PySem.W.InstAt s.heap y oy C ey → wpAny (model X.prog X.w) X.A (tryCompare (.ref x) "__eq__" (.ref y)) (fun r s' => r = none ∧ s' = s) X.xe s := by
    intro x y ox oy ex ey nxy Jx Jy
    unfold tryCompare
    refine wpAny_bind (HN.ifBound_objEq KX Jx heq (wpAny_call (codeAny_call_builtin F.cmp_object.eq.plain F.cmpEntry_eq (PySem.W.check_slot F.cmpKind_eq F.cmpSplit_eq (Jx.type.andThen (PySem.W.looks_mroIn KX hm)) (F.cmpArgs_eq _ _) ?_))))
    exact objEq_entry_other nxy Jx.at_ Jy.at_ (by rw [Jx.cls]; intro z; cases z) (wpAny_pure ⟨rfl, rfl⟩)
  show wpAny (model X.prog X.w) X.A (richCompare .Eq (.ref a) (.ref b)) (EP X pins σ Q) X.xe s
  simp only [richCompare, cmpInfo_Eq, oneThing_ref]
  refine wpAny_holding (wpAny_bind (wpAny_cRoomFor hr.units0 ?_))
  refine wpAny_bind (J.type.here (wpAny_bind (J2.type.here ?_)))
  rw [if_neg (by simp)]
  refine wpAny_bind (wpAny_pure ?_)
  simp only [Bool.false_eq_true, if_false, Bool.not_false, if_true]
  refine wpAny_bind (wpAny_mono (one hne J J2) (fun r s1 z => ?_) fun _ _ e => e)
  obtain ⟨z1, z2⟩ := z
  subst z1
  subst z2
  refine wpAny_bind (wpAny_mono (one hne.symm J2 J) (fun r s2 z => ?_) fun _ _ e => e)
  obtain ⟨z1, z2⟩ := z
  subst z1
  subst z2
  exact wpAny_bind (wpAny_rule (wpAny_bind (wpAny_isSame_ref_other hne J.at_ J2.at_ (by rw [J.cls]; intro z; cases z) (wpAny_pure ⟨.bl false, H, I, rfl, q⟩))))
end
end LaneX
set_option Elab.async false
set_option linter.all false
set_option maxRecDepth 100000
set_option maxHeartbeats 4000000
namespace LaneX
open PySem PySem.Spec PyProof.Rows L2
/-! ### set(xs), xs a list of ints; sorted of it -/
abbrev nSet (w : World) : Obj := { cls := .type "set", dict := none, data := .set #[] 0 (.fresh 0 0 (!w.params.followText "set-order")) }
section
variable {P : Program} {w : World} {A : Around} {E : Value → Shared → Prop} {s : Shared}
/-- what stands behind set(l) -/
def SetDone (w : World) (s : Shared) (ns : List Int) (s₂ : Shared) : Prop := ∃ h' tk c, s₂ = { s with heap := h', toks := tk } ∧ SetR w h' s.heap.objs.size (fun j => decide (j ∈ ns)) c ∧ c ≤ ns.length ∧ ∀ b o, s.heap.get? b = some o → h'.get? b = some o
theorem call_setL {l : Addr} {items : Array Value} (ns : List Int) {Q : Value → Shared → Prop} (hh : A.handled = none) (hl : s.heap.IsList l items) (hit : IntsAre items.toList ns) (hb : ns.length + 1 < scanBound)
    (h : ∀ s₂, SetDone w s ns s₂ → Q (.ref s.heap.objs.size) s₂) : wpAny (model P w) A (call (.type "set") [.ref l]) Q E s := by
  have len : items.size = ns.length := (Array.length_toList ..).symm.trans hit.length
  have T := F.called_set
  have ⟨_, _, mr⟩ := T.mro; have m1 := T.made; have m2 := T.sub; have m3 := T.notType; have m4 := T.canCreate
  have m5 := F.typeCall_set_1 (.ref l)
  refine wpAny_call (codeAny_of_tree (show wpAny _ _ (callAny (.type "set") _) _ _ _ from wpAny_pure ⟨Code.quiet_builtin _ (by decide +kernel), codeAny_builtin F.entry_type_call ?_⟩))
  rw [Around.under_plain (weight_type_call_type "set" [.ref l] []) rfl]
  repeat (any_goals (first | assumption | wp_step))
  refine codeAny_mono (code_set_led1 (.ref l) (E := E) (Q₁ := fun x s₁ => x = .ref s.heap.objs.size ∧ s₁ = { s with heap := s.heap.push (nSet w) }) ⟨rfl, rfl⟩) fun r s₁ hr => ?_
  rcases r with e | fl
  · exact hr
  cases fl with
  | ret x =>
    obtain ⟨rfl, rfl⟩ := hr
    have g0 : (s.heap.push (nSet w)).get? s.heap.objs.size = some (nSet w) := Heap.get?_push_size _ rfl
    have ty : Shared.TypeIs { s with heap := s.heap.push (nSet w) } (.ref s.heap.objs.size) "set" := ⟨_, g0, rfl⟩
    have i1 := T.init.lookup; have i2 := T.init.bind (.ref s.heap.objs.size)
    repeat (any_goals (first | assumption | wp_step))
    refine codeAny_mono (codeAny_call_builtin (R := wants (fun r s₂ => r = .none ∧ SetDone w s ns s₂) E) T.init.plain F.entry_set_init (check_set_init_1 ty ?_)) fun r2 s2 hr2 => ?_
    · obtain ⟨⟨oc, od, dt, sl⟩, ho, hc, nl, hd⟩ := hl
      simp only at hc hd
      subst hc hd
      have lS : l < s.heap.objs.size := Heap.lt_size ho
      have z1 : (s.heap.push (nSet w)).objs.size = s.heap.objs.size + 1 := Heap.size_push ..
      have ho' : (s.heap.push (nSet w)).get? l = some { cls := .type "list", dict := od, data := .seq items nl, slots := sl } := Heap.get?_push_of_some _ ho
      have hl1 : (s.heap.push (nSet w)).IsList l items := ⟨_, ho', rfl, nl, rfl⟩
      have c1 := F.sub_list_set; have c2 := F.sub_list_frozenset
      have c3 : (Value.type "list" == Value.type "dict") = false := by decide
      unfold Builtin.«set.__init__» noKeywords Builtin.Frozenset.updateFrom
      generalize ep : pyIter = PI
      wp_walk
      subst ep
      refine wpAny_pyIter_list hl1 (wpAny_bind (wpAny_runValue ?_))
      have h3 : A.in1.in1.in1.handled = none := by simp [hh]
      have nI : l ≠ (s.heap.push (nSet w)).objs.size := by rw [z1]; exact Nat.ne_of_lt (Nat.lt_succ_of_lt lS)
      have nF : s.heap.objs.size ∉ [(s.heap.push (nSet w)).objs.size, l] := by
        rw [z1]; simp only [List.mem_cons, List.not_mem_nil, or_false, not_or]; exact ⟨Nat.ne_of_lt (Nat.lt_succ_self _), Nat.ne_of_gt lS⟩
      have at_ : ∀ (i : Nat) (v : Value), items[i]? = some v → ∃ k t, ns[i]? = some k ∧ v = .int k t := fun i v hv => by
        have hi : i < ns.length := len ▸ (Array.getElem?_eq_some_iff.mp hv).1
        obtain ⟨t, e⟩ := hit.int_at i v (by rw [Array.getElem?_toList]; exact hv)
        exact ⟨ns[i], t, List.getElem?_eq_getElem hi, by rw [e, List.getD_eq_getElem?_getD, List.getElem?_eq_getElem hi]; rfl⟩
      have gg : ∀ o, ((s.heap.push (nSet w)).push o).get? s.heap.objs.size = some (nSet w) := fun o => Heap.get?_push_of_some _ g0
      refine set_update_ints ((Walks.list h3 _ l nI items).toS) s.heap.objs.size nF ns len hb at_ _ 0 _ rfl (Nat.zero_le _) ⟨⟨_, Heap.get?_push_size _ rfl, rfl, rfl⟩, hl1.push _⟩ ⟨0, Nat.le_refl 0, setR_new_at (gg _)⟩ (fun s' c' hm hc' hS' => ?_)
      obtain ⟨h', g2, d', tk', os'⟩ := s'
      cases (show g2 = s.gens from hm.gens); cases (show d' = s.drawn from hm.drawn); cases (show os' = s.os from hm.os)
      refine show wpAny _ _ _ _ _ _ from wpAny_pure (show wpAny _ _ (ret Value.none) _ _ _ from wpAny_pure ⟨rfl, h', tk', c', rfl, hS', len ▸ hc', fun b o e => ?_⟩)
      have b0 : b < s.heap.objs.size := Heap.lt_size e
      refine hm.heap b o ?_ (Heap.get?_push_of_some _ (Heap.get?_push_of_some _ e))
      rw [z1]; simp only [List.mem_cons, List.not_mem_nil, or_false, not_or]; exact ⟨Nat.ne_of_lt b0, Nat.ne_of_lt (Nat.lt_succ_of_lt b0)⟩
    · rcases r2 with e | fl2
      · exact hr2
      cases fl2 with
      | ret y =>
        obtain ⟨rfl, hd⟩ := hr2
        repeat (any_goals (first | assumption | wp_step))
        exact h _ hd
      | _ => exact hr2.elim
  | _ => exact hr.elim
end
section
variable {X : Cx}
theorem cr_setL (hc : X.calm = true) : CallR X (.type "set") (fun xs H Q => ∃ (a : Addr) (ns : List Int), xs = [.ref a] ∧ SqL X.K H a (ns.map V.int) ∧ ns.length ≤ 1000 ∧ ∀ p c o, H p = none → c ≤ ns.length → o = SetO X.w p (fun j => decide (j ∈ ns)) c → Q (.ref p) (upd H p o)) := by
  intro pins s σ H xs us Q I r h
  obtain ⟨a, ns, rfl, hS, hl, q⟩ := h
  rw [Vals.ref1 r]
  obtain ⟨its, rv, p, hz⟩ := I.list hS
  refine call_setL ns (I.ok.hd hc) p.isList (by simpa using ints_of_vals rv) (by unfold scanBound; omega) (fun s2 hd => ?_)
  obtain ⟨h', tk, c, rfl, hR, hcn, hk⟩ := hd
  exact ⟨.ref _, _, I.laid (t' := tk) hk (Nat.le_refl _) (setO_new hR), rfl, q _ _ _ (I.hok.fresh (Nat.le_refl _)) hcn rfl⟩
/-- sorted(set(xs)): naturals, fewer than 64 -/
theorem cr_sortedSetN (hc : X.calm = true) : CallR X (.builtin "sorted") (fun xs H Q => ∃ (a : Addr) (ns : List Nat) (c : Nat), xs = [.ref a] ∧ H a = some (SetO X.w a (fun j => decide (j ∈ ns.map Int.ofNat)) c) ∧ c < 64 ∧ ∀ p (ms : List Nat), H p = none → ms.Pairwise (· < ·) → (∀ k, k ∈ ms ↔ k ∈ ns) → ms.length = c → Q (.ref p) (upd H p (.lst (ms.map vN)))) := by
  intro pins s σ H xs us Q I r h
  obtain ⟨a, ns, c, rfl, ha, h64, q⟩ := h
  refine cr_sortedSet hc pins s σ H _ us Q I r ⟨a, _, c, rfl, ha, h64, fun zs p hp hm hl hn => ?_⟩
  have nn : ∀ z ∈ zs, ((z.toNat : Nat) : Int) = z := fun z hz => by
    obtain ⟨k, _, rfl⟩ := List.mem_map.mp (of_decide_eq_true ((hm z).mp hz))
    rfl
  have e : zs.map V.int = (zs.map Int.toNat).map vN := by
    rw [List.map_map]
    exact List.map_congr_left fun z hz => by show V.int z = V.int ((z.toNat : Nat) : Int); rw [nn z hz]
  rw [e]
  refine q p _ hn ?_ (fun k => ?_) (by rw [List.length_map, hl])
  · rw [List.pairwise_map]
    exact hp.imp_of_mem fun {x y} hx hy h => by
      have := nn x hx; have := nn y hy
      omega
  · constructor
    · intro hk
      obtain ⟨z, hz, rfl⟩ := List.mem_map.mp hk
      obtain ⟨k, hk2, rfl⟩ := List.mem_map.mp (of_decide_eq_true ((hm z).mp hz))
      exact hk2
    · intro hk
      exact List.mem_map.mpr ⟨(k : Int), (hm _).mpr (decide_eq_true (List.mem_map.mpr ⟨k, hk, rfl⟩)), rfl⟩
end
end LaneX
set_option Elab.async false
set_option linter.all false
set_option maxRecDepth 100000
set_option maxHeartbeats 4000000
namespace LaneX
open PySem PySem.Spec PyProof.Rows L2
/-! ### dicts with naturals as keys -/
abbrev kn (x : Nat) : Key := .inl (x : Int)
theorem kn_inj {x y : Nat} (h : kn x = kn y) : x = y := by
  have : (x : Int) = (y : Int) := Sum.inl.inj h
  omega
theorem nodup_len {α : Type} [DecidableEq α] : ∀ {l m : List α}, l.Nodup → (∀ x ∈ l, x ∈ m) → l.length ≤ m.length
  | [], _, _, _ => Nat.zero_le _
  | x :: l, m, hn, hs => by
    have hn' := List.nodup_cons.mp hn
    have hx := hs x (.head _)
    have ih := nodup_len (l := l) (m := m.erase x) hn'.2 fun y hy => by
      have : y ≠ x := fun e => hn'.1 (e ▸ hy)
      exact (List.mem_erase_of_ne this).mpr (hs y (.tail _ hy))
    have := List.length_erase_of_mem hx
    have hp : 0 < m.length := List.length_pos_of_mem hx
    simp only [List.length_cons]
    omega
/-- the keys are those of S, each once -/
structure Sn (kvs : List (Key × V)) (S : Nat → Prop) : Prop where
  nd : (kvs.map Prod.fst).Nodup
  mem : ∀ k, k ∈ kvs.map Prod.fst ↔ ∃ x, S x ∧ k = kn x
open Classical in
theorem put_keys (kvs : List (Key × V)) (k : Key) (v : V) : (putK kvs k v).map Prod.fst = if k ∈ kvs.map Prod.fst then kvs.map Prod.fst else kvs.map Prod.fst ++ [k] := by
  unfold putK
  by_cases h : k ∈ kvs.map Prod.fst
  · obtain ⟨p, hp, rfl⟩ := List.mem_map.mp h
    have a : (kvs.any fun kv => decide (kv.1 = p.1)) = true := List.any_eq_true.mpr ⟨p, hp, by simp⟩
    rw [if_pos a, if_pos h, List.map_map]
    refine List.map_congr_left fun q _ => ?_
    show (if q.1 = p.1 then (q.1, v) else q).1 = q.1
    split <;> rfl
  · have a : ¬ (kvs.any fun kv => decide (kv.1 = k)) = true := fun z => by
      obtain ⟨p, hp, e⟩ := List.any_eq_true.mp z
      exact h (List.mem_map.mpr ⟨p, hp, of_decide_eq_true e⟩)
    rw [if_neg a, if_neg h, List.map_append]
    rfl
theorem Sn.nil : Sn [] (fun _ => False) := ⟨.nil, fun k => ⟨fun h => (by cases h), fun h => (by obtain ⟨_, z, _⟩ := h; exact z.elim)⟩⟩
theorem Sn.put {kvs : List (Key × V)} {S : Nat → Prop} (h : Sn kvs S) (x : Nat) (v : V) : Sn (putK kvs (kn x) v) (fun y => S y ∨ y = x) := by
  have e := put_keys kvs (kn x) v
  refine ⟨?_, fun k => ?_⟩
  · rw [e]
    split
    · exact h.nd
    · rename_i n
      refine List.nodup_append.mpr ⟨h.nd, by simp, fun a ha b hb => ?_⟩
      rcases List.mem_singleton.mp hb with rfl
      exact fun z => n (z ▸ ha)
  · rw [e]
    split
    · rename_i m
      constructor
      · intro hk
        obtain ⟨y, hy, rfl⟩ := (h.mem k).mp hk
        exact ⟨y, .inl hy, rfl⟩
      · rintro ⟨y, hy | rfl, rfl⟩
        · exact (h.mem _).mpr ⟨y, hy, rfl⟩
        · exact m
    · constructor
      · intro hk
        rcases List.mem_append.mp hk with hk | hk
        · obtain ⟨y, hy, rfl⟩ := (h.mem k).mp hk
          exact ⟨y, .inl hy, rfl⟩
        · rcases List.mem_singleton.mp hk with rfl
          exact ⟨x, .inr rfl, rfl⟩
      · rintro ⟨y, hy | rfl, rfl⟩
        · exact List.mem_append_left _ ((h.mem _).mpr ⟨y, hy, rfl⟩)
        · exact List.mem_append_right _ (List.mem_singleton_self _)
theorem Sn.le {kvs : List (Key × V)} {S : Nat → Prop} (h : Sn kvs S) {n : Nat} (hS : ∀ x, S x → x < n) : kvs.length ≤ n := by
  have := nodup_len h.nd (m := (List.range n).map kn) fun k hk => by
    obtain ⟨x, hx, rfl⟩ := (h.mem k).mp hk
    exact List.mem_map.mpr ⟨x, List.mem_range.mpr (hS x hx), rfl⟩
  simpa using this
theorem Sn.full {kvs : List (Key × V)} {S : Nat → Prop} (h : Sn kvs S) {n : Nat} (hS : ∀ x, S x → x < n) (hA : ∀ x, x < n → S x) : kvs.length = n := by
  refine Nat.le_antisymm (h.le hS) ?_
  have nd : ((List.range n).map kn).Nodup := by
    unfold List.Nodup
    rw [List.pairwise_map]
    exact List.nodup_range.imp fun h z => h (kn_inj z)
  have := nodup_len nd (m := kvs.map Prod.fst) fun k hk => by
    obtain ⟨x, hx, rfl⟩ := List.mem_map.mp hk
    exact (h.mem _).mpr ⟨x, hA x (List.mem_range.mp hx), rfl⟩
  simpa using this
theorem Sn.congr {kvs : List (Key × V)} {S S' : Nat → Prop} (h : Sn kvs S) (e : ∀ x, S x ↔ S' x) : Sn kvs S' := ⟨h.nd, fun k => by rw [h.mem]; constructor <;> rintro ⟨x, hx, rfl⟩ <;> exact ⟨x, by first | exact (e x).mp hx | exact (e x).mpr hx, rfl⟩⟩
theorem Sn.val {kvs : List (Key × V)} {S : Nat → Prop} (h : Sn kvs S) (c : Nat) : (∃ v, valV kvs (kn c) = some v) ↔ S c := by
  constructor
  · rintro ⟨v, hv⟩
    obtain ⟨x, hx, e⟩ := (h.mem _).mp (valV_in hv)
    rw [kn_inj e]; exact hx
  · intro hc
    cases e : valV kvs (kn c) with
    | some v => exact ⟨v, rfl⟩
    | none => exact absurd ((h.mem _).mpr ⟨c, hc, rfl⟩) (valV_not e)
theorem Sn.notD {kvs : List (Key × V)} {S : Nat → Prop} (h : Sn kvs S) : notD (.dK kvs) = true := by
  cases kvs with
  | nil => rfl
  | cons p r =>
    obtain ⟨k, v⟩ := p
    obtain ⟨x, _, rfl⟩ := (h.mem k).mp (List.mem_cons_self)
    rfl
/-! ### what a lane knows: for each coset the word of its entries, and True -/
structure LnAt (H : Hp) (rows : List Nat) (E : Nat → Prop) (kvs : List (Key × V)) : Prop where
  sn : Sn kvs (fun c => ∃ e, E e ∧ lft rows e = c)
  at_ : ∀ c v, valV kvs (kn c) = some v → ∃ t m, v = .ref t ∧ H t = some (.tup [vN m, .bl true]) ∧ Msk rows E c m
theorem LnAt.mono {H H' : Hp} {rows : List Nat} {E : Nat → Prop} {kvs : List (Key × V)} (h : LnAt H rows E kvs) (k : ∀ t vs, H t = some (.tup vs) → H' t = some (.tup vs)) : LnAt H' rows E kvs :=
  ⟨h.sn, fun c v hv => by obtain ⟨t, m, e1, e2, e3⟩ := h.at_ c v hv; exact ⟨t, m, e1, k _ _ e2, e3⟩⟩
theorem LnAt.nil (H : Hp) (rows : List Nat) : LnAt H rows (fun _ => False) [] :=
  ⟨Sn.nil.congr fun x => ⟨fun z => z.elim, fun z => z.elim fun _ q => q.1⟩, fun c v hv => by cases hv⟩
theorem LnAt.congr {H : Hp} {rows : List Nat} {E F : Nat → Prop} {kvs : List (Key × V)} (h : LnAt H rows E kvs) (g : ∀ e, E e ↔ F e) : LnAt H rows F kvs := by
  have : E = F := funext fun e => propext (g e)
  rwa [← this]
theorem LnAt.get {H : Hp} {rows : List Nat} {E : Nat → Prop} {kvs : List (Key × V)} (h : LnAt H rows E kvs) {x : Addr} (hx : H x = some (.tup [vN 0, .bl true])) (c : Nat) :
    ∃ t m, (valV kvs (kn c)).getD (.ref x) = .ref t ∧ H t = some (.tup [vN m, .bl true]) ∧ Msk rows E c m := by
  cases e : valV kvs (kn c) with
  | some v =>
    obtain ⟨t, m, rfl, h2, h3⟩ := h.at_ c v e
    exact ⟨t, m, rfl, h2, h3⟩
  | none =>
    refine ⟨x, 0, rfl, hx, Msk.zero fun e' he z => ?_⟩
    obtain ⟨v, hv⟩ := (h.sn.val c).mpr ⟨e', he, z⟩
    rw [e] at hv; cases hv
theorem LnAt.has {H : Hp} {rows : List Nat} {E : Nat → Prop} {kvs : List (Key × V)} (h : LnAt H rows E kvs) {c : Nat} (hc : ∃ e, E e ∧ lft rows e = c) :
    ∃ t m, valV kvs (kn c) = some (.ref t) ∧ H t = some (.tup [vN m, .bl true]) ∧ Msk rows E c m := by
  obtain ⟨v, hv⟩ := (h.sn.val c).mpr hc
  obtain ⟨t, m, rfl, h2, h3⟩ := h.at_ c v hv
  exact ⟨t, m, hv, h2, h3⟩
theorem LnAt.put {H H' : Hp} {rows : List Nat} {E F : Nat → Prop} {kvs : List (Key × V)} (h : LnAt H rows E kvs) (k : ∀ t vs, H t = some (.tup vs) → H' t = some (.tup vs)) {c m : Nat} {t : Addr} (ht : H' t = some (.tup [vN m, .bl true])) (hm : Msk rows F c m) (hF : ∃ e, F e ∧ lft rows e = c)
    (o : ∀ e, lft rows e ≠ c → (F e ↔ E e)) : LnAt H' rows F (putK kvs (kn c) (.ref t)) := by
  refine ⟨(h.sn.put c (.ref t)).congr fun x => ?_, fun c' v hv => ?_⟩
  · by_cases e : x = c
    · subst e; exact ⟨fun _ => hF, fun _ => .inr rfl⟩
    · constructor
      · rintro (⟨e', h1, h2⟩ | z)
        · exact ⟨e', (o e' (by rw [h2]; exact e)).mpr h1, h2⟩
        · exact absurd z e
      · rintro ⟨e', h1, h2⟩
        exact .inl ⟨e', (o e' (by rw [h2]; exact e)).mp h1, h2⟩
  · rw [valV_put] at hv
    by_cases e : c' = c
    · subst e
      rw [if_pos rfl] at hv
      cases hv
      exact ⟨t, m, rfl, ht, hm⟩
    · rw [if_neg (fun z => e (kn_inj z))] at hv
      obtain ⟨t', m', e1, e2, e3⟩ := h.at_ c' v hv
      refine ⟨t', m', e1, k _ _ e2, fun x => ?_⟩
      rw [e3 x]
      exact ⟨fun z => ⟨(o x (by rw [z.2]; exact e)).mpr z.1, z.2⟩, fun z => ⟨(o x (by rw [z.2]; exact e)).mp z.1, z.2⟩⟩
/-- the lanes, a dict each -/
def Lanes (H : Hp) (q : Addr) (rows : List Nat) (E : Nat → Nat → Prop) (n : Nat) : Prop := ∃ ds : List Addr, H q = some (.lst (ds.map V.ref)) ∧ ds.length = n ∧ ∀ L d, ds[L]? = some d → ∃ kvs, H d = some (.dK kvs) ∧ LnAt H rows (E L) kvs
theorem Lanes.kp {H H' : Hp} {q : Addr} {rows : List Nat} {E : Nat → Nat → Prop} {n : Nat} (h : Lanes H q rows E n) (s : Kp H H') : Lanes H' q rows E n := by
  obtain ⟨ds, h1, h2, h3⟩ := h
  refine ⟨ds, s _ _ h1 rfl, h2, fun L d hd => ?_⟩
  obtain ⟨kvs, g1, g2⟩ := h3 L d hd
  exact ⟨kvs, s _ _ g1 g2.sn.notD, g2.mono fun t vs ht => s _ _ ht rfl⟩
theorem Lanes.same {H H' : Hp} {q : Addr} {rows : List Nat} {E : Nat → Nat → Prop} {n : Nat} (h : Lanes H q rows E n) (s : Same H H') : Lanes H' q rows E n := h.kp (Kp.of s)
theorem Lanes.congr {H : Hp} {q : Addr} {rows : List Nat} {E F : Nat → Nat → Prop} {n : Nat} (h : Lanes H q rows E n) (g : ∀ L e, L < n → (E L e ↔ F L e)) : Lanes H q rows F n := by
  obtain ⟨ds, h1, h2, h3⟩ := h
  refine ⟨ds, h1, h2, fun L d hd => ?_⟩
  obtain ⟨kvs, g1, g2⟩ := h3 L d hd
  have : L < n := by rw [← h2]; exact (List.getElem?_eq_some_iff.mp hd).1
  exact ⟨kvs, g1, g2.congr fun e => g L e this⟩
end LaneX
set_option Elab.async false
set_option linter.all false
set_option maxRecDepth 100000
set_option maxHeartbeats 4000000
namespace LaneX
open PySem PySem.Spec PyProof.Rows L2
def top (i : Nat) : Stmt := PySem.Challenge.pw_laneswap_k36_whole_steps_for_all_lanes.main.body.getD i (.Pass ⟨0, 0, 0, 0⟩)
abbrev s_is_whole : Stmt := top 7
theorem sc_is_whole : FnScope ["value"] ["value"] (defScope s_is_whole) := ⟨rfl, rfl, rfl, by decide +kernel, rfl, by decide +kernel, by decide +kernel⟩
abbrev s_need_whole : Stmt := top 8
theorem sc_need_whole : FnScope ["value"] ["value"] (defScope s_need_whole) := ⟨rfl, rfl, rfl, by decide +kernel, rfl, by decide +kernel, by decide +kernel⟩
abbrev s_need_items : Stmt := top 9
theorem sc_need_items : FnScope ["value"] ["value"] (defScope s_need_items) := ⟨rfl, rfl, rfl, by decide +kernel, rfl, by decide +kernel, by decide +kernel⟩
abbrev s_need_word : Stmt := top 10
theorem sc_need_word : FnScope ["value", "bits"] ["value", "bits"] (defScope s_need_word) := ⟨rfl, rfl, rfl, by decide +kernel, rfl, by decide +kernel, by decide +kernel⟩
abbrev s_need_words : Stmt := top 11
theorem sc_need_words : FnScope ["values", "bits", "value"] ["values", "bits"] (defScope s_need_words) := ⟨rfl, rfl, rfl, by decide +kernel, rfl, by decide +kernel, by decide +kernel⟩
abbrev s_cleared : Stmt := top 13
theorem sc_cleared : FnScope ["rows", "word", "left", "row"] ["rows", "word"] (defScope s_cleared) := ⟨rfl, rfl, rfl, by decide +kernel, rfl, by decide +kernel, by decide +kernel⟩
abbrev s_grown : Stmt := top 14
theorem sc_grown : FnScope ["rows", "word", "left", "top", "row"] ["rows", "word"] (defScope s_grown) := ⟨rfl, rfl, rfl, by decide +kernel, rfl, by decide +kernel, by decide +kernel⟩
abbrev s_spanned : Stmt := top 15
theorem sc_spanned : FnScope ["words", "rows", "word"] ["words"] (defScope s_spanned) := ⟨rfl, rfl, rfl, by decide +kernel, rfl, by decide +kernel, by decide +kernel⟩
abbrev s_paired : Stmt := top 18
theorem sc_paired : FnScope ["columns", "source", "bit"] ["columns"] (defScope s_paired) := ⟨rfl, rfl, rfl, by decide +kernel, rfl, by decide +kernel, by decide +kernel⟩
abbrev s_kernel_rows : Stmt := top 19
theorem sc_kernel_rows : FnScope ["columns", "row"] ["columns"] (defScope s_kernel_rows) := ⟨rfl, rfl, rfl, by decide +kernel, rfl, by decide +kernel, by decide +kernel⟩
abbrev s_Space_init : Stmt := inClass (top 22) 0
theorem sc_Space_init : FnScope ["self", "bits", "words"] ["self", "bits", "words"] (defScope s_Space_init) := ⟨rfl, rfl, rfl, by decide +kernel, rfl, by decide +kernel, by decide +kernel⟩
abbrev s_Space_completing : Stmt := inClass (top 22) 8
theorem sc_Space_completing : FnScope ["self", "other", "rows", "found", "row"] ["self", "other"] (defScope s_Space_completing) := ⟨rfl, rfl, rfl, by decide +kernel, rfl, by decide +kernel, by decide +kernel⟩
abbrev s_need_space : Stmt := top 23
theorem sc_need_space : FnScope ["value", "bits"] ["value", "bits"] (defScope s_need_space) := ⟨rfl, rfl, rfl, by decide +kernel, rfl, by decide +kernel, by decide +kernel⟩
abbrev s_Spread_init : Stmt := inClass (top 25) 0
theorem sc_Spread_init : FnScope ["self", "bits", "slots", "lanes", "rows"] ["self", "bits", "slots", "lanes"] (defScope s_Spread_init) := ⟨rfl, rfl, rfl, by decide +kernel, rfl, by decide +kernel, by decide +kernel⟩
abbrev s_Spread_twins : Stmt := inClass (top 25) 10
theorem sc_Spread_twins : FnScope ["self", "rows", "word"] ["self"] (defScope s_Spread_twins) := ⟨rfl, rfl, rfl, by decide +kernel, rfl, by decide +kernel, by decide +kernel⟩
abbrev s_any_spread : Stmt := top 26
theorem sc_any_spread : FnScope ["value"] ["value"] (defScope s_any_spread) := ⟨rfl, rfl, rfl, by decide +kernel, rfl, by decide +kernel, by decide +kernel⟩
abbrev s_need_pair : Stmt := top 29
theorem sc_need_pair : FnScope ["spread", "space"] ["spread", "space"] (defScope s_need_pair) := ⟨rfl, rfl, rfl, by decide +kernel, rfl, by decide +kernel, by decide +kernel⟩
abbrev s_partner_rows : Stmt := top 30
theorem sc_partner_rows : FnScope ["spread", "space", "rows", "word"] ["spread", "space"] (defScope s_partner_rows) := ⟨rfl, rfl, rfl, by decide +kernel, rfl, by decide +kernel, by decide +kernel⟩
abbrev s_partners : Stmt := top 31
theorem sc_partners : FnScope ["spread", "space"] ["spread", "space"] (defScope s_partners) := ⟨rfl, rfl, rfl, by decide +kernel, rfl, by decide +kernel, by decide +kernel⟩
abbrev s_leaders : Stmt := top 32
theorem sc_leaders : FnScope ["spread", "space"] ["spread", "space"] (defScope s_leaders) := ⟨rfl, rfl, rfl, by decide +kernel, rfl, by decide +kernel, by decide +kernel⟩
abbrev s_sum_steps : Stmt := top 33
theorem sc_sum_steps : FnScope ["spread", "space"] ["spread", "space"] (defScope s_sum_steps) := ⟨rfl, rfl, rfl, by decide +kernel, rfl, by decide +kernel, by decide +kernel⟩
abbrev s_beginL : Stmt := top 35
theorem sc_beginL : FnScope ["_law_script"] ["_law_script"] (defScope s_beginL) := ⟨rfl, rfl, rfl, by decide +kernel, rfl, by decide +kernel, by decide +kernel⟩
abbrev s_drawL : Stmt := top 36
theorem sc_drawL : FnScope ["_law_pen", "_law_span", "_law_digit", "_law_at", "_law_cell", "_law_n"] ["_law_pen", "_law_span"] (defScope s_drawL) := ⟨rfl, rfl, rfl, by decide +kernel, rfl, by decide +kernel, by decide +kernel⟩
abbrev s_pickL : Stmt := top 37
theorem sc_pickL : FnScope ["_law_pen", "_law_some"] ["_law_pen", "_law_some"] (defScope s_pickL) := ⟨rfl, rfl, rfl, by decide +kernel, rfl, by decide +kernel, by decide +kernel⟩
abbrev s_wordL : Stmt := top 38
theorem sc_wordL : FnScope ["_law_pen", "_law_bits", "_law_found", "_law_k"] ["_law_pen", "_law_bits"] (defScope s_wordL) := ⟨rfl, rfl, rfl, by decide +kernel, rfl, by decide +kernel, by decide +kernel⟩
abbrev s_mixedL : Stmt := top 39
theorem sc_mixedL : FnScope ["_law_pen", "_law_some", "_law_left_here", "_law_found", "_law_k"] ["_law_pen", "_law_some"] (defScope s_mixedL) := ⟨rfl, rfl, rfl, by decide +kernel, rfl, by decide +kernel, by decide +kernel⟩
abbrev s_leftL : Stmt := top 40
theorem sc_leftL : FnScope ["_law_rows", "_law_word_here", "_law_row"] ["_law_rows", "_law_word_here"] (defScope s_leftL) := ⟨rfl, rfl, rfl, by decide +kernel, rfl, by decide +kernel, by decide +kernel⟩
abbrev s_basisL : Stmt := top 41
theorem sc_basisL : FnScope ["_law_words", "_law_rows", "_law_word_here"] ["_law_words"] (defScope s_basisL) := ⟨rfl, rfl, rfl, by decide +kernel, rfl, by decide +kernel, by decide +kernel⟩
abbrev s_sizeL : Stmt := top 42
theorem sc_sizeL : FnScope ["_law_words"] ["_law_words"] (defScope s_sizeL) := ⟨rfl, rfl, rfl, by decide +kernel, rfl, by decide +kernel, by decide +kernel⟩
abbrev s_imageL : Stmt := top 43
theorem sc_imageL : FnScope ["_law_columns", "_law_word_here", "_law_found", "_law_at"] ["_law_columns", "_law_word_here"] (defScope s_imageL) := ⟨rfl, rfl, rfl, by decide +kernel, rfl, by decide +kernel, by decide +kernel⟩
abbrev s_taggedL : Stmt := top 44
theorem sc_taggedL : FnScope ["_law_columns", "_law_rows", "_law_found", "_law_at", "_law_word_here", "_law_tag", "_law_row", "_law_mark"] ["_law_columns"] (defScope s_taggedL) := ⟨rfl, rfl, rfl, by decide +kernel, rfl, by decide +kernel, by decide +kernel⟩
abbrev s_kernelL : Stmt := top 45
theorem sc_kernelL : FnScope ["_law_columns"] ["_law_columns"] (defScope s_kernelL) := ⟨rfl, rfl, rfl, by decide +kernel, rfl, by decide +kernel, by decide +kernel⟩
abbrev s_is_wholeL : Stmt := top 46
theorem sc_is_wholeL : FnScope ["_law_value"] ["_law_value"] (defScope s_is_wholeL) := ⟨rfl, rfl, rfl, by decide +kernel, rfl, by decide +kernel, by decide +kernel⟩
abbrev s_is_wordL : Stmt := top 47
theorem sc_is_wordL : FnScope ["_law_value", "_law_bits"] ["_law_value", "_law_bits"] (defScope s_is_wordL) := ⟨rfl, rfl, rfl, by decide +kernel, rfl, by decide +kernel, by decide +kernel⟩
abbrev s_words_forL : Stmt := top 48
theorem sc_words_forL : FnScope ["_law_pen", "_law_bits", "_law_many", "_law_style", "_law_found", "_law_k"] ["_law_pen", "_law_bits", "_law_many", "_law_style"] (defScope s_words_forL) := ⟨rfl, rfl, rfl, by decide +kernel, rfl, by decide +kernel, by decide +kernel⟩
abbrev s_spread_wordsL : Stmt := top 49
theorem sc_spread_wordsL : FnScope ["_law_pen", "_law_bits", "_law_slots", "_law_lanes", "_law_style", "_law_some", "_law_others", "_law_rows", "_law_word_here", "_law_left_here", "_law_bit"] ["_law_pen", "_law_bits", "_law_slots", "_law_lanes"] (defScope s_spread_wordsL) := ⟨rfl, rfl, rfl, by decide +kernel, rfl, by decide +kernel, by decide +kernel⟩
abbrev s_countsL : Stmt := top 50
theorem sc_countsL : FnScope ["_law_slots", "_law_lanes", "_law_words", "_law_rows", "_law_both", "_law_shared", "_law_twins", "_law_word_here"] ["_law_slots", "_law_lanes", "_law_words"] (defScope s_countsL) := ⟨rfl, rfl, rfl, by decide +kernel, rfl, by decide +kernel, by decide +kernel⟩
abbrev s_space_wordsL : Stmt := top 51
theorem sc_space_wordsL : FnScope ["_law_pen", "_law_bits", "_law_slots", "_law_found", "_law_k", "_law_kind", "_law_word_here"] ["_law_pen", "_law_bits", "_law_slots"] (defScope s_space_wordsL) := ⟨rfl, rfl, rfl, by decide +kernel, rfl, by decide +kernel, by decide +kernel⟩
abbrev s_begunL : Stmt := top 52
theorem sc_begunL : FnScope ["_law_slots", "_law_lanes", "_law_rows", "_law_found", "_law_lane", "_law_values", "_law_base", "_law_entry", "_law_coset", "_law_slot"] ["_law_slots", "_law_lanes", "_law_rows"] (defScope s_begunL) := ⟨rfl, rfl, rfl, by decide +kernel, rfl, by decide +kernel, by decide +kernel⟩
abbrev s_steppedL : Stmt := top 53
theorem sc_steppedL : FnScope ["_law_values", "_law_step", "_law_found", "_law_lane", "_law_later", "_law_taken", "_law_coset", "_law_one", "_law_other"] ["_law_values", "_law_step"] (defScope s_steppedL) := ⟨rfl, rfl, rfl, by decide +kernel, rfl, by decide +kernel, by decide +kernel⟩
abbrev s_all_haveL : Stmt := top 54
theorem sc_all_haveL : FnScope ["_law_values", "_law_begun_here", "_law_rows", "_law_bits", "_law_have", "_law_lack", "_law_lane", "_law_coset", "_law_whole", "_law_other"] ["_law_values", "_law_begun_here", "_law_rows", "_law_bits"] (defScope s_all_haveL) := ⟨rfl, rfl, rfl, by decide +kernel, rfl, by decide +kernel, by decide +kernel⟩
abbrev s_law : Stmt := top 55
theorem sc_law : FnScope ["_law_script", "_law_pen", "_law_turn", "_law_bits", "_law_slots", "_law_lanes", "_law_words", "_law_rows", "_law_begun_here", "_law_steps", "_law_values", "_law_step"] ["_law_script"] (defScope s_law) := ⟨rfl, rfl, rfl, by decide +kernel, rfl, by decide +kernel, by decide +kernel⟩
structure Bt (mg : Str → Option Value) : Prop where
  abs : mg "abs" = none
  all : mg "all" = none
  any : mg "any" = none
  bool : mg "bool" = none
  dict : mg "dict" = none
  int : mg "int" = none
  isinstance : mg "isinstance" = none
  len : mg "len" = none
  list : mg "list" = none
  min : mg "min" = none
  range : mg "range" = none
  set : mg "set" = none
  sorted : mg "sorted" = none
  sum : mg "sum" = none
  tuple : mg "tuple" = none
end LaneX
set_option Elab.async false
set_option linter.all false
set_option maxRecDepth 100000
set_option maxHeartbeats 4000000
namespace LaneX
open PySem PySem.Spec PyProof.Rows L2

/-! ### what the checks promise, for values that are as described -/
def sp_is_whole : Sp := fun vs H Q _ => ∃ n : Nat, vs = [vN n] ∧ Q (.bl true) H
def sp_need_whole : Sp := fun vs H Q _ => ∃ n : Nat, vs = [vN n] ∧ Q .non H
def sp_need_items : Sp := fun vs H Q _ => ∃ (a : Addr) (xs : List V), vs = [.ref a] ∧ Tq H a xs ∧ ∀ H', Same H H' → Q .non H'
def sp_need_word : Sp := fun vs H Q _ => ∃ n b : Nat, vs = [vN n, vN b] ∧ blen n ≤ b ∧ Q .non H
def sp_need_words : Sp := fun vs H Q _ => ∃ (a : Addr) (ns : List Nat) (b : Nat), vs = [.ref a, vN b] ∧ Tq H a (ns.map vN) ∧ (∀ n ∈ ns, blen n ≤ b) ∧ ∀ H' p, Same H H' → H p = none → H' p = some (.lst (ns.map vN)) → Q (.ref p) H'
theorem ok_is_whole {P : Program} {w : World} {K : PySem.W.Frag} {mg : Str → Option Value} {base : Heap} {f : Addr} {fd : FuncData} (T : Bt mg) (F : FnP K "is_whole" "is_whole" s_is_whole f fd) : FnOk P w K mg base CX0 1 f fd ["value"] sp_is_whole := by
  have nd := sc_is_whole.nd
  refine fnok F sc_is_whole (fun vs H Q E h => ?_) (fun cdv A outer s H vs Q E hr h => ?_)
  · obtain ⟨n, rfl, _⟩ := h
    rfl
  · obtain ⟨n, rfl, k⟩ := h
    refine ⟨_, (pss_one (ps_ret (pe_and (pe_callB call_isi (by rfl) T.isinstance (by decide +kernel) (pa_cons (pv 0) (pa_cons (pe_bltn (v := .ty "int") (by rfl) T.int (by decide +kernel) rfl) pa_nil))) (pe_and (pe_not (pe_callB call_isi (by rfl) T.isinstance (by decide +kernel) (pa_cons (pv 0) (pa_cons (pe_bltn (v := .ty "bool") (by rfl) T.bool (by decide +kernel) rfl) pa_nil)))) (pe_one (pe_cmpR op_ge (pv 0) pe_int (nomark _))))))), ?_⟩
    refine ⟨_, rfl, _, _, _, _, _, rfl, .ty _, .base (.int _), kit_ty (r := true) (by decide +kernel), _, rfl, iteT ?_⟩
    refine ⟨_, rfl, _, _, _, _, _, rfl, .ty _, .base (.int _), kit_ty (r := false) (by decide +kernel), _, rfl, _, rfl, iteT ?_⟩
    refine ⟨_, rfl, _, _, rfl, rfl, ?_⟩
    have e : decide ((0 : Int) ≤ (n : Int)) = true := decide_eq_true (by omega)
    show Q (.bl (decide ((0 : Int) ≤ (n : Int)))) H
    rw [e]
    exact k
theorem ok_need_whole {P : Program} {w : World} {K : PySem.W.Frag} {mg : Str → Option Value} {base : Heap} {f : Addr} {fd : FuncData} (T : Bt mg) (F : FnP K "need_whole" "need_whole" s_need_whole f fd) (D_is_whole : Dn P w K mg base 1 "is_whole" ["value"] sp_is_whole) : FnOk P w K mg base CX0 2 f fd ["value"] sp_need_whole := by
  have nd := sc_need_whole.nd
  refine fnok F sc_need_whole (fun vs H Q E h => ?_) (fun cdv A outer s H vs Q E hr h => ?_)
  · obtain ⟨n, rfl, _⟩ := h
    rfl
  · obtain ⟨n, rfl, k⟩ := h
    refine ⟨_, (pss_one (ps_if (pt_not (pt_val (pe_d D_is_whole hr (pa_cons (pv 0) pa_nil))))
      (pss_one ps_never)
      pss_nil)), ?_⟩
    exact ⟨_, rfl, n, rfl, _, rfl, iteF k⟩
theorem ok_need_items {P : Program} {w : World} {K : PySem.W.Frag} {mg : Str → Option Value} {base : Heap} {f : Addr} {fd : FuncData} (T : Bt mg) (F : FnP K "need_items" "need_items" s_need_items f fd) : FnOk P w K mg base CX0 1 f fd ["value"] sp_need_items := by
  have nd := sc_need_items.nd
  refine fnok F sc_need_items (fun vs H Q E h => ?_) (fun cdv A outer s H vs Q E hr h => ?_)
  · obtain ⟨a, xs, rfl, _⟩ := h
    rfl
  · obtain ⟨a, xs, rfl, hS, k⟩ := h
    refine ⟨_, (pss_one (ps_if (pt_not (pt_val (pe_callB call_isiT (by rfl) T.isinstance (by decide +kernel) (pa_cons (pv 0) (pa_cons (pe_tup (pa_cons (pe_bltn (v := .ty "list") (by rfl) T.list (by decide +kernel) rfl) (pa_cons (pe_bltn (v := .ty "tuple") (by rfl) T.tuple (by decide +kernel) rfl) pa_nil))) pa_nil)))))
      (pss_one ps_never)
      pss_nil)), ?_⟩
    refine ⟨_, rfl, (by show 2 ≤ sizeLine; decide), fun p hp => ?_⟩
    obtain ⟨t, ht, hk⟩ := (hS.new (o := .tup [.ty "list", .ty "tuple"]) hp).ty (K := K)
    refine ⟨_, _, _, _, _, _, rfl, upd_same, .cons (.ty _) (.cons (.ty _) .nil), ht, hk, _, rfl, iteF ?_⟩
    exact k _ (same_new0 hp)
theorem ok_need_word {P : Program} {w : World} {K : PySem.W.Frag} {mg : Str → Option Value} {base : Heap} {f : Addr} {fd : FuncData} (T : Bt mg) (F : FnP K "need_word" "need_word" s_need_word f fd) (D_is_whole : Dn P w K mg base 1 "is_whole" ["value"] sp_is_whole) : FnOk P w K mg base CX0 2 f fd ["value", "bits"] sp_need_word := by
  have nd := sc_need_word.nd
  refine fnok F sc_need_word (fun vs H Q E h => ?_) (fun cdv A outer s H vs Q E hr h => ?_)
  · obtain ⟨n, b, rfl, _⟩ := h
    rfl
  · obtain ⟨n, b, rfl, hb, k⟩ := h
    refine ⟨_, (pss_one (ps_if (PW.pt (pw_or (pt_not (pt_val (pe_d D_is_whole hr (pa_cons (pv 0) pa_nil)))) (pw_or1 (pt_cmpR op_gt (pe_bits (pv 0)) (pv 1) (nomark _)))))
      (pss_one ps_never)
      pss_nil)), ?_⟩
    refine ⟨_, rfl, n, rfl, _, rfl, iteF ?_⟩
    refine ⟨_, rfl, _, rfl, _, rfl, _, _, rfl, rfl, _, rfl, ?_⟩
    rw [blen_bits]
    have e : decide ((b : Int) < (blen n : Int)) = false := decide_eq_false (by omega)
    rw [e]
    exact iteF k
theorem ok_need_words {P : Program} {w : World} {K : PySem.W.Frag} {mg : Str → Option Value} {base : Heap} {f : Addr} {fd : FuncData} (T : Bt mg) (F : FnP K "need_words" "need_words" s_need_words f fd) (D_need_items : Dn P w K mg base 1 "need_items" ["value"] sp_need_items) (D_need_word : Dn P w K mg base 2 "need_word" ["value", "bits"] sp_need_word) :
    FnOk P w K mg base CX0 3 f fd ["values", "bits"] sp_need_words := by
  have nd := sc_need_words.nd
  refine fnok F sc_need_words (fun vs H Q E h => ?_) (fun cdv A outer s H vs Q E hr h => ?_)
  · obtain ⟨a, ns, b, rfl, _⟩ := h
    rfl
  · obtain ⟨a, ns, b, rfl, hS, hb, k⟩ := h
    refine ⟨_, (pss_cons (ps_expr (pe_d D_need_items hr (pa_cons (pv 0) pa_nil)))
      (pss_cons (ps_for PassesOwn.never rfl (pi_seq (pv 0)) (pg_name (i := 2) nd rfl (Or.inl rfl))
        (pss_one (ps_expr (pe_d D_need_word hr (pa_cons (pv 2) (pa_cons (pv 1) pa_nil))))))
      (pss_one (ps_ret (pe_callTy call_listQ (by rfl) T.list (by decide +kernel) (pa_cons (pv 0) pa_nil)))))), ?_⟩
    refine ⟨_, rfl, a, _, rfl, hS, fun H1 s1 => ?_⟩
    refine ⟨_, rfl, for_seq (K := K) (same_tq s1 hS).sq (fun i σ H2 => ∃ v, σ = [some (.ref a), some (vN b), v] ∧ H2 = H1) ⟨none, rfl, rfl⟩ (fun i σ H2 hp => by obtain ⟨_, _, rfl⟩ := hp; exact Kp.refl _) ?_ ?_⟩
    · rintro i x σ H2 hx ⟨v, rfl, rfl⟩
      obtain ⟨n, hn, rfl⟩ := map_get hx
      exact ⟨_, rfl, _, rfl, n, b, rfl, hb n (List.mem_of_getElem? hn), _, rfl, rfl⟩
    · rintro σ H2 ⟨v, rfl, rfl⟩
      refine ⟨_, rfl, a, _, rfl, (same_tq s1 hS), fun l hl => ?_⟩
      exact k _ _ (same_new s1 hl) (same_free s1 hl) upd_same
end LaneX
set_option Elab.async false
set_option linter.all false
set_option maxRecDepth 100000
set_option maxHeartbeats 4000000
namespace LaneX
open PySem PySem.Spec PyProof.Rows L2
theorem dec_int {a b : Int} : decide (V.int a = V.int b) = decide (a = b) := by
  by_cases h : a = b
  · subst h; simp
  · rw [decide_eq_false h, decide_eq_false (fun e => h (by cases e; rfl))]
theorem dec_nat {a b : Nat} : decide (V.int (a : Int) = V.int (b : Int)) = decide (a = b) := by
  rw [dec_int]
  by_cases h : a = b
  · subst h; simp
  · rw [decide_eq_false h, decide_eq_false (by omega)]
theorem clr_snoc (a : List Nat) (r w : Nat) : clr (a ++ [r]) w = if (clr a w).testBit (blen r - 1) = true then clr a w ^^^ r else clr a w := clr_append a [r] w
theorem dec_zero {n : Nat} (h : decide (V.int (n : Int) = V.int 0) = true) : n = 0 := by
  rw [show (V.int 0 : V) = V.int ((0 : Nat) : Int) from rfl, dec_nat] at h
  exact of_decide_eq_true h
theorem dec_nz {n : Nat} (h : decide (V.int (n : Int) = V.int 0) = false) : n ≠ 0 := by
  rw [show (V.int 0 : V) = V.int ((0 : Nat) : Int) from rfl, dec_nat] at h
  exact of_decide_eq_false h
theorem dec_bit (n b : Nat) : decide (V.int ((n >>> b &&& 1 : Nat) : Int) = V.int 1) = n.testBit b := by
  rw [show (V.int 1 : V) = V.int ((1 : Nat) : Int) from rfl, dec_nat]
  cases q : n.testBit b with
  | true => exact decide_eq_true ((shr_and_one _ _).mpr q)
  | false => exact decide_eq_false fun z => by rw [(shr_and_one _ _).mp z] at q; cases q
theorem size6'' {n : Nat} (h : n ≤ 1000000) : n + 1 ≤ sizeLine := by rw [sizeLine_eq]; omega
def sp_spanned : Sp := fun vs H Q _ => ∃ (a : Addr) (ws : List Nat), vs = [.ref a] ∧ Tq H a (ws.map vN) ∧ ws.length ≤ 1000000 ∧
  ∀ H' p, Same H H' → H p = none → H' p = some (.lst ((spn ws).map vN)) → Q (.ref p) H'
def sp_cleared : Sp := fun vs H Q _ => ∃ (a : Addr) (rows : List Nat) (x : Nat), vs = [.ref a, vN x] ∧ Tq H a (rows.map vN) ∧ (∀ r ∈ rows, r ≠ 0) ∧ Q (vN (clr rows x)) H
def sp_grown : Sp := fun vs H Q _ => ∃ (a : Addr) (rows : List Nat) (x : Nat), vs = [.ref a, vN x] ∧ Tq H a (rows.map vN) ∧ (∀ r ∈ rows, r ≠ 0) ∧ rows.length ≤ 1000000 ∧
  ∀ H' p, Same H H' → H p = none → H' p = some (.lst ((grw rows x).map vN)) → Q (.ref p) H'
section
variable {P : Program} {w : World} {K : PySem.W.Frag} {mg : Str → Option Value} {base : Heap} {f : Addr} {fd : FuncData} (T : Bt mg)
include T
theorem ok_cleared (F : FnP K "cleared" "cleared" s_cleared f fd) : FnOk P w K mg base CX0 1 f fd ["rows", "word"] sp_cleared := by
  have nd := sc_cleared.nd
  refine fnok F sc_cleared (fun vs H Q E h => ?_) (fun cdv A outer s H vs Q E hr h => ?_)
  · obtain ⟨a, rows, x, rfl, _⟩ := h
    rfl
  · obtain ⟨a, rows, x, rfl, hS, hn, k⟩ := h
    refine ⟨_, (pss_cons (ps_set (i := 2) nd rfl (Or.inl rfl) (pv 1))
      (pss_cons (ps_for PassesOwn.never rfl (pi_seq (pv 0)) (pg_name (i := 3) nd rfl (Or.inl rfl))
        (pss_one (ps_if (pt_cmpR op_eq (pe_op on_and (pe_op on_shr (pv 2) (pe_op on_sub (pe_bits (pv 3)) pe_int)) pe_int) pe_int (nomark _))
          (pss_one (ps_set (i := 2) nd rfl (Or.inl rfl) (pe_op on_xor (pv 2) (pv 3))))
          pss_nil)))
      (pss_one (ps_ret (pv 2))))), ?_⟩
    refine ⟨_, rfl, _, rfl, for_seq (K := K) hS.sq (fun i σ H2 => ∃ v, σ = [some (.ref a), some (vN x), some (vN (clr (rows.take i) x)), v] ∧ H2 = H) ⟨none, rfl, rfl⟩ (fun i σ H2 hp => by obtain ⟨_, _, rfl⟩ := hp; exact Kp.refl _) ?_ ?_⟩
    · rintro i y σ H2 hy ⟨v, rfl, rfl⟩
      obtain ⟨r, hr', rfl⟩ := map_get hy
      have rn := hn r (List.mem_of_getElem? hr')
      have rb := blen_pos rn
      refine ⟨_, rfl, _, rfl, _, rfl, _, 1, rfl, rfl, (by show 1 ≤ Builtin.Int.intBits (r : Int); rw [blen_bits]; exact rb), _, _, rfl, rfl, _, 1, rfl, rfl, rfl, _, rfl, ?_⟩
      rw [take_succ hr', clr_snoc]
      rw [blen_bits]
      have e : decide (V.int ((clr (rows.take i) x >>> (blen r - 1) &&& 1 : Nat) : Int) = V.int 1) = (clr (rows.take i) x).testBit (blen r - 1) := by
        rw [show (V.int 1 : V) = V.int ((1 : Nat) : Int) from rfl, dec_nat]
        cases q : (clr (rows.take i) x).testBit (blen r - 1) with
        | true => exact decide_eq_true ((shr_and_one _ _).mpr q)
        | false => exact decide_eq_false fun z => by rw [(shr_and_one _ _).mp z] at q; cases q
      rw [e]
      cases q : (clr (rows.take i) x).testBit (blen r - 1) with
      | true => exact iteT ⟨_, rfl, _, rfl, _, _, rfl, rfl, _, rfl, rfl⟩
      | false => exact iteF ⟨_, rfl, rfl⟩
    · rintro σ H2 ⟨v, rfl, rfl⟩
      refine ⟨_, rfl, ?_⟩
      rw [List.length_map, List.take_length]
      exact k
theorem ok_grown (F : FnP K "grown" "grown" s_grown f fd) (D_cleared : Dn P w K mg base 1 "cleared" ["rows", "word"] sp_cleared) : FnOk P w K mg base CX0 2 f fd ["rows", "word"] sp_grown := by
  have nd := sc_grown.nd
  refine fnok F sc_grown (fun vs H Q E h => ?_) (fun cdv A outer s H vs Q E hr h => ?_)
  · obtain ⟨a, rows, x, rfl, _⟩ := h
    rfl
  · obtain ⟨a, rows, x, rfl, hS, hn, hl, k⟩ := h
    refine ⟨_, (pss_cons (ps_set (i := 2) nd rfl (Or.inr rfl) (pe_d D_cleared hr (pa_cons (pv 0) (pa_cons (pv 1) pa_nil))))
  (pss_cons (ps_if (pt_cmpR op_eq (pv 2) pe_int (nomark _))
    (pss_one (ps_ret (pe_callTy call_listQ (by rfl) T.list (by decide +kernel) (pa_cons (pv 0) pa_nil))))
    pss_nil)
  (pss_cons (ps_set (i := 3) nd rfl (Or.inr rfl) (pe_op on_sub (pe_bits (pv 2)) pe_int))
  (pss_one (ps_ret (pe_callB cr_sortedN (by rfl) T.sorted (by decide +kernel) (pa_cons (pe_op op_cat (pe_lc (own := [("row", 4)]) (g := gName 4) (by rfl) nd (pi_seq (pv 0)) (blkOk_by (own := [("row", 4)]) (N := ["rows", "word", "left", "top", "row"]) (sc := defScope s_grown) (by decide +kernel)) (fun _ _ _ _ _ => (pg_name (i := 4) nd rfl (Or.inl rfl))) (fun _ _ _ _ _ => pts_nil) (fun _ _ _ _ _ => (pe_ifExp (pt_cmpR op_eq (pe_op on_and (pe_op on_shr (pv 4) (pv 3)) pe_int) pe_int (nomark _)) (pe_op on_xor (pv 4) (pv 2)) (pv 4)))) (pe_lst (pa_cons (pv 2) pa_nil))) pa_nil))))))), ?_⟩
    refine ⟨_, rfl, _, rfl, a, rows, x, rfl, hS, hn, ?_⟩
    refine ⟨_, rfl, rfl, _, rfl, ?_⟩
    refine br (fun e => ?_) (fun e => ?_)
    · have e0 : clr rows x = 0 := dec_zero e
      refine ⟨_, rfl, a, _, rfl, hS, fun l hl' => ?_⟩
      refine k _ _ (same_new0 hl') hl' ?_
      rw [grw_eq, if_pos e0]
      exact upd_same
    · have e0 : clr rows x ≠ 0 := dec_nz e
      have eb := blen_pos e0
      refine ⟨_, rfl, _, rfl, _, 1, rfl, rfl, (by show 1 ≤ Builtin.Int.intBits (clr rows x : Int); rw [blen_bits]; exact eb), ?_⟩
      refine ⟨_, rfl, lc_pure rows vN (fun _ => true) (fun r => vN (chg (clr rows x) r)) hS hl (fun n H' hn' s => ?_) (fun D H1 hD s1 h1 => ?_)⟩
      · intro Z Nx h1 h2
        refine ⟨rfl, _, rfl, _, rfl, _, _, rfl, rfl, _, 1, rfl, rfl, rfl, _, rfl, ?_⟩
        rw [blen_bits, dec_bit]
        have z := h1 rfl H' (Same.refl H')
        unfold chg at z
        cases q : n.testBit (blen (clr rows x) - 1) with
        | true =>
          rw [q] at z
          exact iteT ⟨_, rfl, _, rfl, _, _, rfl, rfl, z⟩
        | false =>
          rw [q] at z
          exact iteF ⟨_, rfl, z⟩
      · rw [List.filter_eq_self.mpr (fun _ _ => rfl)] at h1
        refine ⟨_, rfl, (by show 1 ≤ sizeLine; decide), fun l hl' => ?_⟩
        refine ⟨_, _, _, _, rfl, rfl, upd_new hl' h1, upd_same, (by show (rows.map _).length + 1 ≤ _; rw [List.length_map]; exact size6'' hl), fun q hq => ?_⟩
        refine ⟨q, rows.map (chg (clr rows x)) ++ [clr rows x], rfl, ?_, fun p hp => ?_⟩
        · rw [upd_same]
          simp [List.map_append]
        · have s3 := same_new (o := .lst [vN (clr rows x)]) s1 hl'
          have s4 := same_new (o := .lst (rows.map (fun r => vN (chg (clr rows x) r)) ++ [vN (clr rows x)])) s3 hq
          refine k _ _ (same_new s4 hp) (same_free s4 hp) ?_
          rw [upd_same, grw_eq, if_neg e0]
theorem ok_spanned (F : FnP K "spanned" "spanned" s_spanned f fd) (D_grown : Dn P w K mg base 2 "grown" ["rows", "word"] sp_grown) : FnOk P w K mg base CX0 3 f fd ["words"] sp_spanned := by
  have nd := sc_spanned.nd
  refine fnok F sc_spanned (fun vs H Q E h => ?_) (fun cdv A outer s H vs Q E hr h => ?_)
  · obtain ⟨a, ws, rfl, _⟩ := h
    rfl
  · obtain ⟨a, ws, rfl, hS, hl, k⟩ := h
    refine ⟨_, (pss_cons (ps_set (i := 1) nd rfl (Or.inl rfl) (pe_lst pa_nil))
      (pss_cons (ps_for PassesOwn.never rfl (pi_seq (pv 0)) (pg_name (i := 2) nd rfl (Or.inl rfl))
        (pss_one (ps_set (i := 1) nd rfl (Or.inl rfl) (pe_d D_grown hr (pa_cons (pv 1) (pa_cons (pv 2) pa_nil))))))
      (pss_one (ps_ret (pv 1))))), ?_⟩
    refine ⟨(by show 0 ≤ sizeLine; decide), fun l0 hl0 => ?_⟩
    have s0 : Same H (upd H l0 (.lst [])) := same_new0 hl0
    refine ⟨_, rfl, for_seq (K := K) (same_tq s0 hS).sq (fun i σ H2 => ∃ v l, σ = [some (.ref a), some (.ref l), v] ∧ Same (upd H l0 (.lst [])) H2 ∧ H l = none ∧ H2 l = some (.lst ((spn (ws.take i)).map vN))) ⟨none, l0, rfl, Same.refl _, hl0, upd_same⟩ (fun i σ H2 hp => ?_) ?_ ?_⟩
    · obtain ⟨_, l, _, s2, hn, h2⟩ := hp
      exact Kp.of s2
    · rintro i y σ H2 hy ⟨v, l, rfl, s2, hn, h2⟩
      obtain ⟨r, hr', rfl⟩ := map_get hy
      refine ⟨_, rfl, _, rfl, l, _, r, rfl, .inl h2, (spn_rws _).nz, Nat.le_trans (spn_len _) (Nat.le_trans (by rw [List.length_take]; omega) hl), fun H3 p s3 hp h3 => ?_⟩
      refine ⟨_, p, rfl, s2.trans s3, same_free s0 (same_free s2 hp), ?_⟩
      rw [take_succ hr', spn_append]
      exact h3
    · rintro σ H2 ⟨v, l, rfl, s2, hn, h2⟩
      rw [List.length_map, List.take_length] at h2
      exact ⟨_, rfl, k _ _ (s0.trans s2) hn h2⟩
end
end LaneX
set_option Elab.async false
set_option linter.all false
set_option maxRecDepth 100000
set_option maxHeartbeats 4000000
namespace LaneX
open PySem PySem.Spec PyProof.Rows L2
def sp_paired : Sp := fun vs H Q _ => ∃ (a : Addr) (cs : List Nat), vs = [.ref a] ∧ Tq H a (cs.map vN) ∧ cs.length ≤ 1000000 ∧ (∀ c ∈ cs, blen c ≤ 1000000) ∧
  ∀ H' p, Same H H' → H p = none → H' p = some (.lst ((prd cs).map vN)) → Q (.ref p) H'
def sp_kernel_rows : Sp := fun vs H Q _ => ∃ (a : Addr) (cs : List Nat), vs = [.ref a] ∧ Tq H a (cs.map vN) ∧ cs.length ≤ 1000000 ∧ (∀ c ∈ cs, blen c ≤ 1000000) ∧
  ∀ H' p, Same H H' → H p = none → H' p = some (.lst ((ker cs).map vN)) → Q (.ref p) H'
def sp_met : Sp := fun vs H Q _ => ∃ (b : Nat) (a c : Addr) (rs os : List Nat), vs = [vN b, .ref a, .ref c] ∧ Tq H a (rs.map vN) ∧ Tq H c (os.map vN) ∧ b ≤ 1000000 ∧ rs.length ≤ 400000 ∧ os.length ≤ 400000 ∧ (∀ r ∈ rs, blen r ≤ 1000000) ∧ (∀ r ∈ os, blen r ≤ 1000000) ∧
  ∀ H' p, Same H H' → H p = none → H' p = some (.lst ((mtd b rs os).map vN)) → Q (.ref p) H'
theorem shl_ok1 {n m : Nat} (h1 : blen n ≤ 1000000) (h2 : m ≤ 1000000) : CShN n m := by unfold CShN; omega
theorem blen_one : blen 1 = 1 := by decide
theorem dec_le (a b : Nat) : decide ((a : Int) ≤ (b : Int)) = decide (a ≤ b) := by
  by_cases h : a ≤ b
  · rw [decide_eq_true h, decide_eq_true (by omega)]
  · rw [decide_eq_false h, decide_eq_false (by omega)]
theorem filt_true {α : Type} (l : List α) : l.filter (fun _ => true) = l := List.filter_eq_self.mpr fun _ _ => rfl
section
variable {P : Program} {w : World} {K : PySem.W.Frag} {mg : Str → Option Value} {base : Heap} {f : Addr} {fd : FuncData} (T : Bt mg)
include T
theorem ok_paired (F : FnP K "paired" "paired" s_paired f fd) (D_spanned : Dn P w K mg base 3 "spanned" ["words"] sp_spanned) : FnOk P w K mg base CX0 4 f fd ["columns"] sp_paired := by
  have nd := sc_paired.nd
  refine fnok F sc_paired (fun vs H Q E h => ?_) (fun cdv A outer s H vs Q E hr h => ?_)
  · obtain ⟨a, cs, rfl, _⟩ := h
    rfl
  · obtain ⟨a, cs, rfl, hS, hl, hc, k⟩ := h
    refine ⟨_, (pss_cons (ps_set (i := 1) nd rfl (Or.inr rfl) (pe_callB call_lenQ (by rfl) T.len PySem.boot_len (pa_cons (pv 0) pa_nil)))
  (pss_one (ps_ret (pe_d D_spanned hr (pa_cons (pe_lc (own := [("bit", 2)]) (g := gName 2) (by rfl) nd (pi_range1 (by rfl) T.range (pa_cons (pv 1) pa_nil)) (blkOk_by (own := [("bit", 2)]) (N := ["columns", "source", "bit"]) (sc := defScope s_paired) (by decide +kernel)) (fun _ _ _ _ _ => (pg_name (i := 2) nd rfl (Or.inl rfl))) (fun _ _ _ _ _ => pts_nil) (fun _ _ _ _ _ => (pe_op on_add (pe_op on_shl (pe_ix ix_q (pv 0) (pv 2) (fun _ _ => rfl)) (pv 1)) (pe_op on_shl pe_int (pv 2))))) pa_nil))))), ?_⟩
    refine ⟨_, rfl, a, _, rfl, hS, _, rfl, _, rfl, (by omega), (by rw [List.length_map]; omega), lc_pureR (n := (cs.map vN).length) (fun _ => true) (fun i => vN ((cs.getD i 0 <<< cs.length) + (1 <<< i))) (by rw [List.length_map]; exact hl) (fun i H' hi s => ?_) (fun D H1 hD s1 h1 => ?_)⟩
    · intro Z Nx h1 h2
      rw [List.length_map] at hi
      have hg : (cs.map vN)[i]? = some (vN (cs.getD i 0)) := by
        rw [List.getElem?_map, List.getElem?_eq_getElem hi, List.getD_eq_getElem?_getD, List.getElem?_eq_getElem hi]
        rfl
      have hm : cs.getD i 0 ∈ cs := by
        rw [List.getD_eq_getElem?_getD, List.getElem?_eq_getElem hi]
        exact List.getElem_mem hi
      have z := h1 rfl H' (Same.refl H')
      rw [← List.length_map (f := vN)] at z
      exact ⟨rfl, _, rfl, _, rfl, a, _, i, _, rfl, rfl, same_tq s hS, hg, _, rfl, _, _, rfl, rfl, shl_ok1 (hc _ hm) (by rw [List.length_map]; exact hl), _, rfl, 1, _, rfl, rfl, shl_ok1 (by rw [blen_one]; decide) (by omega), _, _, rfl, rfl, z⟩
    · rw [filt_true, List.length_map] at h1
      refine ⟨D, prs cs, rfl, .inl ?_, by simp [prs]; omega, fun H2 p s2 hp h2 => k _ _ (s1.trans s2) (same_free s1 hp) h2⟩
      rw [h1]
      simp [prs]
theorem ok_kernel_rows (F : FnP K "kernel_rows" "kernel_rows" s_kernel_rows f fd) (D_paired : Dn P w K mg base 4 "paired" ["columns"] sp_paired) : FnOk P w K mg base CX0 5 f fd ["columns"] sp_kernel_rows := by
  have nd := sc_kernel_rows.nd
  refine fnok F sc_kernel_rows (fun vs H Q E h => ?_) (fun cdv A outer s H vs Q E hr h => ?_)
  · obtain ⟨a, cs, rfl, _⟩ := h
    rfl
  · obtain ⟨a, cs, rfl, hS, hl, hc, k⟩ := h
    refine ⟨_, (pss_one (ps_ret (pe_lc (own := [("row", 1)]) (g := gName 1) (by rfl) nd (pi_seq (pe_d D_paired hr (pa_cons (pv 0) pa_nil))) (blkOk_by (own := [("row", 1)]) (N := ["columns", "row"]) (sc := defScope s_kernel_rows) (by decide +kernel)) (fun _ _ _ _ _ => (pg_name (i := 1) nd rfl (Or.inl rfl))) (fun _ _ _ _ _ => (pts_one (pt_cmpR op_le (pe_bits (pv 1)) (pe_callB call_lenQ (by rfl) T.len PySem.boot_len (pa_cons (pv 0) pa_nil)) (nomark _)))) (fun _ _ _ _ _ => (pv 1))))), ?_⟩
    refine ⟨_, rfl, a, cs, rfl, hS, hl, hc, fun H1 p s1 hp h1 => ?_⟩
    have hlp : (prd cs).length ≤ 1000000 := Nat.le_trans (spn_len _) (by simp [prs]; exact hl)
    refine lc_pure (prd cs) vN (fun r => decide (blen r ≤ cs.length)) vN (.inl h1) hlp (fun n H' hn s => ?_) (fun D H2 hD s2 h2 => ?_)
    · intro Z Nx z1 z2
      refine ⟨rfl, _, rfl, _, rfl, _, rfl, a, _, rfl, (same_tq (s1.trans s) hS), _, _, rfl, rfl, _, rfl, ?_⟩
      rw [blen_bits, List.length_map, dec_le]
      exact br (fun e => ⟨_, rfl, z1 e _ (Same.refl _)⟩) (fun e => z2 e _ (Same.refl _))
    · exact k _ _ (s1.trans s2) (same_free s1 hD) h2
end
end LaneX
set_option Elab.async false
set_option linter.all false
set_option maxRecDepth 100000
set_option maxHeartbeats 4000000
namespace LaneX
open PySem PySem.Spec PyProof.Rows L2
/-! ### objects -/
structure ObjT (K : PySem.W.Frag) (C : Addr) : Prop where
  cl : Cls K C
  ha : PySem.W.findIn K (.ref C) "__class__" = some (some (.builtin "object.__class__"))
  hn : PySem.W.specialIn K (.builtin "object.__class__") "__get__" = some (some (.builtin "getset_descriptor.__get__"))
  htk : PySem.W.takesIn K (.builtin "object.__class__") = some true
  hm : PySem.W.mroIn K C (.type "object") = some true
  me : PySem.W.kitOne K (.ref C) (.ref C) = some true
theorem ObjT.ty {K : PySem.W.Frag} {C : Addr} (T : ObjT K C) {H : Hp} {a dx : Addr} {fs : List (Str × V)} (e : H a = some (.ins C dx fs)) : TyX K H (.ref a) (.ref C) := .base (.ins e T.cl T.ha T.hn T.htk T.hm)
structure SpaceT (K : PySem.W.Frag) (mg : Str → Option Value) (C : Addr) : Prop extends ObjT K C where
  gl : mg "Space" = some (.ref C)
  nb : NoAttr K C "bits"
  nr : NoAttr K C "rows"
  nd : NoAttr K C "dimension"
structure SpreadT (K : PySem.W.Frag) (mg : Str → Option Value) (C : Addr) : Prop extends ObjT K C where
  gl : mg "Spread" = some (.ref C)
  nb : NoAttr K C "bits"
  ns : NoAttr K C "slots"
  nl : NoAttr K C "lanes"
def spf (b : Nat) (t : Addr) (d : Nat) : List (Str × V) := [("bits", vN b), ("rows", .ref t), ("dimension", vN d)]
def srf (b : Nat) (s l : Addr) : List (Str × V) := [("bits", vN b), ("slots", .ref s), ("lanes", .ref l)]
theorem spf_b (b : Nat) (t : Addr) (d : Nat) : (spf b t d).lookup ("bits" : Str) = some (vN b) := rfl
theorem spf_r (b : Nat) (t : Addr) (d : Nat) : (spf b t d).lookup ("rows" : Str) = some (.ref t) := rfl
theorem spf_d (b : Nat) (t : Addr) (d : Nat) : (spf b t d).lookup ("dimension" : Str) = some (vN d) := rfl
theorem srf_b (b : Nat) (t d : Addr) : (srf b t d).lookup ("bits" : Str) = some (vN b) := rfl
theorem srf_s (b : Nat) (t d : Addr) : (srf b t d).lookup ("slots" : Str) = some (.ref t) := rfl
theorem srf_l (b : Nat) (t d : Addr) : (srf b t d).lookup ("lanes" : Str) = some (.ref d) := rfl
theorem spf_p (b : Nat) (t : Addr) (d : Nat) : putF "dimension" (vN d) (putF "rows" (.ref t) (putF "bits" (vN b) [])) = spf b t d := rfl
theorem srf_p (b : Nat) (t d : Addr) : putF "lanes" (.ref d) (putF "slots" (.ref t) (putF "bits" (vN b) [])) = srf b t d := rfl
def SpaceAt (C : Addr) (H : Hp) (p : Addr) (b : Nat) (rows : List Nat) : Prop := ∃ dx t, H p = some (.ins C dx (spf b t rows.length)) ∧ H t = some (.tup (rows.map vN))
def SpreadAt (C : Addr) (H : Hp) (p : Addr) (b : Nat) (ss ls : List Nat) : Prop := ∃ dx s l, H p = some (.ins C dx (srf b s l)) ∧ H s = some (.tup (ss.map vN)) ∧ H l = some (.tup (ls.map vN))
theorem SpaceAt.same {C : Addr} {H H' : Hp} {p : Addr} {b : Nat} {rows : List Nat} (h : SpaceAt C H p b rows) (s : Same H H') : SpaceAt C H' p b rows := by
  obtain ⟨dx, t, h1, h2⟩ := h
  exact ⟨dx, t, s _ _ h1, s _ _ h2⟩
theorem SpaceAt.kp {C : Addr} {H H' : Hp} {p : Addr} {b : Nat} {rows : List Nat} (h : SpaceAt C H p b rows) (s : Kp H H') : SpaceAt C H' p b rows := by
  obtain ⟨dx, t, h1, h2⟩ := h
  exact ⟨dx, t, s _ _ h1 rfl, s _ _ h2 rfl⟩
theorem SpreadAt.same {C : Addr} {H H' : Hp} {p : Addr} {b : Nat} {ss ls : List Nat} (h : SpreadAt C H p b ss ls) (s : Same H H') : SpreadAt C H' p b ss ls := by
  obtain ⟨dx, a, l, h1, h2, h3⟩ := h
  exact ⟨dx, a, l, s _ _ h1, s _ _ h2, s _ _ h3⟩
theorem SpreadAt.kp {C : Addr} {H H' : Hp} {p : Addr} {b : Nat} {ss ls : List Nat} (h : SpreadAt C H p b ss ls) (s : Kp H H') : SpreadAt C H' p b ss ls := by
  obtain ⟨dx, a, l, h1, h2, h3⟩ := h
  exact ⟨dx, a, l, s _ _ h1 rfl, s _ _ h2 rfl, s _ _ h3 rfl⟩

/-- a new instance, filled -/
theorem made_same {H H1 : Hp} {x dx C : Addr} (nx : H x = none) (nd : H dx = none) (k : ∀ b o, (upd (upd H dx (.own x)) x (.ins C dx [])) b = some o → b ≠ x → H1 b = some o) : Same H H1 := Same.made nx nd k
def sp_Space (C : Addr) : Sp := fun vs H Q _ => ∃ (p dx : Addr) (b : Nat) (a : Addr) (ws : List Nat), vs = [.ref p, vN b, .ref a] ∧ H p = some (.ins C dx []) ∧ Tq H a (ws.map vN) ∧ (∀ x ∈ ws, blen x ≤ b) ∧ ws.length ≤ 1000000 ∧
  ∀ H', SpaceAt C H' p b (spn ws) → (∀ c o, H c = some o → c ≠ p → H' c = some o) → Q .non H'
def sp_Spread (C : Addr) : Sp := fun vs H Q _ => ∃ (p dx : Addr) (b : Nat) (a c : Addr) (ss ls : List Nat), vs = [.ref p, vN b, .ref a, .ref c] ∧ H p = some (.ins C dx []) ∧ Tq H a (ss.map vN) ∧ Tq H c (ls.map vN) ∧ (∀ x ∈ ss, blen x ≤ b) ∧ (∀ x ∈ ls, blen x ≤ b) ∧
  ss.length ≤ 400000 ∧ ls.length ≤ 400000 ∧ b ≤ rk (ss ++ ls) ∧ ∀ H', SpreadAt C H' p b ss ls → (∀ c o, H c = some o → c ≠ p → H' c = some o) → Q .non H'
def sp_need_space (C : Addr) : Sp := fun vs H Q _ => ∃ (p : Addr) (b : Nat) (rows : List Nat), vs = [.ref p, vN b] ∧ SpaceAt C H p b rows ∧ Q .non H
def sp_any_spread (C : Addr) : Sp := fun vs H Q _ => ∃ (p : Addr) (b : Nat) (ss ls : List Nat), vs = [.ref p] ∧ SpreadAt C H p b ss ls ∧ Q .non H
theorem upd_put {H : Hp} {p a : Addr} {o u : HO} (h : H a = some u) (n : a ≠ p) : upd H p o a = some u := (upd_ne n).trans h
section
variable {P : Program} {w : World} {K : PySem.W.Frag} {mg : Str → Option Value} {base : Heap} {f : Addr} {fd : FuncData} {CS CR : Addr} (T : Bt mg) (TS : SpaceT K mg CS) (TR : SpreadT K mg CR)
include T
include TS in
theorem ok_Space (F : FnP K "__init__" "Space.__init__" s_Space_init f fd) (D_need_whole : Dn P w K mg base 2 "need_whole" ["value"] sp_need_whole) (D_need_words : Dn P w K mg base 3 "need_words" ["values", "bits"] sp_need_words) (D_spanned : Dn P w K mg base 3 "spanned" ["words"] sp_spanned) :
    FnOk P w K mg base CX0 4 f fd ["self", "bits", "words"] (sp_Space CS) := by
  have nd := sc_Space_init.nd
  refine fnok F sc_Space_init (fun vs H Q E h => ?_) (fun cdv A outer s H vs Q E hr h => ?_)
  · obtain ⟨p, dx, b, a, ws, rfl, _⟩ := h
    rfl
  · obtain ⟨p, dx, b, a, ws, rfl, hp, hS, hb, hl, k⟩ := h
    refine ⟨_, (pss_cons (ps_expr (pe_d D_need_whole hr (pa_cons (pv 1) pa_nil)))
  (pss_cons (ps_fld (pv 0) (pv 1) rfl)
  (pss_cons (ps_fld (pv 0) (pe_callTy call_tupleQ (by rfl) T.tuple (by decide +kernel) (pa_cons (pe_d D_spanned hr (pa_cons (pe_d D_need_words hr (pa_cons (pv 2) (pa_cons (pv 1) pa_nil))) pa_nil)) pa_nil)) rfl)
  (pss_one (ps_fld (pv 0) (pe_callB call_lenQ (by rfl) T.len PySem.boot_len (pa_cons (pe_fld (pv 0) rfl) pa_nil)) rfl))))), ?_⟩
    have nap : a ≠ p := by
      rcases hS with h | h
      · exact ne_of h hp (by intro z; cases z)
      · exact ne_of h hp (by intro z; cases z)
    have hS1 : Tq (upd H p (.ins CS dx (putF "bits" (vN b) []))) a (ws.map vN) := hS.elim (fun h => .inl (upd_put h nap)) fun h => .inr (upd_put h nap)
    refine ⟨_, rfl, b, rfl, _, rfl, _, rfl, p, CS, dx, [], rfl, hp, TS.cl, TS.nb, (by decide), ?_⟩
    refine ⟨_, rfl, _, rfl, a, ws, b, rfl, hS1, hb, fun H1 q1 s1 hq1 h1 => ?_⟩
    refine ⟨q1, ws, rfl, .inl h1, hl, fun H2 q2 s2 hq2 h2 => ?_⟩
    refine ⟨q2, _, rfl, h2, fun t ht => ?_⟩
    have hpt : p ≠ t := ne_of_none (s2 _ _ (s1 _ _ upd_same)) ht
    have hp3 : upd H2 t (.tup ((spn ws).map vN)) p = some (.ins CS dx (putF "bits" (vN b) [])) := upd_put (s2 _ _ (s1 _ _ upd_same)) hpt
    refine ⟨_, rfl, p, CS, dx, _, rfl, hp3, TS.cl, TS.nr, (by show 1 < 1000; decide), ?_⟩
    refine ⟨_, rfl, p, CS, dx, _, .ref t, rfl, upd_same, TS.cl, TS.nr, rfl, t, _, rfl, .inr (upd_put upd_same hpt.symm), ?_⟩
    refine ⟨_, rfl, p, CS, dx, _, rfl, upd_same, TS.cl, TS.nd, (by show 2 < 1000; decide), ?_⟩
    refine k _ ⟨dx, t, ?_, upd_put (upd_put upd_same hpt.symm) hpt.symm⟩ fun c o hc hcp => ?_
    · rw [upd_same, List.length_map]
      rfl
    · have e1 : upd H p (.ins CS dx (putF "bits" (vN b) [])) c = some o := upd_put hc hcp
      have e2 := s2 _ _ (s1 _ _ e1)
      exact upd_put (upd_put (upd_put e2 (ne_of_none e2 ht)) hcp) hcp
include TR in
theorem ok_Spread (F : FnP K "__init__" "Spread.__init__" s_Spread_init f fd) (D_need_whole : Dn P w K mg base 2 "need_whole" ["value"] sp_need_whole) (D_need_words : Dn P w K mg base 3 "need_words" ["values", "bits"] sp_need_words) (D_spanned : Dn P w K mg base 3 "spanned" ["words"] sp_spanned) :
    FnOk P w K mg base CX0 4 f fd ["self", "bits", "slots", "lanes"] (sp_Spread CR) := by
  have nd := sc_Spread_init.nd
  refine fnok F sc_Spread_init (fun vs H Q E h => ?_) (fun cdv A outer s H vs Q E hr h => ?_)
  · obtain ⟨p, dx, b, a, c, ss, ls, rfl, _⟩ := h
    rfl
  · obtain ⟨p, dx, b, a, c, ss, ls, rfl, hp, hS, hL, hb1, hb2, hl1, hl2, hk, k⟩ := h
    refine ⟨_, (pss_cons (ps_expr (pe_d D_need_whole hr (pa_cons (pv 1) pa_nil)))
  (pss_cons (ps_fld (pv 0) (pv 1) rfl)
  (pss_cons (ps_fld (pv 0) (pe_callTy call_tupleQ (by rfl) T.tuple (by decide +kernel) (pa_cons (pe_d D_need_words hr (pa_cons (pv 2) (pa_cons (pv 1) pa_nil))) pa_nil)) rfl)
  (pss_cons (ps_fld (pv 0) (pe_callTy call_tupleQ (by rfl) T.tuple (by decide +kernel) (pa_cons (pe_d D_need_words hr (pa_cons (pv 3) (pa_cons (pv 1) pa_nil))) pa_nil)) rfl)
  (pss_cons (ps_set (i := 4) nd rfl (Or.inl rfl) (pe_d D_spanned hr (pa_cons (pe_op op_cat (pe_callTy call_listQ (by rfl) T.list (by decide +kernel) (pa_cons (pe_fld (pv 0) rfl) pa_nil)) (pe_callTy call_listQ (by rfl) T.list (by decide +kernel) (pa_cons (pe_fld (pv 0) rfl) pa_nil))) pa_nil)))
  (pss_one (ps_if (pt_cmpR op_lt (pe_callB call_lenQ (by rfl) T.len PySem.boot_len (pa_cons (pv 4) pa_nil)) (pv 1) (nomark _))
    (pss_one ps_never)
    pss_nil))))))), ?_⟩
    have tqp : ∀ {H0 : Hp} {o : HO} {d : Addr} {fs : List (Str × V)} {e : Addr} {xs : List V}, Tq H0 e xs → H0 p = some (.ins CR d fs) → Tq (upd H0 p o) e xs := fun {H0 o d fs e xs} h hp => by
      rcases h with h | h
      · exact .inl (upd_put h (ne_of h hp (by intro z; cases z)))
      · exact .inr (upd_put h (ne_of h hp (by intro z; cases z)))
    refine ⟨_, rfl, b, rfl, _, rfl, _, rfl, p, CR, dx, [], rfl, hp, TR.cl, TR.nb, (by decide), ?_⟩
    refine ⟨_, rfl, _, rfl, a, ss, b, rfl, tqp hS hp, hb1, fun H1 q1 s1 hq1 h1 => ?_⟩
    refine ⟨q1, _, rfl, h1, fun t ht => ?_⟩
    have hpt : p ≠ t := ne_of_none (s1 _ _ upd_same) ht
    have hp1 : upd H1 t (.tup (ss.map vN)) p = some (.ins CR dx (putF "bits" (vN b) [])) := upd_put (s1 _ _ upd_same) hpt
    refine ⟨_, rfl, p, CR, dx, _, rfl, hp1, TR.cl, TR.ns, (by show 1 < 1000; decide), ?_⟩
    refine ⟨_, rfl, _, rfl, c, ls, b, rfl, tqp (same_tq (same_new s1 ht) (tqp hL hp)) hp1, hb2, fun H2 q2 s2 hq2 h2 => ?_⟩
    refine ⟨q2, _, rfl, h2, fun u hu => ?_⟩
    have hpu : p ≠ u := ne_of_none (s2 _ _ upd_same) hu
    have htu : t ≠ u := ne_of_none (s2 _ _ (upd_put upd_same hpt.symm)) hu
    have hp2 : upd H2 u (.tup (ls.map vN)) p = some (.ins CR dx (putF "slots" (.ref t) (putF "bits" (vN b) []))) := upd_put (s2 _ _ upd_same) hpu
    refine ⟨_, rfl, p, CR, dx, _, rfl, hp2, TR.cl, TR.nl, (by show 2 < 1000; decide), ?_⟩
    have ht3 : upd (upd H2 u (.tup (ls.map vN))) p (.ins CR dx (srf b t u)) t = some (.tup (ss.map vN)) := upd_put (upd_put (s2 _ _ (upd_put upd_same hpt.symm)) htu) hpt.symm
    have hu3 : upd (upd H2 u (.tup (ls.map vN))) p (.ins CR dx (srf b t u)) u = some (.tup (ls.map vN)) := upd_put upd_same hpu.symm
    have fin : ∀ cc o, H cc = some o → cc ≠ p → upd (upd H2 u (.tup (ls.map vN))) p (.ins CR dx (srf b t u)) cc = some o := fun cc o hc hcp => by
      have e1 : upd H p (.ins CR dx (putF "bits" (vN b) [])) cc = some o := upd_put hc hcp
      have e2 := s1 _ _ e1
      have e3 : upd (upd H1 t (.tup (ss.map vN))) p (.ins CR dx (putF "slots" (.ref t) (putF "bits" (vN b) []))) cc = some o := upd_put (upd_put e2 (ne_of_none e2 ht)) hcp
      have e4 := s2 _ _ e3
      exact upd_put (upd_put e4 (ne_of_none e4 hu)) hcp
    refine ⟨_, rfl, p, CR, dx, srf b t u, .ref t, rfl, upd_same, TR.cl, TR.ns, rfl, t, _, rfl, .inr ht3, fun l1 hl1' => ?_⟩
    refine ⟨_, rfl, p, CR, dx, srf b t u, .ref u, rfl, upd_new hl1' upd_same, TR.cl, TR.nl, rfl, u, _, rfl, .inr (upd_new hl1' hu3), fun l2 hl2' => ?_⟩
    refine ⟨l1, l2, _, _, rfl, rfl, upd_new hl2' upd_same, upd_same, (by rw [List.length_map, List.length_map, sizeLine_eq]; omega), fun l3 hl3' => ?_⟩
    refine ⟨l3, ss ++ ls, rfl, .inl (by rw [upd_same, List.map_append]), (by rw [List.length_append]; omega), fun H4 q4 s4 hq4 h4 => ?_⟩
    refine ⟨_, rfl, q4, _, rfl, .inl h4, _, rfl, _, _, rfl, rfl, _, rfl, ?_⟩
    have e : decide ((((spn (ss ++ ls)).map vN).length : Int) < (b : Int)) = false := decide_eq_false (by rw [List.length_map]; have : b ≤ (spn (ss ++ ls)).length := hk; omega)
    rw [e]
    refine iteF ?_
    have sN : Same (upd (upd H2 u (.tup (ls.map vN))) p (.ins CR dx (srf b t u))) H4 := ((same_new (same_new (same_new0 hl1') hl2') hl3').trans s4)
    exact k _ ⟨dx, t, u, sN _ _ upd_same, sN _ _ ht3, sN _ _ hu3⟩ fun cc o hc hcp => sN _ _ (fin cc o hc hcp)
end
end LaneX
set_option Elab.async false
set_option linter.all false
set_option maxRecDepth 100000
set_option maxHeartbeats 4000000
namespace LaneX
open PySem PySem.Spec PyProof.Rows L2
theorem mk_Space {C : Addr} {H1 : Hp} {b : Nat} {a : Addr} {ws : List Nat} {Q : VK} {E : XK} (hS : Tq H1 a (ws.map vN)) (hb : ∀ x ∈ ws, blen x ≤ b) (hl : ws.length ≤ 1000000) (k : ∀ H' p, Same H1 H' → H1 p = none → SpaceAt C H' p b (spn ws) → Q (.ref p) H') :
    ∀ x dx, H1 x = none → H1 dx = none → dx ≠ x → sp_Space C (.ref x :: ([vN b, .ref a] ++ [])) (upd (upd H1 dx (.own x)) x (.ins C dx [])) (fun v H2 => v = .non ∧ Q (.ref x) H2) E := by
  intro x dx nx ndx ne
  have nx' : upd H1 dx (.own x) x = none := (upd_ne ne.symm).trans nx
  refine ⟨x, dx, b, a, ws, rfl, upd_same, (hS.new ndx).new nx', hb, hl, fun H' hA kp => ⟨rfl, k _ _ (made_same nx ndx kp) nx hA⟩⟩
theorem mk_Spread {C : Addr} {H1 : Hp} {b : Nat} {a c : Addr} {ss ls : List Nat} {Q : VK} {E : XK} (hS : Tq H1 a (ss.map vN)) (hL : Tq H1 c (ls.map vN)) (wf : WfR b ss ls) (hk : b ≤ rk (ss ++ ls)) (k : ∀ H' p, Same H1 H' → H1 p = none → SpreadAt C H' p b ss ls → Q (.ref p) H') :
    ∀ x dx, H1 x = none → H1 dx = none → dx ≠ x → sp_Spread C (.ref x :: ([vN b, .ref a, .ref c] ++ [])) (upd (upd H1 dx (.own x)) x (.ins C dx [])) (fun v H2 => v = .non ∧ Q (.ref x) H2) E := by
  intro x dx nx ndx ne
  have nx' : upd H1 dx (.own x) x = none := (upd_ne ne.symm).trans nx
  refine ⟨x, dx, b, a, c, ss, ls, rfl, upd_same, (hS.new ndx).new nx', (hL.new ndx).new nx', wf.s, wf.l, wf.sl, wf.ll, hk, fun H' hA kp => ⟨rfl, k _ _ (made_same nx ndx kp) nx hA⟩⟩
/-- a def that gives a new Space -/
def spNewSpace (C : Addr) (b : Nat) (rows : List Nat) (H : Hp) (Q : VK) : Prop := ∀ H' p, Same H H' → H p = none → SpaceAt C H' p b rows → Q (.ref p) H'
def sp_every (C : Addr) : Sp := fun vs H Q _ => ∃ b : Nat, vs = [vN b] ∧ b ≤ 400000 ∧ spNewSpace C b (spn ((List.range b).map fun i => 1 <<< i)) H Q
def sp_and (C : Addr) : Sp := fun vs H Q _ => ∃ (p q : Addr) (b : Nat) (rs os : List Nat), vs = [.ref p, .ref q] ∧ SpaceAt C H p b rs ∧ SpaceAt C H q b os ∧ WfS b rs ∧ WfS b os ∧ spNewSpace C b (spn (mtd b rs os)) H Q
def sp_completing (C : Addr) : Sp := fun vs H Q _ => ∃ (p q : Addr) (b : Nat) (rs os : List Nat), vs = [.ref p, .ref q] ∧ SpaceAt C H p b rs ∧ SpaceAt C H q b os ∧ WfS b rs ∧ WfS b os ∧ ∀ H' t, Same H H' → H t = none → H' t = some (.tup ((cmpl rs os).map vN)) → Q (.ref t) H'
def sp_slot_space (CS CR : Addr) : Sp := fun vs H Q _ => ∃ (p : Addr) (b : Nat) (ss ls : List Nat), vs = [.ref p] ∧ SpreadAt CR H p b ss ls ∧ WfR b ss ls ∧ spNewSpace CS b (spn ss) H Q
def sp_twins (CS CR : Addr) : Sp := fun vs H Q _ => ∃ (p : Addr) (b : Nat) (ss ls : List Nat), vs = [.ref p] ∧ SpreadAt CR H p b ss ls ∧ WfR b ss ls ∧ spNewSpace CS ls.length (twn ss ls) H Q
def sp_need_pair (CS CR : Addr) : Sp := fun vs H Q _ => ∃ (p q : Addr) (b : Nat) (ss ls rows : List Nat), vs = [.ref p, .ref q] ∧ SpreadAt CR H p b ss ls ∧ SpaceAt CS H q b rows ∧ Q .non H
/-- what a spread and a space ask -/
def spPair (CS CR : Addr) (k : Nat → List Nat → List Nat → List Nat → Hp → VK → Prop) : Sp := fun vs H Q _ => ∃ (p q : Addr) (b : Nat) (ss ls rows : List Nat), vs = [.ref p, .ref q] ∧ SpreadAt CR H p b ss ls ∧ SpaceAt CS H q b rows ∧ WfR b ss ls ∧ WfS b rows ∧ k b ss ls rows H Q
def sp_partner_rows (CS CR : Addr) : Sp := spPair CS CR fun b ss ls rows H Q => ∀ H' t, Same H H' → H t = none → H' t = some (.lst ((prw ss ls rows).map vN)) → Q (.ref t) H'
def sp_partners (CS CR : Addr) : Sp := spPair CS CR fun b ss ls rows H Q => spNewSpace CS ls.length (prt ss ls rows) H Q
def sp_leaders (CS CR : Addr) : Sp := spPair CS CR fun b ss ls rows H Q => ∀ H' t, Same H H' → H t = none → H' t = some (.lst ((ldr ss ls rows).map vN)) → Q (.ref t) H'
def sp_kept_bits (CS CR : Addr) : Sp := spPair CS CR fun b ss ls rows H Q => ∀ H', Same H H' → Q (.int (kpt b ss rows)) H'
def sp_sum_rounds (CS CR : Addr) : Sp := spPair CS CR fun b ss ls rows H Q => ∀ H', Same H H' → Q (vN (smr b ss ls rows)) H'
def sp_sum_steps (CS CR : Addr) : Sp := spPair CS CR fun b ss ls rows H Q => ∀ H' t, Same H H' → H t = none → H' t = some (.tup ((ldr ss ls rows).map vN)) → Q (.ref t) H'
def sp_rounds_for : Sp := fun vs H Q _ => ∃ n m : Nat, vs = [vN n, vN m] ∧ n ≤ 400000 ∧ m ≤ 400000 ∧ Q (vN (rdf n m)) H
theorem dec_ne0 {n : Nat} : (!decide (V.int (n : Int) = V.int 0)) = !decide (n = 0) := by
  rw [show (V.int 0 : V) = V.int ((0 : Nat) : Int) from rfl, dec_nat]
section
variable {P : Program} {w : World} {K : PySem.W.Frag} {mg : Str → Option Value} {base : Heap} {f : Addr} {fd : FuncData} {CS CR : Addr} (T : Bt mg) (TS : SpaceT K mg CS) (TR : SpreadT K mg CR)
include T
include TS in
theorem ok_need_space (F : FnP K "need_space" "need_space" s_need_space f fd) : FnOk P w K mg base CX0 1 f fd ["value", "bits"] (sp_need_space CS) := by
  have nd := sc_need_space.nd
  refine fnok F sc_need_space (fun vs H Q E h => ?_) (fun cdv A outer s H vs Q E hr h => ?_)
  · obtain ⟨p, b, rows, rfl, _⟩ := h
    rfl
  · obtain ⟨p, b, rows, rfl, ⟨dx, t, h1, h2⟩, k⟩ := h
    refine ⟨_, (pss_one (ps_if (PW.pt (pw_or (pt_not (pt_val (pe_callB call_isi (by rfl) T.isinstance (by decide +kernel) (pa_cons (pv 0) (pa_cons (pe_glob (v := .ref CS) (by rfl) TS.gl rfl) pa_nil))))) (pw_or1 (pt_cmpR op_ne (pe_fld (pv 0) rfl) (pv 1) (nomark _)))))
    (pss_one ps_never)
    pss_nil)), ?_⟩
    refine ⟨_, rfl, _, _, _, _, _, rfl, .own _, TS.ty h1, TS.me, _, rfl, iteF ?_⟩
    refine ⟨_, rfl, p, CS, dx, _, vN b, rfl, h1, TS.cl, TS.nb, rfl, _, rfl, rfl, _, rfl, ?_⟩
    rw [show (!decide (vN b = vN b)) = false by simp]
    exact iteF k
include TR in
theorem ok_any_spread (F : FnP K "any_spread" "any_spread" s_any_spread f fd) : FnOk P w K mg base CX0 1 f fd ["value"] (sp_any_spread CR) := by
  have nd := sc_any_spread.nd
  refine fnok F sc_any_spread (fun vs H Q E h => ?_) (fun cdv A outer s H vs Q E hr h => ?_)
  · obtain ⟨p, b, ss, ls, rfl, _⟩ := h
    rfl
  · obtain ⟨p, b, ss, ls, rfl, ⟨dx, t, u, h1, h2, h3⟩, k⟩ := h
    refine ⟨_, (pss_one (ps_if (pt_not (pt_val (pe_callB call_isi (by rfl) T.isinstance (by decide +kernel) (pa_cons (pv 0) (pa_cons (pe_glob (v := .ref CR) (by rfl) TR.gl rfl) pa_nil)))))
    (pss_one ps_never)
    pss_nil)), ?_⟩
    exact ⟨_, rfl, _, _, _, _, _, rfl, .own _, TR.ty h1, TR.me, _, rfl, iteF k⟩
end
end LaneX
set_option Elab.async false
set_option linter.all false
set_option maxRecDepth 100000
set_option maxHeartbeats 4000000
namespace LaneX
open PySem PySem.Spec PyProof.Rows L2
section
variable {P : Program} {w : World} {K : PySem.W.Frag} {mg : Str → Option Value} {base : Heap} {f : Addr} {fd : FuncData} {CS CR : Addr} (T : Bt mg) (TS : SpaceT K mg CS) (TR : SpreadT K mg CR)
include T
include TS in
theorem ok_completing (F : FnP K "completing" "Space.completing" s_Space_completing f fd) (D_need_space : Dn P w K mg base 1 "need_space" ["value", "bits"] (sp_need_space CS)) (D_cleared : Dn P w K mg base 1 "cleared" ["rows", "word"] sp_cleared) (D_grown : Dn P w K mg base 2 "grown" ["rows", "word"] sp_grown) :
    FnOk P w K mg base CX0 3 f fd ["self", "other"] (sp_completing CS) := by
  have nd := sc_Space_completing.nd
  refine fnok F sc_Space_completing (fun vs H Q E h => ?_) (fun cdv A outer s H vs Q E hr h => ?_)
  · obtain ⟨p, q, b, rs, os, rfl, _⟩ := h
    rfl
  · obtain ⟨p, q, b, rs, os, rfl, hp, hq, w1, w2, k⟩ := h
    refine ⟨_, (pss_cons (ps_expr (pe_d D_need_space hr (pa_cons (pv 1) (pa_cons (pe_fld (pv 0) rfl) pa_nil))))
  (pss_cons (ps_par (i := 2) (j := 3) (by rfl) nd rfl rfl (by decide) rfl rfl (pa_cons (pe_callTy call_listQ (by rfl) T.list (by decide +kernel) (pa_cons (pe_fld (pv 0) rfl) pa_nil)) (pa_cons (pe_lst pa_nil) pa_nil)) (by rfl))
  (pss_cons (ps_for PassesOwn.never rfl (pi_seq (pe_fld (pv 1) rfl)) (pg_name (i := 4) nd rfl (Or.inl rfl))
    (pss_one (ps_if (pt_cmpR op_ne (pe_d D_cleared hr (pa_cons (pv 2) (pa_cons (pv 4) pa_nil))) pe_int (nomark _))
      (pss_cons (ps_set (i := 2) nd rfl (Or.inl rfl) (pe_d D_grown hr (pa_cons (pv 2) (pa_cons (pv 4) pa_nil))))
      (pss_one (ps_expr (pe_bm PySem.F.plainAttrs_list PySem.F.slot_list_append PySem.F.type_list_append mt_append (pv 3) (pa_cons (pv 4) pa_nil)))))
      pss_nil)))
  (pss_one (ps_ret (pe_callTy call_tupleQ (by rfl) T.tuple (by decide +kernel) (pa_cons (pv 3) pa_nil))))))), ?_⟩
    have l1 := w1.len
    have l2 := w2.len
    obtain ⟨dx, t, h1, h2⟩ := hp
    have hq' := hq
    obtain ⟨dy, u, g1, g2⟩ := hq
    refine ⟨_, rfl, _, rfl, p, CS, dx, _, vN b, rfl, h1, TS.cl, TS.nb, rfl, q, b, os, rfl, hq', ?_⟩
    refine ⟨_, rfl, p, CS, dx, _, .ref t, rfl, h1, TS.cl, TS.nr, rfl, t, _, rfl, .inr h2, fun a0 ha0 => ?_⟩
    refine ⟨(by decide), fun c0 hc0 => ⟨_, _, rfl, ?_⟩⟩
    have na : a0 ≠ c0 := ne_of_none upd_same hc0
    have hc0' : H c0 = none := same_free (same_new0 ha0) hc0
    generalize hHB : upd (upd H a0 (.lst (rs.map vN))) c0 (.lst []) = HB at *
    have s0 : Same H HB := by rw [← hHB]; exact same_new (same_new0 ha0) hc0
    have hB1 : HB a0 = some (.lst (rs.map vN)) := by rw [← hHB]; exact upd_new hc0 upd_same
    have hB2 : HB c0 = some (.lst []) := by rw [← hHB]; exact upd_same
    refine ⟨_, rfl, q, CS, dy, _, .ref u, rfl, s0 _ _ g1, TS.cl, TS.nr, rfl, for_sq2 (K := K) (Tq.t (s0 _ _ g2)) (fun i σ H2 => ∃ v a, σ = [some (.ref p), some (.ref q), some (.ref a), some (.ref c0), v] ∧ (∀ c o, H c = some o → H2 c = some o) ∧ H a = none ∧ a ≠ c0 ∧ H2 a = some (.lst ((cms rs (os.take i)).1.map vN)) ∧ H2 c0 = some (.lst ((cms rs (os.take i)).2.map vN)))
      ⟨none, a0, rfl, s0, ha0, na, hB1, hB2⟩ (fun i σ H2 hp => ?_) ?_ ?_⟩
    · obtain ⟨_, _, _, s2, _⟩ := hp
      exact stay_of g2 s0 s2
    · rintro i y σ H2 hy ⟨v, a, rfl, s2, han, nac, h3, h4⟩
      obtain ⟨r, hr', rfl⟩ := map_get hy
      have R := cms_rws w1.r (os.take i)
      have L := cms_len rs (os.take i)
      have tl : (os.take i).length ≤ 400000 := Nat.le_trans (by rw [List.length_take]; omega) l2
      refine ⟨_, rfl, _, rfl, a, _, r, rfl, .inl h3, R.nz, rfl, _, rfl, ?_⟩
      rw [dec_ne0, take_succ hr', cms_snoc]
      refine br (fun e => ?_) (fun e => ?_)
      · have e0 : clr (cms rs (os.take i)).1 r ≠ 0 := by simpa using e
        rw [if_neg e0]
        refine ⟨_, rfl, _, rfl, a, _, r, rfl, .inl h3, R.nz, (by omega), fun H3 a1 s3 ha1 h5 => ?_⟩
        have na1 : a1 ≠ c0 := (ne_of_none h4 ha1).symm
        refine ⟨_, rfl, .inl ⟨rfl, _, SqL.of (s3 _ _ h4)⟩, _, rfl, c0, _, _, rfl, rfl, s3 _ _ h4, (by rw [List.length_map]; exact size6 (by omega)), ?_⟩
        refine ⟨_, a1, rfl, fun c o hc => upd_put (s3 _ _ (s2 _ _ hc)) (ne_of_none hc hc0'), ?_, na1, upd_put h5 na1, ?_⟩
        · cases z : H a1 with
          | none => rfl
          | some o => rw [s2 _ _ z] at ha1; cases ha1
        · rw [upd_same, List.map_append]
          rfl
      · have e0 : clr (cms rs (os.take i)).1 r = 0 := by simpa using e
        rw [if_pos e0]
        exact ⟨_, a, rfl, s2, han, nac, h3, h4⟩
    · rintro σ H2 ⟨v, a, rfl, s2, han, nac, h3, h4⟩
      rw [List.length_map, List.take_length] at h4
      refine ⟨_, rfl, c0, _, rfl, h4, fun t' ht' => ?_⟩
      refine k _ _ (same_new s2 ht') ?_ upd_same
      cases z : H t' with
      | none => rfl
      | some o => rw [s2 _ _ z] at ht'; cases ht'
include TR in
theorem ok_twins (F : FnP K "twins" "Spread.twins" s_Spread_twins f fd) (D_spanned : Dn P w K mg base 3 "spanned" ["words"] sp_spanned) (D_cleared : Dn P w K mg base 1 "cleared" ["rows", "word"] sp_cleared) (D_kernel_rows : Dn P w K mg base 5 "kernel_rows" ["columns"] sp_kernel_rows)
    (K_Space : Kn P w K mg base 4 CS "Space" ["self", "bits", "words"] (sp_Space CS)) : FnOk P w K mg base CX0 6 f fd ["self"] (sp_twins CS CR) := by
  have nd := sc_Spread_twins.nd
  refine fnok F sc_Spread_twins (fun vs H Q E h => ?_) (fun cdv A outer s H vs Q E hr h => ?_)
  · obtain ⟨p, b, ss, ls, rfl, _⟩ := h
    rfl
  · obtain ⟨p, b, ss, ls, rfl, ⟨dx, t, u, h1, h2, h3⟩, wf, k⟩ := h
    obtain ⟨bb, ws, wl, wsl, wll⟩ := id wf
    refine ⟨_, (pss_cons (ps_set (i := 1) nd rfl (Or.inr rfl) (pe_d D_spanned hr (pa_cons (pe_fld (pv 0) rfl) pa_nil)))
  (pss_one (ps_ret (pe_k K_Space hr (pa_cons (pe_callB call_lenQ (by rfl) T.len PySem.boot_len (pa_cons (pe_fld (pv 0) rfl) pa_nil)) (pa_cons (pe_d D_kernel_rows hr (pa_cons (pe_lc (own := [("word", 2)]) (g := gName 2) (by rfl) nd (pi_seq (pe_fld (pv 0) rfl)) (blkOk_by (own := [("word", 2)]) (N := ["self", "rows", "word"]) (sc := defScope s_Spread_twins) (by decide +kernel)) (fun _ _ _ _ _ => (pg_name (i := 2) nd rfl (Or.inl rfl))) (fun _ _ _ _ _ => pts_nil) (fun _ _ _ _ _ => (pe_d D_cleared hr (pa_cons (pv 1) (pa_cons (pv 2) pa_nil))))) pa_nil)) pa_nil)))))), ?_⟩
    refine ⟨_, rfl, p, CR, dx, _, .ref t, rfl, h1, TR.cl, TR.ns, rfl, t, ss, rfl, .inr h2, (by omega), fun H1 q1 s1 hq1 g1 => ?_⟩
    refine ⟨_, rfl, p, CR, dx, _, .ref u, rfl, s1 _ _ h1, TR.cl, TR.nl, rfl, u, _, rfl, .inr (s1 _ _ h3), ?_⟩
    refine ⟨_, rfl, p, CR, dx, _, .ref u, rfl, s1 _ _ h1, TR.cl, TR.nl, rfl, lc_pure ls vN (fun _ => true) (fun x => vN (clr (spn ss) x)) (.inr (s1 _ _ h3)) (by omega) (fun n H' hn s => ?_) (fun D H2 hD s2 g2 => ?_)⟩
    · intro Z Nx z1 z2
      exact ⟨rfl, _, rfl, _, rfl, q1, _, n, rfl, .inl (s _ _ g1), (spn_rws ss).nz, z1 rfl _ (Same.refl _)⟩
    · rw [filt_true] at g2
      refine ⟨D, ls.map (clr (spn ss)), rfl, .inl (by rw [g2, List.map_map]; rfl), (by rw [List.length_map]; omega), ?_, fun H3 q3 s3 hq3 g3 => ?_⟩
      · intro c hc
        obtain ⟨x, hx, rfl⟩ := List.mem_map.mp hc
        exact Nat.le_trans (clr_blen (spn_blen ws) (wl x hx)) (by omega)
      · rw [List.length_map]
        refine mk_Space (.inl g3) (fun x hx => ?_) ?_ (fun H' p s4 hp hA => k _ _ ((s1.trans s2).trans (s3.trans s4)) (same_free ((s1.trans s2).trans s3) hp) hA)
        · have := ker_blen _ x hx
          simpa using this
        · have := ker_len (ls.map (clr (spn ss)))
          rw [List.length_map] at this
          omega
end
end LaneX
set_option Elab.async false
set_option linter.all false
set_option maxRecDepth 100000
set_option maxHeartbeats 4000000
namespace LaneX
open PySem PySem.Spec PyProof.Rows L2
theorem ldr_len {b : Nat} {ss ls : List Nat} (wf : WfR b ss ls) (rows : List Nat) : (ldr ss ls rows).length ≤ 400000 :=
  Nat.le_trans (cms_len (twn ss ls) (prt ss ls rows)).2 (prt_wf wf rows).len
section
variable {P : Program} {w : World} {K : PySem.W.Frag} {mg : Str → Option Value} {base : Heap} {f : Addr} {fd : FuncData} {CS CR : Addr} (T : Bt mg) (TS : SpaceT K mg CS) (TR : SpreadT K mg CR)
include T
include TR in
theorem ok_need_pair (F : FnP K "need_pair" "need_pair" s_need_pair f fd) (D_any_spread : Dn P w K mg base 1 "any_spread" ["value"] (sp_any_spread CR)) (D_need_space : Dn P w K mg base 1 "need_space" ["value", "bits"] (sp_need_space CS)) : FnOk P w K mg base CX0 2 f fd ["spread", "space"] (sp_need_pair CS CR) := by
  have nd := sc_need_pair.nd
  refine fnok F sc_need_pair (fun vs H Q E h => ?_) (fun cdv A outer s H vs Q E hr h => ?_)
  · obtain ⟨p, q, b, ss, ls, rows, rfl, _⟩ := h
    rfl
  · obtain ⟨p, q, b, ss, ls, rows, rfl, hp, hq, k⟩ := h
    refine ⟨_, (pss_cons (ps_expr (pe_d D_any_spread hr (pa_cons (pv 0) pa_nil)))
  (pss_one (ps_expr (pe_d D_need_space hr (pa_cons (pv 1) (pa_cons (pe_fld (pv 0) rfl) pa_nil)))))), ?_⟩
    have hp' := hp
    obtain ⟨dx, t, u, h1, h2, h3⟩ := hp'
    exact ⟨_, rfl, p, b, ss, ls, rfl, hp, _, rfl, _, rfl, p, CR, dx, _, vN b, rfl, h1, TR.cl, TR.nb, rfl, q, b, rows, rfl, hq, k⟩
include TS TR in
theorem ok_partner_rows (F : FnP K "partner_rows" "partner_rows" s_partner_rows f fd) (D_spanned : Dn P w K mg base 3 "spanned" ["words"] sp_spanned) (D_cleared : Dn P w K mg base 1 "cleared" ["rows", "word"] sp_cleared) (D_kernel_rows : Dn P w K mg base 5 "kernel_rows" ["columns"] sp_kernel_rows) :
    FnOk P w K mg base CX0 6 f fd ["spread", "space"] (sp_partner_rows CS CR) := by
  have nd := sc_partner_rows.nd
  refine fnok F sc_partner_rows (fun vs H Q E h => ?_) (fun cdv A outer s H vs Q E hr h => ?_)
  · obtain ⟨p, q, b, ss, ls, rows, rfl, _⟩ := h
    rfl
  · obtain ⟨p, q, b, ss, ls, rows, rfl, ⟨dx, t, u, h1, h2, h3⟩, ⟨dy, z, g1, g2⟩, wf, wfs, k⟩ := h
    obtain ⟨bb, ws, wl, wsl, wll⟩ := id wf
    have wrl := wfs.len
    refine ⟨_, (pss_cons (ps_set (i := 2) nd rfl (Or.inr rfl) (pe_d D_spanned hr (pa_cons (pe_op op_cat (pe_callTy call_listQ (by rfl) T.list (by decide +kernel) (pa_cons (pe_fld (pv 0) rfl) pa_nil)) (pe_callTy call_listQ (by rfl) T.list (by decide +kernel) (pa_cons (pe_fld (pv 1) rfl) pa_nil))) pa_nil)))
  (pss_one (ps_ret (pe_d D_kernel_rows hr (pa_cons (pe_lc (own := [("word", 3)]) (g := gName 3) (by rfl) nd (pi_seq (pe_fld (pv 0) rfl)) (blkOk_by (own := [("word", 3)]) (N := ["spread", "space", "rows", "word"]) (sc := defScope s_partner_rows) (by decide +kernel)) (fun _ _ _ _ _ => (pg_name (i := 3) nd rfl (Or.inl rfl))) (fun _ _ _ _ _ => pts_nil) (fun _ _ _ _ _ => (pe_d D_cleared hr (pa_cons (pv 2) (pa_cons (pv 3) pa_nil))))) pa_nil))))), ?_⟩
    refine ⟨_, rfl, p, CR, dx, _, .ref t, rfl, h1, TR.cl, TR.ns, rfl, t, _, rfl, .inr h2, fun a1 ha1 => ?_⟩
    have s1 : Same H (upd H a1 (.lst (ss.map vN))) := same_new0 ha1
    refine ⟨_, rfl, q, CS, dy, _, .ref z, rfl, s1 _ _ g1, TS.cl, TS.nr, rfl, z, _, rfl, .inr (s1 _ _ g2), fun a2 ha2 => ?_⟩
    have s2 := same_new (o := .lst (rows.map vN)) s1 ha2
    refine ⟨_, _, _, _, rfl, rfl, upd_new ha2 upd_same, upd_same, (by rw [List.length_map, List.length_map, sizeLine_eq]; omega), fun a3 ha3 => ?_⟩
    have s3 := same_new (o := .lst (ss.map vN ++ rows.map vN)) s2 ha3
    refine ⟨a3, ss ++ rows, rfl, .inl (by rw [upd_same, List.map_append]), (by rw [List.length_append]; omega), fun H4 q4 s4 hq4 g4 => ?_⟩
    have s5 := s3.trans s4
    refine ⟨_, rfl, p, CR, dx, _, .ref u, rfl, s5 _ _ h1, TR.cl, TR.nl, rfl, lc_pure ls vN (fun _ => true) (fun x => vN (clr (spn (ss ++ rows)) x)) (.inr (s5 _ _ h3)) (by omega) (fun n H' hn s => ?_) (fun D H6 hD s6 g6 => ?_)⟩
    · intro Z Nx z1 z2
      exact ⟨rfl, _, rfl, _, rfl, q4, _, n, rfl, .inl (s _ _ g4), (spn_rws _).nz, z1 rfl _ (Same.refl _)⟩
    · rw [filt_true] at g6
      refine ⟨D, ls.map (clr (spn (ss ++ rows))), rfl, .inl (by rw [g6, List.map_map]; rfl), (by rw [List.length_map]; omega), ?_, fun H7 q7 s7 hq7 g7 => ?_⟩
      · intro c hc
        obtain ⟨x, hx, rfl⟩ := List.mem_map.mp hc
        refine Nat.le_trans (clr_blen (k := b) (spn_blen fun y hy => ?_) (wl x hx)) (by omega)
        rcases List.mem_append.mp hy with hy | hy
        · exact ws y hy
        · exact wfs.b y hy
      · exact k _ _ ((s5.trans s6).trans s7) (same_free (s5.trans s6) hq7) g7
include TR in
theorem ok_partners (F : FnP K "partners" "partners" s_partners f fd) (D_need_pair : Dn P w K mg base 2 "need_pair" ["spread", "space"] (sp_need_pair CS CR)) (D_partner_rows : Dn P w K mg base 6 "partner_rows" ["spread", "space"] (sp_partner_rows CS CR))
    (K_Space : Kn P w K mg base 4 CS "Space" ["self", "bits", "words"] (sp_Space CS)) : FnOk P w K mg base CX0 7 f fd ["spread", "space"] (sp_partners CS CR) := by
  have nd := sc_partners.nd
  refine fnok F sc_partners (fun vs H Q E h => ?_) (fun cdv A outer s H vs Q E hr h => ?_)
  · obtain ⟨p, q, b, ss, ls, rows, rfl, _⟩ := h
    rfl
  · obtain ⟨p, q, b, ss, ls, rows, rfl, hp, hq, wf, wfs, k⟩ := h
    refine ⟨_, (pss_cons (ps_expr (pe_d D_need_pair hr (pa_cons (pv 0) (pa_cons (pv 1) pa_nil))))
  (pss_one (ps_ret (pe_k K_Space hr (pa_cons (pe_callB call_lenQ (by rfl) T.len PySem.boot_len (pa_cons (pe_fld (pv 0) rfl) pa_nil)) (pa_cons (pe_d D_partner_rows hr (pa_cons (pv 0) (pa_cons (pv 1) pa_nil))) pa_nil)))))), ?_⟩
    have hp' := hp
    obtain ⟨dx, t, u, h1, h2, h3⟩ := hp'
    refine ⟨_, rfl, _, rfl, p, q, b, ss, ls, rows, rfl, hp, hq, ?_⟩
    refine ⟨_, rfl, p, CR, dx, _, .ref u, rfl, h1, TR.cl, TR.nl, rfl, u, _, rfl, .inr h3, _, rfl, _, rfl, p, q, b, ss, ls, rows, rfl, hp, hq, wf, wfs, fun H1 a1 s1 ha1 g1 => ?_⟩
    rw [List.length_map]
    have := wf.ll
    refine mk_Space (.inl g1) (fun x hx => ?_) ?_ (fun H' p s4 hp hA => k _ _ (s1.trans s4) (same_free s1 hp) hA)
    · have := ker_blen _ x hx
      simpa using this
    · have := ker_len (ls.map (clr (spn (ss ++ rows))))
      rw [List.length_map] at this
      show (ker _).length ≤ _
      omega
theorem ok_leaders (F : FnP K "leaders" "leaders" s_leaders f fd) (D_partners : Dn P w K mg base 7 "partners" ["spread", "space"] (sp_partners CS CR)) (M_Spread_twins : Mn P w K mg base 6 CR "twins" ["self"] (sp_twins CS CR)) (M_Space_completing : Mn P w K mg base 3 CS "completing" ["self", "other"] (sp_completing CS)) :
    FnOk P w K mg base CX0 8 f fd ["spread", "space"] (sp_leaders CS CR) := by
  have nd := sc_leaders.nd
  refine fnok F sc_leaders (fun vs H Q E h => ?_) (fun cdv A outer s H vs Q E hr h => ?_)
  · obtain ⟨p, q, b, ss, ls, rows, rfl, _⟩ := h
    rfl
  · obtain ⟨p, q, b, ss, ls, rows, rfl, hp, hq, wf, wfs, k⟩ := h
    refine ⟨_, (pss_one (ps_ret (pe_callTy call_listQ (by rfl) T.list (by decide +kernel) (pa_cons (pe_m (pe_m0 (pv 0) M_Spread_twins hr) M_Space_completing hr (pa_cons (pe_d D_partners hr (pa_cons (pv 0) (pa_cons (pv 1) pa_nil))) pa_nil)) pa_nil)))), ?_⟩
    have hp' := hp
    obtain ⟨dx, t, u, h1, h2, h3⟩ := hp'
    refine ⟨_, rfl, p, dx, _, rfl, h1, rfl, p, b, ss, ls, rfl, hp, wf, fun H1 x1 s1 hx1 g1 => ?_⟩
    have g1' := g1
    obtain ⟨dz, z, g2, g3⟩ := g1'
    refine ⟨x1, dz, _, rfl, g2, rfl, _, rfl, _, rfl, p, q, b, ss, ls, rows, rfl, hp.same s1, hq.same s1, wf, wfs, fun H2 x2 s2 hx2 g4 => ?_⟩
    refine ⟨x1, x2, ls.length, _, _, rfl, g1.same s2, g4, twn_wf wf, prt_wf wf rows, fun H3 t3 s3 ht3 g5 => ?_⟩
    refine ⟨t3, _, rfl, .inr g5, fun l hl => ?_⟩
    exact k _ _ (same_new ((s1.trans s2).trans s3) hl) (same_free ((s1.trans s2).trans s3) hl) upd_same
theorem ok_sum_steps (F : FnP K "sum_steps" "sum_steps" s_sum_steps f fd) (D_need_pair : Dn P w K mg base 2 "need_pair" ["spread", "space"] (sp_need_pair CS CR)) (D_leaders : Dn P w K mg base 8 "leaders" ["spread", "space"] (sp_leaders CS CR)) : FnOk P w K mg base CX0 9 f fd ["spread", "space"] (sp_sum_steps CS CR) := by
  have nd := sc_sum_steps.nd
  refine fnok F sc_sum_steps (fun vs H Q E h => ?_) (fun cdv A outer s H vs Q E hr h => ?_)
  · obtain ⟨p, q, b, ss, ls, rows, rfl, _⟩ := h
    rfl
  · obtain ⟨p, q, b, ss, ls, rows, rfl, hp, hq, wf, wfs, k⟩ := h
    refine ⟨_, (pss_cons (ps_expr (pe_d D_need_pair hr (pa_cons (pv 0) (pa_cons (pv 1) pa_nil))))
  (pss_one (ps_ret (pe_callTy call_tupleQ (by rfl) T.tuple (by decide +kernel) (pa_cons (pe_d D_leaders hr (pa_cons (pv 0) (pa_cons (pv 1) pa_nil))) pa_nil))))), ?_⟩
    refine ⟨_, rfl, _, rfl, p, q, b, ss, ls, rows, rfl, hp, hq, ?_⟩
    refine ⟨_, rfl, _, rfl, p, q, b, ss, ls, rows, rfl, hp, hq, wf, wfs, fun H1 t1 s1 ht1 g1 => ?_⟩
    exact ⟨t1, _, rfl, g1, fun l hl => k _ _ (same_new s1 hl) (same_free s1 hl) upd_same⟩
end
end LaneX
set_option Elab.async false
set_option linter.all false
set_option maxRecDepth 100000
set_option maxHeartbeats 4000000
namespace LaneX
open PySem PySem.Spec PyProof.Rows L2
/-! ### draws -/
abbrev ka : Str := "cells"
abbrev kb : Str := "stop"
abbrev kc : Str := "left"
theorem kN : PenN ka kb kc := ⟨by decide +kernel, by decide +kernel, by decide +kernel⟩
abbrev Pn (H : Hp) (p lc : Addr) (N : Nat) : Prop := PenAt ka kb kc H p lc N
/-- the most draws -/
abbrev TOP : Nat := 1099511627776
theorem md_lt {i : Int} {m : Nat} (h : 0 < m) (hm : m ≤ 2 ^ 64) : (i % (m : Int)).toNat < 2 ^ 64 := by
  have := Int.emod_lt_of_pos i (b := (m : Int)) (by omega)
  have h2 := Int.emod_nonneg i (b := (m : Int)) (by omega)
  have h3 : m ≤ 18446744073709551616 := hm
  show _ < 18446744073709551616
  omega
theorem mn_lt {i m : Nat} (h : 0 < m) (hm : m ≤ 2 ^ 64) : i % m < 2 ^ 64 := Nat.lt_of_lt_of_le (Nat.mod_lt _ h) hm
def sp_draw : Sp := fun vs H Q _ => ∃ (p lc : Addr) (N sp : Nat), vs = [.ref p, vN sp] ∧ Pn H p lc N ∧ 0 < sp ∧ sp < 1073741824 ∧ N + 1 ≤ TOP ∧ ∀ H' r, r < sp → Pn H' p lc (N + 1) → Kp H H' → Q (vN r) H'
section
variable {P : Program} {w : World} {K : PySem.W.Frag} {mg : Str → Option Value} {base : Heap} {f : Addr} {fd : FuncData} (T : Bt mg)
include T
theorem ok_draw (F : FnP K "_law_draw" "_law_draw" s_drawL f fd) : FnOk P w K mg base CX0 1 f fd ["_law_pen", "_law_span"] sp_draw := by
  have nd := sc_drawL.nd
  refine fnok F sc_drawL (fun vs H Q E h => ?_) (fun cdv A outer s H vs Q E hr h => ?_)
  · obtain ⟨p, lc, N, sp, rfl, _⟩ := h
    rfl
  · obtain ⟨p, lc, N, sp, rfl, ⟨cs, n, m, hp, hlc, hn⟩, hs0, hs1, hN, k⟩ := h
    have hu := hu_of hr
    refine ⟨_, (pss_cons (ps_if (pt_cmpR op_gt (pe_dget hu (pv 0) pe_str (fun _ _ => rfl)) pe_int (nomark _))
    (pss_cons (ps_set (i := 2) nd rfl (Or.inl rfl) (pe_op on_mod (pe_callTy call_intQ (by rfl) T.int (by decide +kernel) (pa_cons (pe_dget hu (pv 0) pe_str (fun _ _ => rfl)) pa_nil)) (pv 1)))
    (pss_cons (ps_dput hu (pv 0) pe_str (pe_op on_fdiv (pe_dget hu (pv 0) pe_str (fun _ _ => rfl)) (pv 1)) rfl)
    (pss_one (ps_ret (pv 2)))))
    pss_nil)
  (pss_cons (ps_set (i := 3) nd rfl (Or.inl rfl) (pe_dget hu (pv 0) pe_str (fun _ _ => rfl)))
  (pss_cons (ps_dput hu (pv 0) pe_str (pe_op on_add (pv 3) pe_int) rfl)
  (pss_cons (ps_set (i := 4) nd rfl (Or.inl rfl) (pe_op on_add (pe_op on_mul pe_int (pv 3)) pe_int))
  (pss_cons (ps_if (pt_cmpR (op_neL hr.units) (pe_dget hu (pv 0) pe_str (fun _ _ => rfl)) (pe_lst pa_nil) (nomark _))
    (pss_one (ps_set (i := 4) nd rfl (Or.inl rfl) (pe_ix ix_q (pe_dget hu (pv 0) pe_str (fun _ _ => rfl)) (pe_op on_mod (pe_callTy call_intQ (by rfl) T.int (by decide +kernel) (pa_cons (pv 3) pa_nil)) (pe_callB call_lenQ (by rfl) T.len PySem.boot_len (pa_cons (pe_dget hu (pv 0) pe_str (fun _ _ => rfl)) pa_nil))) (fun _ _ => rfl))))
    pss_nil)
  (pss_cons (ps_if (PW.pt (pw_and (pt_cmpR op_lt (pv 3) (pe_callB call_lenQ (by rfl) T.len PySem.boot_len (pa_cons (pe_dget hu (pv 0) pe_str (fun _ _ => rfl)) pa_nil)) (nomark _)) (pw_and1 (pt_cmpR op_ge (pe_callB call_absN (by rfl) T.abs (by decide +kernel) (pa_cons (pv 4) pa_nil)) (pe_op on_pow pe_int pe_int) (nomark _)))))
    (pss_cons (ps_dput hu (pv 0) pe_str (pe_op on_fdiv (pe_op on_sub (pe_callB call_absN (by rfl) T.abs (by decide +kernel) (pa_cons (pv 4) pa_nil)) (pe_op on_pow pe_int pe_int)) (pv 1)) rfl)
    (pss_one (ps_ret (pe_op on_mod (pe_callTy call_intQ (by rfl) T.int (by decide +kernel) (pa_cons (pe_op on_sub (pe_callB call_absN (by rfl) T.abs (by decide +kernel) (pa_cons (pv 4) pa_nil)) (pe_op on_pow pe_int pe_int)) pa_nil)) (pv 1)))))
    pss_nil)
  (pss_cons (ps_set (i := 5) nd rfl (Or.inl rfl) (pe_op on_add (pe_op on_mul (pe_op on_modI (pe_callTy call_intQ (by rfl) T.int (by decide +kernel) (pa_cons (pv 4) pa_nil)) pe_int) pe_int) (pe_op on_mul (pe_op on_mul pe_int (pv 3)) (pv 3))))
  (pss_cons (ps_set (i := 5) nd rfl (Or.inl rfl) (pe_op on_mod (pe_callTy call_intQ (by rfl) T.int (by decide +kernel) (pa_cons (pe_op on_add (pe_op on_add (pv 5) (pe_op on_mul pe_int (pv 3))) pe_int) pa_nil)) pe_int))
  (pss_cons (ps_set (i := 5) nd rfl (Or.inl rfl) (pe_op on_mod (pe_callTy call_intQ (by rfl) T.int (by decide +kernel) (pa_cons (pe_op on_add (pe_op on_add (pe_op on_add (pe_op on_mul (pv 5) (pv 5)) (pe_op on_mul pe_int (pv 5))) (pe_op on_mul pe_int (pv 3))) pe_int) pa_nil)) pe_int))
  (pss_cons (ps_set (i := 5) nd rfl (Or.inl rfl) (pe_op on_mod (pe_callTy call_intQ (by rfl) T.int (by decide +kernel) (pa_cons (pe_op on_add (pe_op on_add (pe_op on_mul (pv 5) (pv 5)) (pe_op on_mul pe_int (pv 5))) (pv 3)) pa_nil)) pe_int))
  (pss_one (ps_ret (pe_op on_mod (pe_callTy call_intQ (by rfl) T.int (by decide +kernel) (pa_cons (pe_op on_fdiv (pe_op on_mod (pe_callTy call_intQ (by rfl) T.int (by decide +kernel) (pa_cons (pe_op on_mul (pv 5) (pe_op on_add (pv 5) pe_int)) pa_nil)) pe_int) pe_int) pa_nil)) (pv 1)))))))))))))), ?_⟩
    have gA : ∀ (H0 : Hp) (n0 m0 : Nat), H0 p = some (.dK (pen ka kb kc lc n0 m0)) → DGet H0 p (.str ka) (some (.ref lc)) := fun H0 n0 m0 h => by have z := DGet.k (k := .inr ka) h; rw [pen_a] at z; exact z
    have gB : ∀ (H0 : Hp) (n0 m0 : Nat), H0 p = some (.dK (pen ka kb kc lc n0 m0)) → DGet H0 p (.str kb) (some (vN n0)) := fun H0 n0 m0 h => by have z := DGet.k (k := .inr kb) h; rw [pen_b kN] at z; exact z
    have gC : ∀ (H0 : Hp) (n0 m0 : Nat), H0 p = some (.dK (pen ka kb kc lc n0 m0)) → DGet H0 p (.str kc) (some (vN m0)) := fun H0 n0 m0 h => by have z := DGet.k (k := .inr kc) h; rw [pen_c kN] at z; exact z
    have pB : ∀ (H0 : Hp) (n0 m0 k0 : Nat), H0 p = some (.dK (pen ka kb kc lc n0 m0)) → DPut H0 p (.str kb) (vN k0) (upd H0 p (.dK (pen ka kb kc lc k0 m0))) := fun H0 n0 m0 k0 h => by have z := DPut.k (k := .inr kb) (v := vN k0) h (pen_len n0 m0); rw [pen_pb kN] at z; exact z
    have pC : ∀ (H0 : Hp) (n0 m0 k0 : Nat), H0 p = some (.dK (pen ka kb kc lc n0 m0)) → DPut H0 p (.str kc) (vN k0) (upd H0 p (.dK (pen ka kb kc lc n0 k0))) := fun H0 n0 m0 k0 h => by have z := DPut.k (k := .inr kc) (v := vN k0) h (pen_len n0 m0); rw [pen_pc kN] at z; exact z
    have hlp : lc ≠ p := ne_of hlc hp (by intro z; cases z)
    have kpU : ∀ (H0 : Hp) (n0 m0 n1 m1 : Nat), H0 p = some (.dK (pen ka kb kc lc n0 m0)) → Kp H0 (upd H0 p (.dK (pen ka kb kc lc n1 m1))) := fun H0 n0 m0 n1 m1 h => by
      refine ⟨fun b o hb ho => ?_, fun b hb => upd_free hb⟩
      refine (upd_ne fun z => ?_).trans hb
      rw [z, h] at hb
      cases hb
      cases ho
    refine ⟨_, rfl, p, vN m, rfl, gC _ _ _ hp, _, _, rfl, rfl, _, rfl, br (fun e => ?_) (fun e => ?_)⟩
    · -- a digit is left
      refine ⟨_, rfl, p, vN m, rfl, gC _ _ _ hp, _, rfl, _, rfl, m, sp, rfl, rfl, hs0, ?_⟩
      refine ⟨_, rfl, p, vN m, rfl, gC _ _ _ hp, _, rfl, m, sp, rfl, rfl, ⟨hs0, hs1⟩, _, rfl, p, _, rfl, pC _ _ _ _ hp, ?_⟩
      exact ⟨_, rfl, k _ _ (Nat.mod_lt _ hs0) ⟨cs, n, m / sp, upd_same, (upd_ne hlp).trans hlc, by omega⟩ (kpU _ _ _ _ _ hp)⟩
    · have hN' : N + 1 ≤ 1099511627776 := hN
      refine ⟨_, rfl, p, vN n, rfl, gB _ _ _ hp, ?_⟩
      refine ⟨_, rfl, n, 1, rfl, rfl, _, rfl, p, _, rfl, pB _ _ _ _ hp, ?_⟩
      refine ⟨_, rfl, 83, n, rfl, rfl, (by decide), 83 * n, 59, rfl, rfl, ?_⟩
      generalize hH1 : upd H p (.dK (pen ka kb kc lc (n + 1) m)) = H1
      have kp1 : Kp H H1 := by rw [← hH1]; exact kpU _ _ _ _ _ hp
      have hp1 : H1 p = some (.dK (pen ka kb kc lc (n + 1) m)) := by rw [← hH1]; exact upd_same
      have hl1 : H1 lc = some (.lst (cs.map V.int)) := kp1 _ _ hlc rfl
      refine ⟨_, rfl, p, .ref lc, rfl, gA _ _ _ hp1, (by decide), fun q hq => ?_⟩
      have hp2 : upd H1 q (.lst []) p = some (.dK (pen ka kb kc lc (n + 1) m)) := upd_new hq hp1
      have hl2 : upd H1 q (.lst []) lc = some (.lst (cs.map V.int)) := upd_new hq hl1
      have kp2 : Kp H (upd H1 q (.lst [])) := kp_new kp1 hq
      refine ⟨lc, q, cs, [], rfl, rfl, hl2, upd_same, _, rfl, br (fun e1 => ?_) (fun e1 => ?_)⟩
      · have hne : 0 < cs.length := List.length_pos_iff.mpr (by simpa using e1)
        have hix : n % cs.length < cs.length := Nat.mod_lt _ hne
        refine ⟨_, rfl, p, .ref lc, rfl, gA _ _ _ hp2, _, rfl, _, rfl, _, rfl, p, .ref lc, rfl, gA _ _ _ hp2, lc, _, rfl, .inl hl2, n, (cs.map V.int).length, rfl, rfl, (by rw [List.length_map]; exact hne), lc, _, n % (cs.map V.int).length, .int cs[n % cs.length], rfl, rfl, .inl hl2, ?_, ?_⟩
        · rw [List.length_map, List.getElem?_map, List.getElem?_eq_getElem hix]
          rfl
        · refine ⟨_, rfl, _, rfl, p, .ref lc, rfl, gA _ _ _ hp2, lc, _, rfl, .inl hl2, _, _, rfl, rfl, _, rfl, br (fun e2 => ?_) (fun e2 => ?_)⟩
          · refine ⟨_, rfl, _, rfl, 10, 18, rfl, rfl, ⟨by decide, by decide⟩, _, _, rfl, rfl, _, rfl, br (fun e3 => ?_) (fun e3 => ?_)⟩
            · have e4 := of_decide_eq_true e3
              have e5 : 10 ^ 18 ≤ Int.natAbs _ := Int.ofNat_le.mp e4
              refine ⟨_, rfl, _, rfl, 10, 18, rfl, rfl, ⟨by decide, by decide⟩, _, _, rfl, rfl, e5, _, rfl, _, sp, rfl, rfl, ⟨hs0, hs1⟩, _, rfl, p, _, rfl, pC _ _ _ _ hp2, ?_⟩
              refine ⟨_, rfl, _, rfl, 10, 18, rfl, rfl, ⟨by decide, by decide⟩, _, _, rfl, rfl, e5, _, rfl, _, rfl, _, sp, rfl, rfl, hs0, ?_⟩
              exact k _ _ (Nat.mod_lt _ hs0) ⟨cs, _, _, upd_same, (upd_ne hlp).trans hl2, by omega⟩ (kp2.trans (kpU _ _ _ _ _ hp2))
            · refine ⟨_, rfl, _, rfl, _, 2147483549, rfl, rfl, (by decide), _, 48611, rfl, rfl, md_lt (by decide) (by decide), _, rfl, 30029, n, rfl, rfl, (by decide), _, rfl, _, n, rfl, rfl, (by show 30029 * n < 18446744073709551616; omega), _, _, rfl, rfl, ?_⟩
              refine ⟨_, rfl, _, rfl, 701, n, rfl, rfl, (by decide), _, _, rfl, rfl, _, 83, rfl, rfl, _, rfl, _, 2147483543, rfl, rfl, (by decide), ?_⟩
              refine ⟨_, rfl, _, rfl, _, _, rfl, rfl, mn_lt (by decide) (by decide), _, rfl, 40111, _, rfl, rfl, (by decide), _, _, rfl, rfl, _, rfl, 73, n, rfl, rfl, (by decide), _, _, rfl, rfl, _, 19, rfl, rfl, _, rfl, _, 2147483497, rfl, rfl, (by decide), ?_⟩
              refine ⟨_, rfl, _, rfl, _, _, rfl, rfl, mn_lt (by decide) (by decide), _, rfl, 31013, _, rfl, rfl, (by decide), _, _, rfl, rfl, _, rfl, _, n, rfl, rfl, _, rfl, _, 2147483489, rfl, rfl, (by decide), ?_⟩
              refine ⟨_, rfl, _, rfl, _, 44017, rfl, rfl, _, _, rfl, rfl, mn_lt (by decide) (by decide), _, rfl, _, 2147483477, rfl, rfl, (by decide), _, 64, rfl, rfl, ⟨by decide, by decide⟩, _, rfl, _, rfl, _, sp, rfl, rfl, hs0, ?_⟩
              exact k _ _ (Nat.mod_lt _ hs0) ⟨cs, n + 1, m, hp2, hl2, by omega⟩ kp2
          · refine ⟨_, rfl, _, rfl, _, 2147483549, rfl, rfl, (by decide), _, 48611, rfl, rfl, md_lt (by decide) (by decide), _, rfl, 30029, n, rfl, rfl, (by decide), _, rfl, _, n, rfl, rfl, (by show 30029 * n < 18446744073709551616; omega), _, _, rfl, rfl, ?_⟩
            refine ⟨_, rfl, _, rfl, 701, n, rfl, rfl, (by decide), _, _, rfl, rfl, _, 83, rfl, rfl, _, rfl, _, 2147483543, rfl, rfl, (by decide), ?_⟩
            refine ⟨_, rfl, _, rfl, _, _, rfl, rfl, mn_lt (by decide) (by decide), _, rfl, 40111, _, rfl, rfl, (by decide), _, _, rfl, rfl, _, rfl, 73, n, rfl, rfl, (by decide), _, _, rfl, rfl, _, 19, rfl, rfl, _, rfl, _, 2147483497, rfl, rfl, (by decide), ?_⟩
            refine ⟨_, rfl, _, rfl, _, _, rfl, rfl, mn_lt (by decide) (by decide), _, rfl, 31013, _, rfl, rfl, (by decide), _, _, rfl, rfl, _, rfl, _, n, rfl, rfl, _, rfl, _, 2147483489, rfl, rfl, (by decide), ?_⟩
            refine ⟨_, rfl, _, rfl, _, 44017, rfl, rfl, _, _, rfl, rfl, mn_lt (by decide) (by decide), _, rfl, _, 2147483477, rfl, rfl, (by decide), _, 64, rfl, rfl, ⟨by decide, by decide⟩, _, rfl, _, rfl, _, sp, rfl, rfl, hs0, ?_⟩
            exact k _ _ (Nat.mod_lt _ hs0) ⟨cs, n + 1, m, hp2, hl2, by omega⟩ kp2
      · refine ⟨_, rfl, _, rfl, p, .ref lc, rfl, gA _ _ _ hp2, lc, _, rfl, .inl hl2, _, _, rfl, rfl, _, rfl, br (fun e2 => ?_) (fun e2 => ?_)⟩
        · refine ⟨_, rfl, _, rfl, 10, 18, rfl, rfl, ⟨by decide, by decide⟩, _, _, rfl, rfl, _, rfl, br (fun e3 => ?_) (fun e3 => ?_)⟩
          · have e4 := of_decide_eq_true e3
            have e5 : 10 ^ 18 ≤ Int.natAbs _ := Int.ofNat_le.mp e4
            refine ⟨_, rfl, _, rfl, 10, 18, rfl, rfl, ⟨by decide, by decide⟩, _, _, rfl, rfl, e5, _, rfl, _, sp, rfl, rfl, ⟨hs0, hs1⟩, _, rfl, p, _, rfl, pC _ _ _ _ hp2, ?_⟩
            refine ⟨_, rfl, _, rfl, 10, 18, rfl, rfl, ⟨by decide, by decide⟩, _, _, rfl, rfl, e5, _, rfl, _, rfl, _, sp, rfl, rfl, hs0, ?_⟩
            exact k _ _ (Nat.mod_lt _ hs0) ⟨cs, _, _, upd_same, (upd_ne hlp).trans hl2, by omega⟩ (kp2.trans (kpU _ _ _ _ _ hp2))
          · refine ⟨_, rfl, _, rfl, _, 2147483549, rfl, rfl, (by decide), _, 48611, rfl, rfl, md_lt (by decide) (by decide), _, rfl, 30029, n, rfl, rfl, (by decide), _, rfl, _, n, rfl, rfl, (by show 30029 * n < 18446744073709551616; omega), _, _, rfl, rfl, ?_⟩
            refine ⟨_, rfl, _, rfl, 701, n, rfl, rfl, (by decide), _, _, rfl, rfl, _, 83, rfl, rfl, _, rfl, _, 2147483543, rfl, rfl, (by decide), ?_⟩
            refine ⟨_, rfl, _, rfl, _, _, rfl, rfl, mn_lt (by decide) (by decide), _, rfl, 40111, _, rfl, rfl, (by decide), _, _, rfl, rfl, _, rfl, 73, n, rfl, rfl, (by decide), _, _, rfl, rfl, _, 19, rfl, rfl, _, rfl, _, 2147483497, rfl, rfl, (by decide), ?_⟩
            refine ⟨_, rfl, _, rfl, _, _, rfl, rfl, mn_lt (by decide) (by decide), _, rfl, 31013, _, rfl, rfl, (by decide), _, _, rfl, rfl, _, rfl, _, n, rfl, rfl, _, rfl, _, 2147483489, rfl, rfl, (by decide), ?_⟩
            refine ⟨_, rfl, _, rfl, _, 44017, rfl, rfl, _, _, rfl, rfl, mn_lt (by decide) (by decide), _, rfl, _, 2147483477, rfl, rfl, (by decide), _, 64, rfl, rfl, ⟨by decide, by decide⟩, _, rfl, _, rfl, _, sp, rfl, rfl, hs0, ?_⟩
            exact k _ _ (Nat.mod_lt _ hs0) ⟨cs, n + 1, m, hp2, hl2, by omega⟩ kp2
        · refine ⟨_, rfl, _, rfl, _, 2147483549, rfl, rfl, (by decide), _, 48611, rfl, rfl, md_lt (by decide) (by decide), _, rfl, 30029, n, rfl, rfl, (by decide), _, rfl, _, n, rfl, rfl, (by show 30029 * n < 18446744073709551616; omega), _, _, rfl, rfl, ?_⟩
          refine ⟨_, rfl, _, rfl, 701, n, rfl, rfl, (by decide), _, _, rfl, rfl, _, 83, rfl, rfl, _, rfl, _, 2147483543, rfl, rfl, (by decide), ?_⟩
          refine ⟨_, rfl, _, rfl, _, _, rfl, rfl, mn_lt (by decide) (by decide), _, rfl, 40111, _, rfl, rfl, (by decide), _, _, rfl, rfl, _, rfl, 73, n, rfl, rfl, (by decide), _, _, rfl, rfl, _, 19, rfl, rfl, _, rfl, _, 2147483497, rfl, rfl, (by decide), ?_⟩
          refine ⟨_, rfl, _, rfl, _, _, rfl, rfl, mn_lt (by decide) (by decide), _, rfl, 31013, _, rfl, rfl, (by decide), _, _, rfl, rfl, _, rfl, _, n, rfl, rfl, _, rfl, _, 2147483489, rfl, rfl, (by decide), ?_⟩
          refine ⟨_, rfl, _, rfl, _, 44017, rfl, rfl, _, _, rfl, rfl, mn_lt (by decide) (by decide), _, rfl, _, 2147483477, rfl, rfl, (by decide), _, 64, rfl, rfl, ⟨by decide, by decide⟩, _, rfl, _, rfl, _, sp, rfl, rfl, hs0, ?_⟩
          exact k _ _ (Nat.mod_lt _ hs0) ⟨cs, n + 1, m, hp2, hl2, by omega⟩ kp2
end
end LaneX
set_option Elab.async false
set_option linter.all false
set_option maxRecDepth 100000
set_option maxHeartbeats 4000000
namespace LaneX
open PySem PySem.Spec PyProof.Rows L2
def sp_begin (K : PySem.W.Frag) : Sp := fun vs H Q _ => ∃ (a : Addr) (ns : List Int), vs = [.ref a] ∧ SqL K H a (ns.map V.int) ∧ ∀ H' p lc, Same H H' → H p = none → Pn H' p lc 0 → Q (.ref p) H'
/-- one of some values -/
def sp_pick : Sp := fun vs H Q _ => ∃ (p lc a : Addr) (N : Nat) (xs : List V), vs = [.ref p, .ref a] ∧ Pn H p lc N ∧ Tq H a xs ∧ 0 < xs.length ∧ xs.length ≤ 1000000 ∧ N + 1 ≤ TOP ∧ ∀ H' v, v ∈ xs → Pn H' p lc (N + 1) → Kp H H' → Q v H'
def sp_word : Sp := fun vs H Q _ => ∃ (p lc : Addr) (N b : Nat), vs = [.ref p, vN b] ∧ Pn H p lc N ∧ b ≤ 1000 ∧ N + 1000 ≤ TOP ∧ ∀ H' x, x < 2 ^ b → Pn H' p lc (N + 1000) → Kp H H' → Q (vN x) H'
def sp_mixed : Sp := fun vs H Q _ => ∃ (p lc a : Addr) (N : Nat) (xs : List Nat), vs = [.ref p, .ref a] ∧ Pn H p lc N ∧ Tq H a (xs.map vN) ∧ xs.length ≤ 1000 ∧ N + 1000 ≤ TOP ∧ ∀ (H' : Hp) (q : Addr) (ys : List Nat), ys.Perm xs → H q = none → H' q = some (.lst (ys.map vN)) → Pn H' p lc (N + 1000) → Kp H H' → Q (.ref q) H'
def sp_left : Sp := fun vs H Q _ => ∃ (a : Addr) (rows : List Nat) (x : Nat), vs = [.ref a, vN x] ∧ Tq H a (rows.map vN) ∧ (∀ r ∈ rows, r ≠ 0) ∧ Q (vN (lft rows x)) H
def sp_basis : Sp := fun vs H Q _ => ∃ (a : Addr) (ws : List Nat), vs = [.ref a] ∧ Tq H a (ws.map vN) ∧ ws.length ≤ 1000000 ∧ ∀ H' q, Same H H' → H q = none → H' q = some (.lst ((bas ws).map vN)) → Q (.ref q) H'
def sp_size : Sp := fun vs H Q _ => ∃ (a : Addr) (ws : List Nat), vs = [.ref a] ∧ Tq H a (ws.map vN) ∧ ws.length ≤ 1000000 ∧ ∀ H', Same H H' → Q (vN (rk ws)) H'
def sp_image : Sp := fun vs H Q _ => ∃ (a : Addr) (cs : List Nat) (x : Nat), vs = [.ref a, vN x] ∧ Tq H a (cs.map vN) ∧ cs.length ≤ 1000000 ∧ Q (vN (img cs x)) H
def cutI (xs : List Int) (lo hi : Option Int) : List Int := (xs.drop (HT.sIx xs.length 0 lo)).take (HT.sIx xs.length xs.length hi - HT.sIx xs.length 0 lo)
theorem cut_map (xs : List Int) (lo hi : Option Int) : cutV (xs.map V.int) lo hi = (cutI xs lo hi).map V.int := by
  unfold cutV cutI
  rw [List.length_map, List.map_take, List.map_drop]
theorem seq_nat {r n : Nat} (h : r < n) : seqIndex? (r : Int) n = some r := by
  unfold seqIndex?
  have h1 : ¬ (r : Int) < 0 := by omega
  simp only [h1, if_false]
  have h2 : (decide (0 ≤ (r : Int)) && decide ((r : Int) < (n : Int))) = true := by
    rw [decide_eq_true (by omega), decide_eq_true (by omega)]
    rfl
  rw [if_pos h2]
  simp
theorem eraseIdx_map {α β : Type} (g : α → β) : ∀ (l : List α) (r : Nat), (l.map g).eraseIdx r = (l.eraseIdx r).map g
  | [], _ => rfl
  | _ :: _, 0 => rfl
  | a :: l, r + 1 => by
    show g a :: (l.map g).eraseIdx r = g a :: (l.eraseIdx r).map g
    rw [eraseIdx_map g l r]
theorem perm_erase {α : Type} : ∀ {l : List α} {r : Nat} (h : r < l.length), (l[r] :: l.eraseIdx r).Perm l
  | [], r, h => by cases h
  | a :: l, 0, _ => .refl _
  | a :: l, r + 1, h => by
    have := perm_erase (l := l) (r := r) (by simpa using h)
    exact (List.Perm.swap _ _ _).trans (this.cons a)
section
variable {P : Program} {w : World} {K : PySem.W.Frag} {mg : Str → Option Value} {base : Heap} {f : Addr} {fd : FuncData} (T : Bt mg)
include T
theorem ok_begin (F : FnP K "_law_begin" "_law_begin" s_beginL f fd) : FnOk P w K mg base CX0 1 f fd ["_law_script"] (sp_begin K) := by
  have nd := sc_beginL.nd
  refine fnok F sc_beginL (fun vs H Q E h => ?_) (fun cdv A outer s H vs Q E hr h => ?_)
  · obtain ⟨a, ns, rfl, _⟩ := h
    rfl
  · obtain ⟨a, ns, rfl, hS, k⟩ := h
    refine ⟨_, (pss_one (ps_ret (pe_disp (pps_cons pe_str (pe_callTy call_listQ (by rfl) T.list (by decide +kernel) (pa_cons (pe_slice sl_list (pv 0) po_none (po_some pe_int)) pa_nil)) (pps_cons pe_str pe_int (pps_cons pe_str pe_int pps_nil))) (by rfl) (by rfl) (fun z => by cases z) (by decide)))), ?_⟩
    intro p hp
    refine ⟨_, rfl, _, rfl, a, _, rfl, Same.seq (same_new0 hp) hS, fun l1 hl1 => ?_⟩
    refine ⟨l1, _, rfl, .inl upd_same, fun l2 hl2 => ?_⟩
    have np1 : p ≠ l1 := ne_of_none upd_same hl1
    have np2 : p ≠ l2 := ne_of_none (upd_put upd_same np1) hl2
    refine ⟨upd_put (upd_put upd_same np1) np2, [(.inr ka, .ref l2), (.inr kb, .int 0), (.inr kc, .int 0)], rfl, (by show 3 ≤ 15; decide), ?_⟩
    have em : mergeK [] [((.inr ka : Key), V.ref l2), (.inr kb, .int 0), (.inr kc, .int 0)] = pen ka kb kc l2 0 0 := by
      unfold mergeK pen putK
      simp [kN.ab, kN.ac, kN.bc]
    rw [em]
    refine k _ _ l2 (fun b o hb => ?_) hp ⟨cutI ns none (some 63), 0, 0, upd_same, ?_, Nat.le_refl _⟩
    · have hb1 := upd_new (o := .dK []) hp hb
      have hb2 := upd_new (o := .lst (cutV (ns.map V.int) none (some 63))) hl1 hb1
      have hb3 := upd_new (o := .lst (cutV (ns.map V.int) none (some 63))) hl2 hb2
      exact upd_put hb3 (ne_of_none hb hp)
    · rw [← cut_map]
      exact upd_put upd_same np2.symm
theorem ok_pick (F : FnP K "_law_pick" "_law_pick" s_pickL f fd) (D_drawL : Dn P w K mg base 1 "_law_draw" ["_law_pen", "_law_span"] sp_draw) : FnOk P w K mg base CX0 2 f fd ["_law_pen", "_law_some"] sp_pick := by
  have nd := sc_pickL.nd
  refine fnok F sc_pickL (fun vs H Q E h => ?_) (fun cdv A outer s H vs Q E hr h => ?_)
  · obtain ⟨p, lc, a, N, xs, rfl, _⟩ := h
    rfl
  · obtain ⟨p, lc, a, N, xs, rfl, hp, hS, h0, h1, hN, k⟩ := h
    refine ⟨_, (pss_one (ps_ret (pe_ix ix_q (pv 1) (pe_d D_drawL hr (pa_cons (pv 0) (pa_cons (pe_callB call_lenQ (by rfl) T.len PySem.boot_len (pa_cons (pv 1) pa_nil)) pa_nil))) (fun _ _ => rfl)))), ?_⟩
    refine ⟨_, rfl, _, rfl, _, rfl, a, xs, rfl, hS, p, lc, N, xs.length, rfl, hp, h0, (by omega), hN, fun H' r hr' hp' kp => ?_⟩
    exact ⟨a, xs, r, _, rfl, rfl, kp_tq kp hS, List.getElem?_eq_getElem hr', k _ _ (List.getElem_mem hr') hp' kp⟩
theorem ok_word (F : FnP K "_law_word" "_law_word" s_wordL f fd) (D_drawL : Dn P w K mg base 1 "_law_draw" ["_law_pen", "_law_span"] sp_draw) : FnOk P w K mg base CX0 2 f fd ["_law_pen", "_law_bits"] sp_word := by
  have nd := sc_wordL.nd
  refine fnok F sc_wordL (fun vs H Q E h => ?_) (fun cdv A outer s H vs Q E hr h => ?_)
  · obtain ⟨p, lc, N, b, rfl, _⟩ := h
    rfl
  · obtain ⟨p, lc, N, b, rfl, hp, hb, hN, k⟩ := h
    refine ⟨_, (pss_cons (ps_set (i := 2) nd rfl (Or.inl rfl) pe_int)
  (pss_cons (ps_for PassesOwn.never rfl (pi_range1 (by rfl) T.range (pa_cons (pv 1) pa_nil)) (pg_name (i := 3) nd rfl (Or.inl rfl))
    (pss_one (ps_set (i := 2) nd rfl (Or.inl rfl) (pe_op on_add (pe_op on_mul pe_int (pv 2)) (pe_d D_drawL hr (pa_cons (pv 0) (pa_cons pe_int pa_nil)))))))
  (pss_one (ps_ret (pv 2))))), ?_⟩
    have hN' : N + 1000 ≤ 1099511627776 := hN
    refine ⟨_, rfl, _, rfl, (by omega), (by omega), for_range (n := b) (fun i σ H2 => ∃ x v, σ = [some (.ref p), some (vN b), some (vN x), v] ∧ x < 2 ^ i ∧ Pn H2 p lc (N + i) ∧ Kp H H2) ⟨0, none, rfl, by decide, hp, Kp.refl H⟩ ?_ ?_⟩
    · rintro i σ H2 hi ⟨x, v, rfl, hx, hp2, kp2⟩
      refine ⟨_, rfl, 2, x, rfl, rfl, (by decide), _, rfl, p, lc, N + i, 2, rfl, hp2, (by decide), (by decide), (by show N + i + 1 ≤ 1099511627776; omega), fun H3 r hr3 hp3 kp3 => ?_⟩
      refine ⟨_, _, rfl, rfl, 2 * x + r, _, rfl, ?_, hp3, kp2.trans kp3⟩
      rw [Nat.pow_succ]
      omega
    · rintro σ H2 ⟨x, v, rfl, hx, hp2, kp2⟩
      exact ⟨_, rfl, k _ _ hx (hp2.mono (by omega)) kp2⟩
theorem ok_mixed (F : FnP K "_law_mixed" "_law_mixed" s_mixedL f fd) (D_drawL : Dn P w K mg base 1 "_law_draw" ["_law_pen", "_law_span"] sp_draw) : FnOk P w K mg base CX0 2 f fd ["_law_pen", "_law_some"] sp_mixed := by
  have nd := sc_mixedL.nd
  refine fnok F sc_mixedL (fun vs H Q E h => ?_) (fun cdv A outer s H vs Q E hr h => ?_)
  · obtain ⟨p, lc, a, N, xs, rfl, _⟩ := h
    rfl
  · obtain ⟨p, lc, a, N, xs, rfl, hp, hS, hl, hN, k⟩ := h
    refine ⟨_, (pss_cons (ps_par (i := 2) (j := 3) (by rfl) nd rfl rfl (by decide) rfl rfl (pa_cons (pe_callTy call_listQ (by rfl) T.list (by decide +kernel) (pa_cons (pv 1) pa_nil)) (pa_cons (pe_lst pa_nil) pa_nil)) (by rfl))
  (pss_cons (ps_for PassesOwn.never rfl (pi_range1 (by rfl) T.range (pa_cons (pe_callB call_lenQ (by rfl) T.len PySem.boot_len (pa_cons (pv 1) pa_nil)) pa_nil)) (pg_name (i := 4) nd rfl (Or.inl rfl))
    (pss_one (ps_expr (pe_bm PySem.F.plainAttrs_list PySem.F.slot_list_append PySem.F.type_list_append mt_append (pv 3) (pa_cons (pe_bm PySem.F.plainAttrs_list PySem.F.slot_list_pop PySem.F.type_list_pop mt_popAt (pv 2) (pa_cons (pe_d D_drawL hr (pa_cons (pv 0) (pa_cons (pe_callB call_lenQ (by rfl) T.len PySem.boot_len (pa_cons (pv 2) pa_nil)) pa_nil))) pa_nil)) pa_nil)))))
  (pss_one (ps_ret (pv 3))))), ?_⟩
    have hN' : N + 1000 ≤ 1099511627776 := hN
    refine ⟨_, rfl, a, _, rfl, hS, fun l1 hl1 => ?_⟩
    refine ⟨(by decide), fun l2 hl2 => ⟨_, _, rfl, ?_⟩⟩
    have hl2' : H l2 = none := same_free (same_new0 hl1) hl2
    have n12 : l1 ≠ l2 := ne_of_none upd_same hl2
    have ne1 := hp.ne hl1
    have ne2 := hp.ne hl2'
    have s0 : Same H (upd (upd H l1 (.lst (xs.map vN))) l2 (.lst [])) := same_new (same_new0 hl1) hl2
    refine ⟨_, rfl, a, _, rfl, same_tq s0 hS, _, rfl, (by omega), (by rw [List.length_map]; omega), for_range (n := (xs.map vN).length) (fun i σ H2 => ∃ v ys zs, σ = [some (.ref p), some (.ref a), some (.ref l1), some (.ref l2), v] ∧ Pn H2 p lc (N + i) ∧ Kp H H2 ∧ H2 l1 = some (.lst (ys.map vN)) ∧ H2 l2 = some (.lst (zs.map vN)) ∧ ys.length + i = xs.length ∧ (ys ++ zs).Perm xs)
      ⟨none, xs, [], rfl, (hp.put ne1).put ne2, Kp.of s0, upd_put upd_same n12, upd_same, rfl, by simp⟩ ?_ ?_⟩
    · rintro i σ H2 hi ⟨v, ys, zs, rfl, hp2, kp2, h1, h2, hlen, hperm⟩
      rw [List.length_map] at hi
      have hy : 0 < ys.length := by omega
      refine ⟨_, rfl, .inl ⟨rfl, _, SqL.of h2⟩, _, rfl, .inl ⟨rfl, _, SqL.of h1⟩, _, rfl, _, rfl, l1, _, rfl, .inl h1, p, lc, N + i, (ys.map vN).length, rfl, hp2, (by rw [List.length_map]; exact hy), (by rw [List.length_map]; omega), (by show N + i + 1 ≤ 1099511627776; omega), fun H3 r hr3 hp3 kp3 => ?_⟩
      rw [List.length_map] at hr3
      have g1 := kp3 _ _ h1 rfl
      have g2 := kp3 _ _ h2 rfl
      refine ⟨l1, _, (r : Int), r, vN ys[r], rfl, rfl, g1, (by omega), (by omega), ?_, ?_, ?_⟩
      · rw [List.length_map]
        exact seq_nat hr3
      · rw [List.getElem?_map, List.getElem?_eq_getElem hr3]
        rfl
      · refine ⟨l2, _, _, rfl, rfl, upd_put g2 n12.symm, (by rw [List.length_map]; refine size6 ?_; have := hperm.length_eq; rw [List.length_append] at this; omega), ?_⟩
        refine ⟨_, ys.eraseIdx r, zs ++ [ys[r]], rfl, (hp3.put ne1).put ne2, ?_, ?_, ?_, ?_, ?_⟩
        · exact kp_put (kp_put (kp2.trans kp3) hl1) hl2'
        · rw [upd_ne n12, upd_same, eraseIdx_map]
        · rw [upd_same, List.map_append]
          rfl
        · rw [List.length_eraseIdx, if_pos hr3]
          omega
        · refine List.Perm.trans ?_ hperm
          have e1 : (ys[r] :: ys.eraseIdx r).Perm ys := perm_erase hr3
          have e2 : (ys.eraseIdx r ++ (zs ++ [ys[r]])).Perm (ys[r] :: (ys.eraseIdx r ++ zs)) := by
            rw [← List.append_assoc]
            exact List.perm_append_comm
          exact e2.trans (e1.append_right zs)
    · rintro σ H2 ⟨v, ys, zs, rfl, hp2, kp2, h1, h2, hlen, hperm⟩
      rw [List.length_map] at hlen hp2
      have e : ys = [] := List.length_eq_zero_iff.mp (by omega)
      subst e
      exact ⟨_, rfl, k _ _ zs hperm hl2' h2 (hp2.mono (by omega)) kp2⟩
end
end LaneX
set_option Elab.async false
set_option linter.all false
set_option maxRecDepth 100000
set_option maxHeartbeats 4000000
namespace LaneX
open PySem PySem.Spec PyProof.Rows L2
theorem dec_low {x r : Nat} (h : r ≠ 0) : (!decide (V.int ((x &&& lwb r : Nat) : Int) = V.int 0)) = x.testBit (low r) := by
  rw [dec_ne0]
  cases q : x.testBit (low r) with
  | true =>
    have := (and_lwb (w := x) h).mpr q
    simp [this]
  | false =>
    have : x &&& lwb r = 0 := Classical.byContradiction fun z => by rw [(and_lwb h).mp z] at q; cases q
    simp [this]
/-- pairs of a row and its tag -/
def PrsAt (H : Hp) (ts : List Addr) (ps : List (Nat × Nat)) : Prop := ts.length = ps.length ∧ ∀ (i : Nat) (t : Addr), ts[i]? = some t → ∃ p, ps[i]? = some p ∧ H t = some (.tup [vN p.1, vN p.2])
theorem PrsAt.keep {H H' : Hp} {ts : List Addr} {ps : List (Nat × Nat)} (h : PrsAt H ts ps) (k : ∀ b xs, H b = some (.tup xs) → H' b = some (.tup xs)) : PrsAt H' ts ps :=
  ⟨h.1, fun i t ht => by obtain ⟨p, h1, h2⟩ := h.2 i t ht; exact ⟨p, h1, k _ _ h2⟩⟩
theorem PrsAt.snoc {H : Hp} {ts : List Addr} {ps : List (Nat × Nat)} (h : PrsAt H ts ps) {t : Addr} {p : Nat × Nat} (ht : H t = some (.tup [vN p.1, vN p.2])) : PrsAt H (ts ++ [t]) (ps ++ [p]) := by
  refine ⟨by simp [h.1], fun i t' hi => ?_⟩
  by_cases hl : i < ts.length
  · rw [List.getElem?_append_left hl] at hi
    obtain ⟨p', h1, h2⟩ := h.2 i t' hi
    exact ⟨p', by rw [List.getElem?_append_left (by rw [← h.1]; exact hl)]; exact h1, h2⟩
  · rw [List.getElem?_append_right (by omega)] at hi
    have e : i - ts.length = 0 := by
      cases q : i - ts.length with
      | zero => rfl
      | succ n => rw [q] at hi; simp at hi
    rw [e] at hi
    have e2 : t = t' := Option.some.inj hi
    subst e2
    refine ⟨p, ?_, ht⟩
    rw [List.getElem?_append_right (by rw [← h.1]; omega), ← h.1, e]
    rfl
def sp_tagged : Sp := fun vs H Q _ => ∃ (a : Addr) (cs : List Nat), vs = [.ref a] ∧ Tq H a (cs.map vN) ∧ cs.length ≤ 1000000 ∧ ∀ H' q l1 l2, Same H H' → H' q = some (.tup [.ref l1, .ref l2]) → H l2 = none → H' l2 = some (.lst ((tgd cs).2.map vN)) → Q (.ref q) H'
def sp_kernel : Sp := fun vs H Q _ => ∃ (a : Addr) (cs : List Nat), vs = [.ref a] ∧ Tq H a (cs.map vN) ∧ cs.length ≤ 1000000 ∧ ∀ H' q, Same H H' → H q = none → H' q = some (.lst ((tgd cs).2.map vN)) → Q (.ref q) H'
def sp_is_word : Sp := fun vs H Q _ => ∃ n b : Nat, vs = [vN n, vN b] ∧ b ≤ 1000000 ∧ Q (.bl (decide (n < 2 ^ b))) H
def sp_is_space (C : Addr) : Sp := fun vs H Q _ => ∃ (p a : Addr) (b : Nat) (rows ws : List Nat), vs = [.ref p, vN b, .ref a] ∧ SpaceAt C H p b rows ∧ Tq H a (ws.map vN) ∧ ws.length ≤ 400000 ∧ rows.length ≤ 400000 ∧ rows.length = rk ws ∧ rk (ws ++ rows) = rows.length ∧ ∀ H', Same H H' → Q (.bl true) H'
theorem tgl_snoc (a : List (Nat × Nat)) (r : Nat × Nat) (st : Nat × Nat) : tgl (a ++ [r]) st = if (tgl a st).1.testBit (low r.1) = true then ((tgl a st).1 ^^^ r.1, (tgl a st).2 ^^^ r.2) else tgl a st := List.foldl_append ..
theorem tgs_nz (cols : List Nat) : ∀ n, ∀ p ∈ (tgs cols n).1, p.1 ≠ 0
  | 0, p, h => by cases h
  | n + 1, p, h => by
    rw [tgs_succ] at h
    split at h
    · exact tgs_nz cols n p h
    · rename_i hz
      rcases List.mem_append.mp h with h | h
      · exact tgs_nz cols n p h
      · rcases List.mem_singleton.mp h with rfl; exact hz
section
variable {P : Program} {w : World} {K : PySem.W.Frag} {mg : Str → Option Value} {base : Heap} {f : Addr} {fd : FuncData} {CS : Addr} (T : Bt mg) (TS : SpaceT K mg CS)
include T
theorem ok_left (F : FnP K "_law_left" "_law_left" s_leftL f fd) : FnOk P w K mg base CX0 1 f fd ["_law_rows", "_law_word_here"] sp_left := by
  have nd := sc_leftL.nd
  refine fnok F sc_leftL (fun vs H Q E h => ?_) (fun cdv A outer s H vs Q E hr h => ?_)
  · obtain ⟨a, rows, x, rfl, _⟩ := h
    rfl
  · obtain ⟨a, rows, x, rfl, hS, hn, k⟩ := h
    refine ⟨_, (pss_cons (ps_for PassesOwn.never rfl (pi_seq (pv 0)) (pg_name (i := 2) nd rfl (Or.inl rfl))
    (pss_one (ps_if (pt_cmpR op_ne (pe_op on_and (pv 1) (pe_op on_low (pv 2) (pe_un un_neg (pv 2)))) pe_int (nomark _))
      (pss_one (ps_set (i := 1) nd rfl (Or.inl rfl) (pe_op on_xor (pv 1) (pv 2))))
      pss_nil)))
  (pss_one (ps_ret (pv 1)))), ?_⟩
    refine ⟨_, rfl, for_seq (K := K) hS.sq (fun i σ H2 => ∃ v, σ = [some (.ref a), some (vN (lft (rows.take i) x)), v] ∧ H2 = H) ⟨none, rfl, rfl⟩ (fun i σ H2 hp => by obtain ⟨_, _, rfl⟩ := hp; exact Kp.refl _) ?_ ?_⟩
    · rintro i y σ H2 hy ⟨v, rfl, rfl⟩
      obtain ⟨r, hr', rfl⟩ := map_get hy
      refine ⟨_, rfl, _, rfl, _, rfl, _, rfl, r, rfl, rfl, _, _, rfl, rfl, rfl, _, rfl, ?_⟩
      rw [take_succ hr', lft_snoc, dec_low (hn r (List.mem_of_getElem? hr'))]
      cases q : (lft (rows.take i) x).testBit (low r) with
      | true => exact iteT ⟨_, rfl, _, rfl, _, _, rfl, rfl, _, rfl, rfl⟩
      | false => exact iteF ⟨_, rfl, rfl⟩
    · rintro σ H2 ⟨v, rfl, rfl⟩
      refine ⟨_, rfl, ?_⟩
      rw [List.length_map, List.take_length]
      exact k
theorem ok_basis (F : FnP K "_law_basis" "_law_basis" s_basisL f fd) (D_leftL : Dn P w K mg base 1 "_law_left" ["_law_rows", "_law_word_here"] sp_left) : FnOk P w K mg base CX0 2 f fd ["_law_words"] sp_basis := by
  have nd := sc_basisL.nd
  refine fnok F sc_basisL (fun vs H Q E h => ?_) (fun cdv A outer s H vs Q E hr h => ?_)
  · obtain ⟨a, ws, rfl, _⟩ := h
    rfl
  · obtain ⟨a, ws, rfl, hS, hl, k⟩ := h
    refine ⟨_, (pss_cons (ps_set (i := 1) nd rfl (Or.inl rfl) (pe_lst pa_nil))
  (pss_cons (ps_for PassesOwn.never rfl (pi_seq (pv 0)) (pg_name (i := 2) nd rfl (Or.inl rfl))
    (pss_cons (ps_set (i := 2) nd rfl (Or.inl rfl) (pe_d D_leftL hr (pa_cons (pv 1) (pa_cons (pv 2) pa_nil))))
    (pss_one (ps_if (pt_cmpR op_ne (pv 2) pe_int (nomark _))
      (pss_one (ps_expr (pe_bm PySem.F.plainAttrs_list PySem.F.slot_list_append PySem.F.type_list_append mt_append (pv 1) (pa_cons (pv 2) pa_nil))))
      pss_nil))))
  (pss_one (ps_ret (pv 1))))), ?_⟩
    refine ⟨(by decide), fun l0 hl0 => ?_⟩
    have s0 : Same H (upd H l0 (.lst [])) := same_new0 hl0
    have an : a ≠ l0 := by
      rcases hS with h | h
      · exact ne_of_none h hl0
      · exact ne_of_none h hl0
    refine ⟨_, rfl, for_sq2 (K := K) (same_tq s0 hS) (fun i σ H2 => ∃ v, σ = [some (.ref a), some (.ref l0), v] ∧ Same H H2 ∧ H2 l0 = some (.lst ((bas (ws.take i)).map vN))) ⟨none, rfl, s0, upd_same⟩ (fun i σ H2 hp o ho => ?_) ?_ ?_⟩
    · obtain ⟨_, _, s2, _⟩ := hp
      rw [upd_ne an] at ho
      exact s2 _ _ ho
    · rintro i y σ H2 hy ⟨v, rfl, s2, h2⟩
      obtain ⟨r, hr', rfl⟩ := map_get hy
      refine ⟨_, rfl, _, rfl, l0, _, r, rfl, .inl h2, (bas_lws _).nz, ?_⟩
      refine ⟨_, rfl, rfl, _, rfl, ?_⟩
      rw [dec_ne0, take_succ hr', bas_snoc]
      unfold bstep
      refine br (fun e => ?_) (fun e => ?_)
      · have e0 : lft (bas (ws.take i)) r ≠ 0 := by simpa using e
        rw [if_neg e0]
        have tl : (bas (ws.take i)).length ≤ 1000000 := Nat.le_trans (bas_len_le _) (Nat.le_trans (by rw [List.length_take]; omega) hl)
        refine ⟨_, rfl, .inl ⟨rfl, _, SqL.of h2⟩, _, rfl, l0, _, _, rfl, rfl, h2, (by rw [List.length_map]; exact size6 tl), ?_⟩
        refine ⟨_, rfl, same_put s2 hl0, ?_⟩
        rw [upd_same, List.map_append]
        rfl
      · have e0 : lft (bas (ws.take i)) r = 0 := by simpa using e
        rw [if_pos e0]
        exact ⟨_, rfl, s2, h2⟩
    · rintro σ H2 ⟨v, rfl, s2, h2⟩
      rw [List.length_map, List.take_length] at h2
      exact ⟨_, rfl, k _ _ s2 hl0 h2⟩
theorem ok_size (F : FnP K "_law_size" "_law_size" s_sizeL f fd) (D_basisL : Dn P w K mg base 2 "_law_basis" ["_law_words"] sp_basis) : FnOk P w K mg base CX0 3 f fd ["_law_words"] sp_size := by
  have nd := sc_sizeL.nd
  refine fnok F sc_sizeL (fun vs H Q E h => ?_) (fun cdv A outer s H vs Q E hr h => ?_)
  · obtain ⟨a, ws, rfl, _⟩ := h
    rfl
  · obtain ⟨a, ws, rfl, hS, hl, k⟩ := h
    refine ⟨_, (pss_one (ps_ret (pe_callB call_lenQ (by rfl) T.len PySem.boot_len (pa_cons (pe_d D_basisL hr (pa_cons (pv 0) pa_nil)) pa_nil)))), ?_⟩
    refine ⟨_, rfl, a, ws, rfl, hS, hl, fun H1 q s1 hq h1 => ⟨q, _, rfl, .inl h1, ?_⟩⟩
    rw [List.length_map, bas_len]
    exact k _ s1
theorem ok_image (F : FnP K "_law_image" "_law_image" s_imageL f fd) : FnOk P w K mg base CX0 1 f fd ["_law_columns", "_law_word_here"] sp_image := by
  have nd := sc_imageL.nd
  refine fnok F sc_imageL (fun vs H Q E h => ?_) (fun cdv A outer s H vs Q E hr h => ?_)
  · obtain ⟨a, cs, x, rfl, _⟩ := h
    rfl
  · obtain ⟨a, cs, x, rfl, hS, hl, k⟩ := h
    refine ⟨_, (pss_cons (ps_set (i := 2) nd rfl (Or.inl rfl) pe_int)
  (pss_cons (ps_for PassesOwn.never rfl (pi_range1 (by rfl) T.range (pa_cons (pe_callB call_lenQ (by rfl) T.len PySem.boot_len (pa_cons (pv 0) pa_nil)) pa_nil)) (pg_name (i := 3) nd rfl (Or.inl rfl))
    (pss_one (ps_if (pt_cmpR op_eq (pe_op on_and (pe_op on_shr (pv 1) (pv 3)) pe_int) pe_int (nomark _))
      (pss_one (ps_set (i := 2) nd rfl (Or.inl rfl) (pe_op on_xor (pv 2) (pe_ix ix_q (pv 0) (pv 3) (fun _ _ => rfl)))))
      pss_nil)))
  (pss_one (ps_ret (pv 2))))), ?_⟩
    refine ⟨_, rfl, a, _, rfl, hS, _, rfl, (by omega), (by rw [List.length_map]; omega), for_range (n := (cs.map vN).length) (fun i σ H2 => ∃ v, σ = [some (.ref a), some (vN x), some (vN (imf cs x i)), v] ∧ H2 = H) ⟨none, rfl, rfl⟩ ?_ ?_⟩
    · rintro i σ H2 hi ⟨v, rfl, rfl⟩
      rw [List.length_map] at hi
      rw [show (0 : Int) + (i : Int) = (i : Int) by omega]
      have hg : (cs.map vN)[i]? = some (vN (cs.getD i 0)) := by
        rw [List.getElem?_map, List.getElem?_eq_getElem hi, List.getD_eq_getElem?_getD, List.getElem?_eq_getElem hi]
        rfl
      refine ⟨_, rfl, _, rfl, _, _, rfl, rfl, _, 1, rfl, rfl, rfl, _, rfl, ?_⟩
      rw [dec_bit, imf_succ]
      cases q : x.testBit i with
      | true => exact iteT ⟨_, rfl, _, rfl, _, rfl, a, _, i, _, rfl, rfl, hS, hg, _, _, rfl, rfl, _, rfl, rfl⟩
      | false => exact iteF ⟨_, rfl, rfl⟩
    · rintro σ H2 ⟨v, rfl, rfl⟩
      refine ⟨_, rfl, ?_⟩
      rw [List.length_map]
      exact k
end
end LaneX
set_option Elab.async false
set_option linter.all false
set_option maxRecDepth 100000
set_option maxHeartbeats 4000000
namespace LaneX
open PySem PySem.Spec PyProof.Rows L2
section
variable {P : Program} {w : World} {K : PySem.W.Frag} {mg : Str → Option Value} {base : Heap} {f : Addr} {fd : FuncData} {CS : Addr} (T : Bt mg) (TS : SpaceT K mg CS)
include T
theorem ok_tagged (F : FnP K "_law_tagged" "_law_tagged" s_taggedL f fd) : FnOk P w K mg base CX0 1 f fd ["_law_columns"] sp_tagged := by
  have nd := sc_taggedL.nd
  refine fnok F sc_taggedL (fun vs H Q E h => ?_) (fun cdv A outer s H vs Q E hr h => ?_)
  · obtain ⟨a, cs, rfl, _⟩ := h
    rfl
  · obtain ⟨a, cs, rfl, hS, hl, k⟩ := h
    refine ⟨_, (pss_cons (ps_par (i := 1) (j := 2) (by rfl) nd rfl rfl (by decide) rfl rfl (pa_cons (pe_lst pa_nil) (pa_cons (pe_lst pa_nil) pa_nil)) (by rfl))
  (pss_cons (ps_for PassesOwn.never rfl (pi_range1 (by rfl) T.range (pa_cons (pe_callB call_lenQ (by rfl) T.len PySem.boot_len (pa_cons (pv 0) pa_nil)) pa_nil)) (pg_name (i := 3) nd rfl (Or.inl rfl))
    (pss_cons (ps_par (i := 4) (j := 5) (by rfl) nd rfl rfl (by decide) rfl rfl (pa_cons (pe_ix ix_q (pv 0) (pv 3) (fun _ _ => rfl)) (pa_cons (pe_op on_shl pe_int (pv 3)) pa_nil)) (by rfl))
    (pss_cons (ps_for PassesOwn.never rfl (pi_seq (pv 1)) (pg_tup (by rfl) (pgs_cons (pg_name (i := 6) nd rfl (Or.inl rfl)) (pgs_cons (pg_name (i := 7) nd rfl (Or.inl rfl)) pgs_nil)))
      (pss_one (ps_if (pt_cmpR op_ne (pe_op on_and (pv 4) (pe_op on_low (pv 6) (pe_un un_neg (pv 6)))) pe_int (nomark _))
        (pss_one (ps_par (i := 4) (j := 5) (by rfl) nd rfl rfl (by decide) rfl rfl (pa_cons (pe_op on_xor (pv 4) (pv 6)) (pa_cons (pe_op on_xor (pv 5) (pv 7)) pa_nil)) (by rfl)))
        pss_nil)))
    (pss_one (ps_if (pt_cmpR op_eq (pv 4) pe_int (nomark _))
      (pss_one (ps_expr (pe_bm PySem.F.plainAttrs_list PySem.F.slot_list_append PySem.F.type_list_append mt_append (pv 2) (pa_cons (pv 5) pa_nil))))
      (pss_one (ps_expr (pe_bm PySem.F.plainAttrs_list PySem.F.slot_list_append PySem.F.type_list_append mt_append (pv 1) (pa_cons (pe_tup (pa_cons (pv 4) (pa_cons (pv 5) pa_nil))) pa_nil)))))))))
  (pss_one (ps_ret (pe_tup (pa_cons (pv 1) (pa_cons (pv 2) pa_nil))))))), ?_⟩
    refine ⟨(by decide), fun l1 hl1 => ⟨(by decide), fun l2 hl2 => ⟨_, _, rfl, ?_⟩⟩⟩
    have hl2' : H l2 = none := same_free (same_new0 hl1) hl2
    have n12 : l1 ≠ l2 := ne_of_none upd_same hl2
    have s0 : Same H (upd (upd H l1 (.lst [])) l2 (.lst [])) := same_new (same_new0 hl1) hl2
    refine ⟨_, rfl, a, _, rfl, same_tq s0 hS, _, rfl, (by omega), (by rw [List.length_map]; omega), for_range (n := (cs.map vN).length) (fun i σ H2 => ∃ v3 v4 v5 v6 v7 ts, σ = [some (.ref a), some (.ref l1), some (.ref l2), v3, v4, v5, v6, v7] ∧ Same H H2 ∧ H2 l1 = some (.lst (ts.map V.ref)) ∧ PrsAt H2 ts (tgs cs i).1 ∧ H2 l2 = some (.lst ((tgs cs i).2.map vN)))
      ⟨none, none, none, none, none, [], rfl, s0, upd_put upd_same n12, ⟨rfl, fun i t h => by simp at h⟩, upd_same⟩ ?_ ?_⟩
    · rintro i σ H2 hi ⟨v3, v4, v5, v6, v7, ts, rfl, s2, h1, hps, h2⟩
      rw [List.length_map] at hi
      rw [show (0 : Int) + (i : Int) = (i : Int) by omega]
      have hg : (cs.map vN)[i]? = some (vN (cs.getD i 0)) := by
        rw [List.getElem?_map, List.getElem?_eq_getElem hi, List.getD_eq_getElem?_getD, List.getElem?_eq_getElem hi]
        rfl
      refine ⟨_, rfl, _, rfl, a, _, i, _, rfl, rfl, same_tq s2 hS, hg, _, rfl, 1, i, rfl, rfl, shl_ok1 (by rw [blen_one]; decide) (by omega), _, _, rfl, ?_⟩
      have L := tgs_len cs i
      refine ⟨_, rfl, for_sq2 (K := K) (Tq.l h1) (fun j σ H3 => ∃ v6 v7, σ = [some (.ref a), some (.ref l1), some (.ref l2), some (vN i), some (vN (tgl ((tgs cs i).1.take j) (cs.getD i 0, 1 <<< i)).1), some (vN (tgl ((tgs cs i).1.take j) (cs.getD i 0, 1 <<< i)).2), v6, v7] ∧ H3 = H2)
        ⟨v6, v7, rfl, rfl⟩ (fun j σ H3 hp o ho => by obtain ⟨_, _, _, rfl⟩ := hp; exact ho) ?_ ?_⟩
      · rintro j y σ H3 hy ⟨u6, u7, rfl, rfl⟩
        obtain ⟨t, ht, rfl⟩ := map_get hy
        obtain ⟨p, hp, hH⟩ := hps.2 j t ht
        have pn := tgs_nz cs i p (List.mem_of_getElem? hp)
        refine ⟨t, _, rfl, SqT.of hH, rfl, ?_⟩
        refine ⟨_, _, rfl, _, _, rfl, rfl, _, rfl, _, rfl, _, rfl, _, rfl, p.1, rfl, rfl, _, _, rfl, rfl, rfl, _, rfl, ?_⟩
        rw [take_succ hp, tgl_snoc, dec_low pn]
        cases q : (tgl ((tgs cs i).1.take j) (cs.getD i 0, 1 <<< i)).1.testBit (low p.1) with
        | true => exact iteT ⟨_, rfl, _, rfl, _, _, rfl, rfl, _, rfl, _, rfl, _, _, rfl, rfl, _, _, rfl, _, _, rfl, rfl⟩
        | false => exact iteF ⟨_, _, rfl, rfl⟩
      · rintro σ H3 ⟨u6, u7, rfl, rfl⟩
        rw [List.length_map, hps.1, List.take_length]
        refine ⟨_, rfl, rfl, _, rfl, ?_⟩
        rw [tgs_succ]
        refine br (fun e => ?_) (fun e => ?_)
        · have e0 := dec_zero e
          rw [if_pos e0]
          refine ⟨_, rfl, .inl ⟨rfl, _, SqL.of h2⟩, _, rfl, l2, _, _, rfl, rfl, h2, (by rw [List.length_map]; exact size6 (by omega)), ?_⟩
          refine ⟨_, _, _, _, _, ts, rfl, same_put s2 hl2', upd_put h1 n12, hps.keep (fun b xs hb => upd_put hb fun z => by rw [z, h2] at hb; cases hb), ?_⟩
          rw [upd_same, List.map_append]
          rfl
        · have e0 := dec_nz e
          rw [if_neg e0]
          refine ⟨_, rfl, .inl ⟨rfl, _, SqL.of h1⟩, _, rfl, _, rfl, (by show 2 ≤ sizeLine; decide), fun t ht => ?_⟩
          have nt1 : l1 ≠ t := ne_of_none h1 ht
          refine ⟨l1, _, _, rfl, rfl, upd_put h1 nt1, (by rw [List.length_map, hps.1]; exact size6 (by omega)), ?_⟩
          refine ⟨_, _, _, _, _, ts ++ [t], rfl, same_put (same_new s2 ht) hl1, ?_, ?_, upd_put (upd_put h2 (ne_of_none h2 ht)) n12.symm⟩
          · rw [upd_same, List.map_append]
            rfl
          · refine PrsAt.snoc (hps.keep fun b xs hb => upd_put (upd_put hb (ne_of_none hb ht)) fun z => by rw [z, h1] at hb; cases hb) ?_
            exact upd_put upd_same nt1.symm
    · rintro σ H2 ⟨v3, v4, v5, v6, v7, ts, rfl, s2, h1, hps, h2⟩
      rw [List.length_map] at h2
      refine ⟨_, rfl, _, rfl, (by show 2 ≤ sizeLine; decide), fun q hq => ?_⟩
      exact k _ _ l1 l2 (same_new s2 hq) upd_same hl2' (upd_put h2 (ne_of_none h2 hq))
theorem ok_kernel (F : FnP K "_law_kernel" "_law_kernel" s_kernelL f fd) (D_taggedL : Dn P w K mg base 1 "_law_tagged" ["_law_columns"] sp_tagged) : FnOk P w K mg base CX0 2 f fd ["_law_columns"] sp_kernel := by
  have nd := sc_kernelL.nd
  refine fnok F sc_kernelL (fun vs H Q E h => ?_) (fun cdv A outer s H vs Q E hr h => ?_)
  · obtain ⟨a, cs, rfl, _⟩ := h
    rfl
  · obtain ⟨a, cs, rfl, hS, hl, k⟩ := h
    refine ⟨_, (pss_one (ps_ret (pe_ix ix_q (pe_d D_taggedL hr (pa_cons (pv 0) pa_nil)) pe_int (fun _ _ => rfl)))), ?_⟩
    refine ⟨_, rfl, a, cs, rfl, hS, hl, fun H1 q l1 l2 s1 hq hl2 h2 => ?_⟩
    exact ⟨q, _, 1, _, rfl, rfl, .inr hq, rfl, k _ _ s1 hl2 h2⟩
theorem ok_is_wholeL (F : FnP K "_law_is_whole" "_law_is_whole" s_is_wholeL f fd) : FnOk P w K mg base CX0 1 f fd ["_law_value"] sp_is_whole := by
  have nd := sc_is_wholeL.nd
  refine fnok F sc_is_wholeL (fun vs H Q E h => ?_) (fun cdv A outer s H vs Q E hr h => ?_)
  · obtain ⟨n, rfl, _⟩ := h
    rfl
  · obtain ⟨n, rfl, k⟩ := h
    refine ⟨_, (pss_one (ps_ret (pe_and (pe_callB call_isi (by rfl) T.isinstance (by decide +kernel) (pa_cons (pv 0) (pa_cons (pe_bltn (v := .ty "int") (by rfl) T.int (by decide +kernel) rfl) pa_nil))) (pe_and (pe_not (pe_callB call_isi (by rfl) T.isinstance (by decide +kernel) (pa_cons (pv 0) (pa_cons (pe_bltn (v := .ty "bool") (by rfl) T.bool (by decide +kernel) rfl) pa_nil)))) (pe_one (pe_cmpR op_ge (pv 0) pe_int (nomark _))))))), ?_⟩
    refine ⟨_, rfl, _, _, _, _, _, rfl, .ty _, .base (.int _), kit_ty (r := true) (by decide +kernel), _, rfl, iteT ?_⟩
    refine ⟨_, rfl, _, _, _, _, _, rfl, .ty _, .base (.int _), kit_ty (r := false) (by decide +kernel), _, rfl, _, rfl, iteT ?_⟩
    refine ⟨_, rfl, _, _, rfl, rfl, ?_⟩
    have e : decide ((0 : Int) ≤ (n : Int)) = true := decide_eq_true (by omega)
    show Q (.bl (decide ((0 : Int) ≤ (n : Int)))) H
    rw [e]
    exact k
theorem ok_is_word (F : FnP K "_law_is_word" "_law_is_word" s_is_wordL f fd) (D_is_wholeL : Dn P w K mg base 1 "_law_is_whole" ["_law_value"] sp_is_whole) : FnOk P w K mg base CX0 2 f fd ["_law_value", "_law_bits"] sp_is_word := by
  have nd := sc_is_wordL.nd
  refine fnok F sc_is_wordL (fun vs H Q E h => ?_) (fun cdv A outer s H vs Q E hr h => ?_)
  · obtain ⟨n, b, rfl, _⟩ := h
    rfl
  · obtain ⟨n, b, rfl, hb, k⟩ := h
    refine ⟨_, (pss_one (ps_ret (pe_and (pe_d D_is_wholeL hr (pa_cons (pv 0) pa_nil)) (pe_one (pe_cmpR op_lt (pv 0) (pe_op on_shl pe_int (pv 1)) (nomark _)))))), ?_⟩
    refine ⟨_, rfl, n, rfl, _, rfl, iteT ?_⟩
    refine ⟨_, rfl, _, rfl, 1, b, rfl, rfl, shl_ok1 (by rw [blen_one]; decide) (by omega), _, _, rfl, rfl, ?_⟩
    have e : decide ((n : Int) < ((1 <<< b : Nat) : Int)) = decide (n < 2 ^ b) := by
      rw [Nat.one_shiftLeft]
      by_cases h : n < 2 ^ b
      · rw [decide_eq_true h, decide_eq_true (by omega)]
      · rw [decide_eq_false h, decide_eq_false (by omega)]
    show Q (.bl (decide ((n : Int) < ((1 <<< b : Nat) : Int)))) H
    rw [e]
    exact k
end
end LaneX
set_option Elab.async false
set_option linter.all false
set_option maxRecDepth 100000
set_option maxHeartbeats 4000000
namespace LaneX
open PySem PySem.Spec PyProof.Rows L2
def sp_words_for : Sp := fun vs H Q _ => ∃ (p lc : Addr) (N b m st : Nat), vs = [.ref p, vN b, vN m, vN st] ∧ Pn H p lc N ∧ b ≤ 1000 ∧ m ≤ 1000 ∧ N + 3000000 ≤ TOP ∧
  ∀ (H' : Hp) (q : Addr) (ws : List Nat), ws.length = m → (∀ x ∈ ws, x < 2 ^ b) → H q = none → H' q = some (.lst (ws.map vN)) → Pn H' p lc (N + 3000000) → Kp H H' → Q (.ref q) H'
def sp_spread_words : Sp := fun vs H Q _ => ∃ (p lc : Addr) (N b m n : Nat), vs = [.ref p, vN b, vN m, vN n] ∧ Pn H p lc N ∧ b ≤ 200 ∧ m ≤ 200 ∧ n ≤ 200 ∧ N + 7000000 ≤ TOP ∧
  ∀ (H' : Hp) (q a c : Addr) (ss ls : List Nat), ss.length ≤ 600 → ls.length ≤ 600 → (∀ x ∈ ss, x < 2 ^ b) → (∀ x ∈ ls, x < 2 ^ b) → b ≤ rk (ss ++ ls) → H' q = some (.tup [.ref a, .ref c]) → H' a = some (.lst (ss.map vN)) → H' c = some (.lst (ls.map vN)) → Pn H' p lc (N + 7000000) → Kp H H' → Q (.ref q) H'
theorem dec_eqn {a b : Nat} : decide (V.int (a : Int) = V.int (b : Int)) = decide (a = b) := dec_nat
section
variable {P : Program} {w : World} {K : PySem.W.Frag} {mg : Str → Option Value} {base : Heap} {f : Addr} {fd : FuncData} {CS : Addr} (T : Bt mg) (TS : SpaceT K mg CS)
include T
theorem ok_words_for (F : FnP K "_law_words_for" "_law_words_for" s_words_forL f fd) (D_drawL : Dn P w K mg base 1 "_law_draw" ["_law_pen", "_law_span"] sp_draw) (D_pickL : Dn P w K mg base 2 "_law_pick" ["_law_pen", "_law_some"] sp_pick) (D_wordL : Dn P w K mg base 2 "_law_word" ["_law_pen", "_law_bits"] sp_word) :
    FnOk P w K mg base CX0 3 f fd ["_law_pen", "_law_bits", "_law_many", "_law_style"] sp_words_for := by
  have nd := sc_words_forL.nd
  refine fnok F sc_words_forL (fun vs H Q E h => ?_) (fun cdv A outer s H vs Q E hr h => ?_)
  · obtain ⟨p, lc, N, b, m, st, rfl, _⟩ := h
    rfl
  · obtain ⟨p, lc, N, b, m, st, rfl, hp, hb, hm, hN, k⟩ := h
    refine ⟨_, (pss_cons (ps_set (i := 4) nd rfl (Or.inl rfl) (pe_lst pa_nil))
  (pss_cons (ps_for PassesOwn.never rfl (pi_range1 (by rfl) T.range (pa_cons (pv 2) pa_nil)) (pg_name (i := 5) nd rfl (Or.inl rfl))
    (pss_one (ps_if (PW.pt (pw_and (pt_cmpR op_eq (pv 3) pe_int (nomark _)) (pw_and1 (pt_cmpR op_gt (pv 1) pe_int (nomark _)))))
      (pss_one (ps_expr (pe_bm PySem.F.plainAttrs_list PySem.F.slot_list_append PySem.F.type_list_append mt_append (pv 4) (pa_cons (pe_op on_shl pe_int (pe_d D_drawL hr (pa_cons (pv 0) (pa_cons (pv 1) pa_nil)))) pa_nil))))
      (pss_one (ps_if (PW.pt (pw_and (pt_cmpR op_eq (pv 3) pe_int (nomark _)) (pw_and (pt_cmpR (op_neE hr.units) (pv 4) (pe_lst pa_nil) (nomark _)) (pw_and1 (pt_cmpR op_eq (pe_d D_drawL hr (pa_cons (pv 0) (pa_cons pe_int pa_nil))) pe_int (nomark _))))))
        (pss_one (ps_expr (pe_bm PySem.F.plainAttrs_list PySem.F.slot_list_append PySem.F.type_list_append mt_append (pv 4) (pa_cons (pe_d D_pickL hr (pa_cons (pv 0) (pa_cons (pe_op op_cat (pv 4) (pe_lst (pa_cons pe_int pa_nil))) pa_nil))) pa_nil))))
        (pss_one (ps_expr (pe_bm PySem.F.plainAttrs_list PySem.F.slot_list_append PySem.F.type_list_append mt_append (pv 4) (pa_cons (pe_d D_wordL hr (pa_cons (pv 0) (pa_cons (pv 1) pa_nil))) pa_nil)))))))))
  (pss_one (ps_ret (pv 4))))), ?_⟩
    have hN' : N + 3000000 ≤ 1099511627776 := hN
    refine ⟨(by decide), fun l0 hl0 => ?_⟩
    have ne0 := hp.ne hl0
    refine ⟨_, rfl, _, rfl, (by omega), (by omega), for_range (n := m) (fun i σ H2 => ∃ v ws, σ = [some (.ref p), some (vN b), some (vN m), some (vN st), some (.ref l0), v] ∧ Pn H2 p lc (N + i * 2000) ∧ Kp H H2 ∧ H2 l0 = some (.lst (ws.map vN)) ∧ ws.length = i ∧ ∀ x ∈ ws, x < 2 ^ b)
      ⟨none, [], rfl, (hp.put ne0).mono (by omega), Kp.of (same_new0 hl0), upd_same, rfl, fun x hx => by cases hx⟩ ?_ ?_⟩
    · rintro i σ H2 hi ⟨v, ws, rfl, hp2, kp2, h2, hlen, hws⟩
      -- what is appended
      have fin : ∀ {H3 : Hp} {x : Nat}, x < 2 ^ b → Pn H3 p lc (N + (i + 1) * 2000) → Kp H H3 → H3 l0 = some (.lst (ws.map vN)) → (ws.map vN).length < sizeLine ∧ ∃ (v : Option V) (ws' : List Nat), [some (V.ref p), some (vN b), some (vN m), some (vN st), some (.ref l0), some (V.int (0 + (i : Int)))] = [some (.ref p), some (vN b), some (vN m), some (vN st), some (.ref l0), v] ∧ Pn (upd H3 l0 (.lst (ws.map vN ++ [vN x]))) p lc (N + (i + 1) * 2000) ∧ Kp H (upd H3 l0 (.lst (ws.map vN ++ [vN x]))) ∧ upd H3 l0 (.lst (ws.map vN ++ [vN x])) l0 = some (.lst (ws'.map vN)) ∧ ws'.length = i + 1 ∧ ∀ x ∈ ws', x < 2 ^ b := fun {H3 x} hx hp3 kp3 h3 => by
        refine ⟨by rw [List.length_map, hlen]; exact size6 (by omega), _, ws ++ [x], rfl, hp3.put ne0, kp_put kp3 hl0, by rw [upd_same, List.map_append]; rfl, by rw [List.length_append, hlen]; rfl, fun y hy => ?_⟩
        rcases List.mem_append.mp hy with hy | hy
        · exact hws y hy
        · rcases List.mem_singleton.mp hy with rfl; exact hx
      have word : ∀ {H3 : Hp}, Pn H3 p lc (N + i * 2000 + 10) → Kp H H3 → H3 l0 = some (.lst (ws.map vN)) → True := fun _ _ _ => trivial
      refine ⟨_, rfl, rfl, _, rfl, br (fun e => ?_) (fun e => ?_)⟩
      · refine ⟨_, rfl, _, _, rfl, rfl, _, rfl, br (fun e2 => ?_) (fun e2 => ?_)⟩
        · have hb0 : 0 < b := by have := of_decide_eq_true e2; omega
          refine ⟨_, rfl, .inl ⟨rfl, _, SqL.of h2⟩, _, rfl, _, rfl, p, lc, N + i * 2000, b, rfl, hp2, hb0, (by omega), (by show N + i * 2000 + 1 ≤ 1099511627776; omega), fun H3 r hr3 hp3 kp3 => ?_⟩
          obtain ⟨z1, z2⟩ := fin (H3 := H3) (x := 1 <<< r) (by rw [Nat.one_shiftLeft]; exact Nat.pow_lt_pow_right (by decide) hr3) (hp3.mono (by omega)) (kp2.trans kp3) (kp3 _ _ h2 rfl)
          exact ⟨1, r, rfl, rfl, shl_ok1 (by rw [blen_one]; decide) (by omega), l0, _, _, rfl, rfl, kp3 _ _ h2 rfl, z1, z2⟩
        · refine ⟨_, rfl, rfl, _, rfl, br (fun e3 => ?_) (fun e3 => ?_)⟩
          · refine ⟨_, rfl, (by decide), fun q hq => ?_⟩
            refine ⟨l0, q, ws, rfl, rfl, upd_new hq h2, upd_same, _, rfl, br (fun e4 => ?_) (fun e4 => ?_)⟩
            · have hp2' : Pn (upd H2 q (.lst [])) p lc (N + i * 2000) := hp2.put (hp2.ne hq)
              refine ⟨_, rfl, p, lc, N + i * 2000, 3, rfl, hp2', (by decide), (by decide), (by show N + i * 2000 + 1 ≤ 1099511627776; omega), fun H3 r hr3 hp3 kp3 => ?_⟩
              have kp3' : Kp H H3 := (kp_new kp2 hq).trans kp3
              have g3 : H3 l0 = some (.lst (ws.map vN)) := kp3 _ _ (upd_new hq h2) rfl
              refine ⟨rfl, _, rfl, br (fun e5 => ?_) (fun e5 => ?_)⟩
              · refine ⟨_, rfl, .inl ⟨rfl, _, SqL.of g3⟩, _, rfl, _, rfl, (by decide), fun q1 hq1 => ?_⟩
                refine ⟨l0, q1, _, _, rfl, rfl, upd_new hq1 g3, upd_same, (by rw [List.length_map, hlen]; show i + 1 ≤ _; rw [sizeLine_eq]; omega), fun q2 hq2 => ?_⟩
                have hp4 : Pn (upd (upd H3 q1 (.lst [.int 0])) q2 (.lst (ws.map vN ++ [.int 0]))) p lc (N + i * 2000 + 1) := (hp3.put (hp3.ne hq1)).put ((hp3.put (hp3.ne hq1)).ne hq2)
                refine ⟨p, lc, q2, N + i * 2000 + 1, _, rfl, hp4, .inl upd_same, (by simp), (by simp; omega), (by show N + i * 2000 + 1 + 1 ≤ 1099511627776; omega), fun H5 v5 hv5 hp5 kp5 => ?_⟩
                obtain ⟨x, rfl, hx⟩ : ∃ x, v5 = vN x ∧ x < 2 ^ b := by
                  rcases List.mem_append.mp hv5 with hv | hv
                  · obtain ⟨x, hx, rfl⟩ := List.mem_map.mp hv
                    exact ⟨x, rfl, hws x hx⟩
                  · rcases List.mem_singleton.mp hv with rfl
                    exact ⟨0, rfl, Nat.two_pow_pos b⟩
                have g5 : H5 l0 = some (.lst (ws.map vN)) := kp5 _ _ (upd_new hq2 (upd_new hq1 g3)) rfl
                obtain ⟨z1, z2⟩ := fin (H3 := H5) (x := x) hx (hp5.mono (by omega)) ((kp_new (kp_new kp3' hq1) hq2).trans kp5) g5
                exact ⟨l0, _, _, rfl, rfl, g5, z1, z2⟩
              · refine ⟨_, rfl, .inl ⟨rfl, _, SqL.of g3⟩, _, rfl, _, rfl, p, lc, N + i * 2000 + 1, b, rfl, hp3, hb, (by show N + i * 2000 + 1 + 1000 ≤ 1099511627776; omega), fun H4 x hx hp4 kp4 => ?_⟩
                obtain ⟨z1, z2⟩ := fin (H3 := H4) (x := x) hx (hp4.mono (by omega)) (kp3'.trans kp4) (kp4 _ _ g3 rfl)
                exact ⟨l0, _, _, rfl, rfl, kp4 _ _ g3 rfl, z1, z2⟩
            · have hp2' : Pn (upd H2 q (.lst [])) p lc (N + i * 2000) := hp2.put (hp2.ne hq)
              have g2 : upd H2 q (.lst []) l0 = some (.lst (ws.map vN)) := upd_new hq h2
              refine ⟨_, rfl, .inl ⟨rfl, _, SqL.of g2⟩, _, rfl, _, rfl, p, lc, N + i * 2000, b, rfl, hp2', hb, (by show N + i * 2000 + 1000 ≤ 1099511627776; omega), fun H4 x hx hp4 kp4 => ?_⟩
              obtain ⟨z1, z2⟩ := fin (H3 := H4) (x := x) hx (hp4.mono (by omega)) ((kp_new kp2 hq).trans kp4) (kp4 _ _ g2 rfl)
              exact ⟨l0, _, _, rfl, rfl, kp4 _ _ g2 rfl, z1, z2⟩
          · refine ⟨_, rfl, .inl ⟨rfl, _, SqL.of h2⟩, _, rfl, _, rfl, p, lc, N + i * 2000, b, rfl, hp2, hb, (by show N + i * 2000 + 1000 ≤ 1099511627776; omega), fun H4 x hx hp4 kp4 => ?_⟩
            obtain ⟨z1, z2⟩ := fin (H3 := H4) (x := x) hx (hp4.mono (by omega)) (kp2.trans kp4) (kp4 _ _ h2 rfl)
            exact ⟨l0, _, _, rfl, rfl, kp4 _ _ h2 rfl, z1, z2⟩
      · refine ⟨_, rfl, rfl, _, rfl, br (fun e3 => ?_) (fun e3 => ?_)⟩
        · refine ⟨_, rfl, (by decide), fun q hq => ?_⟩
          refine ⟨l0, q, ws, rfl, rfl, upd_new hq h2, upd_same, _, rfl, br (fun e4 => ?_) (fun e4 => ?_)⟩
          · have hp2' : Pn (upd H2 q (.lst [])) p lc (N + i * 2000) := hp2.put (hp2.ne hq)
            refine ⟨_, rfl, p, lc, N + i * 2000, 3, rfl, hp2', (by decide), (by decide), (by show N + i * 2000 + 1 ≤ 1099511627776; omega), fun H3 r hr3 hp3 kp3 => ?_⟩
            have kp3' : Kp H H3 := (kp_new kp2 hq).trans kp3
            have g3 : H3 l0 = some (.lst (ws.map vN)) := kp3 _ _ (upd_new hq h2) rfl
            refine ⟨rfl, _, rfl, br (fun e5 => ?_) (fun e5 => ?_)⟩
            · refine ⟨_, rfl, .inl ⟨rfl, _, SqL.of g3⟩, _, rfl, _, rfl, (by decide), fun q1 hq1 => ?_⟩
              refine ⟨l0, q1, _, _, rfl, rfl, upd_new hq1 g3, upd_same, (by rw [List.length_map, hlen]; show i + 1 ≤ _; rw [sizeLine_eq]; omega), fun q2 hq2 => ?_⟩
              have hp4 : Pn (upd (upd H3 q1 (.lst [.int 0])) q2 (.lst (ws.map vN ++ [.int 0]))) p lc (N + i * 2000 + 1) := (hp3.put (hp3.ne hq1)).put ((hp3.put (hp3.ne hq1)).ne hq2)
              refine ⟨p, lc, q2, N + i * 2000 + 1, _, rfl, hp4, .inl upd_same, (by simp), (by simp; omega), (by show N + i * 2000 + 1 + 1 ≤ 1099511627776; omega), fun H5 v5 hv5 hp5 kp5 => ?_⟩
              obtain ⟨x, rfl, hx⟩ : ∃ x, v5 = vN x ∧ x < 2 ^ b := by
                rcases List.mem_append.mp hv5 with hv | hv
                · obtain ⟨x, hx, rfl⟩ := List.mem_map.mp hv
                  exact ⟨x, rfl, hws x hx⟩
                · rcases List.mem_singleton.mp hv with rfl
                  exact ⟨0, rfl, Nat.two_pow_pos b⟩
              have g5 : H5 l0 = some (.lst (ws.map vN)) := kp5 _ _ (upd_new hq2 (upd_new hq1 g3)) rfl
              obtain ⟨z1, z2⟩ := fin (H3 := H5) (x := x) hx (hp5.mono (by omega)) ((kp_new (kp_new kp3' hq1) hq2).trans kp5) g5
              exact ⟨l0, _, _, rfl, rfl, g5, z1, z2⟩
            · refine ⟨_, rfl, .inl ⟨rfl, _, SqL.of g3⟩, _, rfl, _, rfl, p, lc, N + i * 2000 + 1, b, rfl, hp3, hb, (by show N + i * 2000 + 1 + 1000 ≤ 1099511627776; omega), fun H4 x hx hp4 kp4 => ?_⟩
              obtain ⟨z1, z2⟩ := fin (H3 := H4) (x := x) hx (hp4.mono (by omega)) (kp3'.trans kp4) (kp4 _ _ g3 rfl)
              exact ⟨l0, _, _, rfl, rfl, kp4 _ _ g3 rfl, z1, z2⟩
          · have hp2' : Pn (upd H2 q (.lst [])) p lc (N + i * 2000) := hp2.put (hp2.ne hq)
            have g2 : upd H2 q (.lst []) l0 = some (.lst (ws.map vN)) := upd_new hq h2
            refine ⟨_, rfl, .inl ⟨rfl, _, SqL.of g2⟩, _, rfl, _, rfl, p, lc, N + i * 2000, b, rfl, hp2', hb, (by show N + i * 2000 + 1000 ≤ 1099511627776; omega), fun H4 x hx hp4 kp4 => ?_⟩
            obtain ⟨z1, z2⟩ := fin (H3 := H4) (x := x) hx (hp4.mono (by omega)) ((kp_new kp2 hq).trans kp4) (kp4 _ _ g2 rfl)
            exact ⟨l0, _, _, rfl, rfl, kp4 _ _ g2 rfl, z1, z2⟩
        · refine ⟨_, rfl, .inl ⟨rfl, _, SqL.of h2⟩, _, rfl, _, rfl, p, lc, N + i * 2000, b, rfl, hp2, hb, (by show N + i * 2000 + 1000 ≤ 1099511627776; omega), fun H4 x hx hp4 kp4 => ?_⟩
          obtain ⟨z1, z2⟩ := fin (H3 := H4) (x := x) hx (hp4.mono (by omega)) (kp2.trans kp4) (kp4 _ _ h2 rfl)
          exact ⟨l0, _, _, rfl, rfl, kp4 _ _ h2 rfl, z1, z2⟩
    · rintro σ H2 ⟨v, ws, rfl, hp2, kp2, h2, hlen, hws⟩
      exact ⟨_, rfl, k _ _ ws hlen hws hl0 h2 (hp2.mono (by omega)) kp2⟩
end
end LaneX
set_option Elab.async false
set_option linter.all false
set_option maxRecDepth 100000
set_option maxHeartbeats 4000000
namespace LaneX
open PySem PySem.Spec PyProof.Rows L2
section
variable {P : Program} {w : World} {K : PySem.W.Frag} {mg : Str → Option Value} {base : Heap} {f : Addr} {fd : FuncData} {CS : Addr} (T : Bt mg) (TS : SpaceT K mg CS)
include T
theorem ok_spread_words (F : FnP K "_law_spread_words" "_law_spread_words" s_spread_wordsL f fd) (D_drawL : Dn P w K mg base 1 "_law_draw" ["_law_pen", "_law_span"] sp_draw) (D_words_forL : Dn P w K mg base 3 "_law_words_for" ["_law_pen", "_law_bits", "_law_many", "_law_style"] sp_words_for)
    (D_basisL : Dn P w K mg base 2 "_law_basis" ["_law_words"] sp_basis) (D_mixedL : Dn P w K mg base 2 "_law_mixed" ["_law_pen", "_law_some"] sp_mixed) (D_leftL : Dn P w K mg base 1 "_law_left" ["_law_rows", "_law_word_here"] sp_left) :
    FnOk P w K mg base CX0 4 f fd ["_law_pen", "_law_bits", "_law_slots", "_law_lanes"] sp_spread_words := by
  have nd := sc_spread_wordsL.nd
  refine fnok F sc_spread_wordsL (fun vs H Q E h => ?_) (fun cdv A outer s H vs Q E hr h => ?_)
  · obtain ⟨p, lc, N, b, m, n, rfl, _⟩ := h
    rfl
  · obtain ⟨p, lc, N, b, m, n, rfl, hp, hb, hm, hn, hN, k⟩ := h
    refine ⟨_, (pss_cons (ps_set (i := 4) nd rfl (Or.inl rfl) (pe_d D_drawL hr (pa_cons (pv 0) (pa_cons pe_int pa_nil))))
  (pss_cons (ps_par (i := 5) (j := 6) (by rfl) nd rfl rfl (by decide) rfl rfl (pa_cons (pe_d D_words_forL hr (pa_cons (pv 0) (pa_cons (pv 1) (pa_cons (pv 2) (pa_cons (pv 4) pa_nil))))) (pa_cons (pe_d D_words_forL hr (pa_cons (pv 0) (pa_cons (pv 1) (pa_cons (pv 3) (pa_cons (pv 4) pa_nil))))) pa_nil)) (by rfl))
  (pss_cons (ps_set (i := 7) nd rfl (Or.inl rfl) (pe_d D_basisL hr (pa_cons (pe_op op_cat (pv 5) (pv 6)) pa_nil)))
  (pss_cons (ps_for PassesOwn.never rfl (pi_seq (pe_d D_mixedL hr (pa_cons (pv 0) (pa_cons (pe_lc (own := [("_law_bit", 10)]) (g := gName 10) (by rfl) nd (pi_range1 (by rfl) T.range (pa_cons (pv 1) pa_nil)) (blkOk_by (own := [("_law_bit", 10)]) (N := ["_law_pen", "_law_bits", "_law_slots", "_law_lanes", "_law_style", "_law_some", "_law_others", "_law_rows", "_law_word_here", "_law_left_here", "_law_bit"]) (sc := defScope s_spread_wordsL) (by decide +kernel)) (fun _ _ _ _ _ => (pg_name (i := 10) nd rfl (Or.inl rfl))) (fun _ _ _ _ _ => pts_nil) (fun _ _ _ _ _ => (pe_op on_shl pe_int (pv 10)))) pa_nil)))) (pg_name (i := 8) nd rfl (Or.inl rfl))
    (pss_cons (ps_set (i := 9) nd rfl (Or.inl rfl) (pe_d D_leftL hr (pa_cons (pv 7) (pa_cons (pv 8) pa_nil))))
    (pss_one (ps_if (pt_cmpR op_ne (pv 9) pe_int (nomark _))
      (pss_cons (ps_expr (pe_bm PySem.F.plainAttrs_list PySem.F.slot_list_append PySem.F.type_list_append mt_append (pv 7) (pa_cons (pv 9) pa_nil)))
      (pss_one (ps_if (pt_cmpR op_eq (pe_d D_drawL hr (pa_cons (pv 0) (pa_cons pe_int pa_nil))) pe_int (nomark _))
        (pss_one (ps_expr (pe_bm PySem.F.plainAttrs_list PySem.F.slot_list_append PySem.F.type_list_append mt_append (pv 5) (pa_cons (pv 8) pa_nil))))
        (pss_one (ps_expr (pe_bm PySem.F.plainAttrs_list PySem.F.slot_list_append PySem.F.type_list_append mt_append (pv 6) (pa_cons (pv 8) pa_nil)))))))
      pss_nil))))
  (pss_one (ps_ret (pe_tup (pa_cons (pe_d D_mixedL hr (pa_cons (pv 0) (pa_cons (pv 5) pa_nil))) (pa_cons (pe_d D_mixedL hr (pa_cons (pv 0) (pa_cons (pv 6) pa_nil))) pa_nil))))))))), ?_⟩
    have hN' : N + 7000000 ≤ 1099511627776 := hN
    refine ⟨_, rfl, p, lc, N, 3, rfl, hp, (by decide), (by decide), (by show N + 1 ≤ 1099511627776; omega), fun H1 st hst hp1 kp1 => ?_⟩
    refine ⟨_, rfl, _, rfl, _, rfl, _, rfl, p, lc, N + 1, b, m, st, rfl, hp1, (by omega), (by omega), (by show N + 1 + 3000000 ≤ 1099511627776; omega), fun H2 a ws hws hwb ha h2 hp2 kp2 => ?_⟩
    refine ⟨_, rfl, _, rfl, _, rfl, _, rfl, p, lc, N + 1 + 3000000, b, n, st, rfl, hp2, (by omega), (by omega), (by show N + 1 + 3000000 + 3000000 ≤ 1099511627776; omega), fun H3 c us hus hub hc h3 hp3 kp3 => ⟨_, _, rfl, ?_⟩⟩
    have h2' := kp3 _ _ h2 rfl
    have kp13 : Kp H H3 := (kp1.trans kp2).trans kp3
    have ha0 : H a = none := kp1.free _ ha
    have hc0 : H c = none := kp1.free _ (kp2.free _ hc)
    have nac : a ≠ c := ne_of_none h2 hc
    refine ⟨_, rfl, _, rfl, a, c, _, _, rfl, rfl, h2', h3, (by rw [List.length_map, List.length_map, sizeLine_eq]; omega), fun d hd => ?_⟩
    have s4 : Same H3 (upd H3 d (.lst (ws.map vN ++ us.map vN))) := same_new0 hd
    refine ⟨d, ws ++ us, rfl, .inl (by rw [upd_same, List.map_append]), (by rw [List.length_append]; omega), fun H5 e s5 he h5 => ?_⟩
    have s45 := s4.trans s5
    have he3 : H3 e = none := same_free s4 he
    have he0 : H e = none := kp13.free _ he3
    have h5a := s45 _ _ h2'
    have h5c := s45 _ _ h3
    have hp5 := hp3.same s45
    have kp5 := kp13.trans (Kp.of s45)
    -- the units, mixed
    refine ⟨_, rfl, _, rfl, _, rfl, (by omega), (by omega), lc_pureR (n := b) (fun _ => true) (fun i => vN (1 <<< i)) (by omega) (fun i H' hi s => ?_) (fun D H6 hD s6 h6 => ?_)⟩
    · intro Z Nx z1 z2
      exact ⟨rfl, _, rfl, 1, _, rfl, rfl, shl_ok1 (by rw [blen_one]; decide) (by omega), z1 rfl _ (Same.refl _)⟩
    rw [filt_true] at h6
    have ul : (units b).length = b := by simp [units]
    have h6' : H6 D = some (.lst ((units b).map vN)) := by rw [h6]; simp [units]
    refine ⟨p, lc, D, N + 1 + 3000000 + 3000000, units b, rfl, hp5.same s6, .inl h6', by omega, (by show N + 1 + 3000000 + 3000000 + 1000 ≤ 1099511627776; omega), fun H7 g vs hperm hg h7 hp7 kp7 => ?_⟩
    have kp67 : Kp H H7 := (kp5.trans (Kp.of s6)).trans kp7
    have h7a := kp7 _ _ (s6 _ _ h5a) rfl
    have h7c := kp7 _ _ (s6 _ _ h5c) rfl
    have h7e := kp7 _ _ (s6 _ _ h5) rfl
    have nae : a ≠ e := ne_of_none h2' he3
    have nce : c ≠ e := ne_of_none h3 he3
    have hg6 : H6 g = none := hg
    have nga : g ≠ a := (ne_of_none (s6 _ _ h5a) hg6).symm
    have ngc : g ≠ c := (ne_of_none (s6 _ _ h5c) hg6).symm
    have nge : g ≠ e := (ne_of_none (s6 _ _ h5) hg6).symm
    have pa := hp.ne ha0
    have pc := hp.ne hc0
    have pe := hp.ne he0
    have lv : vs.length = b := by rw [hperm.length_eq, ul]
    have vlt : ∀ x ∈ vs, x < 2 ^ b := fun x hx => by
      obtain ⟨i, hi, rfl⟩ := List.mem_map.mp (hperm.mem_iff.mp hx)
      rw [Nat.one_shiftLeft]
      exact Nat.pow_lt_pow_right (by decide) (List.mem_range.mp hi)
    refine for_sq2 (K := K) (Tq.l h7) (fun i σ H2 => ∃ v8 v9 so ot rs, σ = [some (.ref p), some (vN b), some (vN m), some (vN n), some (vN st), some (.ref a), some (.ref c), some (.ref e), v8, v9, none] ∧ Pn H2 p lc (N + 6001001 + i) ∧ Kp H H2 ∧ H2 g = some (.lst (vs.map vN)) ∧ H2 a = some (.lst (so.map vN)) ∧ H2 c = some (.lst (ot.map vN)) ∧ H2 e = some (.lst (rs.map vN)) ∧
      Lws rs ∧ (∀ x, Spn rs x ↔ Spn (so ++ ot) x) ∧ (∀ u ∈ vs.take i, Spn (so ++ ot) u) ∧ (∀ x ∈ so, x < 2 ^ b) ∧ (∀ x ∈ ot, x < 2 ^ b) ∧ so.length ≤ 200 + i ∧ ot.length ≤ 200 + i ∧ rs.length ≤ 400 + i)
      ⟨none, none, ws, us, bas (ws ++ us), rfl, hp7.mono (by omega), kp67, h7, h7a, h7c, h7e, bas_lws _, bas_span _, fun u hu => (by cases hu), hwb, hub, by omega, by omega, Nat.le_trans (bas_len_le _) (by rw [List.length_append]; omega)⟩ (fun i σ H2 hp o ho => ?_) ?_ ?_
    · obtain ⟨_, _, _, _, _, _, _, _, z, _⟩ := hp
      rw [h7] at ho
      cases ho
      exact z
    · rintro i y σ H2 hy ⟨v8, v9, so, ot, rs, rfl, q1, q2, q3, q4, q5, q6, q7, q8, q9, q10, q11, q12, q13, q14⟩
      obtain ⟨u, hu, rfl⟩ := map_get hy
      have hib : i < b := by
        have := (List.getElem?_eq_some_iff.mp hu).1
        omega
      have ult := vlt u (List.mem_of_getElem? hu)
      refine ⟨_, rfl, _, rfl, e, rs, u, rfl, .inl q6, q7.nz, ?_⟩
      refine ⟨_, rfl, rfl, _, rfl, ?_⟩
      rw [dec_ne0]
      refine br (fun z => ?_) (fun z => ?_)
      · have z0 : lft rs u ≠ 0 := by simpa using z
        have bs : bstep rs u = rs ++ [lft rs u] := by unfold bstep; rw [if_neg z0]
        have L2' : Lws (rs ++ [lft rs u]) := by rw [← bs]; exact q7.step u
        have S2' : ∀ x, Spn (rs ++ [lft rs u]) x ↔ Spn (rs ++ [u]) x := fun x => by rw [← bs]; exact bstep_span rs u x
        refine ⟨_, rfl, .inl ⟨rfl, _, SqL.of q6⟩, _, rfl, e, _, _, rfl, rfl, q6, (by rw [List.length_map]; exact size6 (by omega)), ?_⟩
        have r1 : Pn (upd H2 e (.lst (rs.map vN ++ [vN (lft rs u)]))) p lc (N + 6001001 + i) := q1.put pe
        refine ⟨_, rfl, p, lc, N + 6001001 + i, 2, rfl, r1, (by decide), (by decide), (by show N + 6001001 + i + 1 ≤ 1099511627776; omega), fun H8 r hr8 hp8 kp8 => ?_⟩
        have k8 : Kp H H8 := (kp_put q2 he0).trans kp8
        have t3 : H8 g = some (.lst (vs.map vN)) := kp8 _ _ (upd_put q3 nge) rfl
        have t4 : H8 a = some (.lst (so.map vN)) := kp8 _ _ (upd_put q4 nae) rfl
        have t5 : H8 c = some (.lst (ot.map vN)) := kp8 _ _ (upd_put q5 nce) rfl
        have t6 : H8 e = some (.lst ((rs ++ [lft rs u]).map vN)) := kp8 _ _ (by rw [upd_same, List.map_append]; rfl) rfl
        refine ⟨rfl, _, rfl, br (fun _ => ?_) (fun _ => ?_)⟩
        · refine ⟨_, rfl, .inl ⟨rfl, _, SqL.of t4⟩, _, rfl, a, _, _, rfl, rfl, t4, (by rw [List.length_map]; exact size6 (by omega)), ?_⟩
          have sp2 : ∀ x, Spn (rs ++ [lft rs u]) x ↔ Spn (so ++ [u] ++ ot) x := fun x => by
            rw [S2' x, span_app q8]
            have : (so ++ ot ++ [u]).Perm (so ++ [u] ++ ot) := by
              rw [List.append_assoc, List.append_assoc]
              exact List.perm_append_comm.append_left so
            exact ⟨fun h => h.sub fun w hw => this.mem_iff.mp hw, fun h => h.sub fun w hw => this.mem_iff.mpr hw⟩
          refine ⟨_, _, so ++ [u], ot, rs ++ [lft rs u], rfl, (hp8.put pa).mono (by omega), kp_put k8 ha0, upd_put t3 nga, by rw [upd_same, List.map_append]; rfl, upd_put t5 nac.symm, upd_put t6 nae.symm, L2', sp2, ?_, ?_, q11, by simp; omega, by omega, by simp; omega⟩
          · intro x hx
            rw [take_succ hu] at hx
            rcases List.mem_append.mp hx with hx | hx
            · exact (q9 x hx).sub fun w hw => by simp at hw ⊢; rcases hw with h | h <;> simp [h]
            · rcases List.mem_singleton.mp hx with rfl
              exact .of (by simp)
          · intro x hx
            rcases List.mem_append.mp hx with hx | hx
            · exact q10 x hx
            · rcases List.mem_singleton.mp hx with rfl; exact ult
        · refine ⟨_, rfl, .inl ⟨rfl, _, SqL.of t5⟩, _, rfl, c, _, _, rfl, rfl, t5, (by rw [List.length_map]; exact size6 (by omega)), ?_⟩
          have sp2 : ∀ x, Spn (rs ++ [lft rs u]) x ↔ Spn (so ++ (ot ++ [u])) x := fun x => by
            rw [S2' x, span_app q8, List.append_assoc]
          refine ⟨_, _, so, ot ++ [u], rs ++ [lft rs u], rfl, (hp8.put pc).mono (by omega), kp_put k8 hc0, upd_put t3 ngc, upd_put t4 nac, by rw [upd_same, List.map_append]; rfl, upd_put t6 nce.symm, L2', sp2, ?_, q10, ?_, by omega, by simp; omega, by simp; omega⟩
          · intro x hx
            rw [take_succ hu] at hx
            rcases List.mem_append.mp hx with hx | hx
            · exact (q9 x hx).sub fun w hw => by simp at hw ⊢; rcases hw with h | h <;> simp [h]
            · rcases List.mem_singleton.mp hx with rfl
              exact .of (by simp)
          · intro x hx
            rcases List.mem_append.mp hx with hx | hx
            · exact q11 x hx
            · rcases List.mem_singleton.mp hx with rfl; exact ult
      · have z0 : lft rs u = 0 := by simpa using z
        refine ⟨_, _, so, ot, rs, rfl, q1.mono (by omega), q2, q3, q4, q5, q6, q7, q8, ?_, q10, q11, by omega, by omega, by omega⟩
        intro x hx
        rw [take_succ hu] at hx
        rcases List.mem_append.mp hx with hx | hx
        · exact q9 x hx
        · rcases List.mem_singleton.mp hx with rfl
          exact (q8 _).mp (q7.span.mpr z0)
    · rintro σ H2 ⟨v8, v9, so, ot, rs, rfl, q1, q2, q3, q4, q5, q6, q7, q8, q9, q10, q11, q12, q13, q14⟩
      rw [List.length_map, lv] at q1 q12 q13
      rw [List.length_map, List.take_length] at q9
      refine ⟨_, rfl, _, rfl, p, lc, a, N + 6001001 + b, so, rfl, q1, .inl q4, (by omega), (by show N + 6001001 + b + 1000 ≤ 1099511627776; omega), fun H9 x9 s9 pm9 hx9 h9 hp9 kp9 => ?_⟩
      refine ⟨_, rfl, _, rfl, p, lc, c, N + 6001001 + b + 1000, ot, rfl, hp9, .inl (kp9 _ _ q5 rfl), (by omega), (by show N + 6001001 + b + 1000 + 1000 ≤ 1099511627776; omega), fun Hx y9 t9 pn9 hy9 hh9 hpx kpx => ?_⟩
      refine ⟨(by show 2 ≤ sizeLine; decide), fun q hq => ?_⟩
      refine k _ q x9 y9 s9 t9 (by rw [pm9.length_eq]; omega) (by rw [pn9.length_eq]; omega) (fun x hx => q10 x (pm9.mem_iff.mp hx)) (fun x hx => q11 x (pn9.mem_iff.mp hx)) ?_ upd_same (upd_new hq (kpx _ _ h9 rfl)) (upd_new hq hh9) ((hpx.put (hpx.ne hq)).mono (by omega)) (kp_new ((q2.trans kp9).trans kpx) hq)
      rw [rk_perm (pm9.append pn9)]
      exact rk_full fun u hu => q9 u (hperm.mem_iff.mpr hu)
end
end LaneX
set_option Elab.async false
set_option linter.all false
set_option maxRecDepth 100000
set_option maxHeartbeats 4000000
namespace LaneX
open PySem PySem.Spec PyProof.Rows L2
/-- the law's own tags -/
def tag (ss ls : List Nat) : List Nat := (tgd (ls.map (lft (bas ss)))).2
def sp_counts : Sp := fun vs H Q _ => ∃ (a c d : Addr) (ss ls ws : List Nat), vs = [.ref a, .ref c, .ref d] ∧ H a = some (.lst (ss.map vN)) ∧ H c = some (.lst (ls.map vN)) ∧ H d = some (.lst (ws.map vN)) ∧ ss.length ≤ 100000 ∧ ls.length ≤ 100000 ∧ ws.length ≤ 100000 ∧
  ∀ H' q, Same H H' → H' q = some (.tup [vN (rk (ss ++ ws) - rk ws), vN (rk (ss ++ ws) - rk ss), vN (tag ss ls).length]) → Q (.ref q) H'
def sp_space_words : Sp := fun vs H Q _ => ∃ (p lc a : Addr) (N b : Nat) (ss : List Nat), vs = [.ref p, vN b, .ref a] ∧ Pn H p lc N ∧ H a = some (.lst (ss.map vN)) ∧ b ≤ 1000 ∧ ss.length ≤ 1000 ∧ (∀ x ∈ ss, x < 2 ^ b) ∧ N + 20000 ≤ TOP ∧
  ∀ (H' : Hp) (q : Addr) (ws : List Nat), ws.length ≤ 6 → (∀ x ∈ ws, x < 2 ^ b) → H' q = some (.lst (ws.map vN)) → Pn H' p lc (N + 20000) → Kp H H' → Q (.ref q) H'
def sp_fewest : Sp := fun vs H Q _ => ∃ b l t r : Nat, vs = [vN b, vN l, vN t] ∧ b ≤ 1000 ∧ l ≤ 100000 ∧ t ≤ 100000 ∧ r < 400 ∧ 1 <<< (b + l) ≤ rch b l t r ∧ (∀ i, i < r → rch b l t i < 1 <<< (b + l)) ∧ Q (vN r) H
def sp_rounds_due : Sp := fun vs H Q _ => ∃ b l t : Nat, vs = [vN b, vN l, vN t] ∧ b ≤ 100000 ∧ l ≤ 100000 ∧ t ≤ 100000 ∧ (b ≤ 5 → rdf (b - t) l < 400 ∧ 1 <<< (b + l) ≤ rch b l t (rdf (b - t) l) ∧ ∀ i, i < rdf (b - t) l → rch b l t i < 1 <<< (b + l)) ∧ Q (vN (rdf (b - t) l)) H
def sp_steps_right : Sp := fun vs H Q _ => ∃ (q c a d : Addr) (xs ls ss ws : List Nat) (n : Nat), vs = [.ref q, .ref c, .ref a, .ref d, vN n] ∧ H q = some (.tup (xs.map vN)) ∧ H c = some (.lst (ls.map vN)) ∧ H a = some (.lst (ss.map vN)) ∧ H d = some (.lst (ws.map vN)) ∧ ss.length ≤ 100000 ∧ ls.length ≤ 100000 ∧ ws.length ≤ 100000 ∧ xs.length ≤ 100000 ∧ xs.length = n ∧
  (∀ x ∈ xs, x < 2 ^ ls.length ∧ lft (bas (ss ++ ws)) (img ls x) = 0) ∧ rk (xs.map fun x => lft (bas ss) (img ls x)) = n ∧ ∀ H', Same H H' → Q (.bl true) H'
theorem img_lt {b : Nat} {cs : List Nat} (h : ∀ c ∈ cs, c < 2 ^ b) (x : Nat) : img cs x < 2 ^ b := by
  have : ∀ n, imf cs x n < 2 ^ b := by
    intro n
    induction n with
    | zero => exact Nat.two_pow_pos b
    | succ n ih =>
      rw [imf_succ]
      split
      · refine Nat.xor_lt_two_pow ih ?_
        rw [List.getD_eq_getElem?_getD]
        cases q : cs[n]? with
        | none => exact Nat.two_pow_pos b
        | some c => exact h c (List.mem_of_getElem? q)
      · exact ih
  exact this _
section
variable {P : Program} {w : World} {K : PySem.W.Frag} {mg : Str → Option Value} {base : Heap} {f : Addr} {fd : FuncData} {CS : Addr} (T : Bt mg) (TS : SpaceT K mg CS)
include T
theorem ok_counts (F : FnP K "_law_counts" "_law_counts" s_countsL f fd) (D_basisL : Dn P w K mg base 2 "_law_basis" ["_law_words"] sp_basis) (D_sizeL : Dn P w K mg base 3 "_law_size" ["_law_words"] sp_size) (D_kernelL : Dn P w K mg base 2 "_law_kernel" ["_law_columns"] sp_kernel) (D_leftL : Dn P w K mg base 1 "_law_left" ["_law_rows", "_law_word_here"] sp_left) :
    FnOk P w K mg base CX0 4 f fd ["_law_slots", "_law_lanes", "_law_words"] sp_counts := by
  have nd := sc_countsL.nd
  refine fnok F sc_countsL (fun vs H Q E h => ?_) (fun cdv A outer s H vs Q E hr h => ?_)
  · obtain ⟨a, c, d, ss, ls, ws, rfl, _⟩ := h
    rfl
  · obtain ⟨a, c, d, ss, ls, ws, rfl, ha, hc, hd, l1, l2, l3, k⟩ := h
    refine ⟨_, (pss_cons (ps_asg (pe_tup (pa_cons (pe_d D_basisL hr (pa_cons (pv 0) pa_nil)) (pa_cons (pe_op op_cat (pe_callTy call_listQ (by rfl) T.list (by decide +kernel) (pa_cons (pv 0) pa_nil)) (pe_callTy call_listQ (by rfl) T.list (by decide +kernel) (pa_cons (pv 2) pa_nil))) pa_nil))) (pg_tup (by rfl) (pgs_cons (pg_name (i := 3) nd rfl (Or.inr rfl)) (pgs_cons (pg_name (i := 4) nd rfl (Or.inl rfl)) pgs_nil))))
  (pss_cons (ps_set (i := 5) nd rfl (Or.inl rfl) (pe_op on_sub (pe_op on_add (pe_callB call_lenQ (by rfl) T.len PySem.boot_len (pa_cons (pv 3) pa_nil)) (pe_d D_sizeL hr (pa_cons (pv 2) pa_nil))) (pe_d D_sizeL hr (pa_cons (pv 4) pa_nil))))
  (pss_cons (ps_set (i := 6) nd rfl (Or.inl rfl) (pe_callB call_lenQ (by rfl) T.len PySem.boot_len (pa_cons (pe_d D_kernelL hr (pa_cons (pe_lc (own := [("_law_word_here", 7)]) (g := gName 7) (by rfl) nd (pi_seq (pv 1)) (blkOk_by (own := [("_law_word_here", 7)]) (N := ["_law_slots", "_law_lanes", "_law_words", "_law_rows", "_law_both", "_law_shared", "_law_twins", "_law_word_here"]) (sc := defScope s_countsL) (by decide +kernel)) (fun _ _ _ _ _ => (pg_name (i := 7) nd rfl (Or.inl rfl))) (fun _ _ _ _ _ => pts_nil) (fun _ _ _ _ _ => (pe_d D_leftL hr (pa_cons (pv 3) (pa_cons (pv 7) pa_nil))))) pa_nil)) pa_nil)))
  (pss_one (ps_ret (pe_tup (pa_cons (pe_op on_sub (pe_callB call_lenQ (by rfl) T.len PySem.boot_len (pa_cons (pv 3) pa_nil)) (pv 5)) (pa_cons (pe_op on_sub (pe_d D_sizeL hr (pa_cons (pv 4) pa_nil)) (pe_callB call_lenQ (by rfl) T.len PySem.boot_len (pa_cons (pv 3) pa_nil))) (pa_cons (pv 6) pa_nil))))))))), ?_⟩
    refine ⟨_, rfl, a, ss, rfl, .inl ha, by omega, fun H1 e s1 he h1 => ?_⟩
    refine ⟨_, rfl, a, _, rfl, .inl (s1 _ _ ha), fun x1 hx1 => ?_⟩
    have s2 := same_new (o := .lst (ss.map vN)) s1 hx1
    refine ⟨_, rfl, d, _, rfl, .inl (s2 _ _ hd), fun x2 hx2 => ?_⟩
    have s3 := same_new (o := .lst (ws.map vN)) s2 hx2
    refine ⟨_, _, _, _, rfl, rfl, upd_new hx2 upd_same, upd_same, (by rw [List.length_map, List.length_map, sizeLine_eq]; omega), fun x3 hx3 => ?_⟩
    have s4 := same_new (o := .lst (ss.map vN ++ ws.map vN)) s3 hx3
    have h4 : upd (upd (upd H1 x1 (.lst (ss.map vN))) x2 (.lst (ws.map vN))) x3 (.lst (ss.map vN ++ ws.map vN)) e = some (.lst ((bas ss).map vN)) := upd_new hx3 (upd_new hx2 (upd_new hx1 h1))
    have g4 : upd (upd (upd H1 x1 (.lst (ss.map vN))) x2 (.lst (ws.map vN))) x3 (.lst (ss.map vN ++ ws.map vN)) x3 = some (.lst ((ss ++ ws).map vN)) := by rw [upd_same, List.map_append]
    refine ⟨(by show 2 ≤ sizeLine; decide), fun x4 hx4 => ?_⟩
    refine ⟨x4, _, rfl, SqT.of upd_same, rfl, _, _, rfl, _, _, rfl, rfl, ?_⟩
    have s5 := same_new (o := .tup [.ref e, .ref x3]) s4 hx4
    have h5 := upd_new (o := .tup [.ref e, .ref x3]) hx4 h4
    have g5 := upd_new (o := .tup [.ref e, .ref x3]) hx4 g4
    have b1 := rk_app ss ws
    have b2 := rk_left ss ws
    have b3 := rk_right ss ws
    refine ⟨_, rfl, e, _, rfl, .inl h5, _, rfl, d, ws, rfl, .inl (s5 _ _ hd), by omega, fun H6 s6 => ?_⟩
    rw [List.length_map, bas_len]
    refine ⟨_, _, rfl, rfl, _, rfl, x3, ss ++ ws, rfl, .inl (s6 _ _ g5), (by rw [List.length_append]; omega), fun H7 s7 => ?_⟩
    refine ⟨_, _, rfl, rfl, b1, ?_⟩
    have s57 := s5.trans (s6.trans s7)
    have h7 := (s6.trans s7) _ _ h5
    have g7 := (s6.trans s7) _ _ g5
    refine ⟨_, rfl, lc_pure ls vN (fun _ => true) (fun x => vN (lft (bas ss) x)) (.inl (s57 _ _ hc)) (by omega) (fun n H' hn s => ?_) (fun D H8 hD s8 h8 => ?_)⟩
    · intro Z Nx z1 z2
      exact ⟨rfl, _, rfl, _, rfl, e, _, n, rfl, .inl (s _ _ h7), (bas_lws ss).nz, z1 rfl _ (Same.refl _)⟩
    · rw [filt_true] at h8
      refine ⟨D, ls.map (lft (bas ss)), rfl, .inl (by rw [h8, List.map_map]; rfl), (by rw [List.length_map]; omega), fun H9 q9 s9 hq9 h9 => ?_⟩
      refine ⟨q9, _, rfl, .inl h9, ?_⟩
      rw [List.length_map]
      have sF := s57.trans (s8.trans s9)
      have hF := (s8.trans s9) _ _ h7
      have gF := (s8.trans s9) _ _ g7
      refine ⟨_, rfl, e, _, rfl, .inl hF, ?_⟩
      rw [List.length_map, bas_len]
      refine ⟨_, rfl, _, _, rfl, rfl, (by omega), _, rfl, x3, ss ++ ws, rfl, .inl gF, (by rw [List.length_append]; omega), fun Ha sa => ?_⟩
      refine ⟨_, rfl, e, _, rfl, .inl (sa _ _ hF), ?_⟩
      rw [List.length_map, bas_len]
      refine ⟨_, _, rfl, rfl, b2, _, rfl, (by show 3 ≤ sizeLine; decide), fun q hq => ?_⟩
      refine k _ q (same_new (sF.trans sa) hq) ?_
      rw [upd_same]
      have ek : rk ss - (rk ss + rk ws - rk (ss ++ ws)) = rk (ss ++ ws) - rk ws := by omega
      rw [ek]
      rfl
end
end LaneX
set_option Elab.async false
set_option linter.all false
set_option maxRecDepth 100000
set_option maxHeartbeats 4000000
namespace LaneX
open PySem PySem.Spec PyProof.Rows L2
section
variable {P : Program} {w : World} {K : PySem.W.Frag} {mg : Str → Option Value} {base : Heap} {f : Addr} {fd : FuncData} {CS : Addr} (T : Bt mg) (TS : SpaceT K mg CS)
include T
theorem ok_space_words (F : FnP K "_law_space_words" "_law_space_words" s_space_wordsL f fd) (D_drawL : Dn P w K mg base 1 "_law_draw" ["_law_pen", "_law_span"] sp_draw) (D_wordL : Dn P w K mg base 2 "_law_word" ["_law_pen", "_law_bits"] sp_word) (D_imageL : Dn P w K mg base 1 "_law_image" ["_law_columns", "_law_word_here"] sp_image) :
    FnOk P w K mg base CX0 3 f fd ["_law_pen", "_law_bits", "_law_slots"] sp_space_words := by
  have nd := sc_space_wordsL.nd
  refine fnok F sc_space_wordsL (fun vs H Q E h => ?_) (fun cdv A outer s H vs Q E hr h => ?_)
  · obtain ⟨p, lc, a, N, b, ss, rfl, _⟩ := h
    rfl
  · obtain ⟨p, lc, a, N, b, ss, rfl, hp, ha, hb, hl, hss, hN, k⟩ := h
    refine ⟨_, (pss_cons (ps_set (i := 3) nd rfl (Or.inl rfl) (pe_lst pa_nil))
  (pss_cons (ps_for PassesOwn.never rfl (pi_range1 (by rfl) T.range (pa_cons (pe_d D_drawL hr (pa_cons (pv 0) (pa_cons (pe_op on_add pe_int (pe_callB (call_minN rfl) (by rfl) T.min (by decide +kernel) (pa_cons (pe_callTy call_intQ (by rfl) T.int (by decide +kernel) (pa_cons (pv 1) pa_nil)) (pa_cons pe_int pa_nil)))) pa_nil))) pa_nil)) (pg_name (i := 4) nd rfl (Or.inl rfl))
    (pss_cons (ps_set (i := 5) nd rfl (Or.inl rfl) (pe_d D_drawL hr (pa_cons (pv 0) (pa_cons pe_int pa_nil))))
    (pss_cons (ps_set (i := 6) nd rfl (Or.inl rfl) (pe_ifExp (PW.pt (pw_or (pt_cmpR op_gt (pv 5) pe_int (nomark _)) (pw_or1 (pt_cmpR (op_eqE hr.units) (pv 2) (pe_lst pa_nil) (nomark _))))) (pe_d D_wordL hr (pa_cons (pv 0) (pa_cons (pv 1) pa_nil))) pe_int))
    (pss_cons (ps_if (PW.pt (pw_and (pt_cmpR (op_neE hr.units) (pv 2) (pe_lst pa_nil) (nomark _)) (pw_and1 (pt_cmpR op_lt (pv 5) pe_int (nomark _)))))
      (pss_one (ps_set (i := 6) nd rfl (Or.inl rfl) (pe_op on_xor (pv 6) (pe_d D_imageL hr (pa_cons (pv 2) (pa_cons (pe_d D_wordL hr (pa_cons (pv 0) (pa_cons (pe_callB call_lenQ (by rfl) T.len PySem.boot_len (pa_cons (pv 2) pa_nil)) pa_nil))) pa_nil))))))
      pss_nil)
    (pss_one (ps_expr (pe_bm PySem.F.plainAttrs_list PySem.F.slot_list_append PySem.F.type_list_append mt_append (pv 3) (pa_cons (pv 6) pa_nil))))))))
  (pss_one (ps_ret (pv 3))))), ?_⟩
    have hN' : N + 20000 ≤ 1099511627776 := hN
    refine ⟨(by decide), fun l0 hl0 => ?_⟩
    have ne0 := hp.ne hl0
    have nal : a ≠ l0 := ne_of_none ha hl0
    have hp0 : Pn (upd H l0 (.lst [])) p lc N := hp.put ne0
    refine ⟨_, rfl, _, rfl, _, rfl, b, 6, rfl, 1, min b 6, rfl, rfl, p, lc, N, 1 + min b 6, rfl, hp0, (by omega), (by omega), (by show N + 1 ≤ 1099511627776; omega), fun H1 r hr1 hp1 kp1 => ?_⟩
    have h1 : H1 l0 = some (.lst []) := kp1 _ _ upd_same rfl
    have k1 : Kp H H1 := (Kp.of (same_new0 hl0)).trans kp1
    refine ⟨_, rfl, (by omega), (by omega), for_range (n := r) (fun i σ H2 => ∃ v4 v5 v6 ws, σ = [some (.ref p), some (vN b), some (.ref a), some (.ref l0), v4, v5, v6] ∧ Pn H2 p lc (N + 1 + i * 2001) ∧ Kp H H2 ∧ H2 l0 = some (.lst (ws.map vN)) ∧ ws.length = i ∧ ∀ x ∈ ws, x < 2 ^ b)
      ⟨none, none, none, [], rfl, hp1.mono (by omega), k1, h1, rfl, fun x hx => by cases hx⟩ ?_ ?_⟩
    · rintro i σ H2 hi ⟨v4, v5, v6, ws, rfl, hp2, kp2, h2, hlen, hws⟩
      refine ⟨_, rfl, p, lc, N + 1 + i * 2001, 3, rfl, hp2, (by decide), (by decide), (by show N + 1 + i * 2001 + 1 ≤ 1099511627776; omega), fun H3 kd hkd hp3 kp3 => ?_⟩
      have k3 := kp2.trans kp3
      have h3 := kp3 _ _ h2 rfl
      -- the first word: any word of b bits
      have STEP : ∀ {H4 : Hp} {x : Nat}, x < 2 ^ b → Pn H4 p lc (N + 1 + i * 2001 + 1 + 1000) → Kp H H4 → H4 l0 = some (.lst (ws.map vN)) → True := fun _ _ _ _ => trivial
      have fin : ∀ {H4 : Hp} {x : Nat} {u4 u5 : Option V}, x < 2 ^ b → Pn H4 p lc (N + 1 + (i + 1) * 2001) → Kp H H4 → H4 l0 = some (.lst (ws.map vN)) → (ws.map vN).length < sizeLine ∧ ∃ (v4 v5 v6 : Option V) (ws' : List Nat), [some (V.ref p), some (vN b), some (.ref a), some (.ref l0), u4, u5, some (vN x)] = [some (V.ref p), some (vN b), some (.ref a), some (.ref l0), v4, v5, v6] ∧ Pn (upd H4 l0 (.lst (ws.map vN ++ [vN x]))) p lc (N + 1 + (i + 1) * 2001) ∧ Kp H (upd H4 l0 (.lst (ws.map vN ++ [vN x]))) ∧ upd H4 l0 (.lst (ws.map vN ++ [vN x])) l0 = some (.lst (ws'.map vN)) ∧ ws'.length = i + 1 ∧ ∀ x ∈ ws', x < 2 ^ b := fun {H4 x u4 u5} hx hp4 kp4 h4 => by
        refine ⟨by rw [List.length_map, hlen]; exact size6 (by omega), _, _, _, ws ++ [x], rfl, hp4.put ne0, kp_put kp4 hl0, by rw [upd_same, List.map_append]; rfl, by rw [List.length_append, hlen]; rfl, fun y hy => ?_⟩
        rcases List.mem_append.mp hy with hy | hy
        · exact hws y hy
        · rcases List.mem_singleton.mp hy with rfl; exact hx
      refine ⟨_, rfl, _, _, rfl, rfl, _, rfl, br (fun e1 => ?_) (fun e1 => ?_)⟩
      · refine ⟨_, rfl, _, rfl, p, lc, N + 1 + i * 2001 + 1, b, rfl, hp3, hb, (by show N + 1 + i * 2001 + 1 + 1000 ≤ 1099511627776; omega), fun H4 x hx hp4 kp4 => ?_⟩
        have k4 := k3.trans kp4
        have h4 := kp4 _ _ h3 rfl
        refine ⟨_, rfl, (by decide), fun q5 hq5 => ?_⟩
        have k5 := kp_new (o := .lst []) k4 hq5
        have hp5 := hp4.put (o := .lst []) (hp4.ne hq5)
        have h5 := upd_new (o := .lst []) hq5 h4
        have a5 := upd_new (o := .lst []) hq5 (k4 _ _ ha rfl)
        refine ⟨a, q5, ss, rfl, rfl, a5, upd_same, _, rfl, br (fun e3 => ?_) (fun e3 => ?_)⟩
        · refine ⟨_, rfl, _, _, rfl, rfl, _, rfl, br (fun e4 => ?_) (fun e4 => ?_)⟩
          · refine ⟨_, rfl, _, rfl, _, rfl, _, rfl, a, _, rfl, .inl a5, p, lc, N + 1 + i * 2001 + 1 + 1000, (ss.map vN).length, rfl, hp5, (by rw [List.length_map]; exact hl), (by show N + 1 + i * 2001 + 1 + 1000 + 1000 ≤ 1099511627776; omega), fun H6 y hy hp6 kp6 => ?_⟩
            refine ⟨a, ss, y, rfl, .inl (kp6 _ _ a5 rfl), by (rw [List.length_map] at hy); omega, _, _, rfl, rfl, ?_⟩
            have h6 := kp6 _ _ h5 rfl
            obtain ⟨z1, z2⟩ := fin (H4 := H6) (Nat.xor_lt_two_pow hx (img_lt hss y)) (hp6.mono (by omega)) (k5.trans kp6) h6
            exact ⟨_, rfl, .inl ⟨rfl, _, SqL.of h6⟩, _, rfl, l0, _, _, rfl, rfl, h6, z1, z2⟩
          · obtain ⟨z1, z2⟩ := fin hx (hp5.mono (by omega)) k5 h5
            exact ⟨_, rfl, .inl ⟨rfl, _, SqL.of h5⟩, _, rfl, l0, _, _, rfl, rfl, h5, z1, z2⟩
        · obtain ⟨z1, z2⟩ := fin hx (hp5.mono (by omega)) k5 h5
          exact ⟨_, rfl, .inl ⟨rfl, _, SqL.of h5⟩, _, rfl, l0, _, _, rfl, rfl, h5, z1, z2⟩
      · refine ⟨_, rfl, (by decide), fun q hq => ?_⟩
        have k4' := kp_new (o := .lst []) k3 hq
        have hp3' : Pn (upd H3 q (.lst [])) p lc (N + 1 + i * 2001 + 1) := hp3.put (hp3.ne hq)
        refine ⟨a, q, ss, rfl, rfl, upd_new hq (k3 _ _ ha rfl), upd_same, _, rfl, br (fun e2 => ?_) (fun e2 => ?_)⟩
        · refine ⟨_, rfl, _, rfl, p, lc, N + 1 + i * 2001 + 1, b, rfl, hp3', hb, (by show N + 1 + i * 2001 + 1 + 1000 ≤ 1099511627776; omega), fun H4 x hx hp4 kp4 => ?_⟩
          have k4 := k4'.trans kp4
          have h4 := kp4 _ _ (upd_new hq h3) rfl
          refine ⟨_, rfl, (by decide), fun q5 hq5 => ?_⟩
          have k5 := kp_new (o := .lst []) k4 hq5
          have hp5 := hp4.put (o := .lst []) (hp4.ne hq5)
          have h5 := upd_new (o := .lst []) hq5 h4
          have a5 := upd_new (o := .lst []) hq5 (k4 _ _ ha rfl)
          refine ⟨a, q5, ss, rfl, rfl, a5, upd_same, _, rfl, br (fun e3 => ?_) (fun e3 => ?_)⟩
          · refine ⟨_, rfl, _, _, rfl, rfl, _, rfl, br (fun e4 => ?_) (fun e4 => ?_)⟩
            · refine ⟨_, rfl, _, rfl, _, rfl, _, rfl, a, _, rfl, .inl a5, p, lc, N + 1 + i * 2001 + 1 + 1000, (ss.map vN).length, rfl, hp5, (by rw [List.length_map]; exact hl), (by show N + 1 + i * 2001 + 1 + 1000 + 1000 ≤ 1099511627776; omega), fun H6 y hy hp6 kp6 => ?_⟩
              refine ⟨a, ss, y, rfl, .inl (kp6 _ _ a5 rfl), by (rw [List.length_map] at hy); omega, _, _, rfl, rfl, ?_⟩
              have h6 := kp6 _ _ h5 rfl
              obtain ⟨z1, z2⟩ := fin (H4 := H6) (Nat.xor_lt_two_pow hx (img_lt hss y)) (hp6.mono (by omega)) (k5.trans kp6) h6
              exact ⟨_, rfl, .inl ⟨rfl, _, SqL.of h6⟩, _, rfl, l0, _, _, rfl, rfl, h6, z1, z2⟩
            · obtain ⟨z1, z2⟩ := fin hx (hp5.mono (by omega)) k5 h5
              exact ⟨_, rfl, .inl ⟨rfl, _, SqL.of h5⟩, _, rfl, l0, _, _, rfl, rfl, h5, z1, z2⟩
          · obtain ⟨z1, z2⟩ := fin hx (hp5.mono (by omega)) k5 h5
            exact ⟨_, rfl, .inl ⟨rfl, _, SqL.of h5⟩, _, rfl, l0, _, _, rfl, rfl, h5, z1, z2⟩
        · have hx : 0 < 2 ^ b := Nat.two_pow_pos b
          have k4 := k4'
          have h4 := upd_new (o := .lst []) hq h3
          have hp4 := hp3'.mono (M := N + 1 + i * 2001 + 1 + 1000) (by omega)
          refine ⟨_, rfl, (by decide), fun q5 hq5 => ?_⟩
          have k5 := kp_new (o := .lst []) k4 hq5
          have hp5 := hp4.put (o := .lst []) (hp4.ne hq5)
          have h5 := upd_new (o := .lst []) hq5 h4
          have a5 := upd_new (o := .lst []) hq5 (k4 _ _ ha rfl)
          refine ⟨a, q5, ss, rfl, rfl, a5, upd_same, _, rfl, br (fun e3 => ?_) (fun e3 => ?_)⟩
          · refine ⟨_, rfl, _, _, rfl, rfl, _, rfl, br (fun e4 => ?_) (fun e4 => ?_)⟩
            · refine ⟨_, rfl, _, rfl, _, rfl, _, rfl, a, _, rfl, .inl a5, p, lc, N + 1 + i * 2001 + 1 + 1000, (ss.map vN).length, rfl, hp5, (by rw [List.length_map]; exact hl), (by show N + 1 + i * 2001 + 1 + 1000 + 1000 ≤ 1099511627776; omega), fun H6 y hy hp6 kp6 => ?_⟩
              refine ⟨a, ss, y, rfl, .inl (kp6 _ _ a5 rfl), by (rw [List.length_map] at hy); omega, _, _, rfl, rfl, ?_⟩
              have h6 := kp6 _ _ h5 rfl
              obtain ⟨z1, z2⟩ := fin (H4 := H6) (Nat.xor_lt_two_pow hx (img_lt hss y)) (hp6.mono (by omega)) (k5.trans kp6) h6
              exact ⟨_, rfl, .inl ⟨rfl, _, SqL.of h6⟩, _, rfl, l0, _, _, rfl, rfl, h6, z1, z2⟩
            · obtain ⟨z1, z2⟩ := fin hx (hp5.mono (by omega)) k5 h5
              exact ⟨_, rfl, .inl ⟨rfl, _, SqL.of h5⟩, _, rfl, l0, _, _, rfl, rfl, h5, z1, z2⟩
          · obtain ⟨z1, z2⟩ := fin hx (hp5.mono (by omega)) k5 h5
            exact ⟨_, rfl, .inl ⟨rfl, _, SqL.of h5⟩, _, rfl, l0, _, _, rfl, rfl, h5, z1, z2⟩
    · rintro σ H2 ⟨v4, v5, v6, ws, rfl, hp2, kp2, h2, hlen, hws⟩
      exact ⟨_, rfl, k _ _ ws (by omega) hws h2 (hp2.mono (by omega)) kp2⟩
end
end LaneX
set_option Elab.async false
set_option linter.all false
set_option maxRecDepth 100000
set_option maxHeartbeats 4000000
namespace LaneX
open PySem PySem.Spec PyProof.Rows L2
def sp_begun : Sp := fun vs H Q _ => ∃ (a c r : Addr) (ss ls rows : List Nat), vs = [.ref a, .ref c, .ref r] ∧ H a = some (.lst (ss.map vN)) ∧ H c = some (.lst (ls.map vN)) ∧ H r = some (.lst (rows.map vN)) ∧ ss.length ≤ 4 ∧ ls.length ≤ 5 ∧ (∀ x ∈ ss, x < 2 ^ 5) ∧ (∀ x ∈ ls, x < 2 ^ 5) ∧ (∀ x ∈ rows, x < 2 ^ 5 ∧ x ≠ 0) ∧
  ∀ H' q, Same H H' → H q = none → Lanes H' q rows (Ent ss ls []) (2 ^ ls.length) → Q (.ref q) H'
theorem Same.tups {H H' : Hp} (s : Same H H') : ∀ t vs, H t = some (.tup vs) → H' t = some (.tup vs) := fun t vs h => s _ _ h
section
variable {P : Program} {w : World} {K : PySem.W.Frag} {mg : Str → Option Value} {base : Heap} {f : Addr} {fd : FuncData} (T : Bt mg)
include T
theorem ok_begun (F : FnP K "_law_begun" "_law_begun" s_begunL f fd) (D_imageL : Dn P w K mg base 1 "_law_image" ["_law_columns", "_law_word_here"] sp_image) (D_leftL : Dn P w K mg base 1 "_law_left" ["_law_rows", "_law_word_here"] sp_left) :
    FnOk P w K mg base CX0 2 f fd ["_law_slots", "_law_lanes", "_law_rows"] sp_begun := by
  have nd := sc_begunL.nd
  refine fnok F sc_begunL (fun vs H Q E h => ?_) (fun cdv A outer s H vs Q E hr h => ?_)
  · obtain ⟨a, c, r, ss, ls, rows, rfl, _⟩ := h
    rfl
  · obtain ⟨a, c, r, ss, ls, rows, rfl, ha, hc, hrw, l1, l2, hs, hl, hrr, k⟩ := h
    have hu := hu_of hr
    refine ⟨_, (pss_cons (ps_set (i := 3) nd rfl (Or.inl rfl) (pe_lst pa_nil))
  (pss_cons (ps_for PassesOwn.never rfl (pi_range1 (by rfl) T.range (pa_cons (pe_op on_shl pe_int (pe_callB call_lenQ (by rfl) T.len PySem.boot_len (pa_cons (pv 1) pa_nil))) pa_nil)) (pg_name (i := 4) nd rfl (Or.inl rfl))
    (pss_cons (ps_asg (pe_tup (pa_cons pe_dnewK (pa_cons (pe_d D_imageL hr (pa_cons (pv 1) (pa_cons (pv 4) pa_nil))) pa_nil))) (pg_tup (by rfl) (pgs_cons (pg_name (i := 5) nd rfl (Or.inl rfl)) (pgs_cons (pg_name (i := 6) nd rfl (Or.inr rfl)) pgs_nil))))
    (pss_cons (ps_for PassesOwn.never rfl (pi_seq (pe_callB (cr_sortedSetN rfl) (by rfl) T.sorted (by decide +kernel) (pa_cons (pe_callTy (cr_setL rfl) (by rfl) T.set (by decide +kernel) (pa_cons (pe_lc (own := [("_law_slot", 9)]) (g := gName 9) (by rfl) nd (pi_range1 (by rfl) T.range (pa_cons (pe_op on_shl pe_int (pe_callB call_lenQ (by rfl) T.len PySem.boot_len (pa_cons (pv 0) pa_nil))) pa_nil)) (blkOk_by (own := [("_law_slot", 9)]) (N := ["_law_slots", "_law_lanes", "_law_rows", "_law_found", "_law_lane", "_law_values", "_law_base", "_law_entry", "_law_coset", "_law_slot"]) (sc := defScope s_begunL) (by decide +kernel)) (fun _ _ _ _ _ => (pg_name (i := 9) nd rfl (Or.inl rfl))) (fun _ _ _ _ _ => pts_nil) (fun _ _ _ _ _ => (pe_op on_xor (pv 6) (pe_d D_imageL hr (pa_cons (pv 0) (pa_cons (pv 9) pa_nil)))))) pa_nil)) pa_nil))) (pg_name (i := 7) nd rfl (Or.inl rfl))
      (pss_cons (ps_set (i := 8) nd rfl (Or.inl rfl) (pe_d D_leftL hr (pa_cons (pv 2) (pa_cons (pv 7) pa_nil))))
      (pss_one (ps_asg (pe_tup (pa_cons (pe_op on_or (pe_ix ix_q (pe_dget2 hu (pv 5) (pv 8) (pe_tup (pa_cons pe_int (pa_cons pe_bl pa_nil))) ⟨rfl, rfl, rfl, rfl⟩) pe_int (fun _ _ => rfl)) (pe_op on_shl pe_int (pv 7))) (pa_cons pe_bl pa_nil))) (pg_sub (pv 5) (pv 8) (set_dict hu))))))
    (pss_one (ps_expr (pe_bm PySem.F.plainAttrs_list PySem.F.slot_list_append PySem.F.type_list_append mt_append (pv 3) (pa_cons (pv 5) pa_nil)))))))
  (pss_one (ps_ret (pv 3))))), ?_⟩
    have o1 : blen 1 ≤ 1000000 := by rw [blen_one]; decide
    refine ⟨(by show 0 ≤ sizeLine; decide), fun g hg => ?_⟩
    refine ⟨_, rfl, c, _, rfl, .inl (upd_new hg hc), 1, _, rfl, rfl, shl_ok1 o1 (by rw [List.length_map]; omega), ?_⟩
    rw [List.length_map]
    generalize hT : 1 <<< ls.length = TT
    have eT : TT = 2 ^ ls.length := by rw [← hT, Nat.one_shiftLeft]
    have tl : TT ≤ 32 := by rw [eT]; exact Nat.pow_le_pow_right (n := 2) (by decide) l2
    have g0 : Same H (upd H g (.lst [])) := same_new0 hg
    refine ⟨_, rfl, (by omega), (by omega), for_range (n := TT) (fun i σ H9 => ∃ v4 v5 v6 v7 v8 ds, σ = [some (.ref a), some (.ref c), some (.ref r), some (.ref g), v4, v5, v6, v7, v8, none] ∧ Same H H9 ∧ H9 g = some (.lst (ds.map V.ref)) ∧ ds.length = i ∧ ∀ L d, ds[L]? = some d → ∃ kvs, H9 d = some (.dK kvs) ∧ LnAt H9 rows (Ent ss ls [] L) kvs)
      ⟨none, none, none, none, none, [], rfl, g0, upd_same, rfl, fun L d hd => by simp at hd⟩ ?_ ?_⟩
    · rintro i σ H9 hi ⟨v4, v5, v6, v7, v8, ds, rfl, s9, hg9, hdl, hds⟩
      rw [show (0 : Int) + (i : Int) = (i : Int) by omega]
      intro sd hsd
      refine ⟨_, rfl, _, rfl, c, ls, i, rfl, .inl (upd_new hsd (s9 _ _ hc)), (by omega), (by show 2 ≤ sizeLine; decide), fun x5 hx5 => ⟨x5, _, rfl, SqT.of upd_same, rfl, _, _, rfl, _, _, rfl, rfl, ?_⟩⟩
      have s10 : Same H9 (upd (upd H9 sd (.dK [])) x5 (.tup [.ref sd, vN (img ls i)])) := same_new (same_new0 hsd) hx5
      have d10 : upd (upd H9 sd (.dK [])) x5 (.tup [.ref sd, vN (img ls i)]) sd = some (.dK []) := upd_new hx5 upd_same
      generalize upd (upd H9 sd (.dK [])) x5 (.tup [.ref sd, vN (img ls i)]) = H10 at *
      refine ⟨_, rfl, a, _, rfl, .inl (s10 _ _ (s9 _ _ ha)), 1, _, rfl, rfl, shl_ok1 o1 (by rw [List.length_map]; omega), ?_⟩
      rw [List.length_map]
      have el : 1 <<< ss.length = 2 ^ ss.length := Nat.one_shiftLeft _
      have sl : 1 <<< ss.length ≤ 16 := by rw [el]; exact Nat.pow_le_pow_right (n := 2) (by decide) l1
      generalize hU : 1 <<< ss.length = UU at el sl ⊢
      refine ⟨_, rfl, (by omega), (by omega), lc_pureR (n := UU) (fun _ => true) (fun z => vN (img ls i ^^^ img ss z)) (by omega) (fun z H' hz s => ?_) (fun D H11 hD s11 h11 => ?_)⟩
      · intro Z Nx z1 z2
        exact ⟨rfl, _, rfl, _, rfl, _, rfl, a, ss, z, rfl, .inl (s _ _ (s10 _ _ (s9 _ _ ha))), by omega, _, _, rfl, rfl, z1 rfl _ (Same.refl _)⟩
      rw [filt_true] at h11
      generalize hns : (List.range UU).map (fun z => img ls i ^^^ img ss z) = ns
      have h11' : H11 D = some (.lst ((ns.map Int.ofNat).map V.int)) := by
        rw [h11, ← hns, List.map_map, List.map_map]; rfl
      have nl : ns.length ≤ 16 := by rw [← hns]; simpa using sl
      have nm : ∀ e, e ∈ ns ↔ Ent ss ls [] i e := fun e => by
        rw [ent_nil, ← hns, List.mem_map]
        constructor
        · rintro ⟨z, hz, rfl⟩
          exact ⟨z, by rw [← el]; exact List.mem_range.mp hz, rfl⟩
        · rintro ⟨z, hz, rfl⟩
          exact ⟨z, List.mem_range.mpr (by rw [el]; exact hz), rfl⟩
      refine ⟨D, ns.map Int.ofNat, rfl, SqL.of h11', (by rw [List.length_map]; omega), fun st cn ob hst hcn hob => ?_⟩
      rw [List.length_map] at hcn
      refine ⟨st, ns, cn, rfl, upd_same.trans (congrArg some hob), (by omega), fun so ms hso hpw hmem hlen => ?_⟩
      have s12 : Same H11 (upd (upd H11 st ob) so (.lst (ms.map vN))) := same_new (same_new0 hst) hso
      have h12 : upd (upd H11 st ob) so (.lst (ms.map vN)) so = some (.lst (ms.map vN)) := upd_same
      have nso : so ≠ sd := fun z => by
        have := upd_new (o := ob) hst (s11 _ _ d10)
        rw [z] at hso; rw [hso] at this; cases this
      generalize upd (upd H11 st ob) so (.lst (ms.map vN)) = H12 at *
      have s912 : Same H9 H12 := (s10.trans s11).trans s12
      have d12 : H12 sd = some (.dK []) := s12 _ _ (s11 _ _ d10)
      have mlt : ∀ e ∈ ms, e < 32 := fun e he => ent_lt (b := 5) hs hl ((nm e).mp ((hmem e).mp he))
      have lft32 : ∀ e, e < 32 → lft rows e < 32 := fun e he => lft_lt (k := 5) (fun x hx => (hrr x hx).1) he
      refine for_sq2 (K := K) (Tq.l h12) (fun j σ H2 => ∃ v7 v8 kvs, σ = [some (.ref a), some (.ref c), some (.ref r), some (.ref g), some (vN i), some (.ref sd), some (vN (img ls i)), v7, v8, none] ∧ Same H9 H2 ∧ H2 so = some (.lst (ms.map vN)) ∧ H2 sd = some (.dK kvs) ∧ LnAt H2 rows (fun e => e ∈ ms.take j) kvs)
        ⟨v7, v8, [], rfl, s912, h12, d12, (LnAt.nil H12 rows).congr fun e => by simp⟩ (fun j σ H2 hp o ho => ?_) ?_ ?_
      · obtain ⟨_, _, _, _, _, z, _⟩ := hp
        rw [h12] at ho; cases ho; exact z
      · rintro j y σ H2 hy ⟨v7, v8, kvs, rfl, s2, hso2, hd2, A2⟩
        obtain ⟨e, he, rfl⟩ := map_get hy
        have e32 := mlt e (List.mem_of_getElem? he)
        refine ⟨_, rfl, _, rfl, r, rows, e, rfl, .inl (s2 _ _ (s9 _ _ hrw)), (fun x hx => (hrr x hx).2), ?_⟩
        refine ⟨_, rfl, sd, rfl, .inl ⟨kvs, .inl hd2⟩, _, rfl, (by show 2 ≤ sizeLine; decide), fun x0 hx0 => ?_⟩
        have A3 : LnAt (upd H2 x0 (.tup [vN 0, .bl true])) rows (fun e => e ∈ ms.take j) kvs := A2.mono (Same.tups (same_new0 hx0))
        obtain ⟨t, m, et, ht, hm⟩ := A3.get upd_same (lft rows e)
        refine ⟨_, DGet.k (k := kn (lft rows e)) (upd_new hx0 hd2), ?_⟩
        rw [et]
        refine ⟨t, _, 0, _, rfl, rfl, .inr ht, rfl, ?_⟩
        refine ⟨_, rfl, 1, e, rfl, rfl, shl_ok1 o1 (by omega), m, 1 <<< e, rfl, rfl, (by show 2 ≤ sizeLine; decide), fun x1 hx1 => ?_⟩
        have s3 : Same H2 (upd (upd H2 x0 (.tup [vN 0, .bl true])) x1 (.tup [vN (m ||| 1 <<< e), .bl true])) := same_new (same_new0 hx0) hx1
        have h3 : upd (upd H2 x0 (.tup [vN 0, .bl true])) x1 (.tup [vN (m ||| 1 <<< e), .bl true]) x1 = some (.tup [vN (m ||| 1 <<< e), .bl true]) := upd_same
        have A4 := A3.mono (Same.tups (same_new0 (o := .tup [vN (m ||| 1 <<< e), .bl true]) hx1))
        generalize upd (upd H2 x0 (.tup [vN 0, .bl true])) x1 (.tup [vN (m ||| 1 <<< e), .bl true]) = H3 at *
        have hd3 := s3 _ _ hd2
        have lk : kvs.length ≤ 32 := A2.sn.le (n := 32) fun c' hc' => by
          obtain ⟨e', h1, rfl⟩ := hc'
          exact lft32 _ (mlt e' (List.mem_of_mem_take h1))
        refine ⟨_, rfl, _, rfl, sd, _, rfl, DPut.k (k := kn (lft rows e)) hd3 (by rw [sizeLine_eq]; omega), ?_⟩
        have nt : ∀ t vs, H3 t = some (.tup vs) → t ≠ sd := fun t vs h z => by rw [z, hd3] at h; cases h
        refine ⟨_, _, _, rfl, same_put (s2.trans s3) hsd, (upd_ne nso).trans (s3 _ _ hso2), upd_same, A4.put (fun t vs h => (upd_ne (nt t vs h)).trans h) (m := m ||| 1 <<< e) ((upd_ne (nt _ _ h3)).trans h3) ?_ ⟨e, ?_, rfl⟩ (fun e' hne => ?_)⟩
        · refine (hm.or (Msk.unit e)).congr fun e' => ?_
          rw [take_succ he]; simp
        · rw [take_succ he]; simp
        · rw [take_succ he]
          constructor
          · intro h
            rcases List.mem_append.mp h with h | h
            · exact h
            · rcases List.mem_singleton.mp h with rfl
              exact absurd rfl hne
          · exact List.mem_append_left _
      · rintro σ H2 ⟨v7, v8, kvs, rfl, s2, hso2, hd2, A2⟩
        rw [List.length_map, List.take_length] at A2
        have A3 : LnAt H2 rows (Ent ss ls [] i) kvs := A2.congr fun e => by rw [hmem, nm]
        have hg2 := s2 _ _ hg9
        refine ⟨_, rfl, .inl ⟨rfl, _, SqL.of hg2⟩, _, rfl, g, _, _, rfl, rfl, hg2, (by rw [List.length_map]; exact size6 (by omega)), ?_⟩
        have keep : ∀ {b : Addr} {kv : List (Key × V)}, H2 b = some (.dK kv) → upd H2 g (.lst (ds.map V.ref ++ [.ref sd])) b = some (.dK kv) := fun {b kv} h => (upd_ne (fun z => by rw [z, hg2] at h; cases h)).trans h
        have tk : ∀ t vs, H2 t = some (.tup vs) → upd H2 g (.lst (ds.map V.ref ++ [.ref sd])) t = some (.tup vs) := fun t vs h => (upd_ne (fun z => by rw [z, hg2] at h; cases h)).trans h
        refine ⟨_, _, _, _, _, ds ++ [sd], rfl, same_put (s9.trans s2) hg, ?_, ?_, fun L d hd => ?_⟩
        · rw [upd_same, List.map_append]; rfl
        · rw [List.length_append, hdl]; rfl
        · by_cases hL : L < ds.length
          · rw [List.getElem?_append_left hL] at hd
            obtain ⟨kv, k1, k2⟩ := hds L d hd
            exact ⟨kv, keep (s2 _ _ k1), (k2.mono (Same.tups s2)).mono tk⟩
          · rw [List.getElem?_append_right (by omega)] at hd
            have hz : L - ds.length = 0 := by
              have := (List.getElem?_eq_some_iff.mp hd).1
              simp at this; omega
            rw [hz] at hd
            cases hd
            have : L = i := by omega
            subst this
            exact ⟨kvs, keep hd2, A3.mono tk⟩
    · rintro σ H9 ⟨v4, v5, v6, v7, v8, ds, rfl, s9, hg9, hdl, hds⟩
      exact ⟨_, rfl, k _ _ s9 hg ⟨ds, hg9, by rw [hdl, eT], hds⟩⟩
end
end LaneX
set_option Elab.async false
set_option linter.all false
set_option maxRecDepth 100000
set_option maxHeartbeats 4000000
namespace LaneX
open PySem PySem.Spec PyProof.Rows L2
def sp_stepped : Sp := fun vs H Q _ => ∃ (q : Addr) (p : Nat) (rows : List Nat) (E : Nat → Nat → Prop) (n : Nat), vs = [.ref q, vN p] ∧ Lanes H q rows E n ∧ n ≤ 32 ∧ (∀ L, L < n → L ^^^ p < n) ∧ (∀ L e, L < n → E L e → lft rows e < 32) ∧ (∀ L e, L < n → E L e → E (L ^^^ p) e → False) ∧
  ∀ H' q', Same H H' → H q' = none → Lanes H' q' rows (fun L e => E L e ∨ E (L ^^^ p) e) n → Q (.ref q') H'
theorem get_ref {l : List Addr} {i : Nat} {d : Addr} (h : l[i]? = some d) : (l.map V.ref)[i]? = some (.ref d) := by rw [List.getElem?_map, h]; rfl
theorem get_lt {α : Type} {l : List α} {i : Nat} (h : i < l.length) : ∃ d, l[i]? = some d := ⟨_, List.getElem?_eq_getElem h⟩
section
variable {P : Program} {w : World} {K : PySem.W.Frag} {mg : Str → Option Value} {base : Heap} {f : Addr} {fd : FuncData} (T : Bt mg)
include T
theorem ok_stepped (F : FnP K "_law_stepped" "_law_stepped" s_steppedL f fd) : FnOk P w K mg base CX0 1 f fd ["_law_values", "_law_step"] sp_stepped := by
  have nd := sc_steppedL.nd
  refine fnok F sc_steppedL (fun vs H Q E h => ?_) (fun cdv A outer s H vs Q E hr h => ?_)
  · obtain ⟨q, p, rows, E, n, rfl, _⟩ := h
    rfl
  · obtain ⟨q, p, rows, E, n, rfl, hq, hn, hcl, hlt, hap, k⟩ := h
    have hu := hu_of hr
    refine ⟨_, (pss_cons (ps_set (i := 2) nd rfl (Or.inl rfl) (pe_lst pa_nil))
  (pss_cons (ps_for PassesOwn.never rfl (pi_range1 (by rfl) T.range (pa_cons (pe_callB call_lenQ (by rfl) T.len PySem.boot_len (pa_cons (pv 0) pa_nil)) pa_nil)) (pg_name (i := 3) nd rfl (Or.inl rfl))
    (pss_cons (ps_par (i := 4) (j := 5) (by rfl) nd rfl rfl (by decide) rfl rfl (pa_cons (pe_callTy call_dictD (by rfl) T.dict (by decide +kernel) (pa_cons (pe_ix ix_q (pv 0) (pv 3) (fun _ _ => rfl)) pa_nil)) (pa_cons (pe_ix ix_q (pv 0) (pe_op on_xor (pv 3) (pv 1)) (fun _ _ => rfl)) pa_nil)) (by rfl))
    (pss_cons (ps_lock (ps_for PassesOwn.never rfl (pi_keys (pv 5)) (pg_name (i := 6) nd rfl (Or.inl rfl))
      (pss_cons (ps_par (i := 7) (j := 8) (by rfl) nd rfl rfl (by decide) rfl rfl (pa_cons (pe_dget2 hu (pv 4) (pv 6) (pe_tup (pa_cons pe_int (pa_cons pe_bl pa_nil))) ⟨rfl, rfl, rfl, rfl⟩) (pa_cons (pe_dget hu (pv 5) (pv 6) (fun _ _ => rfl)) pa_nil)) (by rfl))
      (pss_one (ps_asg (pe_tup (pa_cons (pe_op on_or (pe_ix ix_q (pv 7) pe_int (fun _ _ => rfl)) (pe_ix ix_q (pv 8) pe_int (fun _ _ => rfl))) (pa_cons (pe_and (pe_ix ix_q (pv 7) pe_int (fun _ _ => rfl)) (pe_and (pe_ix ix_q (pv 8) pe_int (fun _ _ => rfl)) (pe_one (pe_cmpR op_eq (pe_op on_and (pe_ix ix_q (pv 7) pe_int (fun _ _ => rfl)) (pe_ix ix_q (pv 8) pe_int (fun _ _ => rfl))) pe_int (nomark _))))) pa_nil))) (pg_sub (pv 4) (pv 6) (set_dict hu)))))))
    (pss_one (ps_expr (pe_bm PySem.F.plainAttrs_list PySem.F.slot_list_append PySem.F.type_list_append mt_append (pv 2) (pa_cons (pv 4) pa_nil)))))))
  (pss_one (ps_ret (pv 2))))), ?_⟩
    refine ⟨(by show 0 ≤ sizeLine; decide), fun g hg => ?_⟩
    have g0 : Same H (upd H g (.lst [])) := same_new0 hg
    obtain ⟨qs, hq1, hq2, hq3⟩ := hq
    refine ⟨_, rfl, q, _, rfl, .inl (g0 _ _ hq1), _, rfl, (by rw [List.length_map]; omega), (by rw [List.length_map]; omega), ?_⟩
    rw [List.length_map, hq2]
    refine for_range (n := n) (fun i σ H9 => ∃ v3 v4 v5 v6 v7 v8 ds, σ = [some (.ref q), some (vN p), some (.ref g), v3, v4, v5, v6, v7, v8] ∧ Same H H9 ∧ H9 g = some (.lst (ds.map V.ref)) ∧ ds.length = i ∧ ∀ L d, ds[L]? = some d → ∃ kvs, H9 d = some (.dK kvs) ∧ LnAt H9 rows (fun e => E L e ∨ E (L ^^^ p) e) kvs)
      ⟨none, none, none, none, none, none, [], rfl, g0, upd_same, rfl, fun L d hd => by simp at hd⟩ ?_ ?_
    · rintro i σ H9 hi ⟨v3, v4, v5, v6, v7, v8, ds, rfl, s9, hg9, hdl, hds⟩
      rw [show (0 : Int) + (i : Int) = (i : Int) by omega]
      obtain ⟨d1, hd1⟩ := get_lt (l := qs) (i := i) (by omega)
      obtain ⟨td, htd⟩ := get_lt (l := qs) (i := i ^^^ p) (by rw [hq2]; exact hcl i hi)
      obtain ⟨kv1, m1, A1⟩ := hq3 i d1 hd1
      obtain ⟨kv2, m2, A2⟩ := hq3 _ td htd
      refine ⟨_, rfl, _, rfl, q, _, i, _, rfl, rfl, .inl (s9 _ _ hq1), get_ref hd1, d1, kv1, rfl, .inl (s9 _ _ m1), fun la hla => ?_⟩
      have s10 : Same H9 (upd H9 la (.dK kv1)) := same_new0 hla
      refine ⟨_, rfl, _, rfl, _, rfl, _, _, rfl, rfl, q, _, i ^^^ p, _, rfl, rfl, .inl (s10 _ _ (s9 _ _ hq1)), get_ref htd, _, _, rfl, ?_⟩
      have d10 : upd H9 la (.dK kv1) la = some (.dK kv1) := upd_same
      generalize upd H9 la (.dK kv1) = H10 at *
      have t9 := s9 _ _ m2
      have t10 := s10 _ _ t9
      have nlt : la ≠ td := (ne_of_none t9 hla).symm
      refine ⟨td, _, t10, trivial, fun od => ?_⟩
      refine ⟨_, rfl, td, od, rfl, .inl ⟨kv2, upd_same, for_it walk_keys (fun j σ H2 => ∃ v6 v7 v8 kvs, σ = [some (.ref q), some (vN p), some (.ref g), some (vN i), some (.ref la), some (.ref td), v6, v7, v8] ∧ (∀ b o, b ≠ td → H9 b = some o → H2 b = some o) ∧ H2 td = some (.frz od (.dK kv2)) ∧ H2 la = some (.dK kvs) ∧ LnAt H2 rows (fun e => E i e ∨ (E (i ^^^ p) e ∧ kn (lft rows e) ∈ (kv2.map Prod.fst).take j)) kvs)
        ⟨v6, v7, v8, kv1, rfl, fun b o hb h => (upd_ne hb).trans (s10 _ _ h), upd_same, (upd_ne nlt).trans d10, ?_⟩ ?_ ?_ ?_⟩⟩
      · refine ((A1.mono (Same.tups s9)).mono (fun t vs h => (upd_ne (fun z => by rw [z, t9] at h; cases h)).trans (s10 _ _ h))).congr fun e => ?_
        simp
      · rintro j σ H2 _ ⟨_, _, _, _, _, _, z, _⟩
        exact z
      · rintro j x σ Hx H2 hj ⟨v6, v7, v8, kvs, rfl, k2, f2, l2, B2⟩ ⟨rfl, ky, vy, hky, rfl⟩
        have mky : ky ∈ kv2.map Prod.fst := List.mem_map.mpr ⟨_, List.mem_of_getElem? hky, rfl⟩
        obtain ⟨c, ⟨ec, hec, hcc⟩, rfl⟩ := (A2.sn.mem ky).mp mky
        have ci : i ^^^ p < n := hcl i hi
        have ck : (kv2.map Prod.fst)[j]? = some (kn c) := by rw [List.getElem?_map, hky]; rfl
        have cnt : kn c ∉ (kv2.map Prod.fst).take j := fun z => by
          obtain ⟨j', e'⟩ := List.mem_iff_getElem?.mp z
          have hj' := (List.getElem?_eq_some_iff.mp e').1
          have lj : j' < j := by rw [List.length_take] at hj'; omega
          rw [List.getElem?_take_of_lt lj] at e'
          have := (List.getElem?_inj (i := j') (j := j) (by have := (List.getElem?_eq_some_iff.mp ck).1; omega) A2.sn.nd).mp (e'.trans ck.symm)
          omega
        have A2' : LnAt H2 rows (E (i ^^^ p)) kv2 := A2.mono fun t vs h => k2 _ _ (fun z => by rw [z, m2] at h; cases h) (s9 _ _ h)
        obtain ⟨t2, n2, hv2, ht2, hm2⟩ := A2'.has ⟨ec, hec, hcc⟩
        refine ⟨_, rfl, la, rfl, .inl ⟨kvs, .inl l2⟩, _, rfl, (by show 2 ≤ sizeLine; decide), fun x0 hx0 => ?_⟩
        have B3 : LnAt (upd H2 x0 (.tup [.int 0, .bl true])) rows _ kvs := B2.mono (Same.tups (same_new0 hx0))
        obtain ⟨t, m, et, ht, hm⟩ := B3.get upd_same c
        refine ⟨_, DGet.k (k := kn c) (upd_new hx0 l2), ?_⟩
        rw [et]
        have s3 : Same H2 (upd H2 x0 (.tup [.int 0, .bl true])) := same_new0 hx0
        generalize upd H2 x0 (.tup [.int 0, .bl true]) = H3 at *
        refine ⟨_, rfl, _, rfl, td, _, rfl, .inl ⟨kv2, kn c, .inr ⟨od, s3 _ _ f2⟩, rfl, hv2.symm⟩, _, _, rfl, ?_⟩
        have ht2' := s3 _ _ ht2
        refine ⟨_, rfl, t, _, 0, _, rfl, rfl, .inr ht, rfl, _, rfl, t2, _, 0, _, rfl, rfl, .inr ht2', rfl, m, n2, rfl, rfl, ?_⟩
        refine ⟨_, rfl, t, _, 1, _, rfl, rfl, .inr ht, rfl, true, rfl, iteT ?_⟩
        refine ⟨_, rfl, t2, _, 1, _, rfl, rfl, .inr ht2', rfl, true, rfl, iteT ?_⟩
        refine ⟨_, rfl, t, _, 0, _, rfl, rfl, .inr ht, rfl, _, rfl, t2, _, 0, _, rfl, rfl, .inr ht2', rfl, m, n2, rfl, rfl, rfl, ?_⟩
        have z0 : m &&& n2 = 0 := by
          apply Nat.eq_of_testBit_eq
          intro e
          rw [Nat.zero_testBit, Nat.testBit_and]
          cases h1 : m.testBit e with
          | false => rfl
          | true =>
            cases h2 : n2.testBit e with
            | false => rfl
            | true =>
              obtain ⟨z1, z2⟩ := (hm e).mp h1
              obtain ⟨z3, z4⟩ := (hm2 e).mp h2
              rcases z1 with z1 | ⟨z1, z5⟩
              · exact (hap i e hi z1 z3).elim
              · rw [z2] at z5; exact (cnt z5).elim
        rw [z0, show decide (V.int ((0 : Nat) : Int) = V.int 0) = true from decide_eq_true rfl]
        refine ⟨(by show 2 ≤ sizeLine; decide), fun x1 hx1 => ?_⟩
        have s4 : Same H3 (upd H3 x1 (.tup [vN (m ||| n2), .bl true])) := same_new0 hx1
        have h4 : upd H3 x1 (.tup [vN (m ||| n2), .bl true]) x1 = some (.tup [vN (m ||| n2), .bl true]) := upd_same
        have B4 := B3.mono (Same.tups s4)
        have l4 := s4 _ _ (s3 _ _ l2)
        have f4 := s4 _ _ (s3 _ _ f2)
        have lk : kvs.length ≤ 32 := B2.sn.le (n := 32) fun c' hc' => by
          obtain ⟨e', h1, rfl⟩ := hc'
          rcases h1 with h1 | h1
          · exact hlt i e' hi h1
          · exact hlt _ e' ci h1.1
        refine ⟨_, rfl, _, rfl, la, _, rfl, DPut.k (k := kn c) l4 (by rw [sizeLine_eq]; omega), ?_⟩
        have s24 := s3.trans s4
        generalize upd H3 x1 (.tup [vN (m ||| n2), .bl true]) = H4 at *
        have nt : ∀ t vs, H4 t = some (.tup vs) → t ≠ la := fun t vs h z => by rw [z, l4] at h; cases h
        refine ⟨_, _, _, _, rfl, fun b o hb h => ?_, (upd_ne nlt.symm).trans f4, upd_same, B4.put (H' := upd H4 la (.dK (putK kvs (kn c) (V.ref x1)))) (fun t vs h => (upd_ne (nt t vs h)).trans h) (m := m ||| n2) ((upd_ne (nt _ _ h4)).trans h4) ?_ ⟨ec, ?_, hcc⟩ (fun e' hne => ?_)⟩
        · exact (upd_ne (ne_of_none h hla)).trans (s24 _ _ (k2 b o hb h))
        · rw [take_succ ck]
          intro e
          rw [(hm.or hm2) e]
          constructor
          · rintro ⟨(z | ⟨z1, z2⟩) | z, z3⟩
            · exact ⟨.inl z, z3⟩
            · exact ⟨.inr ⟨z1, List.mem_append_left _ z2⟩, z3⟩
            · exact ⟨.inr ⟨z, List.mem_append_right _ (by rw [z3]; exact List.mem_singleton_self _)⟩, z3⟩
          · rintro ⟨z | ⟨z1, z2⟩, z3⟩
            · exact ⟨.inl (.inl z), z3⟩
            · exact ⟨.inr z1, z3⟩
        · rw [take_succ ck]
          exact .inr ⟨hec, List.mem_append_right _ (by rw [hcc]; exact List.mem_singleton_self _)⟩
        · rw [take_succ ck]
          constructor
          · rintro (z | ⟨z1, z2⟩)
            · exact .inl z
            · rcases List.mem_append.mp z2 with z2 | z2
              · exact .inr ⟨z1, z2⟩
              · exact absurd (kn_inj (List.mem_singleton.mp z2)) hne
          · rintro (z | ⟨z1, z2⟩)
            · exact .inl z
            · exact .inr ⟨z1, List.mem_append_left _ z2⟩
      · rintro σ H2 ⟨v6, v7, v8, kvs, rfl, k2, f2, l2, B2⟩
        refine ⟨f2, ?_⟩
        have e1 : kv2.length = (kv2.map Prod.fst).length := by rw [List.length_map]
        rw [e1, List.take_length] at B2
        have s3 : Same H9 (upd H2 td (.dK kv2)) := fun b o h => by
          by_cases hb : b = td
          · subst hb; rw [t9] at h; cases h; exact upd_same
          · exact (upd_ne hb).trans (k2 b o hb h)
        have l3 : upd H2 td (.dK kv2) la = some (.dK kvs) := (upd_ne nlt).trans l2
        have B3 : LnAt (upd H2 td (.dK kv2)) rows (fun e => E i e ∨ E (i ^^^ p) e) kvs := by
          refine (B2.mono fun t vs h => (upd_ne (fun z => by rw [z, f2] at h; cases h)).trans h).congr fun e => ?_
          constructor
          · rintro (z | z)
            · exact .inl z
            · exact .inr z.1
          · rintro (z | z)
            · exact .inl z
            · exact .inr ⟨z, (A2.sn.mem _).mpr ⟨_, ⟨e, z, rfl⟩, rfl⟩⟩
        generalize upd H2 td (.dK kv2) = H3 at *
        have hg3 := s3 _ _ hg9
        refine ⟨_, rfl, .inl ⟨rfl, _, SqL.of hg3⟩, _, rfl, g, _, _, rfl, rfl, hg3, (by rw [List.length_map]; exact size6 (by omega)), ?_⟩
        have keep : ∀ {b : Addr} {kv : List (Key × V)}, H3 b = some (.dK kv) → upd H3 g (.lst (ds.map V.ref ++ [.ref la])) b = some (.dK kv) := fun {b kv} h => (upd_ne (fun z => by rw [z, hg3] at h; cases h)).trans h
        have tk : ∀ t vs, H3 t = some (.tup vs) → upd H3 g (.lst (ds.map V.ref ++ [.ref la])) t = some (.tup vs) := fun t vs h => (upd_ne (fun z => by rw [z, hg3] at h; cases h)).trans h
        refine ⟨_, _, _, _, _, _, ds ++ [la], rfl, same_put (s9.trans s3) hg, ?_, ?_, fun L d hd => ?_⟩
        · rw [upd_same, List.map_append]; rfl
        · rw [List.length_append, hdl]; rfl
        · by_cases hL : L < ds.length
          · rw [List.getElem?_append_left hL] at hd
            obtain ⟨kv, k1, k2'⟩ := hds L d hd
            exact ⟨kv, keep (s3 _ _ k1), (k2'.mono (Same.tups s3)).mono tk⟩
          · rw [List.getElem?_append_right (by omega)] at hd
            have hz : L - ds.length = 0 := by
              have := (List.getElem?_eq_some_iff.mp hd).1
              simp at this; omega
            rw [hz] at hd
            cases hd
            have : L = i := by omega
            subst this
            exact ⟨kvs, keep l3, B3.mono tk⟩
    · rintro σ H9 ⟨v3, v4, v5, v6, v7, v8, ds, rfl, s9, hg9, hdl, hds⟩
      exact ⟨_, rfl, k _ _ s9 hg ⟨ds, hg9, hdl, hds⟩⟩
end
end LaneX
set_option Elab.async false
set_option linter.all false
set_option maxRecDepth 100000
set_option maxHeartbeats 4000000
namespace LaneX
open PySem PySem.Spec PyProof.Rows L2
def sp_all_have : Sp := fun vs H Q _ => ∃ (v g r : Addr) (b n : Nat) (rows : List Nat) (E G : Nat → Nat → Prop) (good : Bool), vs = [.ref v, .ref g, .ref r, vN b] ∧ Lanes H v rows E n ∧ Lanes H g rows G n ∧ H r = some (.lst (rows.map vN)) ∧ (∀ x ∈ rows, x ≠ 0) ∧ b ≤ 5 ∧ n ≤ 32 ∧
  (∀ L c, L < n → (∃ e, G L e ∧ lft rows e = c) → (∃ e, E L e ∧ lft rows e = c) ∧ ∀ m, Msk rows (E L) c m → decide (m = mask (fun e => decide (lft rows e = c)) (2 ^ b)) = good) ∧
  ∀ (H' : Hp) (t : Addr) (k j : Nat), Same H H' → H' t = some (.tup [vN k, vN j]) → (good = true → j = 0) → (good = false → k = 0) → Q (.ref t) H'
theorem sum_cast (l : List Nat) : (l.map Int.ofNat).sum = ((l.sum : Nat) : Int) := by
  induction l with
  | nil => rfl
  | cons x r ih => rw [List.map_cons, List.sum_cons, List.sum_cons, ih, Int.natCast_add]; rfl
theorem rd_lock {H : Hp} {d x : Addr} {kv kx : List (Key × V)} {od : Obj} (hd : H d = some (.dK kv)) (hx : H x = some (.dK kx)) {H2 : Hp} (hk : ∀ b o, b ≠ d → H b = some o → H2 b = some o) (hf : H2 d = some (.frz od (.dK kv))) : Rd H2 x (.dK kx) := by
  by_cases e : x = d
  · subst e
    rw [hd] at hx; cases hx
    exact .inr ⟨od, hf⟩
  · exact .inl (hk _ _ e hx)
def pairD (m : Nat) : PyData := .tuple [.int (m : Int), .bool true]
theorem pairD_shaped (m : Nat) : SeqAt.shaped (pairD m) = true := by
  have a : (pairD m).canLay0 = true := by simp [pairD, PyData.canLay0, PyData.canLayAll0]
  have h : (pairD m).depth ≤ 64 := by simp only [pairD, PyData.depth, PyData.depthAll]; decide
  show ((pairD m).canLay0 && decide ((pairD m).depth ≤ 64)) = true
  rw [a, decide_eq_true h]; rfl
theorem pairD_eqv (m n : Nat) : PyData.eqv (pairD m) (pairD n) = decide (m = n) := by
  unfold pairD
  simp only [PyData.eqv, PyData.eqvAll]
  by_cases h : m = n
  · subst h; simp
  · have : ¬ ((m : Int) = (n : Int)) := by omega
    simp [h, this]
theorem pairD_dp {K : PySem.W.Frag} {H : Hp} {x : Addr} {m : Nat} (hx : H x = some (.tup [vN m, .bl true])) : Dp K H (.ref x) (pairD m) := .tup (SqT.of hx) (.cons (.int _) (.cons (.bl _) .nil))
theorem dec_eqN (a b : Nat) : decide (vN a = vN b) = decide (a = b) := by
  by_cases h : a = b
  · subst h; simp
  · have : ¬ (vN a = vN b) := fun z => h (by have := V.int.inj z; omega)
    rw [decide_eq_false h, decide_eq_false this]
section
variable {P : Program} {w : World} {K : PySem.W.Frag} {mg : Str → Option Value} {base : Heap} {f : Addr} {fd : FuncData} (T : Bt mg)
include T
theorem ok_all_have (F : FnP K "_law_all_have" "_law_all_have" s_all_haveL f fd) (D_leftL : Dn P w K mg base 1 "_law_left" ["_law_rows", "_law_word_here"] sp_left) : FnOk P w K mg base CX0 2 f fd ["_law_values", "_law_begun_here", "_law_rows", "_law_bits"] sp_all_have := by
  have nd := sc_all_haveL.nd
  refine fnok F sc_all_haveL (fun vs H Q E h => ?_) (fun cdv A outer s H vs Q E hr h => ?_)
  · obtain ⟨v, g, r, b, n, rows, E, G, good, rfl, _⟩ := h
    rfl
  · obtain ⟨v, g, r, b, n, rows, E, G, good, rfl, hv, hg, hrw, hnz, hb, hn, hG, k⟩ := h
    have hu := hu_of hr
    refine ⟨_, (pss_cons (ps_asg (pe_tup (pa_cons pe_int (pa_cons pe_int pa_nil))) (pg_tup (by rfl) (pgs_cons (pg_name (i := 4) nd rfl (Or.inl rfl)) (pgs_cons (pg_name (i := 5) nd rfl (Or.inl rfl)) pgs_nil))))
  (pss_cons (ps_for PassesOwn.never rfl (pi_range1 (by rfl) T.range (pa_cons (pe_callB call_lenQ (by rfl) T.len PySem.boot_len (pa_cons (pv 0) pa_nil)) pa_nil)) (pg_name (i := 6) nd rfl (Or.inl rfl))
    (pss_one (ps_lock (ps_for PassesOwn.never rfl (pi_keys (pe_ix ix_q (pv 1) (pv 6) (fun _ _ => rfl))) (pg_name (i := 7) nd rfl (Or.inr rfl))
      (pss_cons (ps_set (i := 8) nd rfl (Or.inl rfl) (pe_callB (cr_sum rfl) (by rfl) T.sum (by decide +kernel) (pa_cons (pe_lc (own := [("_law_other", 9)]) (g := gName 9) (by rfl) nd (pi_range1 (by rfl) T.range (pa_cons (pe_op on_shl pe_int (pv 3)) pa_nil)) (blkOk_by (own := [("_law_other", 9)]) (N := ["_law_values", "_law_begun_here", "_law_rows", "_law_bits", "_law_have", "_law_lack", "_law_lane", "_law_coset", "_law_whole", "_law_other"]) (sc := defScope s_all_haveL) (by decide +kernel)) (fun _ _ _ _ _ => (pg_name (i := 9) nd rfl (Or.inl rfl))) (fun _ _ _ _ _ => (pts_one (pt_cmpR op_eq (pe_d D_leftL hr (pa_cons (pv 2) (pa_cons (pv 9) pa_nil))) (pv 7) (nomark _)))) (fun _ _ _ _ _ => (pe_op on_shl pe_int (pv 9)))) pa_nil)))
      (pss_one (ps_if (pt_cmpR (op_eqD hr.units) (pe_dget2 hu (pe_ix ix_q (pv 0) (pv 6) (fun _ _ => rfl)) (pv 7) pe_non ⟨rfl, rfl, rfl, rfl⟩) (pe_tup (pa_cons (pv 8) (pa_cons pe_bl pa_nil))) (nomark _))
        (pss_one (ps_aug (i := 4) nd rfl (.inl rfl) pe_int iop_addN))
        (pss_one (ps_aug (i := 5) nd rfl (.inl rfl) pe_int iop_addN)))))))))
  (pss_one (ps_ret (pe_tup (pa_cons (pv 4) (pa_cons (pv 5) pa_nil))))))), ?_⟩
    have o1 : blen 1 ≤ 1000000 := by rw [blen_one]; decide
    obtain ⟨xs, hv1, hv2, hv3⟩ := hv
    obtain ⟨gs, hg1, hg2, hg3⟩ := hg
    have e2b : 1 <<< b = 2 ^ b := Nat.one_shiftLeft b
    have l2b : 2 ^ b ≤ 32 := Nat.pow_le_pow_right (n := 2) (by decide) hb
    refine ⟨(by show 2 ≤ sizeLine; decide), fun x0 hx0 => ⟨x0, _, rfl, SqT.of upd_same, rfl, _, _, rfl, _, _, rfl, rfl, ?_⟩⟩
    have s0 := same_new0 (o := .tup [.int 0, .int 0]) hx0
    refine ⟨_, rfl, v, _, rfl, .inl (s0 _ _ hv1), _, rfl, (by rw [List.length_map]; omega), (by rw [List.length_map]; omega), ?_⟩
    rw [List.length_map, hv2]
    refine for_range (n := n) (fun i σ H9 => ∃ v6 v7 v8 kk jj, σ = [some (.ref v), some (.ref g), some (.ref r), some (vN b), some (vN kk), some (vN jj), v6, v7, v8, none] ∧ Same H H9 ∧ (good = true → jj = 0) ∧ (good = false → kk = 0)) ⟨none, none, none, 0, 0, rfl, s0, fun _ => rfl, fun _ => rfl⟩ ?_ ?_
    · rintro i σ H9 hi ⟨v6, v7, v8, kk, jj, rfl, s9, g1, g2⟩
      rw [show (0 : Int) + (i : Int) = (i : Int) by omega]
      obtain ⟨d, hd⟩ := get_lt (l := gs) (i := i) (by omega)
      obtain ⟨dv, hdv⟩ := get_lt (l := xs) (i := i) (by omega)
      obtain ⟨kvG, m1, A1⟩ := hg3 i d hd
      obtain ⟨kvE, m2, A2⟩ := hv3 i dv hdv
      have t9 := s9 _ _ m1
      refine ⟨d, _, t9, trivial, fun od => ?_⟩
      have nl : ∀ {xs : Addr} {o : HO}, H9 xs = some o → (∀ z, o ≠ .dK z) → xs ≠ d := fun h hne z => by rw [z, t9] at h; exact hne _ (Option.some.inj h).symm
      have f9 : upd H9 d (.frz od (.dK kvG)) d = some (.frz od (.dK kvG)) := upd_same
      have k9 : ∀ b o, b ≠ d → H9 b = some o → upd H9 d (.frz od (.dK kvG)) b = some o := fun b o hb h => (upd_ne hb).trans h
      generalize upd H9 d (.frz od (.dK kvG)) = H10 at *
      refine ⟨_, rfl, _, rfl, g, _, i, _, rfl, rfl, .inl (k9 _ _ (nl (s9 _ _ hg1) (fun z => by simp)) (s9 _ _ hg1)), get_ref hd, d, od, rfl, .inl ⟨kvG, f9, for_it walk_keys (fun j σ H2 => ∃ v7 v8 kk jj, σ = [some (.ref v), some (.ref g), some (.ref r), some (vN b), some (vN kk), some (vN jj), some (vN i), v7, v8, none] ∧ (∀ b o, b ≠ d → H9 b = some o → H2 b = some o) ∧ H2 d = some (.frz od (.dK kvG)) ∧ (good = true → jj = 0) ∧ (good = false → kk = 0))
        ⟨v7, v8, kk, jj, rfl, k9, f9, g1, g2⟩ ?_ ?_ ?_⟩⟩
      · rintro j σ H2 _ ⟨_, _, _, _, _, _, z, _⟩
        exact z
      · rintro j x σ Hx H2 hj ⟨v7, v8, kk, jj, rfl, k2, f2, g1, g2⟩ ⟨rfl, ky, vy, hky, rfl⟩
        have mky : ky ∈ kvG.map Prod.fst := List.mem_map.mpr ⟨_, List.mem_of_getElem? hky, rfl⟩
        obtain ⟨c, hec, rfl⟩ := (A1.sn.mem ky).mp mky
        have hr2 := k2 _ _ (nl (s9 _ _ hrw) (fun z => by simp)) (s9 _ _ hrw)
        obtain ⟨hE, hM⟩ := hG i c hi hec
        refine ⟨_, rfl, 1, b, rfl, rfl, shl_ok1 o1 (by omega), ?_⟩
        generalize hU : 1 <<< b = UU at e2b
        refine ⟨_, rfl, (by omega), (by omega), lc_pureR (n := UU) (fun o => decide (lft rows o = c)) (fun o => vN (1 <<< o)) (by omega) (fun o H' ho s => ?_) (fun D H3 hD s3 h3 => ?_)⟩
        · intro Z Nx z1 z2
          refine ⟨rfl, _, rfl, _, rfl, r, rows, o, rfl, .inl (s _ _ hr2), hnz, _, rfl, rfl, _, rfl, ?_⟩
          rw [show decide (vN (lft rows o) = kV (kn c)) = decide (lft rows o = c) from dec_eqN _ _]
          exact br (fun e => ⟨_, rfl, 1, o, rfl, rfl, shl_ok1 o1 (by omega), z1 e _ (Same.refl _)⟩) (fun e => z2 e _ (Same.refl _))
        · have h3' : H3 D = some (.lst (((((List.range UU).filter fun o => decide (lft rows o = c)).map fun o => 1 <<< o).map Int.ofNat).map V.int)) := by
            rw [h3, List.map_map, List.map_map]; rfl
          refine ⟨D, _, rfl, SqL.of h3', ?_⟩
          rw [sum_cast]
          have em : (((List.range UU).filter fun o => decide (lft rows o = c)).map fun o => 1 <<< o).sum = mask (fun e => decide (lft rows e = c)) (2 ^ b) := by rw [e2b]; rfl
          rw [em]
          have k3 : ∀ b o, b ≠ d → H9 b = some o → H3 b = some o := fun b o hb h => s3 _ _ (k2 b o hb h)
          have f3 := s3 _ _ f2
          obtain ⟨t, m, hval, ht, hm⟩ := A2.has hE
          have ht3 := k3 _ _ (nl (s9 _ _ ht) (fun z => by simp)) (s9 _ _ ht)
          have rd := rd_lock t9 (s9 _ _ m2) k3 f3
          refine ⟨_, rfl, _, rfl, v, _, i, _, rfl, rfl, .inl (k3 _ _ (nl (s9 _ _ hv1) (fun z => by simp)) (s9 _ _ hv1)), get_ref hdv, dv, rfl, .inl ⟨kvE, rd⟩, _, rfl, _, .inl ⟨kvE, kn c, rd, rfl, rfl⟩, ?_⟩
          rw [hval]
          refine ⟨_, rfl, (by show 2 ≤ sizeLine; decide), fun x1 hx1 => ?_⟩
          have s4 : Same H3 (upd H3 x1 (.tup [vN (mask (fun e => decide (lft rows e = c)) (2 ^ b)), .bl true])) := same_new0 hx1
          refine ⟨pairD m, pairD (mask (fun e => decide (lft rows e = c)) (2 ^ b)), pairD_dp (s4 _ _ ht3), pairD_dp upd_same, pairD_shaped _, pairD_shaped _, ?_⟩
          rw [pairD_eqv, hM m hm]
          refine ⟨_, rfl, br (fun e => ?_) (fun e => ?_)⟩
          · exact ⟨_, rfl, kk, 1, rfl, rfl, _, _, kk + 1, jj, rfl, fun b o hb h => s4 _ _ (k3 b o hb h), s4 _ _ f3, g1, fun z => by rw [e] at z; cases z⟩
          · exact ⟨_, rfl, jj, 1, rfl, rfl, _, _, kk, jj + 1, rfl, fun b o hb h => s4 _ _ (k3 b o hb h), s4 _ _ f3, (fun z => by rw [e] at z; cases z), g2⟩
      · rintro σ H2 ⟨v7, v8, kk, jj, rfl, k2, f2, g1, g2⟩
        refine ⟨f2, _, _, _, kk, jj, rfl, fun b o h => ?_, g1, g2⟩
        by_cases hb : b = d
        · subst hb; rw [m1] at h; cases h; exact upd_same
        · exact (upd_ne hb).trans (k2 b o hb (s9 _ _ h))
    · rintro σ H9 ⟨v6, v7, v8, kk, jj, rfl, s9, g1, g2⟩
      exact ⟨_, rfl, _, rfl, (by show 2 ≤ sizeLine; decide), fun x hx => k _ _ kk jj (same_new s9 hx) upd_same g1 g2⟩
end
end LaneX
set_option Elab.async false
set_option linter.all false
set_option maxRecDepth 100000
set_option maxHeartbeats 4000000
namespace LaneX
open PySem PySem.Spec PyProof.Rows L2
theorem mk_SpaceR {C : Addr} {H1 : Hp} {b : Nat} {a : Addr} {ws : List Nat} {R : Addr → VK} {E : XK} (hS : Tq H1 a (ws.map vN)) (hb : ∀ x ∈ ws, blen x ≤ b) (hl : ws.length ≤ 1000000) (k : ∀ H' p, Same H1 H' → H1 p = none → SpaceAt C H' p b (spn ws) → R p .non H') :
    ∀ x dx, H1 x = none → H1 dx = none → dx ≠ x → sp_Space C (.ref x :: ([vN b, .ref a] ++ [])) (upd (upd H1 dx (.own x)) x (.ins C dx [])) (R x) E := by
  intro x dx nx ndx ne
  have nx' : upd H1 dx (.own x) x = none := (upd_ne ne.symm).trans nx
  refine ⟨x, dx, b, a, ws, rfl, upd_same, (hS.new ndx).new nx', hb, hl, fun H' hA kp => k _ _ (made_same nx ndx kp) nx hA⟩
theorem mk_SpreadR {C : Addr} {H1 : Hp} {b : Nat} {a c : Addr} {ss ls : List Nat} {R : Addr → VK} {E : XK} (hS : Tq H1 a (ss.map vN)) (hL : Tq H1 c (ls.map vN)) (wf : WfR b ss ls) (hk : b ≤ rk (ss ++ ls)) (k : ∀ H' p, Same H1 H' → H1 p = none → SpreadAt C H' p b ss ls → R p .non H') :
    ∀ x dx, H1 x = none → H1 dx = none → dx ≠ x → sp_Spread C (.ref x :: ([vN b, .ref a, .ref c] ++ [])) (upd (upd H1 dx (.own x)) x (.ins C dx [])) (R x) E := by
  intro x dx nx ndx ne
  have nx' : upd H1 dx (.own x) x = none := (upd_ne ne.symm).trans nx
  refine ⟨x, dx, b, a, c, ss, ls, rfl, upd_same, (hS.new ndx).new nx', (hL.new ndx).new nx', wf.s, wf.l, wf.sl, wf.ll, hk, fun H' hA kp => k _ _ (made_same nx ndx kp) nx hA⟩
theorem ent_mono {ss ls P : List Nat} {L e : Nat} (h : Ent ss ls [] L e) : Ent ss ls P L e := by
  unfold Ent at *
  rw [List.map_nil, List.append_nil] at h
  exact h.sub fun z hz => List.mem_append_left _ hz
theorem use_step {ss ls ws zs : List Nat} {b : Nat} (hb : b ≤ 5) (hs : ∀ x ∈ ss, x < 2 ^ b) (hl : ∀ x ∈ ls, x < 2 ^ b) (hw : ∀ x ∈ ws, x < 2 ^ b) (l2 : ls.length ≤ 5) (hz : ∀ z ∈ zs, z < 2 ^ ls.length) (hf : Fre ss ls zs) {j y : Nat} (hy : zs[j]? = some y) :
    2 ^ ls.length ≤ 32 ∧ (∀ L, L < 2 ^ ls.length → L ^^^ y < 2 ^ ls.length) ∧ (∀ L e, L < 2 ^ ls.length → Ent ss ls (zs.take j) L e → lft (bas ws) e < 32) ∧ (∀ L e, L < 2 ^ ls.length → Ent ss ls (zs.take j) L e → Ent ss ls (zs.take j) (L ^^^ y) e → False) ∧
      ∀ (H' : Hp) (q' : Addr), Lanes H' q' (bas ws) (fun L e => Ent ss ls (zs.take j) L e ∨ Ent ss ls (zs.take j) (L ^^^ y) e) (2 ^ ls.length) → Lanes H' q' (bas ws) (Ent ss ls (zs.take (j + 1))) (2 ^ ls.length) := by
  have m : y ∈ zs := List.mem_of_getElem? hy
  have f2 : Fre ss ls (zs.take j ++ [y]) := by
    rw [← take_succ hy]
    exact Fre.head (Q := zs.drop (j + 1)) (by rw [List.take_append_drop]; exact hf)
  have b5 : 2 ^ b ≤ 2 ^ 5 := Nat.pow_le_pow_right (by decide) hb
  refine ⟨Nat.pow_le_pow_right (n := 2) (by decide) l2, fun L h => Nat.xor_lt_two_pow h (hz y m), fun L e h he => ?_, fun L e h h1 h2 => ent_apart f2.out h1 h2, fun H' q' hL' => hL'.congr fun L e _ => ?_⟩
  · have a := ent_lt hs hl he
    have c := lft_lt (k := b) (fun r hr => bas_lt hw r hr) a
    have : (2 : Nat) ^ 5 = 32 := by decide
    omega
  · rw [take_succ hy, ent_snoc]
theorem use_all {ss ls ws P : List Nat} {b : Nat} (hs : ∀ x ∈ ss, x < 2 ^ b) (hl : ∀ x ∈ ls, x < 2 ^ b) (hw : ∀ x ∈ ws, x < 2 ^ b) (hrk : b ≤ rk (ss ++ ls)) (hP : P.Perm (ldr ss ls (spn ws))) :
    ∀ L c, L < 2 ^ ls.length → (∃ e, Ent ss ls [] L e ∧ lft (bas ws) e = c) → (∃ e, Ent ss ls P L e ∧ lft (bas ws) e = c) ∧ ∀ m, Msk (bas ws) (Ent ss ls P L) c m → decide (m = mask (fun e => decide (lft (bas ws) e = c)) (2 ^ b)) = true := by
  rintro L c hL ⟨e0, h0, rfl⟩
  exact ⟨⟨e0, ent_mono h0, rfl⟩, fun m hm => decide_eq_true (hm.whole (fun e he => ent_lt hs hl he) fun e _ he => ent_all hs hl hw hrk hP h0 he)⟩
theorem use_less {ss ls ws P : List Nat} {b p : Nat} (hs : ∀ x ∈ ss, x < 2 ^ b) (hl : ∀ x ∈ ls, x < 2 ^ b) (hw : ∀ x ∈ ws, x < 2 ^ b) (hP : ldr ss ls (spn ws) = p :: P) :
    ∀ L c, L < 2 ^ ls.length → (∃ e, Ent ss ls [] L e ∧ lft (bas ws) e = c) → (∃ e, Ent ss ls P L e ∧ lft (bas ws) e = c) ∧ ∀ m, Msk (bas ws) (Ent ss ls P L) c m → decide (m = mask (fun e => decide (lft (bas ws) e = c)) (2 ^ b)) = false := by
  rintro L c hL ⟨e0, h0, rfl⟩
  exact ⟨⟨e0, ent_mono h0, rfl⟩, fun m hm => decide_eq_false (hm.less (ent_less hs hl hw hP h0))⟩
theorem free_tail {ss ls P : List Nat} (h : Fre ss ls P) : Fre ss ls (P.drop 1) := by
  cases P with
  | nil => exact h
  | cons p r => exact Fre.head (Q := [p]) (h.perm List.perm_append_comm)
theorem op_neT {X : Cx} (hu : X.A.units + 64 < cLine) : OpR X (compareOp .NotEq) (fun x y H Q => ∃ (a b : Addr) (ns ms : List Nat), x = .ref a ∧ y = .ref b ∧ H a = some (.tup (ns.map vN)) ∧ H b = some (.tup (ms.map vN)) ∧ Q (.bl (!decide (ns = ms))) H) := by
  intro pins s σ H x y v u Q I rx ry h
  obtain ⟨a, b, ns, ms, rfl, rfl, ha, hb, q⟩ := h
  rw [vN_ints] at ha hb
  refine op_neD hu pins s σ H _ _ v u Q I rx ry ⟨.tuple ((ns.map Int.ofNat).map .int), .tuple ((ms.map Int.ofNat).map .int), .tup (SqT.of ha) (dpAll_ints _), .tup (SqT.of hb) (dpAll_ints _), shaped_tints _, shaped_tints _, ?_⟩
  show Q (.bl (!PyData.eqvAll ((ns.map Int.ofNat).map .int) ((ms.map Int.ofNat).map .int))) H
  rw [eqvAll_ints]
  have e : decide (ns.map Int.ofNat = ms.map Int.ofNat) = decide (ns = ms) := by
    by_cases h : ns = ms
    · subst h; simp
    · have : ¬ ns.map Int.ofNat = ms.map Int.ofNat := fun z => h (List.map_inj_right (fun x y h => Int.ofNat.inj h) |>.mp z)
      rw [decide_eq_false h, decide_eq_false this]
  rw [e]
  exact q
end LaneX
set_option Elab.async false
set_option linter.all false
set_option maxRecDepth 100000
set_option maxHeartbeats 4000000
namespace LaneX
open PySem PySem.Spec PyProof.Rows L2
def sp_lawK (K : PySem.W.Frag) : Sp := fun vs H Q _ => ∃ (a : Addr) (ns : List Int), vs = [.ref a] ∧ SqL K H a (ns.map V.int) ∧ ∀ H', Q (.bl true) H'
theorem cut_drop1 (x : Nat) (r : List Nat) : cutV ((x :: r).map vN) (some 1) none = ((x :: r).drop 1).map vN := by
  unfold cutV
  rw [show (1 : Int) = ((1 : Nat) : Int) from rfl, HT.sIx_nat, HT.sIx_none, List.length_map, Nat.min_eq_left (by simp), List.map_drop]
  exact List.take_of_length_le (by rw [List.length_drop, List.length_map]; omega)
theorem cut_tail (xs : List Nat) : cutV (xs.map vN) (some 1) none = (xs.drop 1).map vN := by
  cases xs with
  | nil => rfl
  | cons x r => exact cut_drop1 x r
section
variable {P : Program} {w : World} {K : PySem.W.Frag} {mg : Str → Option Value} {base : Heap} {f : Addr} {fd : FuncData} {CS CR : Addr} (T : Bt mg)
include T
theorem ok_law (F : FnP K "law" "law" s_law f fd) (D_beginL : Dn P w K mg base 1 "_law_begin" ["_law_script"] (sp_begin K)) (D_drawL : Dn P w K mg base 1 "_law_draw" ["_law_pen", "_law_span"] sp_draw)
    (D_spread_wordsL : Dn P w K mg base 4 "_law_spread_words" ["_law_pen", "_law_bits", "_law_slots", "_law_lanes"] sp_spread_words) (D_space_wordsL : Dn P w K mg base 3 "_law_space_words" ["_law_pen", "_law_bits", "_law_slots"] sp_space_words)
    (D_basisL : Dn P w K mg base 2 "_law_basis" ["_law_words"] sp_basis) (D_begunL : Dn P w K mg base 2 "_law_begun" ["_law_slots", "_law_lanes", "_law_rows"] sp_begun) (D_sum_steps : Dn P w K mg base 9 "sum_steps" ["spread", "space"] (sp_sum_steps CS CR))
    (K_Spread : Kn P w K mg base 4 CR "Spread" ["self", "bits", "slots", "lanes"] (sp_Spread CR)) (K_Space : Kn P w K mg base 4 CS "Space" ["self", "bits", "words"] (sp_Space CS)) (D_is_wordL : Dn P w K mg base 2 "_law_is_word" ["_law_value", "_law_bits"] sp_is_word)
    (D_countsL : Dn P w K mg base 4 "_law_counts" ["_law_slots", "_law_lanes", "_law_words"] sp_counts) (D_mixedL : Dn P w K mg base 2 "_law_mixed" ["_law_pen", "_law_some"] sp_mixed) (D_steppedL : Dn P w K mg base 1 "_law_stepped" ["_law_values", "_law_step"] sp_stepped)
    (D_all_haveL : Dn P w K mg base 2 "_law_all_have" ["_law_values", "_law_begun_here", "_law_rows", "_law_bits"] sp_all_have) :
    FnOk P w K mg base CX0 10 f fd ["_law_script"] (sp_lawK K) := by
  have nd := sc_law.nd
  refine fnok F sc_law (fun vs H Q E h => ?_) (fun cdv A outer s H vs Q E hr h => ?_)
  · obtain ⟨a, ns, rfl, _⟩ := h
    rfl
  · obtain ⟨a, ns, rfl, hS, k⟩ := h
    refine ⟨_, (pss_cons (ps_set (i := 1) nd rfl (Or.inl rfl) (pe_d D_beginL hr (pa_cons (pv 0) pa_nil)))
  (pss_cons (ps_for PassesOwn.never rfl (pi_range1 (by rfl) T.range (pa_cons (pe_op on_add pe_int (pe_callB (call_minN rfl) (by rfl) T.min (by decide +kernel) (pa_cons pe_int (pa_cons (pe_callB call_len (by rfl) T.len PySem.boot_len (pa_cons (pv 0) pa_nil)) pa_nil)))) pa_nil)) (pg_name (i := 2) nd rfl (Or.inl rfl))
    (pss_cons (ps_set (i := 3) nd rfl (Or.inl rfl) (pe_d D_drawL hr (pa_cons (pv 1) (pa_cons pe_int pa_nil))))
    (pss_cons (ps_asg (pe_d D_spread_wordsL hr (pa_cons (pv 1) (pa_cons (pv 3) (pa_cons (pe_d D_drawL hr (pa_cons (pv 1) (pa_cons pe_int pa_nil))) (pa_cons (pe_d D_drawL hr (pa_cons (pv 1) (pa_cons pe_int pa_nil))) pa_nil))))) (pg_tup (by rfl) (pgs_cons (pg_name (i := 4) nd rfl (Or.inl rfl)) (pgs_cons (pg_name (i := 5) nd rfl (Or.inr rfl)) pgs_nil))))
    (pss_cons (ps_if (PW.pt (pw_or (pt_cmpR op_gt (pe_callB call_lenQ (by rfl) T.len PySem.boot_len (pa_cons (pv 4) pa_nil)) pe_int (nomark _)) (pw_or1 (pt_cmpR op_gt (pe_callB call_lenQ (by rfl) T.len PySem.boot_len (pa_cons (pv 5) pa_nil)) pe_int (nomark _)))))
      (pss_one ps_continue)
      pss_nil)
    (pss_cons (ps_set (i := 6) nd rfl (Or.inl rfl) (pe_d D_space_wordsL hr (pa_cons (pv 1) (pa_cons (pv 3) (pa_cons (pv 4) pa_nil)))))
    (pss_cons (ps_par (i := 7) (j := 8) (by rfl) nd rfl rfl (by decide) rfl rfl (pa_cons (pe_d D_basisL hr (pa_cons (pv 6) pa_nil)) (pa_cons (pe_d D_begunL hr (pa_cons (pv 4) (pa_cons (pv 5) (pa_cons (pe_d D_basisL hr (pa_cons (pv 6) pa_nil)) pa_nil)))) pa_nil)) (by rfl))
    (pss_cons (ps_set (i := 9) nd rfl (Or.inl rfl) (pe_d D_sum_steps hr (pa_cons (pe_k K_Spread hr (pa_cons (pv 3) (pa_cons (pv 4) (pa_cons (pv 5) pa_nil)))) (pa_cons (pe_k K_Space hr (pa_cons (pv 3) (pa_cons (pv 6) pa_nil))) pa_nil))))
    (pss_cons (ps_if (PW.pt (pw_or (pt_not (pt_val (pe_callB call_isi (by rfl) T.isinstance (by decide +kernel) (pa_cons (pv 9) (pa_cons (pe_bltn (v := .ty "tuple") (by rfl) T.tuple (by decide +kernel) rfl) pa_nil))))) (pw_or1 (pt_not (pt_val (pe_callB (cr_all rfl) (by rfl) T.all (by decide +kernel) (pa_cons (pe_lc (own := [("_law_step", 11)]) (g := gName 11) (by rfl) nd (pi_seq (pv 9)) (blkOk_by (own := [("_law_step", 11)]) (N := ["_law_script", "_law_pen", "_law_turn", "_law_bits", "_law_slots", "_law_lanes", "_law_words", "_law_rows", "_law_begun_here", "_law_steps", "_law_values", "_law_step"]) (sc := defScope s_law) (by decide +kernel)) (fun _ _ _ _ _ => (pg_name (i := 11) nd rfl (Or.inl rfl))) (fun _ _ _ _ _ => pts_nil) (fun _ _ _ _ _ => (pe_d D_is_wordL hr (pa_cons (pv 11) (pa_cons (pe_callB call_lenQ (by rfl) T.len PySem.boot_len (pa_cons (pv 5) pa_nil)) pa_nil))))) pa_nil)))))))
      (pss_one (ps_ret pe_bl))
      pss_nil)
    (pss_cons (ps_if (pt_cmpR op_ne (pe_callB call_lenQ (by rfl) T.len PySem.boot_len (pa_cons (pv 9) pa_nil)) (pe_ix ix_q (pe_d D_countsL hr (pa_cons (pv 4) (pa_cons (pv 5) (pa_cons (pv 6) pa_nil)))) pe_int (fun _ _ => rfl)) (nomark _))
      (pss_one (ps_ret pe_bl))
      pss_nil)
    (pss_cons (ps_if (pt_cmpR (op_neT hr.units) (pe_d D_sum_steps hr (pa_cons (pe_k K_Spread hr (pa_cons (pv 3) (pa_cons (pv 4) (pa_cons (pv 5) pa_nil)))) (pa_cons (pe_k K_Space hr (pa_cons (pv 3) (pa_cons (pv 6) pa_nil))) pa_nil))) (pv 9) (nomark _))
      (pss_one (ps_ret pe_bl))
      pss_nil)
    (pss_cons (ps_set (i := 10) nd rfl (Or.inl rfl) (pv 8))
    (pss_cons (ps_for PassesOwn.never rfl (pi_seq (pe_d D_mixedL hr (pa_cons (pv 1) (pa_cons (pv 9) pa_nil)))) (pg_name (i := 11) nd rfl (Or.inl rfl))
      (pss_one (ps_set (i := 10) nd rfl (Or.inl rfl) (pe_d D_steppedL hr (pa_cons (pv 10) (pa_cons (pv 11) pa_nil))))))
    (pss_cons (ps_if (pt_cmpR op_ne (pe_ix ix_q (pe_d D_all_haveL hr (pa_cons (pv 10) (pa_cons (pv 8) (pa_cons (pv 7) (pa_cons (pv 3) pa_nil))))) pe_int (fun _ _ => rfl)) pe_int (nomark _))
      (pss_one (ps_ret pe_bl))
      pss_nil)
    (pss_cons (ps_set (i := 10) nd rfl (Or.inl rfl) (pv 8))
    (pss_cons (ps_for PassesOwn.never rfl (pi_seq (pe_slice sl_tupA (pv 9) (po_some pe_int) po_none)) (pg_name (i := 11) nd rfl (Or.inl rfl))
      (pss_one (ps_set (i := 10) nd rfl (Or.inl rfl) (pe_d D_steppedL hr (pa_cons (pv 10) (pa_cons (pv 11) pa_nil))))))
    (pss_one (ps_if (PW.pt (pw_and (pt_cmpR (op_neT hr.units) (pv 9) (pe_tup pa_nil) (nomark _)) (pw_and1 (pt_cmpR op_ne (pe_ix ix_q (pe_d D_all_haveL hr (pa_cons (pv 10) (pa_cons (pv 8) (pa_cons (pv 7) (pa_cons (pv 3) pa_nil))))) pe_int (fun _ _ => rfl)) pe_int (nomark _)))))
      (pss_one (ps_ret pe_bl))
      pss_nil)))))))))))))))))
  (pss_one (ps_ret pe_bl)))), ?_⟩
    refine ⟨_, rfl, a, ns, rfl, hS, fun H1 p lc s1 hp1 hP1 => ?_⟩
    refine ⟨_, rfl, _, (ns.map V.int).length, rfl, Or.inl ⟨_, Same.seq s1 hS, rfl⟩, 2, (ns.map V.int).length, rfl, 2, _, rfl, rfl, ?_⟩
    generalize hm : 2 + min 2 (ns.map V.int).length = m
    have hm7 : m ≤ 4 := by omega
    refine ⟨_, rfl, (by omega), (by omega), for_range (n := m) (fun i σ H2 => ∃ v2 v3 v4 v5 v6 v7 v8 v9 v10 v11, σ = [some (.ref a), some (.ref p), v2, v3, v4, v5, v6, v7, v8, v9, v10, v11] ∧ Pn H2 p lc (i * 7030000)) ⟨none, none, none, none, none, none, none, none, none, none, rfl, hP1.mono (by omega)⟩ ?_ ?_⟩
    · rintro i σ H2 hi ⟨v2, v3, v4, v5, v6, v7, v8, v9, v10, v11, rfl, hP2⟩
      rw [show (0 : Int) + (i : Int) = (i : Int) by omega]
      refine ⟨_, rfl, p, lc, i * 7030000, 6, rfl, hP2, (by decide), (by decide), (by show i * 7030000 + 1 ≤ 1099511627776; omega), fun H3 b hb hP3 kp3 => ?_⟩
      refine ⟨_, rfl, _, rfl, _, rfl, p, lc, i * 7030000 + 1, 4, rfl, hP3, (by decide), (by decide), (by show i * 7030000 + 1 + 1 ≤ 1099511627776; omega), fun H4 m4 hm4 hP4 kp4 => ?_⟩
      refine ⟨_, rfl, p, lc, i * 7030000 + 1 + 1, 4, rfl, hP4, (by decide), (by decide), (by show i * 7030000 + 1 + 1 + 1 ≤ 1099511627776; omega), fun H5 n5 hn5 hP5 kp5 => ?_⟩
      refine ⟨p, lc, i * 7030000 + 1 + 1 + 1, b, m4, n5, rfl, hP5, (by omega), (by omega), (by omega), (by show i * 7030000 + 1 + 1 + 1 + 7000000 ≤ 1099511627776; omega), fun H6 q sa la ss ls lss lls hss hls hrk hq6 ha6 hc6 hP6 kp6 => ?_⟩
      refine ⟨q, _, rfl, SqT.of hq6, rfl, _, _, rfl, _, _, rfl, rfl, ?_⟩
      refine ⟨_, rfl, sa, _, rfl, .inl ha6, _, _, rfl, rfl, _, rfl, br (fun _ => ⟨_, _, _, _, _, _, _, _, _, _, rfl, hP6.mono (by omega)⟩) (fun z1 => ?_)⟩
      refine ⟨_, rfl, la, _, rfl, .inl hc6, _, _, rfl, rfl, _, rfl, br (fun _ => ⟨_, _, _, _, _, _, _, _, _, _, rfl, hP6.mono (by omega)⟩) (fun z2 => ?_)⟩
      have l1 : ss.length ≤ 4 := by have := of_decide_eq_false z1; rw [List.length_map] at this; omega
      have l2 : ls.length ≤ 5 := by have := of_decide_eq_false z2; rw [List.length_map] at this; omega
      have b5 : (2 : Nat) ^ b ≤ 2 ^ 5 := Nat.pow_le_pow_right (by decide) (by omega)
      refine ⟨_, rfl, _, rfl, _, rfl, p, lc, sa, i * 7030000 + 1 + 1 + 1 + 7000000, b, ss, rfl, hP6, ha6, (by omega), (by omega), hss, (by show i * 7030000 + 1 + 1 + 1 + 7000000 + 20000 ≤ 1099511627776; omega), fun H7 wa ws lws hws hw7 hP7 kp7 => ?_⟩
      have ha7 := kp7 _ _ ha6 rfl
      have hc7 := kp7 _ _ hc6 rfl
      refine ⟨_, rfl, wa, ws, rfl, .inl hw7, (by omega), fun H8 ra s8 hra8 hr8 => ?_⟩
      refine ⟨_, rfl, _, rfl, _, rfl, wa, ws, rfl, .inl (s8 _ _ hw7), (by omega), fun H9 rb s9 hrb h9 => ?_⟩
      have s79 := s8.trans s9
      have hnz : ∀ x ∈ bas ws, x ≠ 0 := (bas_lws ws).nz
      refine ⟨sa, la, rb, ss, ls, bas ws, rfl, s79 _ _ ha7, s79 _ _ hc7, h9, l1, l2, (fun x hx => by have := hss x hx; omega), (fun x hx => by have := hls x hx; omega), (fun x hx => ⟨by have := bas_lt hws x hx; omega, hnz x hx⟩), fun H10 g s10 hg hL10 => ⟨_, _, rfl, ?_⟩⟩
      have s710 := s79.trans s10
      have hr10 : H10 ra = some (.lst ((bas ws).map vN)) := s10 _ _ (s9 _ _ hr8)
      have wf : WfR b ss ls := ⟨by omega, fun x hx => blen_le.mpr (hss x hx), fun x hx => blen_le.mpr (hls x hx), by omega, by omega⟩
      have hwb : ∀ x ∈ ws, blen x ≤ b := fun x hx => blen_le.mpr (hws x hx)
      have wfs : WfS b (spn ws) := WfS.of (by omega) hwb
      refine ⟨_, rfl, _, rfl, _, rfl, ?_⟩
      refine mk_SpreadR (.inl (s710 _ _ ha7)) (.inl (s710 _ _ hc7)) wf hrk (fun H11 sr s11 hsr hR11 => ⟨rfl, ?_⟩)
      have s711 := s710.trans s11
      refine ⟨_, rfl, _, rfl, ?_⟩
      refine mk_SpaceR (.inl (s711 _ _ hw7)) hwb (by omega) (fun H12 sp s12 hsp hS12 => ⟨rfl, ?_⟩)
      refine ⟨sr, sp, b, ss, ls, spn ws, rfl, hR11.same s12, hS12, wf, wfs, fun H13 z s13 hz hz13 => ?_⟩
      have s1013 : Same H10 H13 := (s11.trans s12).trans s13
      have s713 := s710.trans s1013
      generalize hZ : ldr ss ls (spn ws) = zs at *
      have zl : ∀ x ∈ zs, x < 2 ^ ls.length := fun x hx => by rw [← hZ] at hx; exact (ldr_mem hx).1
      have lz : zs.length = rk (ss ++ ws) - rk ss := by rw [← hZ]; exact ldr_size hss hls hws hrk
      have fz : Fre ss ls zs := by rw [← hZ]; exact ldr_free ss ls ws
      have lz6 : zs.length ≤ 100 := by have := rk_len (ss ++ ws); rw [List.length_append] at this; omega
      have hL13 := hL10.same s1013
      refine ⟨_, rfl, _, _, _, _, _, rfl, .ty _, .base (.tup hz13), kit_ty (r := true) (by decide +kernel), _, rfl, iteF ?_⟩
      refine ⟨_, rfl, lc_pure zs vN (fun _ => true) (fun x => .bl (decide (x < 2 ^ ls.length))) (.inr hz13) (by omega) (fun x H' hx s => ?_) (fun D H14 hD s14 h14 => ?_)⟩
      · intro Z Nx y1 y2
        refine ⟨rfl, _, rfl, _, rfl, la, _, rfl, .inl (s _ _ (s713 _ _ hc7)), x, (ls.map vN).length, rfl, (by rw [List.length_map]; omega), ?_⟩
        rw [List.length_map]
        exact y1 rfl _ (Same.refl _)
      rw [filt_true] at h14
      refine ⟨D, zs.map (fun x => decide (x < 2 ^ ls.length)), rfl, SqL.of (by rw [h14, List.map_map]; rfl), ?_⟩
      have eall : (zs.map (fun x => decide (x < 2 ^ ls.length))).all id = true := by
        rw [List.all_map, List.all_eq_true]
        exact fun x hx => decide_eq_true (zl x hx)
      rw [eall]
      refine ⟨_, rfl, iteF ?_⟩
      have z14 := s14 _ _ hz13
      have s714 := s713.trans s14
      refine ⟨_, rfl, z, _, rfl, .inr z14, _, rfl, _, rfl, _, rfl, sa, la, wa, ss, ls, ws, rfl, s714 _ _ ha7, s714 _ _ hc7, s714 _ _ hw7, (by omega), (by omega), (by omega), fun H15 q15 s15 h15 => ?_⟩
      refine ⟨q15, _, 1, _, rfl, rfl, .inr h15, rfl, rfl, _, rfl, ?_⟩
      rw [show (!decide (V.int ((zs.map vN).length : Int) = vN (rk (ss ++ ws) - rk ss))) = false by rw [List.length_map, lz]; simp]
      refine iteF ?_
      have s715 := s714.trans s15
      refine ⟨_, rfl, _, rfl, _, rfl, ?_⟩
      refine mk_SpreadR (.inl (s715 _ _ ha7)) (.inl (s715 _ _ hc7)) wf hrk (fun H16 sr2 s16 hsr2 hR16 => ⟨rfl, ?_⟩)
      have s716 := s715.trans s16
      refine ⟨_, rfl, _, rfl, ?_⟩
      refine mk_SpaceR (.inl (s716 _ _ hw7)) hwb (by omega) (fun H17 sp2 s17 hsp2 hS17 => ⟨rfl, ?_⟩)
      refine ⟨sr2, sp2, b, ss, ls, spn ws, rfl, hR16.same s17, hS17, wf, wfs, fun H18 y s18 hy hy18 => ?_⟩
      rw [hZ] at hy18
      have s1418 : Same H14 H18 := ((s15.trans s16).trans s17).trans s18
      have z18 := s1418 _ _ z14
      refine ⟨_, rfl, y, z, zs, zs, rfl, rfl, hy18, z18, _, rfl, ?_⟩
      rw [decide_eq_true rfl]
      refine iteF ?_
      have s1318 := s14.trans s1418
      have hL18 := hL13.same s1318
      have s718 := s713.trans s1318
      have r18 := s1318 _ _ (s1013 _ _ hr10)
      refine ⟨_, rfl, _, rfl, _, rfl, p, lc, z, i * 7030000 + 1 + 1 + 1 + 7000000 + 20000, zs, rfl, hP7.same s718, .inr z18, (by omega), (by show i * 7030000 + 1 + 1 + 1 + 7000000 + 20000 + 1000 ≤ 1099511627776; omega), fun H19 mq ms hperm hmq hm19 hP19 kp19 => ?_⟩
      have hL19 := hL18.kp kp19
      have fm : Fre ss ls ms := fz.perm hperm
      have ml : ∀ x ∈ ms, x < 2 ^ ls.length := fun x hx => zl x (hperm.mem_iff.mp hx)
      have z19 := kp19 _ _ z18 rfl
      have r19 := kp19 _ _ r18 rfl
      refine for_sq2 (K := K) (Tq.l hm19) (fun j σ H2 => ∃ v11 vq, σ = [some (.ref a), some (.ref p), some (vN i), some (vN b), some (.ref sa), some (.ref la), some (.ref wa), some (.ref ra), some (.ref g), some (.ref z), some (.ref vq), v11] ∧ Same H19 H2 ∧ Lanes H2 vq (bas ws) (Ent ss ls (ms.take j)) (2 ^ ls.length)) ⟨_, g, rfl, Same.refl _, hL19⟩ (fun j σ H2 hp o ho => ?_) ?_ ?_
      · obtain ⟨_, _, _, s, _⟩ := hp
        exact s _ _ ho
      · rintro j y σ H2 hy ⟨v11, vq, rfl, s2, hLq⟩
        obtain ⟨x, hx, rfl⟩ := map_get hy
        obtain ⟨u1, u2, u3, u4, u5⟩ := use_step (by omega) hss hls hws l2 ml fm hx
        exact ⟨_, rfl, _, rfl, vq, x, bas ws, _, _, rfl, hLq, u1, u2, u3, u4, fun H3 q' s3 _ hL3 => ⟨_, q', rfl, s2.trans s3, u5 _ _ hL3⟩⟩
      · rintro σ H20 ⟨v11, vq, rfl, s20, hLq⟩
        rw [List.length_map, List.take_length] at hLq
        have hL20 := hL19.same s20
        refine ⟨_, rfl, _, rfl, _, rfl, _, rfl, vq, g, ra, b, 2 ^ ls.length, bas ws, _, _, true, rfl, hLq, hL20, s20 _ _ r19, hnz, (by omega), Nat.pow_le_pow_right (n := 2) (by decide) l2, use_all hss hls hws hrk (by rw [hZ]; exact hperm), fun H21 t kk jj s21 h21 g1 g2 => ?_⟩
        have e := g1 rfl
        subst e
        refine ⟨t, _, 1, _, rfl, rfl, .inr h21, rfl, rfl, _, rfl, iteF ?_⟩
        have s1921 := s20.trans s21
        have z21 := s1921 _ _ z19
        have hL21 := hL19.same s1921
        have r21 := s1921 _ _ r19
        have hP21 := hP19.same s1921
        refine ⟨_, rfl, _, rfl, _, rfl, z, _, rfl, SqT.of z21, fun e => ?ca, fun e x22 hx22 => ?cb⟩
        case' ca =>
          have hq : H21 z = some (.tup ((zs.drop 1).map vN)) := by
            have e1 := e.1
            rw [show (1 : Int) = ((1 : Nat) : Int) from rfl, HT.sIx_nat, List.length_map] at e1
            have : zs = [] := List.length_eq_zero_iff.mp (by omega)
            rw [z21, this]; rfl
          have sB := s1921
          have zB := z21
          clear s21 h21
          generalize H21 = H22 at *
        case' cb =>
          rw [cut_tail]
          have hq : upd H21 x22 (.tup ((zs.drop 1).map vN)) x22 = some (.tup ((zs.drop 1).map vN)) := upd_same
          have sB : Same H19 (upd H21 x22 (.tup ((zs.drop 1).map vN))) := same_new s1921 hx22
          have zB := upd_new (o := .tup ((zs.drop 1).map vN)) hx22 z21
          generalize upd H21 x22 (.tup ((zs.drop 1).map vN)) = H22 at *
        all_goals
          have hLB := hL19.same sB
          have rB := sB _ _ r19
          have hPB := hP19.same sB
          have dl : ∀ x ∈ zs.drop 1, x < 2 ^ ls.length := fun x hx => zl x (List.mem_of_mem_drop hx)
          refine for_sq2 (K := K) (Tq.t hq) (fun j σ H2 => ∃ v11 vq, σ = [some (.ref a), some (.ref p), some (vN i), some (vN b), some (.ref sa), some (.ref la), some (.ref wa), some (.ref ra), some (.ref g), some (.ref z), some (.ref vq), v11] ∧ Same H22 H2 ∧ Lanes H2 vq (bas ws) (Ent ss ls ((zs.drop 1).take j)) (2 ^ ls.length)) ⟨_, g, rfl, Same.refl _, hLB⟩ (fun j σ H2 hp o ho => ?_) ?_ ?_
          · obtain ⟨_, _, _, s, _⟩ := hp
            exact s _ _ ho
          · rintro j y σ H2 hy ⟨v11, vq, rfl, s2, hLq⟩
            obtain ⟨x, hx, rfl⟩ := map_get hy
            obtain ⟨u1, u2, u3, u4, u5⟩ := use_step (by omega) hss hls hws l2 dl (free_tail fz) hx
            exact ⟨_, rfl, _, rfl, vq, x, bas ws, _, _, rfl, hLq, u1, u2, u3, u4, fun H3 q' s3 _ hL3 => ⟨_, q', rfl, s2.trans s3, u5 _ _ hL3⟩⟩
          · rintro σ H23 ⟨v11, vq, rfl, s23, hLq⟩
            rw [List.length_map, List.take_length] at hLq
            refine ⟨_, rfl, (by show 0 ≤ sizeLine; decide), fun et het => ?_⟩
            have s24 := same_new0 (o := .tup []) het
            refine ⟨z, et, zs, [], rfl, rfl, s24 _ _ (s23 _ _ zB), upd_same, _, rfl, br (fun hne => ?_) (fun _ => ?_)⟩
            · cases hzs : zs with
              | nil => rw [hzs] at hne; simp at hne
              | cons z0 zr =>
                rw [hzs] at hLq
                have sA := s23.trans s24
                refine ⟨_, rfl, _, rfl, _, rfl, _, rfl, vq, g, ra, b, 2 ^ ls.length, bas ws, _, _, false, rfl, hLq.same s24, hLB.same sA, sA _ _ rB, hnz, (by omega), Nat.pow_le_pow_right (n := 2) (by decide) l2, use_less hss hls hws (hZ.trans hzs), fun H25 t kk jj s25 h25 g1 g2 => ?_⟩
                have e := g2 rfl
                subst e
                exact ⟨t, _, 0, _, rfl, rfl, .inr h25, rfl, rfl, _, rfl, iteF ⟨_, _, _, _, _, _, _, _, _, _, rfl, (hPB.same (sA.trans s25)).mono (by omega)⟩⟩
            · exact ⟨_, _, _, _, _, _, _, _, _, _, rfl, (hPB.same (s23.trans s24)).mono (by omega)⟩
    · rintro σ H2 ⟨v2, v3, v4, v5, v6, v7, v8, v9, v10, v11, rfl, hP2⟩
      exact k _
end
end LaneX
set_option Elab.async false
set_option linter.all false
set_option maxRecDepth 100000
set_option maxHeartbeats 0
namespace LaneX
open PySem PySem.Spec PyProof.Rows L2
def fa : List He.Fa := ([.free "abs", .free "all", .free "any", .free "bool", .free "dict", .free "int", .free "isinstance", .free "len", .free "list", .free "min", .free "range", .free "set", .free "sorted", .free "sum", .free "tuple", .glo "Space", .cls "Space", .mkr "Space", .noat "Space" "bits", .noat "Space" "rows"] : List He.Fa) ++ ([.noat "Space" "dimension", .glo "Spread", .cls "Spread", .mkr "Spread", .noat "Spread" "bits", .noat "Spread" "slots", .noat "Spread" "lanes", .glo "is_whole", .glo "need_whole", .glo "need_items", .glo "need_word", .glo "need_words", .glo "cleared", .glo "grown", .glo "spanned", .glo "paired", .glo "kernel_rows", .glo "need_space", .glo "any_spread", .meth "Space" "completing"] : List He.Fa) ++ ([.meth "Spread" "twins", .glo "need_pair", .glo "partner_rows", .glo "partners", .glo "leaders", .glo "sum_steps", .glo "_law_draw", .glo "_law_begin", .glo "_law_pick", .glo "_law_word", .glo "_law_mixed", .glo "_law_left", .glo "_law_basis", .glo "_law_size", .glo "_law_image", .glo "_law_tagged", .glo "_law_kernel", .glo "_law_is_whole", .glo "_law_is_word", .glo "_law_words_for"] : List He.Fa) ++ ([.glo "_law_spread_words", .glo "_law_counts", .glo "_law_space_words", .glo "_law_begun", .glo "_law_stepped", .glo "_law_all_have", .glo "law"] : List He.Fa)
def d_is_whole : He.DefD := ⟨("is_whole", none), "is_whole", "is_whole", defArgs s_is_whole, defBody s_is_whole, defScope s_is_whole, [], []⟩
def d_need_whole : He.DefD := ⟨("need_whole", none), "need_whole", "need_whole", defArgs s_need_whole, defBody s_need_whole, defScope s_need_whole, [], []⟩
def d_need_items : He.DefD := ⟨("need_items", none), "need_items", "need_items", defArgs s_need_items, defBody s_need_items, defScope s_need_items, [], []⟩
def d_need_word : He.DefD := ⟨("need_word", none), "need_word", "need_word", defArgs s_need_word, defBody s_need_word, defScope s_need_word, [], []⟩
def d_need_words : He.DefD := ⟨("need_words", none), "need_words", "need_words", defArgs s_need_words, defBody s_need_words, defScope s_need_words, [], []⟩
def d_cleared : He.DefD := ⟨("cleared", none), "cleared", "cleared", defArgs s_cleared, defBody s_cleared, defScope s_cleared, [], []⟩
def d_grown : He.DefD := ⟨("grown", none), "grown", "grown", defArgs s_grown, defBody s_grown, defScope s_grown, [], []⟩
def d_spanned : He.DefD := ⟨("spanned", none), "spanned", "spanned", defArgs s_spanned, defBody s_spanned, defScope s_spanned, [], []⟩
def d_paired : He.DefD := ⟨("paired", none), "paired", "paired", defArgs s_paired, defBody s_paired, defScope s_paired, [], []⟩
def d_kernel_rows : He.DefD := ⟨("kernel_rows", none), "kernel_rows", "kernel_rows", defArgs s_kernel_rows, defBody s_kernel_rows, defScope s_kernel_rows, [], []⟩
def d_Space_init : He.DefD := ⟨("Space", some "__init__"), "__init__", "Space.__init__", defArgs s_Space_init, defBody s_Space_init, defScope s_Space_init, [], []⟩
def d_Spread_init : He.DefD := ⟨("Spread", some "__init__"), "__init__", "Spread.__init__", defArgs s_Spread_init, defBody s_Spread_init, defScope s_Spread_init, [], []⟩
def d_need_space : He.DefD := ⟨("need_space", none), "need_space", "need_space", defArgs s_need_space, defBody s_need_space, defScope s_need_space, [], []⟩
def d_any_spread : He.DefD := ⟨("any_spread", none), "any_spread", "any_spread", defArgs s_any_spread, defBody s_any_spread, defScope s_any_spread, [], []⟩
def d_Space_completing : He.DefD := ⟨("Space", some "completing"), "completing", "Space.completing", defArgs s_Space_completing, defBody s_Space_completing, defScope s_Space_completing, [], []⟩
def d_Spread_twins : He.DefD := ⟨("Spread", some "twins"), "twins", "Spread.twins", defArgs s_Spread_twins, defBody s_Spread_twins, defScope s_Spread_twins, [], []⟩
def d_need_pair : He.DefD := ⟨("need_pair", none), "need_pair", "need_pair", defArgs s_need_pair, defBody s_need_pair, defScope s_need_pair, [], []⟩
def d_partner_rows : He.DefD := ⟨("partner_rows", none), "partner_rows", "partner_rows", defArgs s_partner_rows, defBody s_partner_rows, defScope s_partner_rows, [], []⟩
def d_partners : He.DefD := ⟨("partners", none), "partners", "partners", defArgs s_partners, defBody s_partners, defScope s_partners, [], []⟩
def d_leaders : He.DefD := ⟨("leaders", none), "leaders", "leaders", defArgs s_leaders, defBody s_leaders, defScope s_leaders, [], []⟩
def d_sum_steps : He.DefD := ⟨("sum_steps", none), "sum_steps", "sum_steps", defArgs s_sum_steps, defBody s_sum_steps, defScope s_sum_steps, [], []⟩
def d_drawL : He.DefD := ⟨("_law_draw", none), "_law_draw", "_law_draw", defArgs s_drawL, defBody s_drawL, defScope s_drawL, [], []⟩
def d_beginL : He.DefD := ⟨("_law_begin", none), "_law_begin", "_law_begin", defArgs s_beginL, defBody s_beginL, defScope s_beginL, [], []⟩
def d_pickL : He.DefD := ⟨("_law_pick", none), "_law_pick", "_law_pick", defArgs s_pickL, defBody s_pickL, defScope s_pickL, [], []⟩
def d_wordL : He.DefD := ⟨("_law_word", none), "_law_word", "_law_word", defArgs s_wordL, defBody s_wordL, defScope s_wordL, [], []⟩
def d_mixedL : He.DefD := ⟨("_law_mixed", none), "_law_mixed", "_law_mixed", defArgs s_mixedL, defBody s_mixedL, defScope s_mixedL, [], []⟩
def d_leftL : He.DefD := ⟨("_law_left", none), "_law_left", "_law_left", defArgs s_leftL, defBody s_leftL, defScope s_leftL, [], []⟩
def d_basisL : He.DefD := ⟨("_law_basis", none), "_law_basis", "_law_basis", defArgs s_basisL, defBody s_basisL, defScope s_basisL, [], []⟩
def d_sizeL : He.DefD := ⟨("_law_size", none), "_law_size", "_law_size", defArgs s_sizeL, defBody s_sizeL, defScope s_sizeL, [], []⟩
def d_imageL : He.DefD := ⟨("_law_image", none), "_law_image", "_law_image", defArgs s_imageL, defBody s_imageL, defScope s_imageL, [], []⟩
def d_taggedL : He.DefD := ⟨("_law_tagged", none), "_law_tagged", "_law_tagged", defArgs s_taggedL, defBody s_taggedL, defScope s_taggedL, [], []⟩
def d_kernelL : He.DefD := ⟨("_law_kernel", none), "_law_kernel", "_law_kernel", defArgs s_kernelL, defBody s_kernelL, defScope s_kernelL, [], []⟩
def d_is_wholeL : He.DefD := ⟨("_law_is_whole", none), "_law_is_whole", "_law_is_whole", defArgs s_is_wholeL, defBody s_is_wholeL, defScope s_is_wholeL, [], []⟩
def d_is_wordL : He.DefD := ⟨("_law_is_word", none), "_law_is_word", "_law_is_word", defArgs s_is_wordL, defBody s_is_wordL, defScope s_is_wordL, [], []⟩
def d_words_forL : He.DefD := ⟨("_law_words_for", none), "_law_words_for", "_law_words_for", defArgs s_words_forL, defBody s_words_forL, defScope s_words_forL, [], []⟩
def d_spread_wordsL : He.DefD := ⟨("_law_spread_words", none), "_law_spread_words", "_law_spread_words", defArgs s_spread_wordsL, defBody s_spread_wordsL, defScope s_spread_wordsL, [], []⟩
def d_countsL : He.DefD := ⟨("_law_counts", none), "_law_counts", "_law_counts", defArgs s_countsL, defBody s_countsL, defScope s_countsL, [], []⟩
def d_space_wordsL : He.DefD := ⟨("_law_space_words", none), "_law_space_words", "_law_space_words", defArgs s_space_wordsL, defBody s_space_wordsL, defScope s_space_wordsL, [], []⟩
def d_begunL : He.DefD := ⟨("_law_begun", none), "_law_begun", "_law_begun", defArgs s_begunL, defBody s_begunL, defScope s_begunL, [], []⟩
def d_steppedL : He.DefD := ⟨("_law_stepped", none), "_law_stepped", "_law_stepped", defArgs s_steppedL, defBody s_steppedL, defScope s_steppedL, [], []⟩
def d_all_haveL : He.DefD := ⟨("_law_all_have", none), "_law_all_have", "_law_all_have", defArgs s_all_haveL, defBody s_all_haveL, defScope s_all_haveL, [], []⟩
def d_law : He.DefD := ⟨("law", none), "law", "law", defArgs s_law, defBody s_law, defScope s_law, [], []⟩
def fn : List He.DefD := ([d_is_whole, d_need_whole, d_need_items, d_need_word, d_need_words, d_cleared, d_grown, d_spanned, d_paired, d_kernel_rows, d_Space_init, d_Spread_init, d_need_space, d_any_spread, d_Space_completing, d_Spread_twins, d_need_pair, d_partner_rows, d_partners, d_leaders] : List He.DefD) ++ ([d_sum_steps, d_drawL, d_beginL, d_pickL, d_wordL, d_mixedL, d_leftL, d_basisL, d_sizeL, d_imageL, d_taggedL, d_kernelL, d_is_wholeL, d_is_wordL, d_words_forL, d_spread_wordsL, d_countsL, d_space_wordsL, d_begunL, d_steppedL] : List He.DefD) ++ ([d_all_haveL, d_law] : List He.DefD)
def exC (K : PySem.W.Frag) (C : Addr) : Bool := He.eqO (PySem.W.findIn K (.ref C) "__class__") (some (some (.builtin "object.__class__"))) && (decide (PySem.W.takesIn K (.builtin "object.__class__") = some true) && (decide (PySem.W.mroIn K C (.type "object") = some true) && (decide (PySem.W.kitOne K (.ref C) (.ref C) = some true) && (He.eqO (PySem.W.specialIn K (.builtin "object.__class__") "__get__") (some (some (.builtin "getset_descriptor.__get__"))) && PySem.W.selfFirst K C))))
theorem exC_ok {K : PySem.W.Frag} {C : Addr} (c : Cls K C) (h : exC K C = true) : ObjT K C ∧ PySem.W.selfFirst K C = true := by
  obtain ⟨h1, h⟩ := He.ba h
  obtain ⟨h2, h⟩ := He.ba h
  obtain ⟨h3, h⟩ := He.ba h
  obtain ⟨h4, h⟩ := He.ba h
  obtain ⟨h5, h6⟩ := He.ba h
  exact ⟨⟨c, He.eqO_ok h1, He.eqO_ok h5, of_decide_eq_true h2, of_decide_eq_true h3, of_decide_eq_true h4⟩, h6⟩
def exB (K : PySem.W.Frag) : Bool := exC K (He.ga K "Space") && exC K (He.ga K "Spread")
abbrev R : PySem.W.OpenRow := PySem.W.OpenLaw.row PySem.Challenge.rw_laneswap_k36_whole_steps_for_all_lanes
abbrev hk : PySem.W.Hook := He.hookX 4 fa fn [] [] exB
def ob (s : PySem.W.SharedT) : He.AlX := He.obsX 4 fa fn [] [] exB (HandSHeadRun.getT s)
theorem ob_eq (s : PySem.W.SharedT) : ob s = hk.obs s.abs := He.obsX_eq (HandSHeadRun.getT_eq s)
def names : List Str := (["_wall", "__name__", "LaneError", "BadValue", "NotOnto", "NotApart", "is_whole", "need_whole", "need_items", "need_word", "need_words", "cleared", "grown", "spanned", "tops_of", "missing", "paired", "kernel_rows", "met", "Space"] : List Str) ++ (["need_space", "Spread", "any_spread", "left_over", "need_pair", "partner_rows", "partners", "leaders", "sum_steps", "_law_begin", "_law_draw", "_law_pick", "_law_word", "_law_mixed", "_law_left", "_law_basis", "_law_size", "_law_image", "_law_tagged", "_law_kernel"] : List Str) ++ (["_law_is_whole", "_law_is_word", "_law_words_for", "_law_spread_words", "_law_counts", "_law_space_words", "_law_begun", "_law_stepped", "_law_all_have"] : List Str)
theorem run (w : World) : HandSHeadRun.RunEq R (PySem.W.view R.prog [55]) hk ob 6000 names w := by
  intro os
  kernel_rfl
end LaneX
set_option Elab.async false
set_option linter.all false
set_option maxRecDepth 100000
set_option maxHeartbeats 0
namespace LaneX
open PySem PySem.Spec PyProof.Rows L2
theorem facts {P : Program} {w : World} {K : PySem.W.Frag} {h : Heap} {mg : Str → Option Value} {f : Addr} (X : K.In h) (G : h.Ns mainGlobals mg) (hfa : mg ("law" : Str) = some (.ref f)) (c : He.SaysD fa fn K) (ex : exB K = true) :
    ∃ fd : FuncData, (∀ (s : Shared) (v : Value), BindsTo s fd ⟨[v], []⟩ [("_law_script", v)]) ∧ ∀ base : Heap, K.In base → base.Ns mainGlobals mg → FnOk P w K mg base CX0 10 f fd ["_law_script"] (sp_lawK K) := by
  obtain ⟨fd_is_whole, F_is_whole⟩ := c.def_ 0 (d := d_is_whole) rfl
  obtain ⟨fd_need_whole, F_need_whole⟩ := c.def_ 1 (d := d_need_whole) rfl
  obtain ⟨fd_need_items, F_need_items⟩ := c.def_ 2 (d := d_need_items) rfl
  obtain ⟨fd_need_word, F_need_word⟩ := c.def_ 3 (d := d_need_word) rfl
  obtain ⟨fd_need_words, F_need_words⟩ := c.def_ 4 (d := d_need_words) rfl
  obtain ⟨fd_cleared, F_cleared⟩ := c.def_ 5 (d := d_cleared) rfl
  obtain ⟨fd_grown, F_grown⟩ := c.def_ 6 (d := d_grown) rfl
  obtain ⟨fd_spanned, F_spanned⟩ := c.def_ 7 (d := d_spanned) rfl
  obtain ⟨fd_paired, F_paired⟩ := c.def_ 8 (d := d_paired) rfl
  obtain ⟨fd_kernel_rows, F_kernel_rows⟩ := c.def_ 9 (d := d_kernel_rows) rfl
  obtain ⟨fd_Space_init, F_Space_init⟩ := c.def_ 10 (d := d_Space_init) rfl
  obtain ⟨fd_Spread_init, F_Spread_init⟩ := c.def_ 11 (d := d_Spread_init) rfl
  obtain ⟨fd_need_space, F_need_space⟩ := c.def_ 12 (d := d_need_space) rfl
  obtain ⟨fd_any_spread, F_any_spread⟩ := c.def_ 13 (d := d_any_spread) rfl
  obtain ⟨fd_Space_completing, F_Space_completing⟩ := c.def_ 14 (d := d_Space_completing) rfl
  obtain ⟨fd_Spread_twins, F_Spread_twins⟩ := c.def_ 15 (d := d_Spread_twins) rfl
  obtain ⟨fd_need_pair, F_need_pair⟩ := c.def_ 16 (d := d_need_pair) rfl
  obtain ⟨fd_partner_rows, F_partner_rows⟩ := c.def_ 17 (d := d_partner_rows) rfl
  obtain ⟨fd_partners, F_partners⟩ := c.def_ 18 (d := d_partners) rfl
  obtain ⟨fd_leaders, F_leaders⟩ := c.def_ 19 (d := d_leaders) rfl
  obtain ⟨fd_sum_steps, F_sum_steps⟩ := c.def_ 20 (d := d_sum_steps) rfl
  obtain ⟨fd_drawL, F_drawL⟩ := c.def_ 21 (d := d_drawL) rfl
  obtain ⟨fd_beginL, F_beginL⟩ := c.def_ 22 (d := d_beginL) rfl
  obtain ⟨fd_pickL, F_pickL⟩ := c.def_ 23 (d := d_pickL) rfl
  obtain ⟨fd_wordL, F_wordL⟩ := c.def_ 24 (d := d_wordL) rfl
  obtain ⟨fd_mixedL, F_mixedL⟩ := c.def_ 25 (d := d_mixedL) rfl
  obtain ⟨fd_leftL, F_leftL⟩ := c.def_ 26 (d := d_leftL) rfl
  obtain ⟨fd_basisL, F_basisL⟩ := c.def_ 27 (d := d_basisL) rfl
  obtain ⟨fd_sizeL, F_sizeL⟩ := c.def_ 28 (d := d_sizeL) rfl
  obtain ⟨fd_imageL, F_imageL⟩ := c.def_ 29 (d := d_imageL) rfl
  obtain ⟨fd_taggedL, F_taggedL⟩ := c.def_ 30 (d := d_taggedL) rfl
  obtain ⟨fd_kernelL, F_kernelL⟩ := c.def_ 31 (d := d_kernelL) rfl
  obtain ⟨fd_is_wholeL, F_is_wholeL⟩ := c.def_ 32 (d := d_is_wholeL) rfl
  obtain ⟨fd_is_wordL, F_is_wordL⟩ := c.def_ 33 (d := d_is_wordL) rfl
  obtain ⟨fd_words_forL, F_words_forL⟩ := c.def_ 34 (d := d_words_forL) rfl
  obtain ⟨fd_spread_wordsL, F_spread_wordsL⟩ := c.def_ 35 (d := d_spread_wordsL) rfl
  obtain ⟨fd_countsL, F_countsL⟩ := c.def_ 36 (d := d_countsL) rfl
  obtain ⟨fd_space_wordsL, F_space_wordsL⟩ := c.def_ 37 (d := d_space_wordsL) rfl
  obtain ⟨fd_begunL, F_begunL⟩ := c.def_ 38 (d := d_begunL) rfl
  obtain ⟨fd_steppedL, F_steppedL⟩ := c.def_ 39 (d := d_steppedL) rfl
  obtain ⟨fd_all_haveL, F_all_haveL⟩ := c.def_ 40 (d := d_all_haveL) rfl
  obtain ⟨fd_law, F_law⟩ := c.def_ 41 (d := d_law) rfl
  have T : Bt mg := ⟨He.free_ok X G (c.fact 0 (f := .free "abs") rfl), He.free_ok X G (c.fact 1 (f := .free "all") rfl), He.free_ok X G (c.fact 2 (f := .free "any") rfl), He.free_ok X G (c.fact 3 (f := .free "bool") rfl), He.free_ok X G (c.fact 4 (f := .free "dict") rfl), He.free_ok X G (c.fact 5 (f := .free "int") rfl), He.free_ok X G (c.fact 6 (f := .free "isinstance") rfl), He.free_ok X G (c.fact 7 (f := .free "len") rfl), He.free_ok X G (c.fact 8 (f := .free "list") rfl), He.free_ok X G (c.fact 9 (f := .free "min") rfl), He.free_ok X G (c.fact 10 (f := .free "range") rfl), He.free_ok X G (c.fact 11 (f := .free "set") rfl), He.free_ok X G (c.fact 12 (f := .free "sorted") rfl), He.free_ok X G (c.fact 13 (f := .free "sum") rfl), He.free_ok X G (c.fact 14 (f := .free "tuple") rfl)⟩
  have TSo := exC_ok (He.cls_ok (c.fact 16 (f := .cls "Space") rfl)) ((He.ba ex).1)
  have TS : SpaceT K mg (He.ga K "Space") := { TSo.1 with gl := He.glo_ok X G (c.fact 15 (f := .glo "Space") rfl), nb := He.noat_ok (c.fact 18 (f := .noat "Space" "bits") rfl), nr := He.noat_ok (c.fact 19 (f := .noat "Space" "rows") rfl), nd := He.noat_ok (c.fact 20 (f := .noat "Space" "dimension") rfl) }
  have TRo := exC_ok (He.cls_ok (c.fact 22 (f := .cls "Spread") rfl)) ((He.ba ex).2)
  have TR : SpreadT K mg (He.ga K "Spread") := { TRo.1 with gl := He.glo_ok X G (c.fact 21 (f := .glo "Spread") rfl), nb := He.noat_ok (c.fact 24 (f := .noat "Spread" "bits") rfl), ns := He.noat_ok (c.fact 25 (f := .noat "Spread" "slots") rfl), nl := He.noat_ok (c.fact 26 (f := .noat "Spread" "lanes") rfl) }
  have e := hfa.symm.trans (He.glo_ok X G (c.fact 66 (f := .glo "law") rfl))
  cases e
  have b := FunD.bindsA (ps := ["_law_script"]) F_law fun _ _ _ _ _ _ us hl => match us, hl with | [_], _ => rfl
  refine ⟨fd_law, fun s v => b s [v] rfl, fun base _ _ => ?_⟩
  have D_is_whole : Dn P w K mg base 1 "is_whole" ["value"] sp_is_whole := ⟨_, fd_is_whole, He.glo_ok X G (c.fact 27 (f := .glo "is_whole") rfl), F_is_whole.kp, (F_is_whole.bindsN fun _ _ _ _ _ _ us hl => match us, hl with | [_], _ => rfl), ok_is_whole T F_is_whole⟩
  have D_need_whole : Dn P w K mg base 2 "need_whole" ["value"] sp_need_whole := ⟨_, fd_need_whole, He.glo_ok X G (c.fact 28 (f := .glo "need_whole") rfl), F_need_whole.kp, (F_need_whole.bindsN fun _ _ _ _ _ _ us hl => match us, hl with | [_], _ => rfl), ok_need_whole T F_need_whole D_is_whole⟩
  have D_need_items : Dn P w K mg base 1 "need_items" ["value"] sp_need_items := ⟨_, fd_need_items, He.glo_ok X G (c.fact 29 (f := .glo "need_items") rfl), F_need_items.kp, (F_need_items.bindsN fun _ _ _ _ _ _ us hl => match us, hl with | [_], _ => rfl), ok_need_items T F_need_items⟩
  have D_need_word : Dn P w K mg base 2 "need_word" ["value", "bits"] sp_need_word := ⟨_, fd_need_word, He.glo_ok X G (c.fact 30 (f := .glo "need_word") rfl), F_need_word.kp, (F_need_word.bindsN fun _ _ _ _ _ _ us hl => match us, hl with | [_, _], _ => rfl), ok_need_word T F_need_word D_is_whole⟩
  have D_need_words : Dn P w K mg base 3 "need_words" ["values", "bits"] sp_need_words := ⟨_, fd_need_words, He.glo_ok X G (c.fact 31 (f := .glo "need_words") rfl), F_need_words.kp, (F_need_words.bindsN fun _ _ _ _ _ _ us hl => match us, hl with | [_, _], _ => rfl), ok_need_words T F_need_words D_need_items D_need_word⟩
  have D_cleared : Dn P w K mg base 1 "cleared" ["rows", "word"] sp_cleared := ⟨_, fd_cleared, He.glo_ok X G (c.fact 32 (f := .glo "cleared") rfl), F_cleared.kp, (F_cleared.bindsN fun _ _ _ _ _ _ us hl => match us, hl with | [_, _], _ => rfl), ok_cleared T F_cleared⟩
  have D_grown : Dn P w K mg base 2 "grown" ["rows", "word"] sp_grown := ⟨_, fd_grown, He.glo_ok X G (c.fact 33 (f := .glo "grown") rfl), F_grown.kp, (F_grown.bindsN fun _ _ _ _ _ _ us hl => match us, hl with | [_, _], _ => rfl), ok_grown T F_grown D_cleared⟩
  have D_spanned : Dn P w K mg base 3 "spanned" ["words"] sp_spanned := ⟨_, fd_spanned, He.glo_ok X G (c.fact 34 (f := .glo "spanned") rfl), F_spanned.kp, (F_spanned.bindsN fun _ _ _ _ _ _ us hl => match us, hl with | [_], _ => rfl), ok_spanned T F_spanned D_grown⟩
  have D_paired : Dn P w K mg base 4 "paired" ["columns"] sp_paired := ⟨_, fd_paired, He.glo_ok X G (c.fact 35 (f := .glo "paired") rfl), F_paired.kp, (F_paired.bindsN fun _ _ _ _ _ _ us hl => match us, hl with | [_], _ => rfl), ok_paired T F_paired D_spanned⟩
  have D_kernel_rows : Dn P w K mg base 5 "kernel_rows" ["columns"] sp_kernel_rows := ⟨_, fd_kernel_rows, He.glo_ok X G (c.fact 36 (f := .glo "kernel_rows") rfl), F_kernel_rows.kp, (F_kernel_rows.bindsN fun _ _ _ _ _ _ us hl => match us, hl with | [_], _ => rfl), ok_kernel_rows T F_kernel_rows D_paired⟩
  have K_Space : Kn P w K mg base 4 (He.ga K "Space") "Space" ["self", "bits", "words"] (sp_Space (He.ga K "Space")) := ⟨He.glo_ok X G (c.fact 15 (f := .glo "Space") rfl), _, fd_Space_init, He.mkr_ok (c.fact 17 (f := .mkr "Space") rfl), (F_Space_init.bindsN fun _ _ _ _ _ _ us hl => match us, hl with | [_, _, _], _ => rfl), ok_Space T TS F_Space_init D_need_whole D_need_words D_spanned⟩
  have K_Spread : Kn P w K mg base 4 (He.ga K "Spread") "Spread" ["self", "bits", "slots", "lanes"] (sp_Spread (He.ga K "Spread")) := ⟨He.glo_ok X G (c.fact 21 (f := .glo "Spread") rfl), _, fd_Spread_init, He.mkr_ok (c.fact 23 (f := .mkr "Spread") rfl), (F_Spread_init.bindsN fun _ _ _ _ _ _ us hl => match us, hl with | [_, _, _, _], _ => rfl), ok_Spread T TR F_Spread_init D_need_whole D_need_words D_spanned⟩
  have D_need_space : Dn P w K mg base 1 "need_space" ["value", "bits"] (sp_need_space (He.ga K "Space")) := ⟨_, fd_need_space, He.glo_ok X G (c.fact 37 (f := .glo "need_space") rfl), F_need_space.kp, (F_need_space.bindsN fun _ _ _ _ _ _ us hl => match us, hl with | [_, _], _ => rfl), ok_need_space T TS F_need_space⟩
  have D_any_spread : Dn P w K mg base 1 "any_spread" ["value"] (sp_any_spread (He.ga K "Spread")) := ⟨_, fd_any_spread, He.glo_ok X G (c.fact 38 (f := .glo "any_spread") rfl), F_any_spread.kp, (F_any_spread.bindsN fun _ _ _ _ _ _ us hl => match us, hl with | [_], _ => rfl), ok_any_spread T TR F_any_spread⟩
  have M_Space_completing : Mn P w K mg base 3 (He.ga K "Space") "completing" ["self", "other"] (sp_completing (He.ga K "Space")) := ⟨TS.cl, _, fd_Space_completing, He.meth_ok (c.fact 39 (f := .meth "Space" "completing") rfl), (F_Space_completing.bindsN fun _ _ _ _ _ _ us hl => match us, hl with | [_, _], _ => rfl), ok_completing T TS F_Space_completing D_need_space D_cleared D_grown⟩
  have M_Spread_twins : Mn P w K mg base 6 (He.ga K "Spread") "twins" ["self"] (sp_twins (He.ga K "Space") (He.ga K "Spread")) := ⟨TR.cl, _, fd_Spread_twins, He.meth_ok (c.fact 40 (f := .meth "Spread" "twins") rfl), (F_Spread_twins.bindsN fun _ _ _ _ _ _ us hl => match us, hl with | [_], _ => rfl), ok_twins T TR F_Spread_twins D_spanned D_cleared D_kernel_rows K_Space⟩
  have D_need_pair : Dn P w K mg base 2 "need_pair" ["spread", "space"] (sp_need_pair (He.ga K "Space") (He.ga K "Spread")) := ⟨_, fd_need_pair, He.glo_ok X G (c.fact 41 (f := .glo "need_pair") rfl), F_need_pair.kp, (F_need_pair.bindsN fun _ _ _ _ _ _ us hl => match us, hl with | [_, _], _ => rfl), ok_need_pair T TR F_need_pair D_any_spread D_need_space⟩
  have D_partner_rows : Dn P w K mg base 6 "partner_rows" ["spread", "space"] (sp_partner_rows (He.ga K "Space") (He.ga K "Spread")) := ⟨_, fd_partner_rows, He.glo_ok X G (c.fact 42 (f := .glo "partner_rows") rfl), F_partner_rows.kp, (F_partner_rows.bindsN fun _ _ _ _ _ _ us hl => match us, hl with | [_, _], _ => rfl), ok_partner_rows T TS TR F_partner_rows D_spanned D_cleared D_kernel_rows⟩
  have D_partners : Dn P w K mg base 7 "partners" ["spread", "space"] (sp_partners (He.ga K "Space") (He.ga K "Spread")) := ⟨_, fd_partners, He.glo_ok X G (c.fact 43 (f := .glo "partners") rfl), F_partners.kp, (F_partners.bindsN fun _ _ _ _ _ _ us hl => match us, hl with | [_, _], _ => rfl), ok_partners T TR F_partners D_need_pair D_partner_rows K_Space⟩
  have D_leaders : Dn P w K mg base 8 "leaders" ["spread", "space"] (sp_leaders (He.ga K "Space") (He.ga K "Spread")) := ⟨_, fd_leaders, He.glo_ok X G (c.fact 44 (f := .glo "leaders") rfl), F_leaders.kp, (F_leaders.bindsN fun _ _ _ _ _ _ us hl => match us, hl with | [_, _], _ => rfl), ok_leaders T F_leaders D_partners M_Spread_twins M_Space_completing⟩
  have D_sum_steps : Dn P w K mg base 9 "sum_steps" ["spread", "space"] (sp_sum_steps (He.ga K "Space") (He.ga K "Spread")) := ⟨_, fd_sum_steps, He.glo_ok X G (c.fact 45 (f := .glo "sum_steps") rfl), F_sum_steps.kp, (F_sum_steps.bindsN fun _ _ _ _ _ _ us hl => match us, hl with | [_, _], _ => rfl), ok_sum_steps T F_sum_steps D_need_pair D_leaders⟩
  have D_drawL : Dn P w K mg base 1 "_law_draw" ["_law_pen", "_law_span"] sp_draw := ⟨_, fd_drawL, He.glo_ok X G (c.fact 46 (f := .glo "_law_draw") rfl), F_drawL.kp, (F_drawL.bindsN fun _ _ _ _ _ _ us hl => match us, hl with | [_, _], _ => rfl), ok_draw T F_drawL⟩
  have D_beginL : Dn P w K mg base 1 "_law_begin" ["_law_script"] (sp_begin K) := ⟨_, fd_beginL, He.glo_ok X G (c.fact 47 (f := .glo "_law_begin") rfl), F_beginL.kp, (F_beginL.bindsN fun _ _ _ _ _ _ us hl => match us, hl with | [_], _ => rfl), ok_begin T F_beginL⟩
  have D_pickL : Dn P w K mg base 2 "_law_pick" ["_law_pen", "_law_some"] sp_pick := ⟨_, fd_pickL, He.glo_ok X G (c.fact 48 (f := .glo "_law_pick") rfl), F_pickL.kp, (F_pickL.bindsN fun _ _ _ _ _ _ us hl => match us, hl with | [_, _], _ => rfl), ok_pick T F_pickL D_drawL⟩
  have D_wordL : Dn P w K mg base 2 "_law_word" ["_law_pen", "_law_bits"] sp_word := ⟨_, fd_wordL, He.glo_ok X G (c.fact 49 (f := .glo "_law_word") rfl), F_wordL.kp, (F_wordL.bindsN fun _ _ _ _ _ _ us hl => match us, hl with | [_, _], _ => rfl), ok_word T F_wordL D_drawL⟩
  have D_mixedL : Dn P w K mg base 2 "_law_mixed" ["_law_pen", "_law_some"] sp_mixed := ⟨_, fd_mixedL, He.glo_ok X G (c.fact 50 (f := .glo "_law_mixed") rfl), F_mixedL.kp, (F_mixedL.bindsN fun _ _ _ _ _ _ us hl => match us, hl with | [_, _], _ => rfl), ok_mixed T F_mixedL D_drawL⟩
  have D_leftL : Dn P w K mg base 1 "_law_left" ["_law_rows", "_law_word_here"] sp_left := ⟨_, fd_leftL, He.glo_ok X G (c.fact 51 (f := .glo "_law_left") rfl), F_leftL.kp, (F_leftL.bindsN fun _ _ _ _ _ _ us hl => match us, hl with | [_, _], _ => rfl), ok_left T F_leftL⟩
  have D_basisL : Dn P w K mg base 2 "_law_basis" ["_law_words"] sp_basis := ⟨_, fd_basisL, He.glo_ok X G (c.fact 52 (f := .glo "_law_basis") rfl), F_basisL.kp, (F_basisL.bindsN fun _ _ _ _ _ _ us hl => match us, hl with | [_], _ => rfl), ok_basis T F_basisL D_leftL⟩
  have D_sizeL : Dn P w K mg base 3 "_law_size" ["_law_words"] sp_size := ⟨_, fd_sizeL, He.glo_ok X G (c.fact 53 (f := .glo "_law_size") rfl), F_sizeL.kp, (F_sizeL.bindsN fun _ _ _ _ _ _ us hl => match us, hl with | [_], _ => rfl), ok_size T F_sizeL D_basisL⟩
  have D_imageL : Dn P w K mg base 1 "_law_image" ["_law_columns", "_law_word_here"] sp_image := ⟨_, fd_imageL, He.glo_ok X G (c.fact 54 (f := .glo "_law_image") rfl), F_imageL.kp, (F_imageL.bindsN fun _ _ _ _ _ _ us hl => match us, hl with | [_, _], _ => rfl), ok_image T F_imageL⟩
  have D_taggedL : Dn P w K mg base 1 "_law_tagged" ["_law_columns"] sp_tagged := ⟨_, fd_taggedL, He.glo_ok X G (c.fact 55 (f := .glo "_law_tagged") rfl), F_taggedL.kp, (F_taggedL.bindsN fun _ _ _ _ _ _ us hl => match us, hl with | [_], _ => rfl), ok_tagged T F_taggedL⟩
  have D_kernelL : Dn P w K mg base 2 "_law_kernel" ["_law_columns"] sp_kernel := ⟨_, fd_kernelL, He.glo_ok X G (c.fact 56 (f := .glo "_law_kernel") rfl), F_kernelL.kp, (F_kernelL.bindsN fun _ _ _ _ _ _ us hl => match us, hl with | [_], _ => rfl), ok_kernel T F_kernelL D_taggedL⟩
  have D_is_wholeL : Dn P w K mg base 1 "_law_is_whole" ["_law_value"] sp_is_whole := ⟨_, fd_is_wholeL, He.glo_ok X G (c.fact 57 (f := .glo "_law_is_whole") rfl), F_is_wholeL.kp, (F_is_wholeL.bindsN fun _ _ _ _ _ _ us hl => match us, hl with | [_], _ => rfl), ok_is_wholeL T F_is_wholeL⟩
  have D_is_wordL : Dn P w K mg base 2 "_law_is_word" ["_law_value", "_law_bits"] sp_is_word := ⟨_, fd_is_wordL, He.glo_ok X G (c.fact 58 (f := .glo "_law_is_word") rfl), F_is_wordL.kp, (F_is_wordL.bindsN fun _ _ _ _ _ _ us hl => match us, hl with | [_, _], _ => rfl), ok_is_word T F_is_wordL D_is_wholeL⟩
  have D_words_forL : Dn P w K mg base 3 "_law_words_for" ["_law_pen", "_law_bits", "_law_many", "_law_style"] sp_words_for := ⟨_, fd_words_forL, He.glo_ok X G (c.fact 59 (f := .glo "_law_words_for") rfl), F_words_forL.kp, (F_words_forL.bindsN fun _ _ _ _ _ _ us hl => match us, hl with | [_, _, _, _], _ => rfl), ok_words_for T F_words_forL D_drawL D_pickL D_wordL⟩
  have D_spread_wordsL : Dn P w K mg base 4 "_law_spread_words" ["_law_pen", "_law_bits", "_law_slots", "_law_lanes"] sp_spread_words := ⟨_, fd_spread_wordsL, He.glo_ok X G (c.fact 60 (f := .glo "_law_spread_words") rfl), F_spread_wordsL.kp, (F_spread_wordsL.bindsN fun _ _ _ _ _ _ us hl => match us, hl with | [_, _, _, _], _ => rfl), ok_spread_words T F_spread_wordsL D_drawL D_words_forL D_basisL D_mixedL D_leftL⟩
  have D_countsL : Dn P w K mg base 4 "_law_counts" ["_law_slots", "_law_lanes", "_law_words"] sp_counts := ⟨_, fd_countsL, He.glo_ok X G (c.fact 61 (f := .glo "_law_counts") rfl), F_countsL.kp, (F_countsL.bindsN fun _ _ _ _ _ _ us hl => match us, hl with | [_, _, _], _ => rfl), ok_counts T F_countsL D_basisL D_sizeL D_kernelL D_leftL⟩
  have D_space_wordsL : Dn P w K mg base 3 "_law_space_words" ["_law_pen", "_law_bits", "_law_slots"] sp_space_words := ⟨_, fd_space_wordsL, He.glo_ok X G (c.fact 62 (f := .glo "_law_space_words") rfl), F_space_wordsL.kp, (F_space_wordsL.bindsN fun _ _ _ _ _ _ us hl => match us, hl with | [_, _, _], _ => rfl), ok_space_words T F_space_wordsL D_drawL D_wordL D_imageL⟩
  have D_begunL : Dn P w K mg base 2 "_law_begun" ["_law_slots", "_law_lanes", "_law_rows"] sp_begun := ⟨_, fd_begunL, He.glo_ok X G (c.fact 63 (f := .glo "_law_begun") rfl), F_begunL.kp, (F_begunL.bindsN fun _ _ _ _ _ _ us hl => match us, hl with | [_, _, _], _ => rfl), ok_begun T F_begunL D_imageL D_leftL⟩
  have D_steppedL : Dn P w K mg base 1 "_law_stepped" ["_law_values", "_law_step"] sp_stepped := ⟨_, fd_steppedL, He.glo_ok X G (c.fact 64 (f := .glo "_law_stepped") rfl), F_steppedL.kp, (F_steppedL.bindsN fun _ _ _ _ _ _ us hl => match us, hl with | [_, _], _ => rfl), ok_stepped T F_steppedL⟩
  have D_all_haveL : Dn P w K mg base 2 "_law_all_have" ["_law_values", "_law_begun_here", "_law_rows", "_law_bits"] sp_all_have := ⟨_, fd_all_haveL, He.glo_ok X G (c.fact 65 (f := .glo "_law_all_have") rfl), F_all_haveL.kp, (F_all_haveL.bindsN fun _ _ _ _ _ _ us hl => match us, hl with | [_, _, _, _], _ => rfl), ok_all_have T F_all_haveL D_leftL⟩
  exact ok_law T F_law D_beginL D_drawL D_spread_wordsL D_space_wordsL D_basisL D_begunL D_sum_steps K_Spread K_Space D_is_wordL D_countsL D_mixedL D_steppedL D_all_haveL
end LaneX
open PySem PySem.W PySem.Calls PyProof.Rows
theorem PySem.Challenge.cw_laneswap_k36_whole_steps_for_all_lanes_holds : PySem.Challenge.rw_laneswap_k36_whole_steps_for_all_lanes.Holds := by
  w_on; o_law
  refine HandSHeadRun.head_any (r := OpenLaw.row PySem.Challenge.rw_laneswap_k36_whole_steps_for_all_lanes) (q := view (OpenLaw.row PySem.Challenge.rw_laneswap_k36_whole_steps_for_all_lanes).prog [55]) (H := LaneX.hk) (ob := LaneX.ob) (M := 6000) (loose := LaneX.names) (d := HandSHeadRun.topDef (OpenLaw.row PySem.Challenge.rw_laneswap_k36_whole_steps_for_all_lanes).prog 55) (kwd := []) LaneX.ob_eq
    (by kernel_rfl) (fun s => by kernel_rfl) LaneX.run (by kernel_rfl) (by kernel_rfl) (by kernel_rfl) (by rfl) (by first | assumption | decide +kernel) (by decide +kernel) ⟨rfl, rfl, rfl, rfl, rfl, by decide +kernel⟩ ?hw ?hc
  case hw => w_witness2
  case hc =>
    refine L2.walk_ofE (l := PySem.Challenge.rw_laneswap_k36_whole_steps_for_all_lanes) (n := 63) (k := 10) (x := "_law_script") (CX := L2.CX0) rfl (by decide) (by kernel_rfl) ⟨rfl, by decide, by decide⟩ ?F (fun _ _ _ _ z => z)
    intro w mg fa h Y G hmg0
    obtain ⟨K, KX, c⟩ := Y
    have hmg : mg ("law" : PySem.Str) = some (.ref fa) := by
      have e : (HandSHeadRun.topDef (OpenLaw.row PySem.Challenge.rw_laneswap_k36_whole_steps_for_all_lanes).prog 55).name = ("law" : PySem.Str) := by kernel_rfl
      rw [← e]
      exact hmg0
    obtain ⟨fd, hb, hF⟩ := LaneX.facts (P := (PySem.Challenge.rw_laneswap_k36_whole_steps_for_all_lanes).prog) (w := w) KX G hmg c.t.d c.more
    exact ⟨K, fd, LaneX.sp_lawK K, KX, hb, fun H a ns hl _ hS => ⟨a, ns, rfl, hS, fun _ => rfl⟩, hF⟩
