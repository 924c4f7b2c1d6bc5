import PyProof.Rows.All
import Wide.All
import OpenK.AllK
import Wide.FinOn
import KE.KStateDown
import KE.BitLaws
import HandS.ForMost
import HandS.Flow
import HandS.Wide
import HandS.WideBits
import HandS.IsInst
import HandS.SortInts
import HandS.Conv
import HandS.Zip
import HandS.More
import HandS.WordsExc
import HandS.Defaults
import HandS.Walk
import KE.KEqSeq
import HandS.OwnEq
import PyProof.InstEq
import HandS.Iter
import KE.GoesMore
import HandS.SetFor
import PySem.Challenge.RW_laneswap_k62_whole_side_by_side
import HandS.TupAny
import HandS.Base
import HandS.Call
import HandS.Ends
import HandS.Words
import HandS.Head0
import HandS.Head1
import HandS.Head2
import HandS.HeadEnd
import HandS.HeadHook1
import HandS.HeadHook2
import HandS.HeadHook3
import HandS.HeadHook4
set_option linter.all false
namespace LaneX
/-! ### plain mathematics: words, rows -/
/-- the number of bits -/
def blen (n : Nat) : Nat := if n = 0 then 0 else n.log2 + 1
theorem blen_zero : blen 0 = 0 := rfl
theorem blen_pos {n : Nat} (h : n ≠ 0) : 1 ≤ blen n := by unfold blen; rw [if_neg h]; omega
theorem lt_blen (n : Nat) : n < 2 ^ blen n := by
  unfold blen
  split
  · subst_vars; decide
  · exact Nat.lt_log2_self
theorem blen_le {n k : Nat} : blen n ≤ k ↔ n < 2 ^ k := by
  constructor
  · intro h; exact Nat.lt_of_lt_of_le (lt_blen n) (Nat.pow_le_pow_right (by decide) h)
  · intro h
    unfold blen
    split
    · omega
    · rename_i h0
      have := (Nat.log2_lt h0).mpr h
      omega
theorem testBit_top {n : Nat} (h : n ≠ 0) : n.testBit (blen n - 1) = true := by
  unfold blen
  rw [if_neg h, Nat.add_sub_cancel]
  exact Nat.testBit_log2 h
theorem testBit_ge {n i : Nat} (h : blen n ≤ i) : n.testBit i = false :=
  Nat.testBit_lt_two_pow (blen_le.mp h)
theorem shr_and_one (n i : Nat) : ((n >>> i) &&& 1 = 1) ↔ n.testBit i = true := by
  rw [Nat.testBit_eq_decide_div_mod_eq, Nat.shiftRight_eq_div_pow, Nat.and_one_is_mod, decide_eq_true_iff]
/-- a word cleared by rows -/
def clr (rows : List Nat) (w : Nat) : Nat := rows.foldl (fun l r => if l.testBit (blen r - 1) = true then l ^^^ r else l) w
/-- sorting by insertion -/
def ins (x : Nat) : List Nat → List Nat
  | [] => [x]
  | y :: r => if x ≤ y then x :: y :: r else y :: ins x r
def srt : List Nat → List Nat
  | [] => []
  | x :: r => ins x (srt r)
theorem ins_perm (x : Nat) : ∀ l, (ins x l).Perm (x :: l)
  | [] => .refl _
  | y :: r => by
    unfold ins
    split
    · exact .refl _
    · exact ((ins_perm x r).cons y).trans (.swap _ _ _)
theorem srt_perm : ∀ l, (srt l).Perm l
  | [] => .refl _
  | x :: r => (ins_perm x (srt r)).trans ((srt_perm r).cons x)
theorem ins_sorted {x : Nat} : ∀ {l : List Nat}, l.Pairwise (· ≤ ·) → (ins x l).Pairwise (· ≤ ·)
  | [], _ => by simp [ins]
  | y :: r, h => by
    unfold ins
    have h' := List.pairwise_cons.mp h
    split
    · rename_i hxy
      refine List.pairwise_cons.mpr ⟨fun z hz => ?_, h⟩
      rcases List.mem_cons.mp hz with rfl | hz
      · exact hxy
      · exact Nat.le_trans hxy (h'.1 z hz)
    · rename_i hxy
      refine List.pairwise_cons.mpr ⟨fun z hz => ?_, ins_sorted h'.2⟩
      rcases List.mem_cons.mp ((ins_perm x r).mem_iff.mp hz) with rfl | hz
      · omega
      · exact h'.1 z hz
theorem srt_sorted : ∀ l, (srt l).Pairwise (· ≤ ·)
  | [] => .nil
  | x :: r => ins_sorted (srt_sorted r)
theorem sorted_unique : ∀ {l m : List Nat}, l.Perm m → l.Pairwise (· ≤ ·) → m.Pairwise (· ≤ ·) → l = m
  | [], m, p, _, _ => by simpa using p.symm.eq_nil
  | x :: l, [], p, _, _ => by simpa using p.eq_nil
  | x :: l, y :: m, p, h1, h2 => by
    have a := List.pairwise_cons.mp h1
    have b := List.pairwise_cons.mp h2
    have e : x = y := by
      have hx : x ∈ y :: m := p.mem_iff.mp List.mem_cons_self
      have hy : y ∈ x :: l := p.mem_iff.mpr List.mem_cons_self
      rcases List.mem_cons.mp hx with rfl | hx
      · rfl
      · rcases List.mem_cons.mp hy with rfl | hy
        · rfl
        · exact Nat.le_antisymm (a.1 y hy) (b.1 x hx)
    subst e
    rw [sorted_unique ((List.perm_cons x).mp p) a.2 b.2]
theorem srt_of {l m : List Nat} (p : m.Perm l) (h : m.Pairwise (· ≤ ·)) : m = srt l := sorted_unique (p.trans (srt_perm l).symm) h (srt_sorted l)
/-- rows with one more word -/
def grw (rows : List Nat) (w : Nat) : List Nat := if clr rows w = 0 then rows else
  srt ((rows.map fun r => if r.testBit (blen (clr rows w) - 1) = true then r ^^^ clr rows w else r) ++ [clr rows w])
def spn (ws : List Nat) : List Nat := ws.foldl grw []
theorem clr_append (a b : List Nat) (w : Nat) : clr (a ++ b) w = clr b (clr a w) := List.foldl_append ..
theorem spn_append (a b : List Nat) : spn (a ++ b) = b.foldl grw (spn a) := List.foldl_append ..
theorem clr_lt {k : Nat} : ∀ {rows : List Nat} {w : Nat}, (∀ r ∈ rows, r < 2 ^ k) → w < 2 ^ k → clr rows w < 2 ^ k
  | [], w, _, h => h
  | r :: rs, w, hr, h => by
    show clr rs _ < 2 ^ k
    refine clr_lt (fun x hx => hr x (.tail _ hx)) ?_
    dsimp only
    split
    · exact Nat.xor_lt_two_pow h (hr r (.head _))
    · exact h
theorem grw_len (rows : List Nat) (w : Nat) : (grw rows w).length ≤ rows.length + 1 := by
  unfold grw
  split
  · omega
  · rw [(srt_perm _).length_eq]
    simp
theorem xor_eq_zero {a b : Nat} (e : a ^^^ b = 0) : a = b := by
  have h : a ^^^ b ^^^ b = 0 ^^^ b := by rw [e]
  rw [Nat.xor_assoc, Nat.xor_self, Nat.xor_zero, Nat.zero_xor] at h
  exact h
theorem xor_ne {a b : Nat} (h : a ≠ b) : a ^^^ b ≠ 0 := fun e => h (xor_eq_zero e)
/-- what rows are at least: no 0, and cleared words have 0 at their tops -/
structure Rws (rows : List Nat) : Prop where
  nz : ∀ r ∈ rows, r ≠ 0
  /-- the top of each is 0 in all others -/
  red : rows.Pairwise fun r s => r.testBit (blen s - 1) = false ∧ s.testBit (blen r - 1) = false
theorem Rws.nil : Rws [] := ⟨fun _ h => (by cases h), .nil⟩
end LaneX
set_option linter.all false
namespace LaneX
/-! ### clearing is linear -/
def bx (b : Bool) (r : Nat) : Nat := if b = true then r else 0
theorem bx_xor (a b : Bool) (r : Nat) : bx (a ^^ b) r = bx a r ^^^ bx b r := by
  cases a <;> cases b <;> simp [bx]
theorem stp_eq (l r : Nat) : (if l.testBit (blen r - 1) = true then l ^^^ r else l) = l ^^^ bx (l.testBit (blen r - 1)) r := by
  cases l.testBit (blen r - 1) <;> simp [bx]
theorem clr_cons (r : Nat) (rs : List Nat) (x : Nat) : clr (r :: rs) x = clr rs (x ^^^ bx (x.testBit (blen r - 1)) r) := by
  show clr rs _ = _
  dsimp only
  rw [stp_eq]
theorem xor4 (a b c d : Nat) : (a ^^^ b) ^^^ (c ^^^ d) = (a ^^^ c) ^^^ (b ^^^ d) := by
  rw [Nat.xor_assoc, Nat.xor_assoc]
  congr 1
  rw [← Nat.xor_assoc, Nat.xor_comm b c, Nat.xor_assoc]
theorem clr_xor : ∀ (rows : List Nat) (x y : Nat), clr rows (x ^^^ y) = clr rows x ^^^ clr rows y
  | [], _, _ => rfl
  | r :: rs, x, y => by
    rw [clr_cons, clr_cons, clr_cons, Nat.testBit_xor, bx_xor, xor4, clr_xor rs]
theorem clr_zero : ∀ rows : List Nat, clr rows 0 = 0
  | [] => rfl
  | r :: rs => by rw [clr_cons]; simp [bx, clr_zero rs]
/-- rows that do not speak of a bit leave it -/
theorem clr_bit {b : Nat} : ∀ {rows : List Nat} {x : Nat}, (∀ r ∈ rows, r.testBit b = false) → (clr rows x).testBit b = x.testBit b
  | [], x, _ => rfl
  | r :: rs, x, h => by
    rw [clr_cons, clr_bit fun s hs => h s (.tail _ hs), Nat.testBit_xor]
    have := h r (.head _)
    cases x.testBit (blen r - 1) <;> simp [bx, this]
theorem clr_of_none : ∀ {rows : List Nat} {x : Nat}, (∀ r ∈ rows, x.testBit (blen r - 1) = false) → clr rows x = x
  | [], x, _ => rfl
  | r :: rs, x, h => by
    rw [clr_cons, h r (.head _)]
    simp only [bx, Bool.false_eq_true, if_false, Nat.xor_zero]
    exact clr_of_none fun s hs => h s (.tail _ hs)
theorem clr_tops : ∀ {rows : List Nat} {x : Nat}, Rws rows → ∀ r ∈ rows, (clr rows x).testBit (blen r - 1) = false
  | [], x, _, r, h => by cases h
  | s :: rs, x, R, r, h => by
    have hp := List.pairwise_cons.mp R.red
    have R' : Rws rs := ⟨fun t ht => R.nz t (.tail _ ht), hp.2⟩
    rw [clr_cons]
    rcases List.mem_cons.mp h with rfl | h
    · rw [clr_bit fun t ht => (hp.1 t ht).2, Nat.testBit_xor]
      have := testBit_top (R.nz r (.head _))
      cases q : x.testBit (blen r - 1) <;> simp [bx, this]
    · exact clr_tops R' r h
theorem clr_self : ∀ {rows : List Nat}, Rws rows → ∀ r ∈ rows, clr rows r = 0
  | [], _, r, h => by cases h
  | s :: rs, R, r, h => by
    have hp := List.pairwise_cons.mp R.red
    have R' : Rws rs := ⟨fun t ht => R.nz t (.tail _ ht), hp.2⟩
    rw [clr_cons]
    rcases List.mem_cons.mp h with rfl | h
    · rw [testBit_top (R.nz r (.head _))]
      simp only [bx, if_true, Nat.xor_self]
      exact clr_zero rs
    · rw [(hp.1 r h).2]
      simp only [bx, Bool.false_eq_true, if_false, Nat.xor_zero]
      exact clr_self R' r h
/-! ### spans -/
inductive Spn (ws : List Nat) : Nat → Prop where
  | zero : Spn ws 0
  | add {x w : Nat} : w ∈ ws → Spn ws x → Spn ws (x ^^^ w)
theorem Spn.of {ws : List Nat} {w : Nat} (h : w ∈ ws) : Spn ws w := by
  have := Spn.add h Spn.zero
  rwa [Nat.zero_xor] at this
theorem Spn.xor {ws : List Nat} {x y : Nat} (hx : Spn ws x) (hy : Spn ws y) : Spn ws (x ^^^ y) := by
  induction hy with
  | zero => rwa [Nat.xor_zero]
  | add hw _ ih => rw [← Nat.xor_assoc]; exact .add hw ih
theorem Spn.mono {ws vs : List Nat} {x : Nat} (hx : Spn ws x) (h : ∀ w ∈ ws, Spn vs w) : Spn vs x := by
  induction hx with
  | zero => exact .zero
  | add hw _ ih => exact ih.xor (h _ hw)
theorem Spn.nil {x : Nat} (h : Spn [] x) : x = 0 := by
  cases h with
  | zero => rfl
  | add hw _ => cases hw
theorem Spn.lt {ws : List Nat} {k x : Nat} (hx : Spn ws x) (h : ∀ w ∈ ws, w < 2 ^ k) : x < 2 ^ k := by
  induction hx with
  | zero => exact Nat.two_pow_pos k
  | add hw _ ih => exact Nat.xor_lt_two_pow ih (h _ hw)
theorem Spn.sub {ws vs : List Nat} {x : Nat} (hx : Spn ws x) (h : ∀ w ∈ ws, w ∈ vs) : Spn vs x := hx.mono fun w hw => .of (h w hw)
theorem spn_clr : ∀ (rows : List Nat) (x : Nat), Spn rows (x ^^^ clr rows x)
  | [], x => by show Spn [] (x ^^^ x); rw [Nat.xor_self]; exact .zero
  | r :: rs, x => by
    rw [clr_cons]
    have ih := (spn_clr rs (x ^^^ bx (x.testBit (blen r - 1)) r)).sub (vs := r :: rs) fun w hw => .tail _ hw
    have hb : Spn (r :: rs) (bx (x.testBit (blen r - 1)) r) := by
      cases x.testBit (blen r - 1)
      · exact .zero
      · exact .of (.head _)
    have := ih.xor hb
    have e : x ^^^ bx (x.testBit (blen r - 1)) r ^^^ clr rs (x ^^^ bx (x.testBit (blen r - 1)) r) ^^^ bx (x.testBit (blen r - 1)) r = x ^^^ clr rs (x ^^^ bx (x.testBit (blen r - 1)) r) := by
      rw [Nat.xor_assoc, Nat.xor_comm (clr rs _) _, ← Nat.xor_assoc, Nat.xor_assoc x, Nat.xor_self, Nat.xor_zero]
    rw [e] at this
    exact this
theorem Rws.span {rows : List Nat} (R : Rws rows) {x : Nat} : Spn rows x ↔ clr rows x = 0 := by
  constructor
  · intro h
    induction h with
    | zero => exact clr_zero rows
    | add hw _ ih => rw [clr_xor, ih, clr_self R _ hw]; rfl
  · intro h
    have := spn_clr rows x
    rwa [h, Nat.xor_zero] at this
/-! ### one more word -/
theorem blen_xor {r l : Nat} (h : blen l < blen r) : blen (r ^^^ l) = blen r := by
  have hr : r ≠ 0 := fun e => by subst e; simp [blen] at h
  have h1 : r ^^^ l < 2 ^ blen r := Nat.xor_lt_two_pow (lt_blen r) (Nat.lt_of_lt_of_le (lt_blen l) (Nat.pow_le_pow_right (by decide) (by omega)))
  have h2 : (r ^^^ l).testBit (blen r - 1) = true := by
    rw [Nat.testBit_xor, testBit_top hr, testBit_ge (n := l) (by omega)]
    rfl
  have h3 : blen (r ^^^ l) ≤ blen r := blen_le.mpr h1
  have h4 : ¬ blen (r ^^^ l) ≤ blen r - 1 := fun q => by rw [testBit_ge q] at h2; cases h2
  omega
theorem blen_of_bits {r l : Nat} (h1 : r.testBit (blen l - 1) = true) (h2 : l.testBit (blen r - 1) = false) (hl : l ≠ 0) : blen l < blen r := by
  have hr : r ≠ 0 := fun e => by subst e; simp at h1
  have a := blen_pos hl
  have b := blen_pos hr
  have c : ¬ blen r ≤ blen l - 1 := fun q => by rw [testBit_ge q] at h1; cases h1
  have d : blen l ≠ blen r := fun q => by
    rw [← q, testBit_top hl] at h2
    cases h2
  omega
theorem Rws.perm {a b : List Nat} (R : Rws a) (p : a.Perm b) : Rws b :=
  ⟨fun r h => R.nz r (p.mem_iff.mpr h), (p.pairwise_iff (fun h => ⟨h.2, h.1⟩)).mp R.red⟩
section
variable {rows : List Nat} {l : Nat}
def chg (l r : Nat) : Nat := if r.testBit (blen l - 1) = true then r ^^^ l else r
theorem chg_blen {r : Nat} (h : l.testBit (blen r - 1) = false) (hl : l ≠ 0) : blen (chg l r) = blen r := by
  unfold chg
  split
  · rename_i q
    exact blen_xor (blen_of_bits q h hl)
  · rfl
theorem chg_bit {r b : Nat} (h : l.testBit b = false) : (chg l r).testBit b = r.testBit b := by
  unfold chg
  split
  · rw [Nat.testBit_xor, h, Bool.xor_false]
  · rfl
theorem chg_top {r : Nat} (hl : l ≠ 0) : (chg l r).testBit (blen l - 1) = false := by
  unfold chg
  split
  · rename_i q
    rw [Nat.testBit_xor, q, testBit_top hl]; rfl
  · rename_i q
    cases e : r.testBit (blen l - 1) <;> simp_all
theorem Rws.grow (R : Rws rows) (hl : l ≠ 0) (h : ∀ r ∈ rows, l.testBit (blen r - 1) = false) : Rws (rows.map (chg l) ++ [l]) := by
  have bl : ∀ r ∈ rows, blen (chg l r) = blen r := fun r hr => chg_blen (h r hr) hl
  refine ⟨fun x hx => ?_, ?_⟩
  · rcases List.mem_append.mp hx with hx | hx
    · obtain ⟨r, hr, rfl⟩ := List.mem_map.mp hx
      intro e
      have b := bl r hr
      rw [e] at b
      have := blen_pos (R.nz r hr)
      rw [← b] at this
      simp [blen] at this
    · rcases List.mem_singleton.mp hx with rfl
      exact hl
  · refine List.pairwise_append.mpr ⟨?_, by simp, ?_⟩
    · rw [List.pairwise_map]
      refine R.red.imp_of_mem fun {a b} ha hb hab => ?_
      rw [bl a ha, bl b hb, chg_bit (h b hb), chg_bit (h a ha)]
      exact hab
    · intro x hx y hy
      obtain ⟨r, hr, rfl⟩ := List.mem_map.mp hx
      rcases List.mem_singleton.mp hy with rfl
      exact ⟨chg_top hl, by rw [bl r hr]; exact h r hr⟩
end
theorem grw_eq (rows : List Nat) (w : Nat) : grw rows w = if clr rows w = 0 then rows else srt (rows.map (chg (clr rows w)) ++ [clr rows w]) := rfl
theorem grw_rws {rows : List Nat} (R : Rws rows) (w : Nat) : Rws (grw rows w) := by
  rw [grw_eq]
  split
  · exact R
  · rename_i h
    exact (R.grow h fun r hr => clr_tops R r hr).perm (srt_perm _).symm
theorem grw_span {rows : List Nat} (w x : Nat) : Spn (grw rows w) x ↔ Spn (rows ++ [w]) x := by
  rw [grw_eq]
  have hw := spn_clr rows w
  split
  · rename_i h
    rw [h, Nat.xor_zero] at hw
    constructor
    · exact fun hx => hx.sub fun y hy => List.mem_append_left _ hy
    · refine fun hx => hx.mono fun y hy => ?_
      rcases List.mem_append.mp hy with hy | hy
      · exact .of hy
      · rcases List.mem_singleton.mp hy with rfl
        exact hw
  · rename_i h
    generalize hl : clr rows w = l at *
    have e1 : ∀ y, Spn (rows ++ [w]) y ↔ Spn (rows ++ [l]) y := fun y => by
      have lw : Spn (rows ++ [w]) l := by
        have a := (hw.sub (vs := rows ++ [w]) fun z hz => List.mem_append_left _ hz).xor (Spn.of (List.mem_append_right rows (List.mem_singleton_self w)))
        rwa [Nat.xor_comm w l, Nat.xor_assoc, Nat.xor_self, Nat.xor_zero] at a
      have wl : Spn (rows ++ [l]) w := by
        have a := (hw.sub (vs := rows ++ [l]) fun z hz => List.mem_append_left _ hz).xor (Spn.of (List.mem_append_right rows (List.mem_singleton_self l)))
        rwa [Nat.xor_assoc, Nat.xor_self, Nat.xor_zero] at a
      constructor
      · refine fun hx => hx.mono fun z hz => ?_
        rcases List.mem_append.mp hz with hz | hz
        · exact .of (List.mem_append_left _ hz)
        · rcases List.mem_singleton.mp hz with rfl; exact wl
      · refine fun hx => hx.mono fun z hz => ?_
        rcases List.mem_append.mp hz with hz | hz
        · exact .of (List.mem_append_left _ hz)
        · rcases List.mem_singleton.mp hz with rfl; exact lw
    rw [e1]
    have sl : Spn (rows ++ [l]) l := .of (List.mem_append_right _ (List.mem_singleton_self l))
    constructor
    · refine fun hx => hx.mono fun z hz => ?_
      rcases List.mem_append.mp ((srt_perm _).mem_iff.mp hz) with hz | hz
      · obtain ⟨r, hr, rfl⟩ := List.mem_map.mp hz
        have : Spn (rows ++ [l]) r := .of (List.mem_append_left _ hr)
        unfold chg
        split
        · exact this.xor sl
        · exact this
      · exact .of (List.mem_append_right _ hz)
    · refine fun hx => hx.mono fun z hz => ?_
      have ml : Spn (srt (rows.map (chg l) ++ [l])) l := .of ((srt_perm _).mem_iff.mpr (List.mem_append_right _ (List.mem_singleton_self l)))
      rcases List.mem_append.mp hz with hz | hz
      · have mc : Spn (srt (rows.map (chg l) ++ [l])) (chg l z) := .of ((srt_perm _).mem_iff.mpr (List.mem_append_left _ (List.mem_map.mpr ⟨z, hz, rfl⟩)))
        unfold chg at mc
        split at mc
        · have := mc.xor ml
          rwa [Nat.xor_assoc, Nat.xor_self, Nat.xor_zero] at this
        · exact mc
      · rcases List.mem_singleton.mp hz with rfl; exact ml
theorem grw_length {rows : List Nat} (w : Nat) : (grw rows w).length = if clr rows w = 0 then rows.length else rows.length + 1 := by
  rw [grw_eq]
  split
  · rfl
  · rw [(srt_perm _).length_eq]; simp
/-! ### the rows of a list of words -/
theorem spn_rws_from : ∀ (ws : List Nat) {rows : List Nat}, Rws rows → Rws (ws.foldl grw rows)
  | [], _, R => R
  | w :: ws, _, R => spn_rws_from ws (grw_rws R w)
theorem spn_rws (ws : List Nat) : Rws (spn ws) := spn_rws_from ws Rws.nil
theorem spn_span_from : ∀ (ws : List Nat) (rows : List Nat) (x : Nat), Spn (ws.foldl grw rows) x ↔ Spn (rows ++ ws) x
  | [], rows, x => by simp
  | w :: ws, rows, x => by
    show Spn (ws.foldl grw (grw rows w)) x ↔ _
    rw [spn_span_from ws]
    have key : ∀ (a b c : List Nat) (y : Nat), (∀ z, Spn a z ↔ Spn b z) → (Spn (a ++ c) y ↔ Spn (b ++ c) y) := fun a b c y h => by
      constructor
      · refine fun hx => hx.mono fun z hz => ?_
        rcases List.mem_append.mp hz with hz | hz
        · exact ((h z).mp (.of hz)).sub fun u hu => List.mem_append_left _ hu
        · exact .of (List.mem_append_right _ hz)
      · refine fun hx => hx.mono fun z hz => ?_
        rcases List.mem_append.mp hz with hz | hz
        · exact ((h z).mpr (.of hz)).sub fun u hu => List.mem_append_left _ hu
        · exact .of (List.mem_append_right _ hz)
    rw [key _ _ ws x fun z => grw_span w z, List.append_assoc]
    rfl
theorem spn_span (ws : List Nat) (x : Nat) : Spn (spn ws) x ↔ Spn ws x := by
  have := spn_span_from ws [] x
  rwa [List.nil_append] at this
theorem spn_len_from : ∀ (ws rows : List Nat), (ws.foldl grw rows).length ≤ rows.length + ws.length
  | [], _ => by simp
  | w :: ws, rows => by
    have h1 := spn_len_from ws (grw rows w)
    have h2 := grw_len rows w
    simp only [List.foldl_cons, List.length_cons] at h1 ⊢
    omega
theorem spn_len (ws : List Nat) : (spn ws).length ≤ ws.length := by
  have := spn_len_from ws []
  rw [List.length_nil, Nat.zero_add] at this
  exact this
/-! ### tops tell the rank -/
theorem top_keep {t : Nat} : ∀ {rows : List Nat} {l : Nat}, (∀ r ∈ rows, r ≠ 0) → (∀ r ∈ rows, blen r ≠ t + 1) → l < 2 ^ (t + 1) → l.testBit t = true → (clr rows l).testBit t = true
  | [], l, _, _, _, h => h
  | r :: rs, l, nz, nt, hl, h => by
    rw [clr_cons]
    have a := nt r (.head _)
    have b := blen_pos (nz r (.head _))
    refine top_keep (fun s hs => nz s (.tail _ hs)) (fun s hs => nt s (.tail _ hs)) ?_ ?_
    · cases q : l.testBit (blen r - 1) with
      | false => simpa [bx] using hl
      | true =>
        have c : blen r ≤ t + 1 := by
          refine Nat.le_of_not_lt fun z => ?_
          have := testBit_ge (n := l) (i := blen r - 1) (Nat.le_trans (blen_le.mpr hl) (by omega))
          rw [this] at q; cases q
        simp only [bx, if_true]
        exact Nat.xor_lt_two_pow hl (blen_le.mp c)
    · cases q : l.testBit (blen r - 1) with
      | false => simpa [bx] using h
      | true =>
        have c : blen r ≤ t + 1 := by
          refine Nat.le_of_not_lt fun z => ?_
          have := testBit_ge (n := l) (i := blen r - 1) (Nat.le_trans (blen_le.mpr hl) (by omega))
          rw [this] at q; cases q
        simp only [bx, if_true]
        rw [Nat.testBit_xor, h, testBit_ge (n := r) (by omega)]
        rfl
theorem Rws.top_mem {rows : List Nat} (R : Rws rows) {x : Nat} (h : Spn rows x) (hx : x ≠ 0) : ∃ r ∈ rows, blen r = blen x := by
  refine Classical.byContradiction fun hn => ?_
  have h1 : ∀ r ∈ rows, blen r ≠ (blen x - 1) + 1 := fun r hr e => hn ⟨r, hr, by have := blen_pos hx; omega⟩
  have h2 := top_keep (t := blen x - 1) R.nz h1 (by have := blen_pos hx; rw [Nat.sub_add_cancel this]; exact lt_blen x) (testBit_top hx)
  rw [R.span.mp h] at h2
  simp at h2
theorem nodup_sub_len : ∀ {l m : List Nat}, l.Nodup → (∀ x ∈ l, x ∈ m) → l.length ≤ m.length
  | [], _, _, _ => Nat.zero_le _
  | x :: l, m, hn, hs => by
    have hn' := List.nodup_cons.mp hn
    have hx := hs x (.head _)
    have ih := nodup_sub_len (l := l) (m := m.erase x) hn'.2 fun y hy => by
      have : y ≠ x := fun e => hn'.1 (e ▸ hy)
      exact (List.mem_erase_of_ne this).mpr (hs y (.tail _ hy))
    have := List.length_erase_of_mem hx
    have hp : 0 < m.length := List.length_pos_of_mem hx
    simp only [List.length_cons]
    omega
theorem Rws.tops_nodup {rows : List Nat} (R : Rws rows) : (rows.map blen).Nodup := by
  unfold List.Nodup
  rw [List.pairwise_map]
  refine R.red.imp_of_mem fun {a b} ha hb hab e => ?_
  have := hab.1
  rw [← e, testBit_top (R.nz a ha)] at this
  cases this
theorem Rws.le {a b : List Nat} (A : Rws a) (B : Rws b) (h : ∀ x ∈ a, Spn b x) : a.length ≤ b.length := by
  have := nodup_sub_len A.tops_nodup (m := b.map blen) fun t ht => by
    obtain ⟨x, hx, rfl⟩ := List.mem_map.mp ht
    obtain ⟨r, hr, e⟩ := B.top_mem (h x hx) (A.nz x hx)
    exact List.mem_map.mpr ⟨r, hr, e⟩
  simpa using this
/-- the rank -/
def rk (ws : List Nat) : Nat := (spn ws).length
theorem rk_le {a b : List Nat} (h : ∀ x ∈ a, Spn b x) : rk a ≤ rk b := by
  refine (spn_rws a).le (spn_rws b) fun x hx => ?_
  rw [spn_span]
  exact ((spn_span a x).mp (.of hx)).mono h
theorem rk_eq {a b : List Nat} (h : ∀ x, Spn a x ↔ Spn b x) : rk a = rk b :=
  Nat.le_antisymm (rk_le fun x hx => (h x).mp (.of hx)) (rk_le fun x hx => (h x).mpr (.of hx))
theorem rk_spn (a : List Nat) : rk (spn a) = rk a := rk_eq fun x => spn_span a x
theorem rk_snoc (a : List Nat) (w : Nat) : rk (a ++ [w]) = if clr (spn a) w = 0 then rk a else rk a + 1 := by
  unfold rk
  rw [spn_append]
  exact grw_length w
theorem clr_spn_zero {a : List Nat} {w : Nat} : clr (spn a) w = 0 ↔ Spn a w := by rw [← (spn_rws a).span, spn_span]
theorem rk_snoc_in {a : List Nat} {w : Nat} (h : Spn a w) : rk (a ++ [w]) = rk a := by rw [rk_snoc, if_pos (clr_spn_zero.mpr h)]
theorem rk_snoc_out {a : List Nat} {w : Nat} (h : ¬ Spn a w) : rk (a ++ [w]) = rk a + 1 := by rw [rk_snoc, if_neg (fun z => h (clr_spn_zero.mp z))]
/-- words, none of which is a sum of those ahead -/
inductive Ind : List Nat → Prop where
  | nil : Ind []
  | snoc {a : List Nat} {w : Nat} : Ind a → ¬ Spn a w → Ind (a ++ [w])
theorem Ind.rk {a : List Nat} (h : Ind a) : rk a = a.length := by
  induction h with
  | nil => rfl
  | snoc _ hw ih => rw [rk_snoc_out hw, ih]; simp
theorem rk_len (a : List Nat) : rk a ≤ a.length := spn_len a
theorem spn_id {rows : List Nat} (R : Rws rows) : rk rows = rows.length := by
  have h1 := (spn_rws rows).le R (fun x hx => (spn_span rows x).mp (.of hx))
  have h2 := R.le (spn_rws rows) (fun x hx => (spn_span rows x).mpr (.of hx))
  exact Nat.le_antisymm h1 h2
end LaneX
namespace LaneX
/-! ### pairs, kernels, meets: what the program makes -/
def prs (cols : List Nat) : List Nat := (List.range cols.length).map fun i => (cols.getD i 0 <<< cols.length) + (1 <<< i)
def prd (cols : List Nat) : List Nat := spn (prs cols)
def ker (cols : List Nat) : List Nat := (prd cols).filter fun r => decide (blen r ≤ cols.length)
def mts (bits : Nat) (rows others : List Nat) : List Nat := (rows.map fun r => (r <<< bits) + r) ++ others.map fun r => r <<< bits
def mtd (bits : Nat) (rows others : List Nat) : List Nat := (spn (mts bits rows others)).filter fun r => decide (blen r ≤ bits)
end LaneX
namespace LaneX
theorem Rws.len_le {rows : List Nat} (R : Rws rows) {b : Nat} (h : ∀ r ∈ rows, blen r ≤ b) : rows.length ≤ b := by
  have := nodup_sub_len R.tops_nodup (m := List.range' 1 b) fun t ht => by
    obtain ⟨x, hx, rfl⟩ := List.mem_map.mp ht
    have h1 := blen_pos (R.nz x hx)
    have h2 := h x hx
    rw [List.mem_range']
    exact ⟨blen x - 1, by omega, by omega⟩
  simpa using this
theorem spn_lt {ws : List Nat} {k : Nat} (h : ∀ w ∈ ws, w < 2 ^ k) : ∀ r ∈ spn ws, r < 2 ^ k := fun r hr => ((spn_span ws r).mp (.of hr)).lt h
theorem spn_blen {ws : List Nat} {k : Nat} (h : ∀ w ∈ ws, blen w ≤ k) : ∀ r ∈ spn ws, blen r ≤ k := fun r hr => blen_le.mpr (spn_lt (fun w hw => blen_le.mp (h w hw)) r hr)
theorem clr_blen {rows : List Nat} {k w : Nat} (h : ∀ r ∈ rows, blen r ≤ k) (hw : blen w ≤ k) : blen (clr rows w) ≤ k := blen_le.mpr (clr_lt (fun r hr => blen_le.mp (h r hr)) (blen_le.mp hw))
theorem ker_blen (cols : List Nat) : ∀ r ∈ ker cols, blen r ≤ cols.length := fun r hr => by
  have := (List.mem_filter.mp hr).2
  simpa using this
theorem ker_rws (cols : List Nat) : Rws (ker cols) := by
  have R := spn_rws (prs cols)
  exact ⟨fun r hr => R.nz r (List.mem_filter.mp hr).1, R.red.sublist List.filter_sublist⟩
theorem ker_len (cols : List Nat) : (ker cols).length ≤ cols.length := (ker_rws cols).len_le (ker_blen cols)
theorem mtd_blen (b : Nat) (rs os : List Nat) : ∀ r ∈ mtd b rs os, blen r ≤ b := fun r hr => by
  have := (List.mem_filter.mp hr).2
  simpa using this
theorem mtd_rws (b : Nat) (rs os : List Nat) : Rws (mtd b rs os) := by
  have R := spn_rws (mts b rs os)
  exact ⟨fun r hr => R.nz r (List.mem_filter.mp hr).1, R.red.sublist List.filter_sublist⟩
/-- the rows of others that complete -/
def cms (rows others : List Nat) : List Nat × List Nat := others.foldl (fun st r => if clr st.1 r = 0 then st else (grw st.1 r, st.2 ++ [r])) (rows, [])
def cmpl (rows others : List Nat) : List Nat := (cms rows others).2
theorem cms_snoc (rows a : List Nat) (r : Nat) : cms rows (a ++ [r]) = if clr (cms rows a).1 r = 0 then cms rows a else (grw (cms rows a).1 r, (cms rows a).2 ++ [r]) := by
  unfold cms
  rw [List.foldl_append]
  rfl
/-- lists are told by their last item -/
theorem snoc_rec {p : List Nat → Prop} (h0 : p []) (hs : ∀ a x, p a → p (a ++ [x])) : ∀ l, p l := fun l => by
  have : ∀ n (l : List Nat), l.length = n → p l := by
    intro n
    induction n with
    | zero => intro l hl; rw [List.length_eq_zero_iff.mp hl]; exact h0
    | succ n ih =>
      intro l hl
      have hne : l ≠ [] := fun e => by rw [e] at hl; cases hl
      rw [← List.dropLast_concat_getLast hne]
      exact hs _ _ (ih _ (by rw [List.length_dropLast, hl]; rfl))
  exact this _ l rfl
theorem cms_rws {rows : List Nat} (R : Rws rows) (others : List Nat) : Rws (cms rows others).1 := by
  refine snoc_rec (p := fun l => Rws (cms rows l).1) R (fun a x ih => ?_) others
  rw [cms_snoc]
  split
  · exact ih
  · exact grw_rws ih x
theorem cms_len (rows others : List Nat) : (cms rows others).1.length ≤ rows.length + others.length ∧ (cms rows others).2.length ≤ others.length := by
  refine snoc_rec (p := fun l => (cms rows l).1.length ≤ rows.length + l.length ∧ (cms rows l).2.length ≤ l.length) ⟨by simp [cms], by simp [cms]⟩ (fun a x ih => ?_) others
  rw [cms_snoc]
  split
  · simp only [List.length_append, List.length_cons, List.length_nil]; omega
  · have := grw_len (cms rows a).1 x
    simp only [List.length_append, List.length_cons, List.length_nil]
    omega
/-- the twins, the partners of a spread -/
def twn (ss ls : List Nat) : List Nat := spn (ker (ls.map (clr (spn ss))))
def prw (ss ls rows : List Nat) : List Nat := ker (ls.map (clr (spn (ss ++ rows))))
def prt (ss ls rows : List Nat) : List Nat := spn (prw ss ls rows)
def ldr (ss ls rows : List Nat) : List Nat := cmpl (twn ss ls) (prt ss ls rows)
def kpt (b : Nat) (ss rows : List Nat) : Int := ((spn ss).length : Int) - ((spn (mtd b (spn ss) rows)).length : Int)
def rdf (bits apart : Nat) : Nat := if apart ≤ bits then 1 <<< bits - 1 <<< (bits - apart) else 1 <<< bits - 1 + apart - bits
def smr (b : Nat) (ss ls rows : List Nat) : Nat := rdf (kpt b ss rows - (twn ss ls).length).toNat (ldr ss ls rows).length
/-- a spread's words, a space's rows are as they must -/
structure WfR (b : Nat) (ss ls : List Nat) : Prop where
  bb : b ≤ 400000
  s : ∀ x ∈ ss, blen x ≤ b
  l : ∀ x ∈ ls, blen x ≤ b
  sl : ss.length ≤ 400000
  ll : ls.length ≤ 400000
structure WfS (b : Nat) (rows : List Nat) : Prop where
  bb : b ≤ 400000
  r : Rws rows
  b : ∀ x ∈ rows, blen x ≤ b
theorem WfS.len {b : Nat} {rows : List Nat} (h : WfS b rows) : rows.length ≤ 400000 := Nat.le_trans (h.r.len_le h.b) h.bb
theorem WfS.of {b : Nat} {ws : List Nat} (h : b ≤ 400000) (hw : ∀ x ∈ ws, blen x ≤ b) : WfS b (spn ws) := ⟨h, spn_rws ws, spn_blen hw⟩
theorem twn_wf {b : Nat} {ss ls : List Nat} (h : WfR b ss ls) : WfS ls.length (twn ss ls) := WfS.of h.ll fun x hx => by have := ker_blen _ x hx; simpa using this
theorem prt_wf {b : Nat} {ss ls : List Nat} (h : WfR b ss ls) (rows : List Nat) : WfS ls.length (prt ss ls rows) := WfS.of h.ll fun x hx => by have := ker_blen _ x hx; simpa using this
end LaneX
set_option linter.all false
namespace LaneX
/-! ### lowest bits; an elimination by them -/
def lwb (n : Nat) : Nat := n - (n &&& (n - 1))
def low (n : Nat) : Nat := if h : n = 0 then 0 else if n % 2 = 1 then 0 else low (n / 2) + 1
termination_by n
decreasing_by omega
theorem and_split (a b : Nat) : a &&& b = 2 * (a / 2 &&& b / 2) + (if a % 2 = 1 ∧ b % 2 = 1 then 1 else 0) := by
  have h1 : (a &&& b) / 2 = a / 2 &&& b / 2 := Nat.and_div_two
  have h2 : (a &&& b) % 2 = if a % 2 = 1 ∧ b % 2 = 1 then 1 else 0 := by
    have : (a &&& b).testBit 0 = (a.testBit 0 && b.testBit 0) := Nat.testBit_and ..
    simp only [Nat.testBit_zero] at this
    split
    · rename_i h
      simp only [h.1, h.2, decide_true, Bool.and_self] at this
      exact of_decide_eq_true this
    · rename_i h
      have h3 : (a &&& b) % 2 ≠ 1 := fun z => by
        rw [z] at this
        simp at this
        exact h this
      omega
  omega
theorem lwb_eq {n : Nat} (h : n ≠ 0) : lwb n = 2 ^ low n := by
  induction n using Nat.strongRecOn with
  | _ n ih =>
    unfold low lwb
    rw [dif_neg h]
    split
    · rename_i ho
      rw [and_split, if_neg (by omega), show (n - 1) / 2 = n / 2 by omega, Nat.and_self]
      simp
      omega
    · rename_i he
      have hm : n / 2 ≠ 0 := by omega
      have q := ih (n / 2) (by omega) hm
      unfold lwb at q
      have le : n / 2 &&& (n / 2 - 1) ≤ n / 2 := Nat.and_le_left
      rw [and_split, if_neg (by omega), show (n - 1) / 2 = n / 2 - 1 by omega, Nat.pow_succ, ← q]
      omega
theorem low_bit {n : Nat} (h : n ≠ 0) : n.testBit (low n) = true := by
  induction n using Nat.strongRecOn with
  | _ n ih =>
    unfold low
    rw [dif_neg h]
    split
    · rename_i ho
      rw [Nat.testBit_zero]
      exact decide_eq_true ho
    · rename_i he
      rw [Nat.testBit_succ]
      exact ih (n / 2) (by omega) (by omega)
theorem and_lwb {w r : Nat} (h : r ≠ 0) : (w &&& lwb r ≠ 0) ↔ w.testBit (low r) = true := by
  rw [lwb_eq h]
  constructor
  · intro hn
    refine Classical.byContradiction fun hb => hn ?_
    apply Nat.eq_of_testBit_eq
    intro i
    rw [Nat.testBit_and, Nat.testBit_two_pow, Nat.zero_testBit]
    by_cases e : low r = i
    · subst e
      cases q : w.testBit (low r)
      · rfl
      · exact absurd q hb
    · simp [e]
  · intro hb hz
    have : (w &&& 2 ^ low r).testBit (low r) = true := by
      rw [Nat.testBit_and, hb, Nat.testBit_two_pow]
      simp
    rw [hz] at this
    simp at this
def lft (rows : List Nat) (w : Nat) : Nat := rows.foldl (fun l r => if l.testBit (low r) = true then l ^^^ r else l) w
theorem lft_cons (r : Nat) (rs : List Nat) (x : Nat) : lft (r :: rs) x = lft rs (x ^^^ bx (x.testBit (low r)) r) := by
  show lft rs _ = _
  dsimp only
  cases x.testBit (low r) <;> simp [bx]
theorem lft_snoc (a : List Nat) (r w : Nat) : lft (a ++ [r]) w = if (lft a w).testBit (low r) = true then lft a w ^^^ r else lft a w := List.foldl_append ..
theorem lft_xor : ∀ (rows : List Nat) (x y : Nat), lft rows (x ^^^ y) = lft rows x ^^^ lft rows y
  | [], _, _ => rfl
  | r :: rs, x, y => by
    rw [lft_cons, lft_cons, lft_cons, Nat.testBit_xor, bx_xor, xor4, lft_xor rs]
theorem lft_zero : ∀ rows : List Nat, lft rows 0 = 0
  | [] => rfl
  | r :: rs => by rw [lft_cons]; simp [bx, lft_zero rs]
theorem spn_lft : ∀ (rows : List Nat) (x : Nat), Spn rows (x ^^^ lft rows x)
  | [], x => by show Spn [] (x ^^^ x); rw [Nat.xor_self]; exact .zero
  | r :: rs, x => by
    rw [lft_cons]
    generalize hb : bx (x.testBit (low r)) r = c
    have ih := (spn_lft rs (x ^^^ c)).sub (vs := r :: rs) fun w hw => .tail _ hw
    have hc : Spn (r :: rs) c := by
      rw [← hb]
      cases x.testBit (low r)
      · exact .zero
      · exact .of (.head _)
    have := ih.xor hc
    have e : x ^^^ c ^^^ lft rs (x ^^^ c) ^^^ c = x ^^^ lft rs (x ^^^ c) := by
      rw [Nat.xor_assoc, Nat.xor_comm (lft rs _) _, ← Nat.xor_assoc, Nat.xor_assoc x, Nat.xor_self, Nat.xor_zero]
    rw [e] at this
    exact this
/-- rows of the law's own: none is 0, later ones are 0 at the lowest bits of earlier ones -/
structure Lws (rows : List Nat) : Prop where
  nz : ∀ r ∈ rows, r ≠ 0
  red : rows.Pairwise fun r s => s.testBit (low r) = false
theorem lft_bit {b : Nat} : ∀ {rows : List Nat} {x : Nat}, (∀ r ∈ rows, r.testBit b = false) → (lft rows x).testBit b = x.testBit b
  | [], x, _ => rfl
  | r :: rs, x, h => by
    rw [lft_cons, lft_bit fun s hs => h s (.tail _ hs), Nat.testBit_xor]
    have := h r (.head _)
    cases x.testBit (low r) <;> simp [bx, this]
theorem lft_lows : ∀ {rows : List Nat} {x : Nat}, Lws rows → ∀ r ∈ rows, (lft rows x).testBit (low r) = false
  | [], x, _, r, h => by cases h
  | s :: rs, x, R, r, h => by
    have hp := List.pairwise_cons.mp R.red
    have R' : Lws rs := ⟨fun t ht => R.nz t (.tail _ ht), hp.2⟩
    rw [lft_cons]
    rcases List.mem_cons.mp h with rfl | h
    · rw [lft_bit fun t ht => hp.1 t ht, Nat.testBit_xor]
      have := low_bit (R.nz r (.head _))
      cases q : x.testBit (low r) <;> simp [bx, this]
    · exact lft_lows R' r h
theorem lft_of_none : ∀ {rows : List Nat} {x : Nat}, (∀ r ∈ rows, x.testBit (low r) = false) → lft rows x = x
  | [], x, _ => rfl
  | r :: rs, x, h => by
    rw [lft_cons, h r (.head _)]
    simp only [bx, Bool.false_eq_true, if_false, Nat.xor_zero]
    exact lft_of_none fun s hs => h s (.tail _ hs)
theorem lft_self : ∀ {rows : List Nat}, Lws rows → ∀ r ∈ rows, lft rows r = 0
  | [], _, r, h => by cases h
  | s :: rs, R, r, h => by
    have hp := List.pairwise_cons.mp R.red
    have R' : Lws rs := ⟨fun t ht => R.nz t (.tail _ ht), hp.2⟩
    rw [lft_cons]
    rcases List.mem_cons.mp h with rfl | h
    · rw [low_bit (R.nz r (.head _))]
      simp only [bx, if_true, Nat.xor_self]
      exact lft_zero rs
    · rw [hp.1 r h]
      simp only [bx, Bool.false_eq_true, if_false, Nat.xor_zero]
      exact lft_self R' r h
theorem Lws.span {rows : List Nat} (R : Lws rows) {x : Nat} : Spn rows x ↔ lft rows x = 0 := by
  constructor
  · intro h
    induction h with
    | zero => exact lft_zero rows
    | add hw _ ih => rw [lft_xor, ih, lft_self R _ hw]; rfl
  · intro h
    have := spn_lft rows x
    rwa [h, Nat.xor_zero] at this
def bstep (rows : List Nat) (w : Nat) : List Nat := if lft rows w = 0 then rows else rows ++ [lft rows w]
def bas (ws : List Nat) : List Nat := ws.foldl bstep []
theorem bas_snoc (a : List Nat) (w : Nat) : bas (a ++ [w]) = bstep (bas a) w := List.foldl_append ..
theorem Lws.nil : Lws [] := ⟨fun _ h => (by cases h), .nil⟩
theorem Lws.step {rows : List Nat} (R : Lws rows) (w : Nat) : Lws (bstep rows w) := by
  unfold bstep
  split
  · exact R
  · rename_i h
    refine ⟨fun r hr => ?_, List.pairwise_append.mpr ⟨R.red, by simp, fun r hr s hs => ?_⟩⟩
    · rcases List.mem_append.mp hr with hr | hr
      · exact R.nz r hr
      · rcases List.mem_singleton.mp hr with rfl; exact h
    · rcases List.mem_singleton.mp hs with rfl
      exact lft_lows R r hr
theorem Lws.ind {rows : List Nat} (R : Lws rows) : Ind rows := by
  have : ∀ n (l : List Nat), l.length = n → Lws l → Ind l := by
    intro n
    induction n with
    | zero => intro l hl _; rw [List.length_eq_zero_iff.mp hl]; exact .nil
    | succ n ih =>
      intro l hl L
      have hne : l ≠ [] := fun e => by rw [e] at hl; cases hl
      have e := List.dropLast_concat_getLast hne
      rw [← e] at L ⊢
      have hp := List.pairwise_append.mp L.red
      have L' : Lws l.dropLast := ⟨fun r hr => L.nz r (List.mem_append_left _ hr), hp.1⟩
      refine .snoc (ih _ (by rw [List.length_dropLast, hl]; rfl) L') fun hs => ?_
      have z := L'.span.mp hs
      rw [lft_of_none fun r hr => hp.2.2 r hr _ (List.mem_singleton_self _)] at z
      exact L.nz _ (List.mem_append_right _ (List.mem_singleton_self _)) z
  exact this _ rows rfl R
theorem Lws.rk {rows : List Nat} (R : Lws rows) : rk rows = rows.length := R.ind.rk
theorem bas_lws (ws : List Nat) : Lws (bas ws) := snoc_rec (p := fun l => Lws (bas l)) Lws.nil (fun a x ih => by rw [bas_snoc]; exact ih.step x) ws
theorem span_app {a b c : List Nat} {x : Nat} (h : ∀ z, Spn a z ↔ Spn b z) : Spn (a ++ c) x ↔ Spn (b ++ c) x := by
  constructor
  · refine fun hx => hx.mono fun z hz => ?_
    rcases List.mem_append.mp hz with hz | hz
    · exact ((h z).mp (.of hz)).sub fun u hu => List.mem_append_left _ hu
    · exact .of (List.mem_append_right _ hz)
  · refine fun hx => hx.mono fun z hz => ?_
    rcases List.mem_append.mp hz with hz | hz
    · exact ((h z).mpr (.of hz)).sub fun u hu => List.mem_append_left _ hu
    · exact .of (List.mem_append_right _ hz)
theorem span_swap (u v : List Nat) (y : Nat) : Spn (u ++ v) y ↔ Spn (v ++ u) y := by
  have key : ∀ u v : List Nat, Spn (u ++ v) y → Spn (v ++ u) y := fun u v h => h.sub fun w hw => by
    rcases List.mem_append.mp hw with h | h
    · exact List.mem_append_right _ h
    · exact List.mem_append_left _ h
  exact ⟨key u v, key v u⟩
theorem span_app2 {a b c d : List Nat} {x : Nat} (h : ∀ z, Spn a z ↔ Spn b z) (g : ∀ z, Spn c z ↔ Spn d z) : Spn (a ++ c) x ↔ Spn (b ++ d) x := by
  rw [span_app h]
  rw [span_swap, span_app g, span_swap]
theorem bstep_span (rows : List Nat) (w x : Nat) : Spn (bstep rows w) x ↔ Spn (rows ++ [w]) x := by
  have hw := spn_lft rows w
  unfold bstep
  split
  · rename_i h
    rw [h, Nat.xor_zero] at hw
    constructor
    · exact fun hx => hx.sub fun y hy => List.mem_append_left _ hy
    · refine fun hx => hx.mono fun y hy => ?_
      rcases List.mem_append.mp hy with hy | hy
      · exact .of hy
      · rcases List.mem_singleton.mp hy with rfl; exact hw
  · generalize lft rows w = l at *
    have lw : Spn (rows ++ [w]) l := by
      have a := (hw.sub (vs := rows ++ [w]) fun z hz => List.mem_append_left _ hz).xor (Spn.of (List.mem_append_right rows (List.mem_singleton_self w)))
      rwa [Nat.xor_comm w l, Nat.xor_assoc, Nat.xor_self, Nat.xor_zero] at a
    have wl : Spn (rows ++ [l]) w := by
      have a := (hw.sub (vs := rows ++ [l]) fun z hz => List.mem_append_left _ hz).xor (Spn.of (List.mem_append_right rows (List.mem_singleton_self l)))
      rwa [Nat.xor_assoc, Nat.xor_self, Nat.xor_zero] at a
    constructor
    · refine fun hx => hx.mono fun z hz => ?_
      rcases List.mem_append.mp hz with hz | hz
      · exact .of (List.mem_append_left _ hz)
      · rcases List.mem_singleton.mp hz with rfl; exact lw
    · refine fun hx => hx.mono fun z hz => ?_
      rcases List.mem_append.mp hz with hz | hz
      · exact .of (List.mem_append_left _ hz)
      · rcases List.mem_singleton.mp hz with rfl; exact wl
theorem bas_span (ws : List Nat) : ∀ x, Spn (bas ws) x ↔ Spn ws x := snoc_rec (p := fun l => ∀ x, Spn (bas l) x ↔ Spn l x) (fun x => Iff.rfl) (fun a w ih x => by rw [bas_snoc, bstep_span, span_app ih]) ws
theorem bas_len (ws : List Nat) : (bas ws).length = rk ws := by rw [← (bas_lws ws).rk]; exact rk_eq (bas_span ws)
theorem lft_bas {ws : List Nat} {x : Nat} : lft (bas ws) x = 0 ↔ Spn ws x := by rw [← (bas_lws ws).span, bas_span]
theorem bas_len_le (ws : List Nat) : (bas ws).length ≤ ws.length := by rw [bas_len]; exact rk_len ws
theorem lft_lt {k : Nat} {rows : List Nat} {w : Nat} (hr : ∀ r ∈ rows, r < 2 ^ k) (h : w < 2 ^ k) : lft rows w < 2 ^ k := by
  have := (spn_lft rows w).lt hr
  have e : lft rows w = w ^^^ (w ^^^ lft rows w) := by rw [← Nat.xor_assoc, Nat.xor_self, Nat.zero_xor]
  rw [e]
  exact Nat.xor_lt_two_pow h this
theorem bas_lt {k : Nat} {ws : List Nat} (h : ∀ w ∈ ws, w < 2 ^ k) : ∀ r ∈ bas ws, r < 2 ^ k := fun r hr => ((bas_span ws r).mp (.of hr)).lt h
/-- the sum of the columns of the bits of a word -/
def imf (cols : List Nat) (w : Nat) (n : Nat) : Nat := (List.range n).foldl (fun acc i => if w.testBit i = true then acc ^^^ cols.getD i 0 else acc) 0
def img (cols : List Nat) (w : Nat) : Nat := imf cols w cols.length
theorem imf_succ (cols : List Nat) (w n : Nat) : imf cols w (n + 1) = if w.testBit n = true then imf cols w n ^^^ cols.getD n 0 else imf cols w n := by
  unfold imf
  rw [List.range_succ, List.foldl_append]
  rfl
/-- rows with tags, and the tags of words that come to 0 -/
def tgl (rows : List (Nat × Nat)) (st : Nat × Nat) : Nat × Nat := rows.foldl (fun st r => if st.1.testBit (low r.1) = true then (st.1 ^^^ r.1, st.2 ^^^ r.2) else st) st
def tgs (cols : List Nat) (n : Nat) : List (Nat × Nat) × List Nat := (List.range n).foldl (fun st i =>
  if (tgl st.1 (cols.getD i 0, 1 <<< i)).1 = 0 then (st.1, st.2 ++ [(tgl st.1 (cols.getD i 0, 1 <<< i)).2]) else (st.1 ++ [tgl st.1 (cols.getD i 0, 1 <<< i)], st.2)) ([], [])
def tgd (cols : List Nat) : List (Nat × Nat) × List Nat := tgs cols cols.length
theorem tgs_succ (cols : List Nat) (n : Nat) : tgs cols (n + 1) = if (tgl (tgs cols n).1 (cols.getD n 0, 1 <<< n)).1 = 0 then ((tgs cols n).1, (tgs cols n).2 ++ [(tgl (tgs cols n).1 (cols.getD n 0, 1 <<< n)).2]) else ((tgs cols n).1 ++ [tgl (tgs cols n).1 (cols.getD n 0, 1 <<< n)], (tgs cols n).2) := by
  unfold tgs
  rw [List.range_succ, List.foldl_append]
  rfl
theorem tgs_len (cols : List Nat) : ∀ n, (tgs cols n).1.length + (tgs cols n).2.length = n
  | 0 => rfl
  | n + 1 => by
    have := tgs_len cols n
    rw [tgs_succ]
    split <;> simp <;> omega
theorem rk_app_len (a : List Nat) : ∀ b, rk (a ++ b) ≤ rk a + b.length := snoc_rec (p := fun b => rk (a ++ b) ≤ rk a + b.length) (by simp) (fun b x ih => by
  rw [← List.append_assoc, rk_snoc]
  split <;> simp <;> omega)
theorem rk_app (a b : List Nat) : rk (a ++ b) ≤ rk a + rk b := by
  have e : rk (a ++ b) = rk (a ++ spn b) := rk_eq fun x => (span_app2 (fun _ => Iff.rfl) (fun z => (spn_span b z).symm))
  rw [e]
  exact rk_app_len a (spn b)
theorem rk_left (a b : List Nat) : rk a ≤ rk (a ++ b) := rk_le fun x hx => .of (List.mem_append_left _ hx)
theorem rk_right (a b : List Nat) : rk b ≤ rk (a ++ b) := rk_le fun x hx => .of (List.mem_append_right _ hx)
theorem rk_perm {a b : List Nat} (p : a.Perm b) : rk a = rk b := rk_eq fun x => ⟨fun h => h.sub fun w hw => p.mem_iff.mp hw, fun h => h.sub fun w hw => p.mem_iff.mpr hw⟩
/-- units -/
def units (b : Nat) : List Nat := (List.range b).map fun i => 1 <<< i
theorem blen_unit (i : Nat) : blen (1 <<< i) = i + 1 := by
  have h : 1 <<< i ≠ 0 := by rw [Nat.one_shiftLeft]; exact Nat.ne_of_gt (Nat.two_pow_pos i)
  have h1 : blen (1 <<< i) ≤ i + 1 := by
    rw [blen_le, Nat.one_shiftLeft]
    exact Nat.pow_lt_pow_right (by decide) (Nat.lt_succ_self i)
  have h2 : ¬ blen (1 <<< i) ≤ i := by
    rw [blen_le, Nat.one_shiftLeft]
    exact Nat.lt_irrefl _
  omega
theorem unit_bit (i j : Nat) : (1 <<< i).testBit j = decide (i = j) := by
  rw [Nat.one_shiftLeft, Nat.testBit_two_pow]
theorem units_rws (b : Nat) : Rws (units b) := by
  refine ⟨fun r hr => ?_, ?_⟩
  · obtain ⟨i, _, rfl⟩ := List.mem_map.mp hr
    rw [Nat.one_shiftLeft]
    exact Nat.ne_of_gt (Nat.two_pow_pos i)
  · unfold units
    rw [List.pairwise_map]
    refine List.Pairwise.imp (R := fun a b => a ≠ b) (fun {i j} h => ?_) List.nodup_range
    rw [blen_unit, blen_unit, Nat.add_sub_cancel, Nat.add_sub_cancel, unit_bit, unit_bit]
    exact ⟨decide_eq_false h, decide_eq_false fun z => h z.symm⟩
theorem units_rk (b : Nat) : rk (units b) = b := by
  rw [spn_id (units_rws b)]
  simp [units]
theorem units_span {b x : Nat} (h : x < 2 ^ b) : Spn (units b) x := by
  have R := units_rws b
  rw [R.span]
  refine Classical.byContradiction fun hn => ?_
  have h1 : clr (units b) x < 2 ^ b := clr_lt (fun r hr => by
    obtain ⟨i, hi, rfl⟩ := List.mem_map.mp hr
    rw [Nat.one_shiftLeft]
    exact Nat.pow_lt_pow_right (by decide) (List.mem_range.mp hi)) h
  have h2 := testBit_top hn
  have h3 : blen (clr (units b) x) ≤ b := blen_le.mpr h1
  have h4 := blen_pos hn
  have h5 := clr_tops (x := x) R (1 <<< (blen (clr (units b) x) - 1)) (List.mem_map.mpr ⟨_, List.mem_range.mpr (by omega), rfl⟩)
  rw [blen_unit, Nat.add_sub_cancel] at h5
  rw [h5] at h2
  cases h2
/-- what is spanned by n bits has at most n dimensions; all of it has n -/
theorem rk_le_bits {ws : List Nat} {b : Nat} (h : ∀ w ∈ ws, w < 2 ^ b) : rk ws ≤ b := by
  rw [← units_rk b]
  exact rk_le fun x hx => units_span (h x hx)
theorem rk_full {ws : List Nat} {b : Nat} (h : ∀ u ∈ units b, Spn ws u) : b ≤ rk ws := by
  rw [← units_rk b]
  exact rk_le h
end LaneX
set_option linter.all false
namespace LaneX
/-! ### kernels, tags, meets: their sizes -/
theorem xor_cancel (a b : Nat) : a ^^^ (a ^^^ b) = b := by rw [← Nat.xor_assoc, Nat.xor_self, Nat.zero_xor]
theorem xor_cancel_right (a b : Nat) : a ^^^ b ^^^ b = a := by rw [Nat.xor_assoc, Nat.xor_self, Nat.xor_zero]
/-- a linear map of spans -/
structure Lin (φ : Nat → Nat) : Prop where
  z : φ 0 = 0
  x : ∀ a b, φ (a ^^^ b) = φ a ^^^ φ b
theorem Lin.spn {φ : Nat → Nat} (L : Lin φ) {l : List Nat} {y : Nat} (h : Spn l y) : Spn (l.map φ) (φ y) := by
  induction h with
  | zero => rw [L.z]; exact .zero
  | add hw _ ih => rw [L.x]; exact .add (List.mem_map.mpr ⟨_, hw, rfl⟩) ih
theorem Lin.back {φ : Nat → Nat} (L : Lin φ) {l : List Nat} {z : Nat} (h : Spn (l.map φ) z) : ∃ y, Spn l y ∧ φ y = z := by
  induction h with
  | zero => exact ⟨0, .zero, L.z⟩
  | add hw _ ih =>
    obtain ⟨y, hy, rfl⟩ := ih
    obtain ⟨u, hu, rfl⟩ := List.mem_map.mp hw
    exact ⟨y ^^^ u, .add hu hy, L.x _ _⟩
theorem Lin.comp {φ ψ : Nat → Nat} (L : Lin φ) (M : Lin ψ) : Lin (fun x => φ (ψ x)) := ⟨by rw [M.z, L.z], fun a b => by rw [M.x, L.x]⟩
theorem lin_clr (rows : List Nat) : Lin (clr rows) := ⟨clr_zero rows, clr_xor rows⟩
theorem lin_lft (rows : List Nat) : Lin (lft rows) := ⟨lft_zero rows, lft_xor rows⟩
theorem lin_shr (b : Nat) : Lin (fun x => x >>> b) := ⟨Nat.zero_shiftRight b, fun a c => Nat.shiftRight_xor_distrib⟩
theorem lin_mod (b : Nat) : Lin (fun x => x % 2 ^ b) := ⟨Nat.zero_mod _, fun a c => Nat.xor_mod_two_pow⟩
/-- taking away what S spans -/
structure Red (S : List Nat) (φ : Nat → Nat) : Prop where
  l : Lin φ
  s : ∀ x, Spn S (x ^^^ φ x)
  k : ∀ x, φ x = 0 ↔ Spn S x
theorem red_clr (S : List Nat) : Red S (clr (spn S)) := ⟨lin_clr _, fun x => (spn_span S _).mp (spn_clr _ x), fun x => clr_spn_zero⟩
theorem red_lft (S : List Nat) : Red S (lft (bas S)) := ⟨lin_lft _, fun x => (bas_span S _).mp (spn_lft _ x), fun x => lft_bas⟩
theorem Red.mem {S ls : List Nat} {φ : Nat → Nat} (R : Red S φ) (x : Nat) : Spn (ls.map φ) (φ x) ↔ Spn (S ++ ls) x := by
  constructor
  · intro h
    have h1 : Spn (S ++ ls) (φ x) := h.mono fun y hy => by
      obtain ⟨u, hu, rfl⟩ := List.mem_map.mp hy
      have a := ((R.s u).sub (vs := S ++ ls) fun z hz => List.mem_append_left _ hz).xor (Spn.of (List.mem_append_right S hu))
      rwa [Nat.xor_comm u, xor_cancel_right] at a
    have a := ((R.s x).sub (vs := S ++ ls) fun z hz => List.mem_append_left _ hz).xor h1
    rwa [xor_cancel_right] at a
  · intro h
    induction h with
    | zero => rw [R.l.z]; exact .zero
    | @add y u hu _ ih =>
      rw [R.l.x]
      refine ih.xor ?_
      rcases List.mem_append.mp hu with hu | hu
      · rw [(R.k u).mpr (.of hu)]; exact .zero
      · exact .of (List.mem_map.mpr ⟨u, hu, rfl⟩)
theorem rk_snoc' (a : List Nat) (w : Nat) [Decidable (Spn a w)] : rk (a ++ [w]) = if Spn a w then rk a else rk a + 1 := by
  split
  · rename_i h; exact rk_snoc_in h
  · rename_i h; exact rk_snoc_out h
theorem Red.rk {S : List Nat} {φ : Nat → Nat} (R : Red S φ) : ∀ ls, rk (ls.map φ) + rk S = rk (S ++ ls) :=
  snoc_rec (p := fun ls => LaneX.rk (ls.map φ) + LaneX.rk S = LaneX.rk (S ++ ls)) (by simp [LaneX.rk, spn]) (fun a x ih => by
    rw [List.map_append, ← List.append_assoc]
    show LaneX.rk (a.map φ ++ [φ x]) + _ = _
    by_cases h : Spn (S ++ a) x
    · rw [rk_snoc_in h, rk_snoc_in ((R.mem x).mpr h)]; exact ih
    · rw [rk_snoc_out h, rk_snoc_out (fun z => h ((R.mem x).mp z))]; omega)
/-! ### images -/
theorem imf_lin (cols : List Nat) : ∀ n, Lin (fun x => imf cols x n)
  | 0 => ⟨rfl, fun _ _ => (Nat.xor_self 0).symm⟩
  | n + 1 => by
    have ih := imf_lin cols n
    refine ⟨by show imf cols 0 (n + 1) = 0; rw [imf_succ, Nat.zero_testBit]; exact ih.z, fun a b => ?_⟩
    have e := ih.x a b
    show imf cols (a ^^^ b) (n + 1) = imf cols a (n + 1) ^^^ imf cols b (n + 1)
    simp only [imf_succ, Nat.testBit_xor] at e ⊢
    rw [e]
    generalize imf cols a n = A
    generalize imf cols b n = B
    generalize cols.getD n 0 = c
    cases a.testBit n <;> cases b.testBit n <;> simp
    · rw [Nat.xor_assoc]
    · rw [Nat.xor_assoc, Nat.xor_comm B c, ← Nat.xor_assoc]
    · rw [Nat.xor_comm A c, Nat.xor_assoc c A, ← Nat.xor_assoc A, Nat.xor_comm c, Nat.xor_assoc, Nat.xor_self, Nat.xor_zero]
theorem lin_img (cols : List Nat) : Lin (img cols) := imf_lin cols _
theorem imf_unit (cols : List Nat) (i : Nat) : ∀ n, imf cols (2 ^ i) n = if i < n then cols.getD i 0 else 0
  | 0 => by simp [imf]
  | n + 1 => by
    rw [imf_succ, imf_unit cols i n, Nat.testBit_two_pow]
    by_cases h : i = n
    · subst h; simp
    · have : (i < n + 1) ↔ i < n := by omega
      simp [h, this]
theorem img_unit (cols : List Nat) {i : Nat} (h : i < cols.length) : img cols (2 ^ i) = cols.getD i 0 := by
  unfold img
  rw [imf_unit, if_pos h]
theorem imf_map {φ : Nat → Nat} (L : Lin φ) (cols : List Nat) (x : Nat) : ∀ n, imf (cols.map φ) x n = φ (imf cols x n)
  | 0 => L.z.symm
  | n + 1 => by
    rw [imf_succ, imf_succ, imf_map L cols x n]
    have e : (cols.map φ).getD n 0 = φ (cols.getD n 0) := by
      simp only [List.getD_eq_getElem?_getD, List.getElem?_map]
      cases cols[n]? with
      | none => exact L.z.symm
      | some c => rfl
    rw [e]
    split
    · rw [L.x]
    · rfl
theorem img_map {φ : Nat → Nat} (L : Lin φ) (cols : List Nat) (x : Nat) : img (cols.map φ) x = φ (img cols x) := by
  unfold img
  rw [List.length_map, imf_map L]
/-- one bit more -/
theorem bit_split {x n : Nat} (h : x < 2 ^ (n + 1)) : x < 2 ^ n ∨ (x ^^^ 2 ^ n < 2 ^ n ∧ x.testBit n = true) := by
  by_cases q : x.testBit n = true
  · refine .inr ⟨?_, q⟩
    have h1 : x ^^^ 2 ^ n < 2 ^ (n + 1) := Nat.xor_lt_two_pow h (Nat.pow_lt_pow_right (by decide) (Nat.lt_succ_self n))
    refine Classical.byContradiction fun z => ?_
    have h3 : blen (x ^^^ 2 ^ n) ≤ n + 1 := blen_le.mpr h1
    have h4 : ¬ blen (x ^^^ 2 ^ n) ≤ n := fun y => z (blen_le.mp y)
    have h5 : blen (x ^^^ 2 ^ n) = n + 1 := by omega
    have h6 : x ^^^ 2 ^ n ≠ 0 := fun e => by rw [e] at h5; simp [blen] at h5
    have h7 := testBit_top h6
    rw [h5, Nat.add_sub_cancel, Nat.testBit_xor, q, Nat.testBit_two_pow] at h7
    simp at h7
  · refine .inl (Classical.byContradiction fun z => q ?_)
    have h3 : blen x ≤ n + 1 := blen_le.mpr h
    have h4 : ¬ blen x ≤ n := fun y => z (blen_le.mp y)
    have h5 : blen x = n + 1 := by omega
    have h6 : x ≠ 0 := fun e => by rw [e] at h5; simp [blen] at h5
    have h7 := testBit_top h6
    rwa [h5, Nat.add_sub_cancel] at h7
theorem not_bit_of_lt {x n : Nat} (h : x < 2 ^ n) : x.testBit n = false := Nat.testBit_lt_two_pow h
theorem getD_mem {cols : List Nat} {i : Nat} (h : i < cols.length) : cols.getD i 0 ∈ cols := by
  rw [List.getD_eq_getElem?_getD, List.getElem?_eq_getElem h]
  exact List.getElem_mem h
theorem getD_take {cols : List Nat} {i n : Nat} (h : i < n) (hn : n ≤ cols.length) : cols.getD i 0 ∈ cols.take n := by
  have e : (cols.take n).getD i 0 = cols.getD i 0 := by
    simp only [List.getD_eq_getElem?_getD, List.getElem?_take, h, if_true]
  rw [← e]
  exact getD_mem (by rw [List.length_take]; omega)
theorem img_span {cols : List Nat} : ∀ {n x : Nat}, n ≤ cols.length → x < 2 ^ n → Spn (cols.take n) (img cols x)
  | 0, x, hn, h => by
    have : x = 0 := by simpa using h
    rw [this, (lin_img cols).z]; exact .zero
  | n + 1, x, hn, h => by
    rcases bit_split h with h | ⟨h, _⟩
    · exact (img_span (by omega) h).sub fun w hw => List.take_subset_take_left _ (Nat.le_succ n) hw
    · have a := (img_span (n := n) (by omega) h).sub (vs := cols.take (n + 1)) fun w hw => List.take_subset_take_left _ (Nat.le_succ n) hw
      rw [(lin_img cols).x, img_unit cols hn] at a
      have b := a.xor (.of (getD_take (Nat.lt_succ_self n) hn))
      rwa [xor_cancel_right] at b
theorem span_img {cols : List Nat} {n : Nat} (hn : n ≤ cols.length) {c : Nat} (h : Spn (cols.take n) c) : ∃ x, x < 2 ^ n ∧ img cols x = c := by
  induction h with
  | zero => exact ⟨0, Nat.two_pow_pos n, (lin_img cols).z⟩
  | @add y w hw _ ih =>
    obtain ⟨x, hx, rfl⟩ := ih
    obtain ⟨i, hi, rfl⟩ := List.getElem_of_mem hw
    rw [List.length_take] at hi
    refine ⟨x ^^^ 2 ^ i, Nat.xor_lt_two_pow hx (Nat.pow_lt_pow_right (by decide) (by omega)), ?_⟩
    rw [(lin_img cols).x, img_unit cols (by omega)]
    congr 1
    rw [List.getElem_take, List.getD_eq_getElem?_getD, List.getElem?_eq_getElem (by omega)]
    rfl
/-! ### the kernel's rows -/
theorem Rws.low {R : List Nat} (A : Rws R) (b : Nat) : Rws (R.filter fun r => decide (blen r ≤ b)) := ⟨fun r hr => A.nz r (List.mem_filter.mp hr).1, A.red.sublist List.filter_sublist⟩
theorem Rws.low_span {R : List Nat} (A : Rws R) (b x : Nat) : Spn (R.filter fun r => decide (blen r ≤ b)) x ↔ Spn R x ∧ x < 2 ^ b := by
  constructor
  · intro h
    exact ⟨h.sub fun w hw => (List.mem_filter.mp hw).1, h.lt fun w hw => blen_le.mp (by simpa using (List.mem_filter.mp hw).2)⟩
  · rintro ⟨h, hx⟩
    have L := A.low b
    rw [L.span]
    generalize hl : (R.filter fun r => decide (blen r ≤ b)) = low at *
    have lt : ∀ r ∈ low, r < 2 ^ b := fun w hw => blen_le.mp (by rw [← hl] at hw; simpa using (List.mem_filter.mp hw).2)
    have h1 : Spn R (clr low x) := by
      have a := h.xor ((spn_clr low x).sub (vs := R) fun w hw => by rw [← hl] at hw; exact (List.mem_filter.mp hw).1)
      rwa [xor_cancel] at a
    have h2 : clr low x < 2 ^ b := clr_lt lt hx
    refine Classical.byContradiction fun hn => ?_
    obtain ⟨r, hr, e⟩ := A.top_mem h1 hn
    have hm : r ∈ low := by
      rw [← hl]
      exact List.mem_filter.mpr ⟨hr, decide_eq_true (by rw [e]; exact blen_le.mpr h2)⟩
    have a := clr_tops (x := x) L r hm
    rw [e, testBit_top hn] at a
    cases a
theorem add_eq_xor {n a b : Nat} (h : b < 2 ^ n) : (a <<< n) + b = (a <<< n) ^^^ b := by
  have e : a <<< n + b = a <<< n ||| b := Nat.shiftLeft_add_eq_or_of_lt h a
  rw [e]
  apply Nat.eq_of_testBit_eq
  intro i
  rw [Nat.testBit_or, Nat.testBit_xor, Nat.testBit_shiftLeft]
  by_cases q : n ≤ i
  · have : b.testBit i = false := Nat.testBit_lt_two_pow (Nat.lt_of_lt_of_le h (Nat.pow_le_pow_right (by decide) q))
    simp [this]
  · simp [q]
theorem prs_fwd (cols : List Nat) {y : Nat} (h : Spn (prs cols) y) : ∃ x, x < 2 ^ cols.length ∧ y = (img cols x <<< cols.length) ^^^ x := by
  induction h with
  | zero => exact ⟨0, Nat.two_pow_pos _, by rw [(lin_img cols).z]; simp⟩
  | @add y w hw _ ih =>
    obtain ⟨x, hx, rfl⟩ := ih
    obtain ⟨i, hi, rfl⟩ := List.mem_map.mp hw
    have hi := List.mem_range.mp hi
    have hu : 2 ^ i < 2 ^ cols.length := Nat.pow_lt_pow_right (by decide) hi
    refine ⟨x ^^^ 2 ^ i, Nat.xor_lt_two_pow hx hu, ?_⟩
    rw [(lin_img cols).x, img_unit cols hi, Nat.one_shiftLeft, add_eq_xor hu, Nat.shiftLeft_xor_distrib, xor4]
theorem prs_bwd (cols : List Nat) : ∀ {n x : Nat}, n ≤ cols.length → x < 2 ^ n → Spn (prs cols) ((img cols x <<< cols.length) ^^^ x)
  | 0, x, hn, h => by
    have : x = 0 := by simpa using h
    rw [this, (lin_img cols).z]
    simp only [Nat.zero_shiftLeft, Nat.xor_self]
    exact .zero
  | n + 1, x, hn, h => by
    rcases bit_split h with h | ⟨h, _⟩
    · exact prs_bwd cols (by omega) h
    · have a := prs_bwd cols (n := n) (by omega) h
      have hu : 2 ^ n < 2 ^ cols.length := Nat.pow_lt_pow_right (by decide) hn
      have b : Spn (prs cols) ((cols.getD n 0 <<< cols.length) ^^^ 2 ^ n) := by
        rw [← add_eq_xor hu]
        refine .of (List.mem_map.mpr ⟨n, List.mem_range.mpr hn, ?_⟩)
        rw [Nat.one_shiftLeft]
      have c := a.xor b
      rw [(lin_img cols).x, img_unit cols hn, Nat.shiftLeft_xor_distrib, xor4, xor_cancel_right, xor_cancel_right] at c
      exact c
theorem ker_span (cols : List Nat) (x : Nat) : Spn (ker cols) x ↔ x < 2 ^ cols.length ∧ img cols x = 0 := by
  unfold ker prd
  rw [(spn_rws (prs cols)).low_span, spn_span]
  constructor
  · rintro ⟨h, hx⟩
    obtain ⟨y, hy, e⟩ := prs_fwd cols h
    have e2 : x >>> cols.length = img cols y := by
      rw [e, Nat.shiftRight_xor_distrib, Nat.shiftLeft_shiftRight, Nat.shiftRight_eq_div_pow, Nat.div_eq_of_lt hy, Nat.xor_zero]
    rw [Nat.shiftRight_eq_div_pow, Nat.div_eq_of_lt hx] at e2
    rw [← e2] at e
    simp only [Nat.zero_shiftLeft, Nat.zero_xor] at e
    rw [e]
    exact ⟨hy, e2.symm⟩
  · rintro ⟨hx, e⟩
    have a := prs_bwd cols (Nat.le_refl _) hx
    rw [e] at a
    simp only [Nat.zero_shiftLeft, Nat.zero_xor] at a
    exact ⟨a, hx⟩
/-! ### the tags -/
theorem tgl_fst : ∀ (rows : List (Nat × Nat)) (st : Nat × Nat), (tgl rows st).1 = lft (rows.map Prod.fst) st.1
  | [], _ => rfl
  | r :: rs, st => by
    show (tgl rs _).1 = lft _ _
    rw [tgl_fst rs]
    show _ = lft (rs.map Prod.fst) (if st.1.testBit (low r.1) = true then st.1 ^^^ r.1 else st.1)
    dsimp only
    split <;> rfl
theorem tgl_keep {p : Nat × Nat → Prop} (hx : ∀ a b, p a → p b → p (a.1 ^^^ b.1, a.2 ^^^ b.2)) : ∀ {rows : List (Nat × Nat)} {st : Nat × Nat}, (∀ r ∈ rows, p r) → p st → p (tgl rows st)
  | [], _, _, h => h
  | r :: rs, st, hr, h => by
    show p (tgl rs _)
    refine tgl_keep hx (fun s hs => hr s (.tail _ hs)) ?_
    dsimp only
    split
    · exact hx _ _ h (hr r (.head _))
    · exact h
theorem tgl_snd {n : Nat} : ∀ {rows : List (Nat × Nat)} {st : Nat × Nat}, (∀ r ∈ rows, r.2 < 2 ^ n) → (tgl rows st).2 ^^^ st.2 < 2 ^ n
  | [], st, _ => by show st.2 ^^^ st.2 < 2 ^ n; rw [Nat.xor_self]; exact Nat.two_pow_pos n
  | r :: rs, st, hr => by
    show (tgl rs _).2 ^^^ st.2 < 2 ^ n
    dsimp only
    split
    · have ih := tgl_snd (rows := rs) (st := (st.1 ^^^ r.1, st.2 ^^^ r.2)) fun s hs => hr s (.tail _ hs)
      have a := Nat.xor_lt_two_pow ih (hr r (.head _))
      dsimp only at a
      rwa [← Nat.xor_assoc, xor_cancel_right] at a
    · exact tgl_snd fun s hs => hr s (.tail _ hs)
/-- what holds of the tags of n columns -/
structure Tgi (cols : List Nat) (n : Nat) : Prop where
  im : ∀ r ∈ (tgs cols n).1, img cols r.2 = r.1 ∧ r.2 < 2 ^ n
  lw : Lws ((tgs cols n).1.map Prod.fst)
  sp : ∀ x, Spn ((tgs cols n).1.map Prod.fst) x ↔ Spn (cols.take n) x
  im0 : ∀ t ∈ (tgs cols n).2, img cols t = 0 ∧ t < 2 ^ n
  ind : Ind (tgs cols n).2
  all : ∀ x, x < 2 ^ n → img cols x = 0 → Spn (tgs cols n).2 x
theorem tgi (cols : List Nat) : ∀ n, n ≤ cols.length → Tgi cols n
  | 0, _ => ⟨fun r h => (by cases h), Lws.nil, fun x => Iff.rfl, fun t h => (by cases h), .nil, fun x h _ => (by
      have : x = 0 := by simpa using h
      rw [this]; exact .zero)⟩
  | n + 1, hn => by
    have I := tgi cols n (by omega)
    have hc := getD_take (Nat.lt_succ_self n) hn
    have ic : img cols (1 <<< n) = cols.getD n 0 := by rw [Nat.one_shiftLeft, img_unit cols hn]
    have mono : 2 ^ n ≤ 2 ^ (n + 1) := Nat.pow_le_pow_right (by decide) (Nat.le_succ n)
    have hu : 1 <<< n < 2 ^ (n + 1) := by rw [Nat.one_shiftLeft]; exact Nat.pow_lt_pow_right (by decide) (Nat.lt_succ_self n)
    have tk : cols.take (n + 1) = cols.take n ++ [cols.getD n 0] := by
      rw [List.take_succ, List.getD_eq_getElem?_getD, List.getElem?_eq_getElem (by omega)]; rfl
    have e1 := tgl_fst (tgs cols n).1 (cols.getD n 0, 1 <<< n)
    have e2 : img cols (tgl (tgs cols n).1 (cols.getD n 0, 1 <<< n)).2 = (tgl (tgs cols n).1 (cols.getD n 0, 1 <<< n)).1 ∧ (tgl (tgs cols n).1 (cols.getD n 0, 1 <<< n)).2 < 2 ^ (n + 1) :=
      tgl_keep (p := fun q => img cols q.2 = q.1 ∧ q.2 < 2 ^ (n + 1)) (fun a b ha hb => ⟨by show img cols (a.2 ^^^ b.2) = a.1 ^^^ b.1; rw [(lin_img cols).x, ha.1, hb.1], Nat.xor_lt_two_pow ha.2 hb.2⟩) (fun r hr => ⟨(I.im r hr).1, Nat.lt_of_lt_of_le (I.im r hr).2 mono⟩) ⟨ic, hu⟩
    have e3 : (tgl (tgs cols n).1 (cols.getD n 0, 1 <<< n)).2 ^^^ (1 <<< n) < 2 ^ n := tgl_snd (st := (cols.getD n 0, 1 <<< n)) fun r hr => (I.im r hr).2
    have bs := bstep_span ((tgs cols n).1.map Prod.fst) (cols.getD n 0)
    have bw := I.lw.step (cols.getD n 0)
    have sp' : ∀ x, Spn (bstep ((tgs cols n).1.map Prod.fst) (cols.getD n 0)) x ↔ Spn (cols.take (n + 1)) x := fun x => by rw [bs, tk, span_app I.sp]
    have stp := tgs_succ cols n
    generalize htl : tgl (tgs cols n).1 (cols.getD n 0, 1 <<< n) = tl at *
    have e1' : tl.1 = lft ((tgs cols n).1.map Prod.fst) (cols.getD n 0) := e1
    by_cases z : tl.1 = 0
    · rw [if_pos z] at stp
      have ez : bstep ((tgs cols n).1.map Prod.fst) (cols.getD n 0) = (tgs cols n).1.map Prod.fst := by unfold bstep; rw [if_pos (by rw [← e1']; exact z)]
      rw [ez] at sp'
      refine ⟨?_, ?_, ?_, ?_, ?_, ?_⟩ <;> rw [stp]
      · exact fun r hr => ⟨(I.im r hr).1, Nat.lt_of_lt_of_le (I.im r hr).2 mono⟩
      · exact I.lw
      · exact sp'
      · intro t ht
        rcases List.mem_append.mp ht with ht | ht
        · exact ⟨(I.im0 t ht).1, Nat.lt_of_lt_of_le (I.im0 t ht).2 mono⟩
        · rcases List.mem_singleton.mp ht with rfl
          exact ⟨e2.1.trans z, e2.2⟩
      · refine .snoc I.ind fun hs => ?_
        have lt := hs.lt fun w hw => (I.im0 w hw).2
        have a := Nat.xor_lt_two_pow lt e3
        rw [xor_cancel, Nat.one_shiftLeft] at a
        exact Nat.lt_irrefl _ a
      · intro x hx h0
        have sub : ∀ w ∈ (tgs cols n).2, w ∈ (tgs cols n).2 ++ [tl.2] := fun w hw => List.mem_append_left _ hw
        rcases bit_split hx with h | ⟨h, _⟩
        · exact (I.all x h h0).sub sub
        · have a : x ^^^ tl.2 < 2 ^ n := by
            have := Nat.xor_lt_two_pow h e3
            rwa [Nat.one_shiftLeft, Nat.xor_comm tl.2, Nat.xor_assoc, xor_cancel] at this
          have b := (I.all _ a (by rw [(lin_img cols).x, h0, e2.1, z]; rfl)).sub sub
          have c := b.xor (.of (List.mem_append_right _ (List.mem_singleton_self tl.2)))
          rwa [xor_cancel_right] at c
    · rw [if_neg z] at stp
      have ez : bstep ((tgs cols n).1.map Prod.fst) (cols.getD n 0) = (tgs cols n).1.map Prod.fst ++ [tl.1] := by unfold bstep; rw [if_neg (by rw [← e1']; exact z), ← e1']
      rw [ez] at sp' bw
      refine ⟨?_, ?_, ?_, ?_, ?_, ?_⟩ <;> rw [stp]
      · intro r hr
        rcases List.mem_append.mp hr with hr | hr
        · exact ⟨(I.im r hr).1, Nat.lt_of_lt_of_le (I.im r hr).2 mono⟩
        · rcases List.mem_singleton.mp hr with rfl
          exact e2
      · rw [List.map_append]; exact bw
      · rw [List.map_append]; exact sp'
      · exact fun t ht => ⟨(I.im0 t ht).1, Nat.lt_of_lt_of_le (I.im0 t ht).2 mono⟩
      · exact I.ind
      · intro x hx h0
        rcases bit_split hx with h | ⟨h, _⟩
        · exact I.all x h h0
        · exfalso
          have a := img_span (cols := cols) (n := n) (by omega) h
          rw [(lin_img cols).x, h0, Nat.zero_xor, img_unit cols hn, ← I.sp, I.lw.span] at a
          exact z (e1'.trans a)
theorem tgd_span (cols : List Nat) (x : Nat) : Spn (tgd cols).2 x ↔ x < 2 ^ cols.length ∧ img cols x = 0 := by
  have I := tgi cols cols.length (Nat.le_refl _)
  constructor
  · intro h
    refine ⟨h.lt fun w hw => (I.im0 w hw).2, ?_⟩
    induction h with
    | zero => exact (lin_img cols).z
    | add hw _ ih => rw [(lin_img cols).x, ih, (I.im0 _ hw).1]; rfl
  · exact fun h => I.all x h.1 h.2
theorem tgd_len (cols : List Nat) : (tgd cols).2.length + rk cols = cols.length := by
  have I := tgi cols cols.length (Nat.le_refl _)
  have a := I.lw.rk
  have b : rk ((tgs cols cols.length).1.map Prod.fst) = rk cols := rk_eq fun x => by rw [I.sp, List.take_length]
  rw [List.length_map] at a
  have c := tgs_len cols cols.length
  unfold tgd
  omega
theorem tgd_rk (cols : List Nat) : rk (tgd cols).2 = (tgd cols).2.length := (tgi cols cols.length (Nat.le_refl _)).ind.rk
theorem ker_len_eq (cols : List Nat) : (ker cols).length + rk cols = cols.length := by
  have a : rk (ker cols) = rk (tgd cols).2 := rk_eq fun x => by rw [ker_span, tgd_span]
  rw [spn_id (ker_rws cols), tgd_rk] at a
  have := tgd_len cols
  omega
end LaneX
set_option linter.all false
namespace LaneX
/-! ### twins, partners -/
theorem span_clr_img (S ls : List Nat) (x : Nat) : Spn (ker (ls.map (clr (spn S)))) x ↔ x < 2 ^ ls.length ∧ Spn S (img ls x) := by
  rw [ker_span, List.length_map, img_map (lin_clr _), clr_spn_zero]
theorem span_tag (S ls : List Nat) (x : Nat) : Spn (tgd (ls.map (lft (bas S)))).2 x ↔ x < 2 ^ ls.length ∧ Spn S (img ls x) := by
  rw [tgd_span, List.length_map, img_map (lin_lft _), lft_bas]
theorem ksz (S ls : List Nat) : (spn (ker (ls.map (clr (spn S))))).length + rk (S ++ ls) = ls.length + rk S := by
  have a := ker_len_eq (ls.map (clr (spn S)))
  have b := (red_clr S).rk ls
  have c := spn_id (ker_rws (ls.map (clr (spn S))))
  unfold rk at c
  rw [List.length_map] at a
  omega
theorem tsz (S ls : List Nat) : (tgd (ls.map (lft (bas S)))).2.length + rk (S ++ ls) = ls.length + rk S := by
  have a := tgd_len (ls.map (lft (bas S)))
  have b := (red_lft S).rk ls
  rw [List.length_map] at a
  omega
theorem app_spn (A ws : List Nat) (x : Nat) : Spn (A ++ spn ws) x ↔ Spn (A ++ ws) x := span_app2 (fun _ => Iff.rfl) (fun z => spn_span ws z)
theorem rk_app_spn (A ws : List Nat) : rk (A ++ spn ws) = rk (A ++ ws) := rk_eq (app_spn A ws)
theorem twn_span (ss ls : List Nat) (x : Nat) : Spn (twn ss ls) x ↔ x < 2 ^ ls.length ∧ Spn ss (img ls x) := by
  unfold twn
  rw [spn_span, span_clr_img]
theorem prt_span (ss ls ws : List Nat) (x : Nat) : Spn (prt ss ls (spn ws)) x ↔ x < 2 ^ ls.length ∧ Spn (ss ++ ws) (img ls x) := by
  unfold prt prw
  rw [spn_span, span_clr_img, app_spn]
theorem twn_size (ss ls : List Nat) : (twn ss ls).length + rk (ss ++ ls) = ls.length + rk ss := ksz ss ls
theorem prt_size (ss ls ws : List Nat) : (prt ss ls (spn ws)).length + rk (ss ++ ws ++ ls) = ls.length + rk (ss ++ ws) := by
  have a := ksz (ss ++ spn ws) ls
  rw [rk_app_spn] at a
  have b : rk (ss ++ spn ws ++ ls) = rk (ss ++ ws ++ ls) := rk_eq fun x => span_app fun z => app_spn ss ws z
  rw [b] at a
  exact a
theorem twn_tag (ss ls : List Nat) : (twn ss ls).length = (tgd (ls.map (lft (bas ss)))).2.length := by
  have a := twn_size ss ls
  have b := tsz ss ls
  omega
theorem prt_rk (ss ls ws : List Nat) : rk (prt ss ls (spn ws)) = (prt ss ls (spn ws)).length := spn_id (spn_rws _)
theorem prt_tag (ss ls ws : List Nat) : (prt ss ls (spn ws)).length = rk (tgd (ls.map (lft (bas (ss ++ ws))))).2 := by
  rw [← prt_rk]
  exact rk_eq fun x => by rw [prt_span, span_tag]
theorem prt_tag2 (ss ls ws : List Nat) : rk ((tgd (ls.map (lft (bas (ss ++ ws))))).2 ++ prt ss ls (spn ws)) = (prt ss ls (spn ws)).length := by
  rw [← prt_rk]
  refine Nat.le_antisymm (rk_le fun x hx => ?_) (rk_right _ _)
  rcases List.mem_append.mp hx with hx | hx
  · rw [prt_span, ← span_tag]; exact .of hx
  · exact .of hx
/-! ### completing -/
theorem cms_span {A : List Nat} (R : Rws A) (B : List Nat) : (∀ x, Spn (cms A B).1 x ↔ Spn (A ++ B) x) ∧ (∀ x, Spn (cms A B).1 x ↔ Spn (A ++ (cms A B).2) x) := by
  refine snoc_rec (p := fun B => (∀ x, Spn (cms A B).1 x ↔ Spn (A ++ B) x) ∧ (∀ x, Spn (cms A B).1 x ↔ Spn (A ++ (cms A B).2) x)) ⟨fun x => by simp [cms], fun x => by simp [cms]⟩ (fun a r ih => ?_) B
  have R' := cms_rws R a
  rw [cms_snoc, ← List.append_assoc]
  split
  · rename_i h
    have hr := (ih.1 r).mp (R'.span.mpr h)
    refine ⟨fun x => ?_, ih.2⟩
    rw [ih.1 x]
    constructor
    · exact fun hx => hx.sub fun w hw => List.mem_append_left _ hw
    · refine fun hx => hx.mono fun y hy => ?_
      rcases List.mem_append.mp hy with hy | hy
      · exact .of hy
      · rcases List.mem_singleton.mp hy with rfl; exact hr
  · refine ⟨fun x => ?_, fun x => ?_⟩
    · rw [grw_span, span_app ih.1]
    · show Spn (grw _ _) x ↔ Spn (A ++ ((cms A a).2 ++ [r])) x
      rw [grw_span, span_app ih.2, List.append_assoc]
theorem cmpl_len {A : List Nat} (R : Rws A) (B : List Nat) : (cmpl A B).length + rk A = rk (A ++ B) := by
  unfold cmpl
  refine snoc_rec (p := fun B => (cms A B).2.length + rk A = rk (A ++ B)) (by simp [cms]) (fun a r ih => ?_) B
  have R' := cms_rws R a
  have S := (cms_span R a).1
  rw [cms_snoc, ← List.append_assoc]
  split
  · rename_i h
    rw [rk_snoc_in ((S r).mp (R'.span.mpr h))]; exact ih
  · rename_i h
    rw [rk_snoc_out fun z => h (R'.span.mp ((S r).mpr z)), List.length_append]
    simp only [List.length_cons, List.length_nil]
    omega
theorem cmpl_mem {A : List Nat} (B : List Nat) : ∀ x ∈ cmpl A B, x ∈ B := by
  unfold cmpl
  refine snoc_rec (p := fun B => ∀ x ∈ (cms A B).2, x ∈ B) (fun x hx => by cases hx) (fun a r ih x hx => ?_) B
  rw [cms_snoc] at hx
  split at hx
  · exact List.mem_append_left _ (ih x hx)
  · rcases List.mem_append.mp hx with hx | hx
    · exact List.mem_append_left _ (ih x hx)
    · exact List.mem_append_right _ hx
theorem cmpl_ind {A : List Nat} (R : Rws A) (B : List Nat) {φ : Nat → Nat} (L : Lin φ) : (∀ y, Spn B y → φ y = 0 → Spn A y) → Ind ((cmpl A B).map φ) := by
  unfold cmpl
  refine snoc_rec (p := fun B => (∀ y, Spn B y → φ y = 0 → Spn A y) → Ind ((cms A B).2.map φ)) (fun _ => .nil) (fun a r ih k => ?_) B
  have R' := cms_rws R a
  have S := (cms_span R a).2
  have ih := ih fun y hy => k y (hy.sub fun w hw => List.mem_append_left _ hw)
  have mem := cmpl_mem (A := A) a
  unfold cmpl at mem
  rw [cms_snoc]
  split
  · exact ih
  · rename_i h
    show Ind (((cms A a).2 ++ [r]).map φ)
    rw [List.map_append]
    refine .snoc ih fun hs => h (R'.span.mp ((S r).mpr ?_))
    obtain ⟨y, hy, e⟩ := L.back hs
    have hyr : Spn A (y ^^^ r) := by
      refine k _ ?_ (by rw [L.x, e, Nat.xor_self])
      exact (hy.sub fun w hw => List.mem_append_left _ (mem w hw)).xor (.of (List.mem_append_right _ (List.mem_singleton_self r)))
    have c := (hyr.sub (vs := A ++ (cms A a).2) fun w hw => List.mem_append_left _ hw).xor (hy.sub (vs := A ++ (cms A a).2) fun w hw => List.mem_append_right _ hw)
    rwa [Nat.xor_comm y r, xor_cancel_right] at c
/-! ### meets -/
theorem Rws.ind {rows : List Nat} (R : Rws rows) : Ind rows := by
  have : ∀ n (l : List Nat), l.length = n → Rws l → Ind l := by
    intro n
    induction n with
    | zero => intro l hl _; rw [List.length_eq_zero_iff.mp hl]; exact .nil
    | succ n ih =>
      intro l hl L
      have hne : l ≠ [] := fun e => by rw [e] at hl; cases hl
      have e := List.dropLast_concat_getLast hne
      rw [← e] at L ⊢
      have hp := List.pairwise_append.mp L.red
      have L' : Rws l.dropLast := ⟨fun r hr => L.nz r (List.mem_append_left _ hr), hp.1⟩
      refine .snoc (ih _ (by rw [List.length_dropLast, hl]; rfl) L') fun hs => ?_
      have z := L'.span.mp hs
      rw [clr_of_none fun r hr => (hp.2.2 r hr _ (List.mem_singleton_self _)).2] at z
      exact L.nz _ (List.mem_append_right _ (List.mem_singleton_self _)) z
  exact this _ rows rfl R
theorem shl_shr (b x : Nat) : (x <<< b) >>> b = x := Nat.shiftLeft_shiftRight x b
theorem shl_mod (b x : Nat) : (x <<< b) % 2 ^ b = 0 := by rw [Nat.shiftLeft_eq]; exact Nat.mul_mod_left _ _
theorem map_shl_shr (b : Nat) (B : List Nat) : (B.map fun r => r <<< b).map (fun x => x >>> b) = B := by
  rw [List.map_map]
  conv => rhs; rw [← List.map_id B]
  exact List.map_congr_left fun x _ => shl_shr b x
theorem ind_shl (b : Nat) {B : List Nat} (h : Ind B) : Ind (B.map fun r => r <<< b) := by
  induction h with
  | nil => exact .nil
  | @snoc a w _ hw ih =>
    rw [List.map_append]
    refine .snoc ih fun hs => hw ?_
    have a := (lin_shr b).spn hs
    rw [map_shl_shr] at a
    dsimp only at a
    rwa [shl_shr] at a
theorem ind_pairs (b : Nat) {A B : List Nat} (hB : Ind B) (hA : Ind A) (lt : ∀ x ∈ A, x < 2 ^ b) : Ind ((B.map fun r => r <<< b) ++ A.map fun r => (r <<< b) + r) := by
  induction hA with
  | nil => simpa using ind_shl b hB
  | @snoc a w _ hw ih =>
    have ih := ih fun x hx => lt x (List.mem_append_left _ hx)
    have hwl := lt w (List.mem_append_right _ (List.mem_singleton_self w))
    rw [List.map_append, ← List.append_assoc]
    refine .snoc ih fun hs => hw ?_
    have q := (lin_mod b).spn hs
    have pm : ∀ r, r < 2 ^ b → (r <<< b + r) % 2 ^ b = r := fun r hr => by
      rw [Nat.add_mod, shl_mod, Nat.zero_add, Nat.mod_mod, Nat.mod_eq_of_lt hr]
    dsimp only at q
    rw [pm w hwl] at q
    refine q.mono fun y hy => ?_
    obtain ⟨z, hz, rfl⟩ := List.mem_map.mp hy
    rcases List.mem_append.mp hz with hz | hz
    · obtain ⟨r, hr, rfl⟩ := List.mem_map.mp hz
      rw [shl_mod]; exact .zero
    · obtain ⟨r, hr, rfl⟩ := List.mem_map.mp hz
      rw [pm r (lt r (List.mem_append_left _ hr))]; exact .of hr
theorem blen_shr (b r : Nat) : blen (r >>> b) = blen r - b := by
  by_cases h : blen r ≤ b
  · have : r >>> b = 0 := by rw [Nat.shiftRight_eq_div_pow, Nat.div_eq_of_lt (blen_le.mp h)]
    rw [this, show blen r - b = 0 by omega]; rfl
  · have hr : r ≠ 0 := fun e => by rw [e] at h; simp [blen] at h
    have t : (r >>> b).testBit (blen r - b - 1) = true := by
      rw [Nat.testBit_shiftRight, show b + (blen r - b - 1) = blen r - 1 by omega]; exact testBit_top hr
    have h1 : ¬ blen (r >>> b) ≤ blen r - b - 1 := fun z => by rw [testBit_ge z] at t; cases t
    have h2 : blen (r >>> b) ≤ blen r - b := by
      rw [blen_le, Nat.shiftRight_eq_div_pow, Nat.div_lt_iff_lt_mul (Nat.two_pow_pos b), ← Nat.pow_add, show blen r - b + b = blen r by omega]
      exact lt_blen r
    omega
theorem Rws.high {R : List Nat} (A : Rws R) (b : Nat) : Rws ((R.filter fun r => !decide (blen r ≤ b)).map fun x => x >>> b) := by
  have hb : ∀ r ∈ R.filter fun r => !decide (blen r ≤ b), b < blen r := fun r hr => by
    have := (List.mem_filter.mp hr).2
    simp at this
    omega
  refine ⟨fun r hr => ?_, ?_⟩
  · obtain ⟨x, hx, rfl⟩ := List.mem_map.mp hr
    intro e
    have a := blen_shr b x
    rw [e] at a
    have := hb x hx
    have : blen 0 = 0 := rfl
    omega
  · rw [List.pairwise_map]
    refine (A.red.sublist List.filter_sublist).imp_of_mem fun {x y} hx hy h => ?_
    have a := hb x hx
    have c := hb y hy
    rw [blen_shr, blen_shr, Nat.testBit_shiftRight, Nat.testBit_shiftRight, show b + (blen y - b - 1) = blen y - 1 by omega, show b + (blen x - b - 1) = blen x - 1 by omega]
    exact h
theorem filter_two (p : Nat → Bool) : ∀ R : List Nat, (R.filter p).length + (R.filter fun r => !p r).length = R.length
  | [] => rfl
  | r :: rs => by
    have := filter_two p rs
    cases h : p r <;> simp [List.filter_cons, h] <;> omega
theorem Rws.split {R : List Nat} (A : Rws R) (b : Nat) : (R.filter fun r => decide (blen r ≤ b)).length + rk (R.map fun x => x >>> b) = R.length := by
  have a := spn_id (A.high b)
  rw [List.length_map] at a
  have e : rk (R.map fun x => x >>> b) = rk ((R.filter fun r => !decide (blen r ≤ b)).map fun x => x >>> b) := by
    refine Nat.le_antisymm (rk_le fun x hx => ?_) (rk_le fun x hx => ?_)
    · obtain ⟨r, hr, rfl⟩ := List.mem_map.mp hx
      by_cases h : blen r ≤ b
      · rw [Nat.shiftRight_eq_div_pow, Nat.div_eq_of_lt (blen_le.mp h)]; exact .zero
      · exact .of (List.mem_map.mpr ⟨r, List.mem_filter.mpr ⟨hr, by simpa using h⟩, rfl⟩)
    · obtain ⟨r, hr, rfl⟩ := List.mem_map.mp hx
      exact .of (List.mem_map.mpr ⟨r, (List.mem_filter.mp hr).1, rfl⟩)
  have := filter_two (fun r => decide (blen r ≤ b)) R
  omega
theorem mtd_len {b : Nat} {A B : List Nat} (RA : Rws A) (RB : Rws B) (lt : ∀ x ∈ A, x < 2 ^ b) : (mtd b A B).length + rk (A ++ B) = A.length + B.length := by
  have a := (spn_rws (mts b A B)).split b
  have r1 : (spn (mts b A B)).length = A.length + B.length := by
    have e : rk (mts b A B) = rk ((B.map fun r => r <<< b) ++ A.map fun r => (r <<< b) + r) := rk_perm List.perm_append_comm
    have i := (ind_pairs b RB.ind RA.ind lt).rk
    rw [← e] at i
    show rk (mts b A B) = _
    rw [i]
    simp
    omega
  have r2 : rk ((spn (mts b A B)).map fun x => x >>> b) = rk (A ++ B) := by
    have e1 : ∀ x, Spn ((spn (mts b A B)).map fun x => x >>> b) x ↔ Spn ((mts b A B).map fun x => x >>> b) x := fun x => by
      constructor
      · intro h
        obtain ⟨y, hy, rfl⟩ := (lin_shr b).back h
        exact (lin_shr b).spn ((spn_span _ y).mp hy)
      · intro h
        obtain ⟨y, hy, rfl⟩ := (lin_shr b).back h
        exact (lin_shr b).spn ((spn_span _ y).mpr hy)
    rw [rk_eq e1]
    unfold mts
    rw [List.map_append, map_shl_shr, List.map_map]
    have e2 : A.map ((fun x => x >>> b) ∘ fun r => (r <<< b) + r) = A := by
      conv => rhs; rw [← List.map_id A]
      refine List.map_congr_left fun x hx => ?_
      show (x <<< b + x) >>> b = x
      rw [add_eq_xor (lt x hx), Nat.shiftRight_xor_distrib, shl_shr, Nat.shiftRight_eq_div_pow, Nat.div_eq_of_lt (lt x hx), Nat.xor_zero]
    rw [e2]
  rw [r1, r2] at a
  exact a
/-! ### what the law asks -/
theorem kpt_eq {b : Nat} {ss ws : List Nat} (hs : ∀ x ∈ ss, x < 2 ^ b) : kpt b ss (spn ws) = ((rk (ss ++ ws) - rk ws : Nat) : Int) := by
  have a := mtd_len (b := b) (spn_rws ss) (spn_rws ws) (spn_lt hs)
  have c : rk (spn ss ++ spn ws) = rk (ss ++ ws) := rk_eq fun x => span_app2 (fun z => spn_span ss z) (fun z => spn_span ws z)
  have d := spn_id (mtd_rws b (spn ss) (spn ws))
  have e1 : (spn (mtd b (spn ss) (spn ws))).length = (mtd b (spn ss) (spn ws)).length := d
  have e2 : (spn ss).length = rk ss := rfl
  have e3 : (spn ws).length = rk ws := rfl
  have r := rk_right ss ws
  unfold kpt
  rw [e1, e2]
  rw [c, e2, e3] at a
  omega
theorem twn_sub_prt (ss ls ws : List Nat) : rk (twn ss ls ++ prt ss ls (spn ws)) = rk (prt ss ls (spn ws)) := by
  refine Nat.le_antisymm (rk_le fun x hx => ?_) (rk_right _ _)
  rcases List.mem_append.mp hx with hx | hx
  · have := (twn_span ss ls x).mp (.of hx)
    exact (prt_span ss ls ws x).mpr ⟨this.1, this.2.sub fun w hw => List.mem_append_left _ hw⟩
  · exact .of hx
theorem ldr_size {b : Nat} {ss ls ws : List Nat} (hs : ∀ x ∈ ss, x < 2 ^ b) (hl : ∀ x ∈ ls, x < 2 ^ b) (hw : ∀ x ∈ ws, x < 2 ^ b) (hb : b ≤ rk (ss ++ ls)) : (ldr ss ls (spn ws)).length = rk (ss ++ ws) - rk ss := by
  have a := cmpl_len (spn_rws (ker (ls.map (clr (spn ss))))) (prt ss ls (spn ws))
  have a' : (ldr ss ls (spn ws)).length + rk (twn ss ls) = rk (twn ss ls ++ prt ss ls (spn ws)) := a
  rw [twn_sub_prt, prt_rk] at a'
  have c : rk (twn ss ls) = (twn ss ls).length := spn_id (spn_rws _)
  have d := twn_size ss ls
  have e := prt_size ss ls ws
  have f : rk (ss ++ ls) = b := Nat.le_antisymm (rk_le_bits fun x hx => (List.mem_append.mp hx).elim (hs x) (hl x)) hb
  have g : rk (ss ++ ws ++ ls) = b := by
    refine Nat.le_antisymm (rk_le_bits fun x hx => ?_) (Nat.le_trans hb (rk_le fun x hx => ?_))
    · rcases List.mem_append.mp hx with hx | hx
      · exact (List.mem_append.mp hx).elim (hs x) (hw x)
      · exact hl x hx
    · rcases List.mem_append.mp hx with hx | hx
      · exact .of (List.mem_append_left _ (List.mem_append_left _ hx))
      · exact .of (List.mem_append_right _ hx)
  have h := rk_left ss ws
  omega
theorem ldr_mem {ss ls ws : List Nat} {x : Nat} (h : x ∈ ldr ss ls (spn ws)) : x < 2 ^ ls.length ∧ lft (bas (ss ++ ws)) (img ls x) = 0 := by
  have := (prt_span ss ls ws x).mp (.of (cmpl_mem _ x h))
  exact ⟨this.1, lft_bas.mpr this.2⟩
theorem ldr_rk (ss ls ws : List Nat) : rk ((ldr ss ls (spn ws)).map fun x => lft (bas ss) (img ls x)) = (ldr ss ls (spn ws)).length := by
  have L : Lin (fun x => lft (bas ss) (img ls x)) := (lin_lft _).comp (lin_img ls)
  have := (cmpl_ind (A := twn ss ls) (spn_rws _) (prt ss ls (spn ws)) L fun y hy e => (twn_span ss ls y).mpr ⟨((prt_span ss ls ws y).mp hy).1, lft_bas.mp e⟩).rk
  rw [List.length_map] at this
  exact this
theorem smr_eq {b : Nat} {ss ls ws : List Nat} (hs : ∀ x ∈ ss, x < 2 ^ b) (hl : ∀ x ∈ ls, x < 2 ^ b) (hw : ∀ x ∈ ws, x < 2 ^ b) (hb : b ≤ rk (ss ++ ls)) :
    smr b ss ls (spn ws) = rdf ((rk (ss ++ ws) - rk ws) - (tgd (ls.map (lft (bas ss)))).2.length) (rk (ss ++ ws) - rk ss) := by
  unfold smr
  rw [kpt_eq hs, ldr_size hs hl hw hb, ← twn_tag]
  congr 1
  omega
/-! ### the fewest rounds -/
/-- what is reached -/
def rch (b l t : Nat) : Nat → Nat
  | 0 => 1 <<< b
  | i + 1 => rch b l t i + min (rch b l t i) (1 <<< (l + t))
theorem rch_dbl {b l t : Nat} : ∀ i, i ≤ l + t + 1 - b → b ≤ l + t ∨ i = 0 → rch b l t i = 2 ^ (b + i)
  | 0, _, _ => Nat.one_shiftLeft b
  | i + 1, h, hb => by
    have hb' : b ≤ l + t := by omega
    have ih := rch_dbl (b := b) (l := l) (t := t) i (by omega) (.inl hb')
    show rch b l t i + min (rch b l t i) (1 <<< (l + t)) = _
    rw [ih, Nat.one_shiftLeft, Nat.min_eq_left (Nat.pow_le_pow_right (by decide) (by omega)), ← Nat.add_assoc, Nat.pow_succ]
    omega
theorem rch_ge {b l t d : Nat} (h : 2 ^ (l + t) ≤ rch b l t d) : ∀ j, rch b l t (d + j) = rch b l t d + j * 2 ^ (l + t)
  | 0 => by simp
  | j + 1 => by
    have ih := rch_ge h j
    show rch b l t (d + j) + min (rch b l t (d + j)) (1 <<< (l + t)) = _
    rw [Nat.one_shiftLeft, Nat.min_eq_right (by rw [ih]; exact Nat.le_trans h (Nat.le_add_right _ _)), ih, Nat.succ_mul]
    omega
theorem rch_lt {b l t r : Nat} (h : rch b l t r = 2 ^ (b + l)) : ∀ i, i < r → rch b l t i < 2 ^ (b + l) := by
  have up : ∀ i j, i ≤ j → rch b l t i ≤ rch b l t j := by
    intro i j hij
    induction hij with
    | refl => exact Nat.le_refl _
    | step _ ih => exact Nat.le_trans ih (Nat.le_add_right _ _)
  have pos : ∀ i, 0 < rch b l t i := fun i => Nat.lt_of_lt_of_le (by show 0 < 1 <<< b; rw [Nat.one_shiftLeft]; exact Nat.two_pow_pos b) (up 0 i (Nat.zero_le _))
  intro i hi
  have a := up (i + 1) r hi
  have c : rch b l t (i + 1) = rch b l t i + min (rch b l t i) (1 <<< (l + t)) := rfl
  have d : 0 < min (rch b l t i) (1 <<< (l + t)) := by
    rw [Nat.one_shiftLeft]
    have := pos i
    have := Nat.two_pow_pos (l + t)
    omega
  omega
theorem rch_rdf (b l t : Nat) : rch b l t (rdf (b - t) l) = 2 ^ (b + l) := by
  by_cases h : b ≤ t
  · have e : rdf (b - t) l = l := by
      rw [show b - t = 0 by omega]
      unfold rdf
      split
      · have : l = 0 := by omega
        subst this; rfl
      · simp
    rw [e, rch_dbl l (by omega) (.inl (by omega))]
  · obtain ⟨a, rfl⟩ : ∃ a, b = t + a := ⟨b - t, by omega⟩
    rw [show t + a - t = a by omega]
    unfold rdf
    split
    · rename_i hl
      obtain ⟨c, rfl⟩ : ∃ c, a = l + c := ⟨a - l, by omega⟩
      have q := rch_ge (b := t + (l + c)) (l := l) (t := t) (d := 0) (by show _ ≤ 1 <<< _; rw [Nat.one_shiftLeft]; exact Nat.pow_le_pow_right (by decide) (by omega)) (1 <<< (l + c) - 1 <<< (l + c - l))
      rw [Nat.zero_add] at q
      rw [q, show l + c - l = c by omega]
      show 1 <<< _ + _ = _
      rw [Nat.one_shiftLeft, Nat.one_shiftLeft, Nat.one_shiftLeft, Nat.sub_mul, ← Nat.pow_add, ← Nat.pow_add]
      have m : 2 ^ (c + (l + t)) ≤ 2 ^ (l + c + (l + t)) := Nat.pow_le_pow_right (by decide) (by omega)
      have e1 : t + (l + c) = c + (l + t) := by omega
      have e2 : c + (l + t) + l = l + c + (l + t) := by omega
      rw [e1, e2]
      omega
    · rename_i hl
      obtain ⟨c, rfl⟩ : ∃ c, l = a + c := ⟨l - a, by omega⟩
      have q0 : rch (t + a) (a + c) t c = 2 ^ (t + a + c) := rch_dbl c (by omega) (.inl (by omega))
      have q := rch_ge (b := t + a) (l := a + c) (t := t) (d := c) (by rw [q0]; exact Nat.pow_le_pow_right (by decide) (by omega)) (2 ^ a - 1)
      have p := Nat.two_pow_pos a
      rw [Nat.one_shiftLeft, show 2 ^ a - 1 + (a + c) - a = c + (2 ^ a - 1) by omega, q, q0, Nat.sub_mul, Nat.one_mul, ← Nat.pow_add]
      have e1 : t + a + c = a + c + t := by omega
      have e2 : t + a + (a + c) = a + (a + c + t) := by omega
      have m : 2 ^ (a + c + t) ≤ 2 ^ (a + (a + c + t)) := Nat.pow_le_pow_right (by decide) (by omega)
      rw [e1, e2]
      omega
theorem rdf_small {n l : Nat} (h : n ≤ 5) (hl : l ≤ 300) : rdf n l < 400 := by
  unfold rdf
  have : 2 ^ n ≤ 2 ^ 5 := Nat.pow_le_pow_right (by decide) h
  rw [Nat.one_shiftLeft]
  split
  · exact Nat.lt_of_le_of_lt (Nat.sub_le _ _) (by omega)
  · omega
theorem fewest_ok {b l t : Nat} (hl : l ≤ 300) : b ≤ 5 → rdf (b - t) l < 400 ∧ 1 <<< (b + l) ≤ rch b l t (rdf (b - t) l) ∧ ∀ i, i < rdf (b - t) l → rch b l t i < 1 <<< (b + l) := fun hb => by
  have h := rch_rdf b l t
  refine ⟨rdf_small (by omega) hl, ?_, ?_⟩
  · rw [h, Nat.one_shiftLeft]; exact Nat.le_refl _
  · rw [Nat.one_shiftLeft]; exact rch_lt h
end LaneX
set_option linter.all false
namespace LaneX
/-! ### numbers by their bits -/
def bitsOf (f : Nat → Bool) : Nat → Nat
  | 0 => 0
  | n + 1 => bitsOf f n ^^^ (if f n = true then 2 ^ n else 0)
theorem bitsOf_lt (f : Nat → Bool) : ∀ n, bitsOf f n < 2 ^ n
  | 0 => Nat.zero_lt_one
  | n + 1 => by
    have h := bitsOf_lt f n
    have m : 2 ^ n ≤ 2 ^ (n + 1) := Nat.pow_le_pow_right (by decide) (Nat.le_succ n)
    unfold bitsOf
    refine Nat.xor_lt_two_pow (Nat.lt_of_lt_of_le h m) ?_
    split
    · exact Nat.pow_lt_pow_right (by decide) (Nat.lt_succ_self n)
    · exact Nat.two_pow_pos _
theorem bitsOf_bit (f : Nat → Bool) : ∀ n i, (bitsOf f n).testBit i = (decide (i < n) && f i)
  | 0, i => by simp [bitsOf]
  | n + 1, i => by
    unfold bitsOf
    rw [Nat.testBit_xor, bitsOf_bit f n i]
    by_cases e : i = n
    · subst e
      cases h : f i
      · simp
      · simp [Nat.testBit_two_pow]
    · have : (i < n + 1) ↔ i < n := by omega
      cases h : f n
      · simp [this]
      · simp [this, Nat.testBit_two_pow, show ¬ n = i from fun z => e z.symm]
theorem bitsOf_xor (f g : Nat → Bool) (n : Nat) : bitsOf (fun i => f i ^^ g i) n = bitsOf f n ^^^ bitsOf g n := by
  apply Nat.eq_of_testBit_eq
  intro i
  rw [Nat.testBit_xor, bitsOf_bit, bitsOf_bit, bitsOf_bit]
  cases decide (i < n) <;> simp
theorem imf_congr {cols : List Nat} {x y : Nat} : ∀ {n}, (∀ i, i < n → x.testBit i = y.testBit i) → imf cols x n = imf cols y n
  | 0, _ => rfl
  | n + 1, h => by rw [imf_succ, imf_succ, imf_congr fun i hi => h i (by omega), h n (by omega)]
theorem img_congr {cols : List Nat} {x y : Nat} (h : ∀ i, i < cols.length → x.testBit i = y.testBit i) : img cols x = img cols y := imf_congr h
theorem imf_cols {P Q : List Nat} {x : Nat} : ∀ {n}, (∀ i, i < n → P.getD i 0 = Q.getD i 0) → imf P x n = imf Q x n
  | 0, _ => rfl
  | n + 1, h => by rw [imf_succ, imf_succ, imf_cols fun i hi => h i (by omega), h n (by omega)]
/-- columns one by one added -/
theorem imf_add {P Q R : List Nat} {x : Nat} : ∀ {n}, (∀ i, i < n → R.getD i 0 = P.getD i 0 ^^^ Q.getD i 0) → imf R x n = imf P x n ^^^ imf Q x n
  | 0, _ => (Nat.xor_self 0).symm
  | n + 1, h => by
    rw [imf_succ, imf_succ, imf_succ, imf_add fun i hi => h i (by omega), h n (by omega)]
    split
    · rw [xor4]
    · rfl
/-! ### the coefficients of rows in a word -/
def cof (R : List Nat) (l : Nat) : Nat := bitsOf (fun i => l.testBit (blen (R.getD i 0) - 1)) R.length
theorem cof_lt (R : List Nat) (l : Nat) : cof R l < 2 ^ R.length := bitsOf_lt _ _
theorem cof_bit {R : List Nat} {l i : Nat} (h : i < R.length) : (cof R l).testBit i = l.testBit (blen (R.getD i 0) - 1) := by
  unfold cof
  rw [bitsOf_bit, decide_eq_true h]; rfl
theorem cof_xor (R : List Nat) (x y : Nat) : cof R (x ^^^ y) = cof R x ^^^ cof R y := by
  unfold cof
  rw [← bitsOf_xor]
  congr 1
  funext i
  rw [Nat.testBit_xor]
theorem clr_take {R : List Nat} (A : Rws R) (l : Nat) : ∀ k, k ≤ R.length → clr (R.take k) l = l ^^^ imf R (cof R l) k
  | 0, _ => by show l = l ^^^ 0; rw [Nat.xor_zero]
  | k + 1, h => by
    have tk : R.take (k + 1) = R.take k ++ [R.getD k 0] := by
      rw [List.take_succ, List.getD_eq_getElem?_getD, List.getElem?_eq_getElem (by omega)]; rfl
    have ih := clr_take A l k (by omega)
    rw [tk, clr_append, imf_succ]
    show clr [R.getD k 0] _ = _
    rw [clr_cons]
    show _ ^^^ bx _ _ = _
    have red := A.red
    have hb : (clr (R.take k) l).testBit (blen (R.getD k 0) - 1) = l.testBit (blen (R.getD k 0) - 1) := by
      refine clr_bit fun r hr => ?_
      have e : R = R.take k ++ R.drop k := (List.take_append_drop k R).symm
      rw [e] at red
      have := (List.pairwise_append.mp red).2.2 r hr (R.getD k 0) (by
        rw [List.getD_eq_getElem?_getD, List.getElem?_eq_getElem (by omega), List.drop_eq_getElem_cons (by omega)]
        exact .head _)
      exact this.1
    rw [hb, ← cof_bit (by omega), ih]
    cases (cof R l).testBit k
    · simp [bx]
    · simp only [bx, if_true]
      rw [Nat.xor_assoc]
theorem img_cof {R : List Nat} (A : Rws R) (l : Nat) : img R (cof R l) = l ^^^ clr R l := by
  have := clr_take A l R.length (Nat.le_refl _)
  rw [List.take_length] at this
  rw [this, xor_cancel]
  rfl
theorem clr_idem {R : List Nat} (A : Rws R) (l : Nat) : clr R (clr R l) = clr R l := clr_of_none fun r hr => clr_tops A r hr
theorem getD_mem' {R : List Nat} {i : Nat} (h : i < R.length) : R.getD i 0 ∈ R := getD_mem h
theorem cof_clr {R : List Nat} (A : Rws R) (l : Nat) : cof R (clr R l) = 0 := by
  apply Nat.eq_of_testBit_eq
  intro i
  rw [Nat.zero_testBit]
  by_cases h : i < R.length
  · rw [cof_bit h]; exact clr_tops A _ (getD_mem h)
  · exact Nat.testBit_lt_two_pow (Nat.lt_of_lt_of_le (cof_lt R _) (Nat.pow_le_pow_right (by decide) (by omega)))
theorem imf_bit {R : List Nat} {t c : Nat} : ∀ {n}, (∀ i, i < n → (R.getD i 0).testBit t = false) → (imf R c n).testBit t = false
  | 0, _ => Nat.zero_testBit _
  | n + 1, h => by
    have ih := imf_bit (c := c) fun i hi => h i (Nat.lt_succ_of_lt hi)
    rw [imf_succ]
    split
    · rw [Nat.testBit_xor, ih, h n (Nat.lt_succ_self n)]; rfl
    · exact ih
theorem Rws.getD_bit {R : List Nat} (A : Rws R) {i j : Nat} (hi : i < R.length) (hj : j < R.length) (h : i ≠ j) : (R.getD i 0).testBit (blen (R.getD j 0) - 1) = false := by
  have e : ∀ k, k < R.length → R.getD k 0 = R[k]?.getD 0 := fun k _ => List.getD_eq_getElem?_getD
  have p := List.pairwise_iff_getElem.mp A.red
  rw [List.getD_eq_getElem?_getD, List.getD_eq_getElem?_getD, List.getElem?_eq_getElem hi, List.getElem?_eq_getElem hj]
  show R[i].testBit (blen R[j] - 1) = false
  rcases Nat.lt_or_ge i j with q | q
  · exact (p i j hi hj q).1
  · exact (p j i hj hi (by omega)).2
theorem imf_top {R : List Nat} (A : Rws R) {j c : Nat} (hj : j < R.length) : ∀ n, n ≤ R.length → (imf R c n).testBit (blen (R.getD j 0) - 1) = (decide (j < n) && c.testBit j)
  | 0, _ => by show (0 : Nat).testBit _ = _; simp
  | n + 1, hn => by
    have ih := imf_top A (c := c) hj n (by omega)
    rw [imf_succ]
    by_cases e : j = n
    · subst e
      have z : decide (j < j) = false := by simp
      rw [z, Bool.false_and] at ih
      have t := testBit_top (A.nz _ (getD_mem hj))
      cases q : c.testBit j
      · rw [if_neg (by simp), ih]; simp
      · rw [if_pos rfl, Nat.testBit_xor, ih, t]; simp
    · have b := A.getD_bit (i := n) (j := j) (by omega) hj (fun z => e z.symm)
      have d : (j < n + 1) ↔ j < n := by omega
      cases q : c.testBit n
      · rw [if_neg (by simp), ih]; simp [d]
      · rw [if_pos rfl, Nat.testBit_xor, ih, b]; simp [d]
theorem cof_img {R : List Nat} (A : Rws R) {c : Nat} (h : c < 2 ^ R.length) : cof R (img R c) = c := by
  apply Nat.eq_of_testBit_eq
  intro i
  by_cases hi : i < R.length
  · rw [cof_bit hi]
    unfold img
    rw [imf_top A hi _ (Nat.le_refl _), decide_eq_true hi]; rfl
  · have m : 2 ^ R.length ≤ 2 ^ i := Nat.pow_le_pow_right (by decide) (by omega)
    rw [Nat.testBit_lt_two_pow (Nat.lt_of_lt_of_le (cof_lt R _) m), Nat.testBit_lt_two_pow (Nat.lt_of_lt_of_le h m)]
theorem clr_img {R : List Nat} (A : Rws R) (c : Nat) : clr R (img R c) = 0 := by
  rw [← A.span]
  have : ∀ n, n ≤ R.length → Spn R (imf R c n) := by
    intro n
    induction n with
    | zero => intro _; exact .zero
    | succ n ih =>
      intro h
      rw [imf_succ]
      split
      · exact (ih (by omega)).xor (.of (getD_mem h))
      · exact ih (by omega)
  exact this _ (Nat.le_refl _)
/-! ### a word cleared stays as short -/
theorem clr_lt' {k : Nat} : ∀ {rows : List Nat} {w : Nat}, w < 2 ^ k → clr rows w < 2 ^ k
  | [], w, h => h
  | r :: rs, w, h => by
    rw [clr_cons]
    refine clr_lt' ?_
    cases q : w.testBit (blen r - 1) with
    | false => simpa [bx] using h
    | true =>
      simp only [bx, if_true]
      refine Nat.xor_lt_two_pow h ?_
      by_cases z : r = 0
      · rw [z]; exact Nat.two_pow_pos k
      · rw [← blen_le]
        have b := blen_pos z
        refine Classical.byContradiction fun n => ?_
        rw [testBit_ge (n := w) (i := blen r - 1) (Nat.le_trans (blen_le.mpr h) (by omega))] at q
        cases q
/-! ### solving -/
def slv (ss : List Nat) (g : Nat) : Nat := clr (prd ss) (g <<< ss.length)
theorem slv_ok {ss : List Nat} {g : Nat} (h : Spn ss g) : slv ss g < 2 ^ ss.length ∧ img ss (slv ss g) = g := by
  have h' : Spn (ss.take ss.length) g := by rw [List.take_length]; exact h
  obtain ⟨x, hx, rfl⟩ := span_img (Nat.le_refl _) h'
  have R := spn_rws (prs ss)
  have e1 : img ss x <<< ss.length = ((img ss x <<< ss.length) ^^^ x) ^^^ x := (xor_cancel_right _ _).symm
  have e2 : slv ss (img ss x) = clr (prd ss) x := by
    have z : clr (prd ss) ((img ss x <<< ss.length) ^^^ x) = 0 := R.span.mp ((spn_span _ _).mpr (prs_bwd ss (Nat.le_refl _) hx))
    unfold slv
    rw [e1, clr_xor, z, Nat.zero_xor]
  have h2 : clr (prd ss) x < 2 ^ ss.length := clr_lt' hx
  rw [e2]
  refine ⟨h2, ?_⟩
  have h3 := (spn_span (prs ss) _).mp (spn_clr (prd ss) x)
  have h4 : Spn (ker ss) (x ^^^ clr (prd ss) x) := by
    unfold ker prd
    rw [R.low_span, spn_span]
    exact ⟨h3, Nat.xor_lt_two_pow hx h2⟩
  have h5 := ((ker_span ss _).mp h4).2
  rw [(lin_img ss).x] at h5
  exact (xor_eq_zero h5).symm
/-! ### writes -/
section
variable (ss ls : List Nat)
def wmn : Nat := min (spn ss).length (twn ss ls).length
def wgoal (i : Nat) (tw : Nat) : Nat := img ls tw ^^^ (if i < wmn ss ls then (spn ss).getD i 0 else 0)
def wtn (i : Nat) (tw : Nat) : Nat × Nat := (blen tw - 1, slv ss (wgoal ss ls i tw))
def wts : List (Nat × Nat) := (List.range (twn ss ls).length).map fun i => wtn ss ls i ((twn ss ls).getD i 0)
def wst : List Nat := ((spn ss).drop (wmn ss ls)).map (slv ss)
def wslot (n l : Nat) : Nat := (wts ss ls).foldl (fun s p => if l.testBit p.1 = true then s ^^^ p.2 else s) (img (wst ss ls) n)
def went (n l : Nat) : Nat := img ss (wslot ss ls n l) ^^^ img ls l
end
section
variable {ss ls : List Nat}
theorem wfold {ps : List (Nat × Nat)} {l s : Nat} : ps.foldl (fun s p => if l.testBit p.1 = true then s ^^^ p.2 else s) s = s ^^^ img (ps.map Prod.snd) (bitsOf (fun i => l.testBit (ps.getD i (0, 0)).1) ps.length) := by
  have : ∀ k, k ≤ ps.length → (ps.take k).foldl (fun s p => if l.testBit p.1 = true then s ^^^ p.2 else s) s = s ^^^ imf (ps.map Prod.snd) (bitsOf (fun i => l.testBit (ps.getD i (0, 0)).1) ps.length) k := by
    intro k
    induction k with
    | zero => intro _; show s = s ^^^ 0; rw [Nat.xor_zero]
    | succ k ih =>
      intro h
      have tk : ps.take (k + 1) = ps.take k ++ [ps.getD k (0, 0)] := by
        rw [List.take_succ, List.getD_eq_getElem?_getD, List.getElem?_eq_getElem (by omega)]; rfl
      have e : (ps.map Prod.snd).getD k 0 = (ps.getD k (0, 0)).2 := by
        simp only [List.getD_eq_getElem?_getD, List.getElem?_map, List.getElem?_eq_getElem (show k < ps.length by omega)]
        rfl
      rw [tk, List.foldl_append, ih (by omega), imf_succ, bitsOf_bit, decide_eq_true (show k < ps.length by omega), e]
      show (if _ then _ else _) = _
      simp only [Bool.true_and]
      split
      · rw [Nat.xor_assoc]
      · rfl
  have q := this ps.length (Nat.le_refl _)
  rw [List.take_length] at q
  rw [q]
  unfold img
  rw [List.length_map]
theorem twn_rws (ss ls : List Nat) : Rws (twn ss ls) := spn_rws _
theorem wgoal_in (i : Nat) {tw : Nat} (h : tw ∈ twn ss ls) : Spn ss (wgoal ss ls i tw) := by
  refine ((twn_span ss ls tw).mp (.of h)).2.xor ?_
  split
  · rename_i hi
    rw [← spn_span]
    exact .of (getD_mem (by unfold wmn at hi; omega))
  · exact .zero
theorem wts_len : (wts ss ls).length = (twn ss ls).length := by simp [wts]
theorem wts_get {i : Nat} (h : i < (twn ss ls).length) : (wts ss ls).getD i (0, 0) = wtn ss ls i ((twn ss ls).getD i 0) := by
  unfold wts
  rw [List.getD_eq_getElem?_getD, List.getElem?_map, List.getElem?_range h]
  rfl
theorem wslot_eq (n l : Nat) : wslot ss ls n l = img (wst ss ls) n ^^^ img ((wts ss ls).map Prod.snd) (cof (twn ss ls) l) := by
  unfold wslot
  rw [wfold]
  congr 1
  refine img_congr fun i hi => ?_
  rw [List.length_map, wts_len] at hi
  rw [bitsOf_bit, wts_len, decide_eq_true hi, wts_get hi, cof_bit hi]
  rfl
theorem wst_lt : ∀ x ∈ wst ss ls, x < 2 ^ ss.length := fun x hx => by
  obtain ⟨r, hr, rfl⟩ := List.mem_map.mp hx
  exact (slv_ok ((spn_span ss r).mp (.of (List.mem_of_mem_drop hr)))).1
theorem wts_lt : ∀ p ∈ wts ss ls, p.2 < 2 ^ ss.length := fun p hp => by
  obtain ⟨i, hi, rfl⟩ := List.mem_map.mp hp
  exact (slv_ok (wgoal_in i (getD_mem (List.mem_range.mp hi)))).1
theorem imf_lt {b : Nat} {cs : List Nat} (h : ∀ c ∈ cs, c < 2 ^ b) (x : Nat) : ∀ n, imf cs x n < 2 ^ b
  | 0 => Nat.two_pow_pos b
  | n + 1 => by
    rw [imf_succ]
    split
    · refine Nat.xor_lt_two_pow (imf_lt h x n) ?_
      rw [List.getD_eq_getElem?_getD]
      cases q : cs[n]? with
      | none => exact Nat.two_pow_pos b
      | some c => exact h c (List.mem_of_getElem? q)
    · exact imf_lt h x n
theorem wslot_lt (n l : Nat) : wslot ss ls n l < 2 ^ ss.length := by
  rw [wslot_eq]
  refine Nat.xor_lt_two_pow (imf_lt wst_lt _ _) (imf_lt (fun c hc => ?_) _ _)
  obtain ⟨p, hp, rfl⟩ := List.mem_map.mp hc
  exact wts_lt p hp
theorem img_self_map {ss cols : List Nat} (h : ∀ r ∈ cols, Spn ss r) (x : Nat) : img ss (img (cols.map (slv ss)) x) = img cols x := by
  rw [← img_map (lin_img ss), List.map_map]
  unfold img
  rw [List.length_map]
  refine imf_cols fun i hi => ?_
  simp only [List.getD_eq_getElem?_getD, List.getElem?_map, List.getElem?_eq_getElem hi]
  exact (slv_ok (h _ (List.getElem_mem hi))).2
theorem went_eq (n l : Nat) : went ss ls n l = img ((spn ss).drop (wmn ss ls)) n ^^^ img ((spn ss).take (wmn ss ls)) (cof (twn ss ls) l) ^^^ img ls (clr (twn ss ls) l) := by
  unfold went
  rw [wslot_eq, (lin_img ss).x]
  have e1 : img ss (img (wst ss ls) n) = img ((spn ss).drop (wmn ss ls)) n := img_self_map (fun r hr => (spn_span ss r).mp (.of (List.mem_of_mem_drop hr))) n
  have e2 : img ss (img ((wts ss ls).map Prod.snd) (cof (twn ss ls) l)) = img ls (img (twn ss ls) (cof (twn ss ls) l)) ^^^ img ((spn ss).take (wmn ss ls)) (cof (twn ss ls) l) := by
    have a : (wts ss ls).map Prod.snd = ((List.range (twn ss ls).length).map fun i => wgoal ss ls i ((twn ss ls).getD i 0)).map (slv ss) := by
      unfold wts
      rw [List.map_map, List.map_map]
      rfl
    rw [a, img_self_map (fun r hr => by
      obtain ⟨i, hi, rfl⟩ := List.mem_map.mp hr
      exact wgoal_in i (getD_mem (List.mem_range.mp hi))), ← img_map (lin_img ls)]
    unfold img
    rw [List.length_map, List.length_map, List.length_range, List.length_take]
    have pad : ∀ k c, wmn ss ls ≤ k → imf ((spn ss).take (wmn ss ls)) c (min (wmn ss ls) (spn ss).length) = imf ((spn ss).take (wmn ss ls)) c k := by
      intro k c hk
      have m : min (wmn ss ls) (spn ss).length = wmn ss ls := by unfold wmn; omega
      rw [m]
      induction k with
      | zero => rw [show wmn ss ls = 0 by omega]
      | succ k ih =>
        by_cases q : wmn ss ls = k + 1
        · rw [q]
        · rw [imf_succ, ← ih (by omega)]
          have z : ((spn ss).take (wmn ss ls)).getD k 0 = 0 := by
            rw [List.getD_eq_getElem?_getD, List.getElem?_eq_none (by rw [List.length_take]; omega)]; rfl
          rw [z, Nat.xor_zero, ite_self]
    rw [pad (twn ss ls).length _ (by unfold wmn; omega)]
    refine imf_add fun i hi => ?_
    have g1 : ((List.range (twn ss ls).length).map fun i => wgoal ss ls i ((twn ss ls).getD i 0)).getD i 0 = wgoal ss ls i ((twn ss ls).getD i 0) := by
      rw [List.getD_eq_getElem?_getD, List.getElem?_map, List.getElem?_range hi]; rfl
    have g2 : ((twn ss ls).map (img ls)).getD i 0 = img ls ((twn ss ls).getD i 0) := by
      simp only [List.getD_eq_getElem?_getD, List.getElem?_map, List.getElem?_eq_getElem hi]
      rfl
    have g3 : ((spn ss).take (wmn ss ls)).getD i 0 = if i < wmn ss ls then (spn ss).getD i 0 else 0 := by
      simp only [List.getD_eq_getElem?_getD, List.getElem?_take]
      split <;> rfl
    rw [g1]
    show _ = ((twn ss ls).map (img ls)).getD i 0 ^^^ _
    rw [g2, g3]
    rfl
  rw [e1, e2, img_cof (twn_rws ss ls), (lin_img ls).x]
  generalize img ((spn ss).drop (wmn ss ls)) n = A
  generalize img ((spn ss).take (wmn ss ls)) (cof (twn ss ls) l) = B
  generalize img ls (clr (twn ss ls) l) = C
  generalize img ls l = D
  have q : D ^^^ C ^^^ B ^^^ D = B ^^^ C := by
    rw [Nat.xor_comm (D ^^^ C ^^^ B) D, Nat.xor_assoc D C B, xor_cancel, Nat.xor_comm]
  rw [Nat.xor_assoc A, q, Nat.xor_assoc A]
theorem img_app {P Q : List Nat} {x y : Nat} (h : x < 2 ^ P.length) : img (P ++ Q) (x ^^^ (y <<< P.length)) = img P x ^^^ img Q y := by
  have h1 : ∀ k, k ≤ P.length → imf (P ++ Q) (x ^^^ (y <<< P.length)) k = imf P x k := by
    intro k hk
    rw [imf_cols (P := P ++ Q) (Q := P) (fun i hi => by simp only [List.getD_eq_getElem?_getD, List.getElem?_append_left (show i < P.length by omega)])]
    refine imf_congr fun i hi => ?_
    rw [Nat.testBit_xor, Nat.testBit_shiftLeft]
    have : ¬ (P.length ≤ i) := by omega
    simp [this]
  have h2 : ∀ k, imf (P ++ Q) (x ^^^ (y <<< P.length)) (P.length + k) = imf P x P.length ^^^ imf Q y k := by
    intro k
    induction k with
    | zero => rw [Nat.add_zero, h1 _ (Nat.le_refl _)]; show _ = _ ^^^ 0; rw [Nat.xor_zero]
    | succ k ih =>
      rw [← Nat.add_assoc, imf_succ, imf_succ, ih]
      have g : (P ++ Q).getD (P.length + k) 0 = Q.getD k 0 := by
        simp only [List.getD_eq_getElem?_getD, List.getElem?_append_right (Nat.le_add_right P.length k), Nat.add_sub_cancel_left]
      have t : (x ^^^ (y <<< P.length)).testBit (P.length + k) = y.testBit k := by
        rw [Nat.testBit_xor, Nat.testBit_shiftLeft, Nat.testBit_lt_two_pow (Nat.lt_of_lt_of_le h (Nat.pow_le_pow_right (by decide) (Nat.le_add_right _ _)))]
        simp
      rw [g, t]
      split
      · rw [Nat.xor_assoc]
      · rfl
  unfold img
  rw [List.length_append, h2]
theorem ind_inj {A : List Nat} (h : rk A = A.length) {x : Nat} (hx : x < 2 ^ A.length) (e : img A x = 0) : x = 0 := by
  have k := ker_len_eq A
  have z : ker A = [] := List.length_eq_zero_iff.mp (by omega)
  have s := (ker_span A x).mpr ⟨hx, e⟩
  rw [z] at s
  exact s.nil
theorem in_full {ws : List Nat} {b e : Nat} (h : ∀ w ∈ ws, w < 2 ^ b) (hb : b ≤ rk ws) (he : e < 2 ^ b) : Spn ws e := by
  refine Classical.byContradiction fun n => ?_
  have a := rk_snoc_out n
  have c := rk_le_bits (ws := ws ++ [e]) (b := b) fun w hw => by
    rcases List.mem_append.mp hw with hw | hw
    · exact h w hw
    · rcases List.mem_singleton.mp hw with rfl; exact he
  omega
theorem span_split {a b : List Nat} {e : Nat} (h : Spn (a ++ b) e) : ∃ s q, Spn a s ∧ Spn b q ∧ e = s ^^^ q := by
  induction h with
  | zero => exact ⟨0, 0, .zero, .zero, rfl⟩
  | @add y w hw _ ih =>
    obtain ⟨s, q, hs, hq, rfl⟩ := ih
    rcases List.mem_append.mp hw with hw | hw
    · exact ⟨s ^^^ w, q, .add hw hs, hq, by rw [Nat.xor_assoc, Nat.xor_assoc, Nat.xor_comm q w]⟩
    · exact ⟨s, q ^^^ w, hs, .add hw hq, by rw [Nat.xor_assoc]⟩
section
variable {b : Nat} (hs : ∀ x ∈ ss, x < 2 ^ b) (hl : ∀ x ∈ ls, x < 2 ^ b) (hb : b ≤ rk (ss ++ ls))
include hs hl hb
theorem wcount : (spn ss).length - wmn ss ls = b - ls.length := by
  have a := twn_size ss ls
  have f : rk (ss ++ ls) = b := Nat.le_antisymm (rk_le_bits fun x hx => (List.mem_append.mp hx).elim (hs x) (hl x)) hb
  have e2 : (spn ss).length = rk ss := rfl
  unfold wmn
  omega
theorem went_surj {e : Nat} (he : e < 2 ^ b) : ∃ n l, n < 2 ^ (b - ls.length) ∧ l < 2 ^ ls.length ∧ went ss ls n l = e := by
  have wc := wcount hs hl hb
  have R := twn_rws ss ls
  have A := spn_rws ss
  obtain ⟨s, q, h1, h2, rfl⟩ := span_split (in_full (fun w hw => (List.mem_append.mp hw).elim (hs w) (hl w)) hb he)
  have h2' : Spn (ls.take ls.length) q := by rw [List.take_length]; exact h2
  obtain ⟨l0, hl0, rfl⟩ := span_img (Nat.le_refl _) h2'
  have tb : ∀ r ∈ twn ss ls, r < 2 ^ ls.length := fun r hr => ((twn_span ss ls r).mp (.of hr)).1
  have hc : clr (twn ss ls) l0 < 2 ^ ls.length := clr_lt tb hl0
  -- what is left lies in the slot space
  have h3 : Spn ss (s ^^^ img ls l0 ^^^ img ls (clr (twn ss ls) l0)) := by
    rw [Nat.xor_assoc, ← (lin_img ls).x]
    exact h1.xor ((twn_span ss ls _).mp (spn_clr _ l0)).2
  have h4 : Spn ((spn ss).take (spn ss).length) (s ^^^ img ls l0 ^^^ img ls (clr (twn ss ls) l0)) := by rw [List.take_length, spn_span]; exact h3
  obtain ⟨x, hx, ex⟩ := span_img (Nat.le_refl _) h4
  have m1 : wmn ss ls ≤ (spn ss).length := by unfold wmn; omega
  have m2 : wmn ss ls ≤ (twn ss ls).length := by unfold wmn; omega
  have tl : ((spn ss).take (wmn ss ls)).length = wmn ss ls := by rw [List.length_take]; omega
  have cl : x % 2 ^ wmn ss ls < 2 ^ wmn ss ls := Nat.mod_lt _ (Nat.two_pow_pos _)
  have cl2 : x % 2 ^ wmn ss ls < 2 ^ (twn ss ls).length := Nat.lt_of_lt_of_le cl (Nat.pow_le_pow_right (by decide) m2)
  refine ⟨x >>> wmn ss ls, clr (twn ss ls) l0 ^^^ img (twn ss ls) (x % 2 ^ wmn ss ls), ?_, Nat.xor_lt_two_pow hc (imf_lt tb _ _), ?_⟩
  · rw [Nat.shiftRight_eq_div_pow, ← wc]
    rw [Nat.div_lt_iff_lt_mul (Nat.two_pow_pos _), ← Nat.pow_add, show (spn ss).length - wmn ss ls + wmn ss ls = (spn ss).length by omega]
    exact hx
  · rw [went_eq, cof_xor, cof_clr R, Nat.zero_xor, cof_img R cl2, clr_xor, clr_idem R, clr_img R, Nat.xor_zero]
    have q := img_app (P := (spn ss).take (wmn ss ls)) (Q := (spn ss).drop (wmn ss ls)) (x := x % 2 ^ wmn ss ls) (y := x >>> wmn ss ls) (by rw [tl]; exact cl)
    rw [List.take_append_drop, tl, Nat.xor_comm (x % _), ← add_eq_xor cl, Nat.shiftRight_eq_div_pow, Nat.shiftLeft_eq, Nat.mul_comm, Nat.div_add_mod, ex] at q
    rw [Nat.shiftRight_eq_div_pow, Nat.xor_comm (img _ _) (img _ _), ← q, xor_cancel_right]
theorem went_zero (ht : ls.length ≤ b) {n l : Nat} (hn : n < 2 ^ (b - ls.length)) (hl2 : l < 2 ^ ls.length) (h : went ss ls n l = 0) : n = 0 ∧ l = 0 := by
  have wc := wcount hs hl hb
  have R := twn_rws ss ls
  have A := spn_rws ss
  have a := twn_size ss ls
  have f : rk (ss ++ ls) = b := Nat.le_antisymm (rk_le_bits fun x hx => (List.mem_append.mp hx).elim (hs x) (hl x)) hb
  have e2 : (spn ss).length = rk ss := rfl
  have m : wmn ss ls = (twn ss ls).length := by unfold wmn; omega
  have m1 : wmn ss ls ≤ (spn ss).length := by unfold wmn; omega
  have tl : ((spn ss).take (wmn ss ls)).length = wmn ss ls := by rw [List.length_take]; omega
  have tb : ∀ r ∈ twn ss ls, r < 2 ^ ls.length := fun r hr => ((twn_span ss ls r).mp (.of hr)).1
  have cl : cof (twn ss ls) l < 2 ^ ((spn ss).take (wmn ss ls)).length := by rw [tl, m]; exact cof_lt _ _
  rw [went_eq] at h
  have q := img_app (Q := (spn ss).drop (wmn ss ls)) (y := n) cl
  rw [List.take_append_drop, tl] at q
  rw [Nat.xor_comm (img ((spn ss).drop _) _), ← q] at h
  have h' := xor_eq_zero h
  have sA : ∀ x k, k ≤ (spn ss).length → Spn ss (imf (spn ss) x k) := by
    intro x k
    induction k with
    | zero => intro _; exact .zero
    | succ k ih =>
      intro hk
      rw [imf_succ]
      split
      · exact (ih (by omega)).xor ((spn_span ss _).mp (.of (getD_mem hk)))
      · exact ih (by omega)
  have hz : clr (twn ss ls) l = 0 := by
    have s1 : Spn (twn ss ls) (clr (twn ss ls) l) := (twn_span ss ls _).mpr ⟨clr_lt tb hl2, by rw [← h']; exact sA _ _ (Nat.le_refl _)⟩
    have s2 := R.span.mp s1
    rwa [clr_idem R] at s2
  rw [hz, (lin_img ls).z] at h'
  have big : cof (twn ss ls) l ^^^ (n <<< wmn ss ls) < 2 ^ (spn ss).length := by
    refine Nat.xor_lt_two_pow (Nat.lt_of_lt_of_le cl (Nat.pow_le_pow_right (by decide) (by rw [tl]; exact m1))) ?_
    rw [Nat.shiftLeft_eq, show (spn ss).length = (b - ls.length) + wmn ss ls by omega, Nat.pow_add]
    exact Nat.mul_lt_mul_of_pos_right hn (Nat.two_pow_pos _)
  have z := ind_inj (spn_id A) big h'
  have n0 : n = 0 := by
    have := congrArg (fun x => x >>> wmn ss ls) z
    simp only [Nat.shiftRight_xor_distrib, Nat.shiftLeft_shiftRight, Nat.zero_shiftRight] at this
    rw [Nat.shiftRight_eq_div_pow, Nat.div_eq_of_lt (by rw [tl] at cl; exact cl), Nat.zero_xor] at this
    exact this
  rw [n0, Nat.zero_shiftLeft, Nat.xor_zero] at z
  have il := img_cof R l
  rw [z, (lin_img _).z, hz, Nat.xor_zero] at il
  exact ⟨n0, il.symm⟩
theorem went_inj (ht : ls.length ≤ b) {n l n' l' : Nat} (hn : n < 2 ^ (b - ls.length)) (hl2 : l < 2 ^ ls.length) (hn' : n' < 2 ^ (b - ls.length)) (hl2' : l' < 2 ^ ls.length) (h : went ss ls n l = went ss ls n' l') : n = n' ∧ l = l' := by
  have e : went ss ls (n ^^^ n') (l ^^^ l') = 0 := by
    have : went ss ls (n ^^^ n') (l ^^^ l') = went ss ls n l ^^^ went ss ls n' l' := by
      rw [went_eq, went_eq, went_eq, cof_xor, clr_xor, (lin_img _).x, (lin_img _).x, (lin_img _).x]
      rw [xor4 (img _ n), xor4 (_ ^^^ _) (_ ^^^ _)]
    rw [this, h, Nat.xor_self]
  obtain ⟨a, c⟩ := went_zero hs hl hb ht (Nat.xor_lt_two_pow hn hn') (Nat.xor_lt_two_pow hl2 hl2') e
  exact ⟨xor_eq_zero a, xor_eq_zero c⟩
end
end
end LaneX
set_option linter.all false
namespace LaneX
/-! ### the sums that lanes hold, step by step (k36) -/
theorem span_snoc {A : List Nat} {w x : Nat} : Spn (A ++ [w]) x ↔ Spn A x ∨ Spn A (x ^^^ w) := by
  constructor
  · intro h
    obtain ⟨s, q, h1, h2, rfl⟩ := span_split h
    have : q = 0 ∨ q = w := by
      clear h
      induction h2 with
      | zero => exact .inl rfl
      | add hw _ ih =>
        rcases List.mem_singleton.mp hw with rfl
        rcases ih with rfl | rfl
        · rw [Nat.zero_xor]; exact .inr rfl
        · rw [Nat.xor_self]; exact .inl rfl
    rcases this with rfl | rfl
    · rw [Nat.xor_zero]; exact .inl h1
    · rw [xor_cancel_right]; exact .inr h1
  · rintro (h | h)
    · exact h.sub fun z hz => List.mem_append_left _ hz
    · have a : Spn (A ++ [w]) (x ^^^ w) := h.sub fun z hz => List.mem_append_left _ hz
      have b : Spn (A ++ [w]) w := .of (List.mem_append_right _ (List.mem_singleton_self _))
      have := a.xor b
      rwa [xor_cancel_right] at this
/-- an entry that a lane knows of behind the steps P -/
def Ent (ss ls P : List Nat) (L e : Nat) : Prop := Spn (ss ++ P.map (img ls)) (e ^^^ img ls L)
theorem ent_nil {ss ls : List Nat} {L e : Nat} : Ent ss ls [] L e ↔ ∃ s, s < 2 ^ ss.length ∧ img ls L ^^^ img ss s = e := by
  unfold Ent
  rw [List.map_nil, List.append_nil]
  constructor
  · intro h
    obtain ⟨x, hx, e1⟩ := span_img (cols := ss) (Nat.le_refl _) (by rwa [List.take_length])
    refine ⟨x, hx, ?_⟩
    rw [e1, Nat.xor_comm e, xor_cancel]
  · rintro ⟨s, hs, rfl⟩
    rw [Nat.xor_comm, xor_cancel]
    have := img_span (cols := ss) (Nat.le_refl _) hs
    rwa [List.take_length] at this
theorem ent_snoc {ss ls P : List Nat} {p L e : Nat} : Ent ss ls (P ++ [p]) L e ↔ Ent ss ls P L e ∨ Ent ss ls P (L ^^^ p) e := by
  unfold Ent
  rw [List.map_append, List.map_singleton, ← List.append_assoc, span_snoc, (lin_img ls).x, Nat.xor_assoc]
theorem ent_apart {ss ls P : List Nat} {p L e : Nat} (hp : ¬ Spn (ss ++ P.map (img ls)) (img ls p)) (h1 : Ent ss ls P L e) (h2 : Ent ss ls P (L ^^^ p) e) : False := by
  refine hp ?_
  have := Spn.xor h1 h2
  rw [(lin_img ls).x] at this
  have e1 : e ^^^ img ls L ^^^ (e ^^^ (img ls L ^^^ img ls p)) = img ls p := by
    rw [← Nat.xor_assoc e, xor_cancel]
  rwa [e1] at this
theorem ent_lt {b : Nat} {ss ls P : List Nat} (hs : ∀ x ∈ ss, x < 2 ^ b) (hl : ∀ x ∈ ls, x < 2 ^ b) {L e : Nat} (h : Ent ss ls P L e) : e < 2 ^ b := by
  have a : e ^^^ img ls L < 2 ^ b := Spn.lt h fun w hw => by
    rcases List.mem_append.mp hw with hw | hw
    · exact hs w hw
    · obtain ⟨p, _, rfl⟩ := List.mem_map.mp hw
      exact imf_lt hl _ _
  have b1 : img ls L < 2 ^ b := imf_lt hl _ _
  have := Nat.xor_lt_two_pow a b1
  rwa [xor_cancel_right] at this
/-- steps that are independent beside the slots -/
def Fre (ss ls P : List Nat) : Prop := rk (ss ++ P.map (img ls)) = rk ss + P.length
theorem Fre.perm {ss ls P Q : List Nat} (h : Fre ss ls P) (p : Q.Perm P) : Fre ss ls Q := by
  unfold Fre at *
  rw [p.length_eq, ← h]
  exact rk_perm ((p.map _).append_left ss)
theorem Fre.head {ss ls P Q : List Nat} (h : Fre ss ls (P ++ Q)) : Fre ss ls P := by
  unfold Fre at *
  rw [List.map_append, ← List.append_assoc, List.length_append] at h
  have a := rk_app_len (ss ++ P.map (img ls)) (Q.map (img ls))
  have b := rk_app_len ss (P.map (img ls))
  rw [List.length_map] at a b
  omega
theorem Fre.out {ss ls P : List Nat} {p : Nat} (h : Fre ss ls (P ++ [p])) : ¬ Spn (ss ++ P.map (img ls)) (img ls p) := by
  intro z
  have a := h.head
  unfold Fre at *
  rw [List.map_append, List.map_singleton, ← List.append_assoc, rk_snoc_in z, List.length_append] at h
  simp only [List.length_singleton] at h
  omega
theorem ldr_free (ss ls ws : List Nat) : Fre ss ls (ldr ss ls (spn ws)) := by
  have a := (red_lft ss).rk ((ldr ss ls (spn ws)).map (img ls))
  rw [List.map_map] at a
  have b := ldr_rk ss ls ws
  unfold Fre
  have e : (fun x => lft (bas ss) (img ls x)) = lft (bas ss) ∘ img ls := rfl
  rw [e] at b
  omega
theorem ldr_spans {b : Nat} {ss ls ws : List Nat} (hs : ∀ x ∈ ss, x < 2 ^ b) (hl : ∀ x ∈ ls, x < 2 ^ b) (hw : ∀ x ∈ ws, x < 2 ^ b) (hb : b ≤ rk (ss ++ ls)) {w : Nat} (h : Spn ws w) : Spn (ss ++ (ldr ss ls (spn ws)).map (img ls)) w := by
  have wl : w < 2 ^ b := h.lt hw
  obtain ⟨s, q, h1, h2, rfl⟩ := span_split (in_full (ws := ss ++ ls) (fun w hw => (List.mem_append.mp hw).elim (hs w) (hl w)) hb wl)
  obtain ⟨x, hx, rfl⟩ := span_img (cols := ls) (Nat.le_refl _) (by rwa [List.take_length])
  have px : Spn (ss ++ ws) (img ls x) := by
    have a : Spn (ss ++ ws) (s ^^^ img ls x) := h.sub fun z hz => List.mem_append_right _ hz
    have c : Spn (ss ++ ws) s := h1.sub fun z hz => List.mem_append_left _ hz
    have := c.xor a
    rwa [xor_cancel] at this
  have pp : Spn (prt ss ls (spn ws)) x := (prt_span ss ls ws x).mpr ⟨hx, px⟩
  have R : Rws (twn ss ls) := spn_rws _
  have cs := cms_span R (prt ss ls (spn ws))
  have q2 : Spn (twn ss ls ++ ldr ss ls (spn ws)) x := (cs.2 x).mp ((cs.1 x).mpr (pp.sub fun z hz => List.mem_append_right _ hz))
  obtain ⟨t, y, ht, hy, rfl⟩ := span_split q2
  have i1 : Spn ss (img ls t) := ((twn_span ss ls t).mp ht).2
  have i2 : Spn ((ldr ss ls (spn ws)).map (img ls)) (img ls y) := (lin_img ls).spn hy
  rw [(lin_img ls).x, ← Nat.xor_assoc]
  exact ((h1.xor i1).sub fun z hz => List.mem_append_left _ hz).xor (i2.sub fun z hz => List.mem_append_right _ hz)
theorem coset_span {ws : List Nat} {x y : Nat} : lft (bas ws) x = lft (bas ws) y ↔ Spn ws (x ^^^ y) := by
  rw [← lft_bas, lft_xor]
  exact ⟨fun h => by rw [h, Nat.xor_self], fun h => xor_eq_zero h⟩
/-- behind all steps a lane knows of all entries of the cosets of which it holds one -/
theorem ent_all {b : Nat} {ss ls ws P : List Nat} (hs : ∀ x ∈ ss, x < 2 ^ b) (hl : ∀ x ∈ ls, x < 2 ^ b) (hw : ∀ x ∈ ws, x < 2 ^ b) (hb : b ≤ rk (ss ++ ls)) (hP : P.Perm (ldr ss ls (spn ws))) {L e0 e : Nat} (h0 : Ent ss ls [] L e0)
    (he : lft (bas ws) e = lft (bas ws) e0) : Ent ss ls P L e := by
  have a := ldr_spans hs hl hw hb (coset_span.mp he)
  have c : Spn (ss ++ P.map (img ls)) (e ^^^ e0) := a.sub fun z hz => by
    rcases List.mem_append.mp hz with hz | hz
    · exact List.mem_append_left _ hz
    · exact List.mem_append_right _ ((hP.map (img ls)).mem_iff.mpr hz)
  unfold Ent at *
  rw [List.map_nil, List.append_nil] at h0
  have d := c.xor (h0.sub (vs := ss ++ P.map (img ls)) fun z hz => List.mem_append_left _ hz)
  have e1 : e ^^^ e0 ^^^ (e0 ^^^ img ls L) = e ^^^ img ls L := by rw [Nat.xor_assoc, xor_cancel]
  rwa [e1] at d
/-- with one of the steps left out it lacks one of them -/
theorem ent_less {b : Nat} {ss ls ws P : List Nat} {p : Nat} (hs : ∀ x ∈ ss, x < 2 ^ b) (hl : ∀ x ∈ ls, x < 2 ^ b) (hw : ∀ x ∈ ws, x < 2 ^ b) (hP : ldr ss ls (spn ws) = p :: P) {L e0 : Nat} (h0 : Ent ss ls [] L e0) :
    ∃ e, e < 2 ^ b ∧ lft (bas ws) e = lft (bas ws) e0 ∧ ¬ Ent ss ls P L e := by
  have F : Fre ss ls (P ++ [p]) := (ldr_free ss ls ws).perm (by rw [hP]; exact List.perm_append_comm)
  have hp : p ∈ ldr ss ls (spn ws) := by rw [hP]; exact List.mem_cons_self
  have m := lft_bas.mp (ldr_mem hp).2
  obtain ⟨s, w, h1, h2, e1⟩ := span_split m
  refine ⟨e0 ^^^ w, Nat.xor_lt_two_pow (ent_lt hs hl h0) (h2.lt hw), coset_span.mpr ?_, fun z => F.out ?_⟩
  · rw [Nat.xor_comm e0, xor_cancel_right]; exact h2
  · unfold Ent at *
    rw [List.map_nil, List.append_nil] at h0
    have d := (z.xor (h0.sub (vs := ss ++ P.map (img ls)) fun z hz => List.mem_append_left _ hz)).xor (h1.sub (vs := ss ++ P.map (img ls)) fun z hz => List.mem_append_left _ hz)
    have e2 : e0 ^^^ w ^^^ img ls L ^^^ (e0 ^^^ img ls L) ^^^ s = img ls p := by
      rw [e1, Nat.xor_assoc e0 w, xor4, Nat.xor_self, Nat.zero_xor, xor_cancel_right, Nat.xor_comm]
    rwa [e2] at d
/-! ### masks -/
/-- the word with ones where p, below n -/
def mask (p : Nat → Bool) (n : Nat) : Nat := (((List.range n).filter p).map fun i => 1 <<< i).sum
theorem mask_bits (p : Nat → Bool) : ∀ n, mask p n = bitsOf p n
  | 0 => rfl
  | n + 1 => by
    have ih := mask_bits p n
    unfold mask at *
    rw [List.range_succ, List.filter_append, List.map_append, List.sum_append, ih]
    apply Nat.eq_of_testBit_eq
    intro i
    rw [bitsOf_bit]
    have lt := bitsOf_lt p n
    by_cases h : p n = true
    · have e : ((List.filter p [n]).map fun i => 1 <<< i).sum = 2 ^ n := by simp [h, Nat.one_shiftLeft]
      rw [e, Nat.add_comm]
      by_cases hi : i = n
      · subst hi
        rw [Nat.testBit_two_pow_add_eq, bitsOf_bit]
        simp [h]
      · rcases Nat.lt_or_gt_of_ne hi with hi | hi
        · rw [Nat.testBit_two_pow_add_gt hi, bitsOf_bit]
          have : i < n + 1 := by omega
          simp [hi, this]
        · rw [Nat.testBit_lt_two_pow]
          · simp; omega
          · have : 2 ^ (n + 1) ≤ 2 ^ i := Nat.pow_le_pow_right (by decide) hi
            rw [Nat.pow_succ] at this
            omega
    · have e : ((List.filter p [n]).map fun i => 1 <<< i).sum = 0 := by simp [h]
      rw [e, Nat.add_zero, bitsOf_bit]
      by_cases hi : i = n
      · subst hi; simp [h]
      · have : (i < n) ↔ (i < n + 1) := by omega
        simp [this]
theorem mask_bit (p : Nat → Bool) (n i : Nat) : (mask p n).testBit i = (decide (i < n) && p i) := by rw [mask_bits, bitsOf_bit]
theorem mask_lt (p : Nat → Bool) (n : Nat) : mask p n < 2 ^ n := by rw [mask_bits]; exact bitsOf_lt _ _
/-- m is the word of the entries of E whose coset is c -/
def Msk (rows : List Nat) (E : Nat → Prop) (c m : Nat) : Prop := ∀ e, m.testBit e = true ↔ E e ∧ lft rows e = c
theorem Msk.or {rows : List Nat} {E F : Nat → Prop} {c m n : Nat} (h : Msk rows E c m) (g : Msk rows F c n) : Msk rows (fun e => E e ∨ F e) c (m ||| n) := fun e => by
  rw [Nat.testBit_or, Bool.or_eq_true, h e, g e]
  constructor
  · rintro (⟨a, b⟩ | ⟨a, b⟩)
    · exact ⟨.inl a, b⟩
    · exact ⟨.inr a, b⟩
  · rintro ⟨a | a, b⟩
    · exact .inl ⟨a, b⟩
    · exact .inr ⟨a, b⟩
theorem Msk.and {rows : List Nat} {E F : Nat → Prop} {c m n : Nat} (h : Msk rows E c m) (g : Msk rows F c n) (d : ∀ e, E e → F e → False) : m &&& n = 0 := by
  apply Nat.eq_of_testBit_eq
  intro e
  rw [Nat.zero_testBit, Nat.testBit_and]
  cases h1 : m.testBit e with
  | false => rfl
  | true =>
    cases h2 : n.testBit e with
    | false => rfl
    | true => exact (d e ((h e).mp h1).1 ((g e).mp h2).1).elim
theorem Msk.zero {rows : List Nat} {E : Nat → Prop} {c : Nat} (h : ∀ e, E e → lft rows e ≠ c) : Msk rows E c 0 := fun e => by
  rw [Nat.zero_testBit]
  exact ⟨fun z => (by cases z), fun z => (h e z.1 z.2).elim⟩
theorem Msk.congr {rows : List Nat} {E F : Nat → Prop} {c m : Nat} (h : Msk rows E c m) (g : ∀ e, E e ↔ F e) : Msk rows F c m := fun e => by rw [h e, g e]
theorem Msk.unit {rows : List Nat} (e : Nat) : Msk rows (fun x => x = e) (lft rows e) (1 <<< e) := fun x => by
  rw [unit_bit, decide_eq_true_iff]
  exact ⟨fun h => by subst h; exact ⟨rfl, rfl⟩, fun h => h.1.symm⟩
theorem Msk.whole {rows : List Nat} {E : Nat → Prop} {c m n : Nat} (h : Msk rows E c m) (lt : ∀ e, E e → e < n) (all : ∀ e, e < n → lft rows e = c → E e) : m = mask (fun e => decide (lft rows e = c)) n := by
  apply Nat.eq_of_testBit_eq
  intro e
  rw [mask_bit, Bool.eq_iff_iff, h e, Bool.and_eq_true, decide_eq_true_iff, decide_eq_true_iff]
  exact ⟨fun z => ⟨lt e z.1, z.2⟩, fun z => ⟨all e z.1 z.2, z.2⟩⟩
theorem Msk.less {rows : List Nat} {E : Nat → Prop} {c m n : Nat} (h : Msk rows E c m) (ex : ∃ e, e < n ∧ lft rows e = c ∧ ¬ E e) : m ≠ mask (fun e => decide (lft rows e = c)) n := by
  obtain ⟨e, h1, h2, h3⟩ := ex
  rintro rfl
  have := (h e).mp (by rw [mask_bit]; simp [h1, h2])
  exact h3 this.1
end LaneX
set_option linter.all false
namespace LaneX
/-! ### drawn words that can be undone (k17 and the laws behind it) -/
theorem rk_of_inj {A : List Nat} (h : ∀ x, x < 2 ^ A.length → img A x = 0 → x = 0) : rk A = A.length := by
  have k := ker_len_eq A
  have z : ker A = [] := by
    cases e : ker A with
    | nil => rfl
    | cons r l =>
      have m : r ∈ ker A := by rw [e]; exact List.mem_cons_self
      have s := (ker_span A r).mp (.of m)
      exact absurd (h r s.1 s.2) ((ker_rws A).nz r m)
  rw [z] at k
  simpa using k
theorem imf_none {A : List Nat} {x : Nat} : ∀ n, (∀ i, i < n → x.testBit i = false) → imf A x n = 0
  | 0, _ => rfl
  | n + 1, h => by
    rw [imf_succ, h n (Nat.lt_succ_self n), if_neg (by decide)]
    exact imf_none n fun i hi => h i (Nat.lt_succ_of_lt hi)
/-- bit t stays where the columns behind n are 0 at it, or are not taken -/
theorem imf_stay {A : List Nat} {x t m : Nat} : ∀ k, (∀ i, m ≤ i → i < m + k → x.testBit i = true → (A.getD i 0).testBit t = false) → (imf A x (m + k)).testBit t = (imf A x m).testBit t
  | 0, _ => rfl
  | k + 1, h => by
    have ih := imf_stay k fun i h1 h2 h3 => h i h1 (by omega) h3
    show (imf A x (m + k + 1)).testBit t = _
    rw [imf_succ]
    by_cases e : x.testBit (m + k) = true
    · rw [if_pos e, Nat.testBit_xor, h (m + k) (by omega) (by omega) e, ih]; simp
    · rw [if_neg e, ih]
theorem low_below {n i : Nat} (h : n ≠ 0) (hi : i < low n) : n.testBit i = false := by
  induction n using Nat.strongRecOn generalizing i with
  | ind n ih =>
    unfold low at hi
    rw [dif_neg h] at hi
    split at hi
    · omega
    · rename_i h2
      cases i with
      | zero => rw [Nat.testBit_zero]; simp; omega
      | succ i =>
        rw [Nat.testBit_succ]
        exact ih (n / 2) (by omega) (by omega) (by omega)
/-- the columns' lowest bits are 0, 1, 2 .. -/
theorem rk_highs {A : List Nat} (h1 : ∀ i, i < A.length → (A.getD i 0).testBit i = true) (h2 : ∀ i j, i < A.length → j < i → (A.getD i 0).testBit j = false) : rk A = A.length := by
  refine rk_of_inj fun x hx e => Classical.byContradiction fun nz => ?_
  have lb := low_bit nz
  have ll : low x < A.length := by
    refine Nat.lt_of_not_le fun q => ?_
    have := Nat.testBit_lt_two_pow (Nat.lt_of_lt_of_le hx (Nat.pow_le_pow_right (by decide) q))
    rw [this] at lb; cases lb
  have a : imf A x (low x + 1) = A.getD (low x) 0 := by
    rw [imf_succ, if_pos lb, imf_none _ fun i hi => low_below nz hi, Nat.zero_xor]
  have c := imf_stay (A := A) (x := x) (t := low x) (m := low x + 1) (A.length - (low x + 1)) fun i h3 h4 _ => h2 i _ (by omega) (by omega)
  rw [show low x + 1 + (A.length - (low x + 1)) = A.length by omega, a, h1 _ ll] at c
  have d : (img A x).testBit (low x) = true := c
  rw [e] at d
  simp at d
/-- the columns' highest bits are 0, 1, 2 .. -/
theorem rk_lows {A : List Nat} (h1 : ∀ i, i < A.length → (A.getD i 0).testBit i = true) (h2 : ∀ i j, i < A.length → i < j → (A.getD i 0).testBit j = false) : rk A = A.length := by
  refine rk_of_inj fun x hx e => Classical.byContradiction fun nz => ?_
  have tb := testBit_top nz
  have tl : blen x - 1 < A.length := by
    have := blen_le.mpr hx
    have := blen_pos nz
    omega
  have a : (imf A x (blen x - 1)).testBit (blen x - 1) = false := by
    have c := imf_stay (A := A) (x := x) (t := blen x - 1) (m := 0) (blen x - 1) fun i _ h4 _ => h2 i _ (by omega) (by omega)
    rw [Nat.zero_add] at c
    rw [c]; exact Nat.zero_testBit _
  have a2 : (imf A x (blen x - 1 + 1)).testBit (blen x - 1) = true := by
    rw [imf_succ, if_pos tb, Nat.testBit_xor, a, h1 _ tl]; rfl
  have c := imf_stay (A := A) (x := x) (t := blen x - 1) (m := blen x - 1 + 1) (A.length - (blen x - 1 + 1)) fun i h3 h4 h5 => by
    rw [testBit_ge (by omega)] at h5; cases h5
  rw [show blen x - 1 + 1 + (A.length - (blen x - 1 + 1)) = A.length by omega, a2] at c
  have d : (img A x).testBit (blen x - 1) = true := c
  rw [e] at d
  simp at d
/-- M: as many words as bits, that can be undone -/
structure Mix (b : Nat) (M : List Nat) : Prop where
  len : M.length = b
  lt : ∀ x ∈ M, x < 2 ^ b
  rk : rk M = b
theorem Mix.perm {b : Nat} {M N : List Nat} (h : Mix b M) (p : N.Perm M) : Mix b N := ⟨p.length_eq.trans h.len, fun x hx => h.lt x (p.mem_iff.mp hx), (rk_perm p).trans h.rk⟩
theorem mix_units (b : Nat) : Mix b (units b) := ⟨by simp [units], fun x hx => by
  obtain ⟨i, hi, rfl⟩ := List.mem_map.mp hx
  rw [Nat.one_shiftLeft]
  exact Nat.pow_lt_pow_right (by decide) (List.mem_range.mp hi), units_rk b⟩
theorem mix_comp {b : Nat} {A B : List Nat} (hA : Mix b A) (hB : Mix b B) : Mix b (B.map (img A)) := by
  have l : (B.map (img A)).length = b := by rw [List.length_map, hB.len]
  refine ⟨l, fun x hx => ?_, ?_⟩
  · obtain ⟨y, _, rfl⟩ := List.mem_map.mp hx
    exact imf_lt hA.lt _ _
  · rw [rk_of_inj fun x hx e => ?_, l]
    rw [img_map (lin_img A)] at e
    rw [l] at hx
    have lt : img B x < 2 ^ A.length := by rw [hA.len]; exact imf_lt hB.lt _ _
    have z := ind_inj (by rw [hA.rk, hA.len]) lt e
    exact ind_inj (by rw [hB.rk, hB.len]) (by rw [hB.len]; exact hx) z
def hiw (w i : Nat) : Nat := 1 <<< i ||| (w >>> (i + 1)) <<< (i + 1)
def low' (w i : Nat) : Nat := 1 <<< i ||| (w &&& (1 <<< i - 1))
theorem hiw_bit (w i j : Nat) : (hiw w i).testBit j = (decide (i = j) || (decide (i + 1 ≤ j) && w.testBit j)) := by
  unfold hiw
  rw [Nat.testBit_or, unit_bit, Nat.testBit_shiftLeft]
  by_cases h : i + 1 ≤ j
  · rw [Nat.testBit_shiftRight, show i + 1 + (j - (i + 1)) = j by omega]
  · have : decide (j ≥ i + 1) = false := by simp; omega
    rw [this]; simp
theorem low'_bit (w i j : Nat) : (low' w i).testBit j = (decide (i = j) || (decide (j < i) && w.testBit j)) := by
  unfold low'
  rw [Nat.testBit_or, unit_bit, Nat.testBit_and, Nat.one_shiftLeft, Nat.testBit_two_pow_sub_one, Bool.and_comm (w.testBit j)]
theorem lt_of_bits {x b : Nat} (h : ∀ j, b ≤ j → x.testBit j = false) : x < 2 ^ b := Nat.lt_of_not_le fun q => by
  have nz : x ≠ 0 := fun z => by rw [z] at q; have := Nat.two_pow_pos b; omega
  have : b < blen x := Nat.lt_of_not_le fun z => by have := blen_le.mp z; omega
  have t := testBit_top nz
  rw [h _ (by omega)] at t; cases t
theorem hiw_lt {w i b : Nat} (hw : w < 2 ^ b) (hi : i < b) : hiw w i < 2 ^ b := lt_of_bits fun j hj => by
  rw [hiw_bit, Nat.testBit_lt_two_pow (Nat.lt_of_lt_of_le hw (Nat.pow_le_pow_right (by decide) hj))]
  have : decide (i = j) = false := by simp; omega
  rw [this]; simp
theorem low'_lt {w i b : Nat} (hi : i < b) : low' w i < 2 ^ b := lt_of_bits fun j hj => by
  rw [low'_bit]
  have : decide (i = j) = false := by simp; omega
  have : decide (j < i) = false := by simp; omega
  simp [*]
theorem map_range_getD (f : Nat → Nat) {b i : Nat} (h : i < b) : ((List.range b).map f).getD i 0 = f i := by
  rw [List.getD_eq_getElem?_getD, List.getElem?_map, List.getElem?_range h]; rfl
theorem mix_highs {b : Nat} {w : Nat → Nat} (hw : ∀ i, i < b → w i < 2 ^ b) : Mix b ((List.range b).map fun i => hiw (w i) i) := by
  have l : ((List.range b).map fun i => hiw (w i) i).length = b := by simp
  refine ⟨l, fun x hx => ?_, ?_⟩
  · obtain ⟨i, hi, rfl⟩ := List.mem_map.mp hx
    exact hiw_lt (hw i (List.mem_range.mp hi)) (List.mem_range.mp hi)
  · rw [rk_highs (fun i hi => ?_) (fun i j hi hj => ?_), l]
    · rw [l] at hi
      rw [map_range_getD _ hi, hiw_bit]; simp
    · rw [l] at hi
      rw [map_range_getD _ hi, hiw_bit]
      have : decide (i = j) = false := by simp; omega
      have : decide (i + 1 ≤ j) = false := by simp; omega
      simp [*]
theorem mix_lows {b : Nat} (w : Nat → Nat) : Mix b ((List.range b).map fun i => low' (w i) i) := by
  have l : ((List.range b).map fun i => low' (w i) i).length = b := by simp
  refine ⟨l, fun x hx => ?_, ?_⟩
  · obtain ⟨i, hi, rfl⟩ := List.mem_map.mp hx
    exact low'_lt (List.mem_range.mp hi)
  · rw [rk_lows (fun i hi => ?_) (fun i j hi hj => ?_), l]
    · rw [l] at hi
      rw [map_range_getD _ hi, low'_bit]; simp
    · rw [l] at hi
      rw [map_range_getD _ hi, low'_bit]
      have : decide (i = j) = false := by simp; omega
      have : decide (j < i) = false := by simp; omega
      simp [*]
/-- a list taken in another order -/
theorem perm_order {b : Nat} {o M : List Nat} (p : o.Perm (List.range b)) (l : M.length = b) : (o.map fun i => M.getD i 0).Perm M := by
  have a := p.map fun i => M.getD i 0
  have e : (List.range b).map (fun i => M.getD i 0) = M := by
    refine List.ext_getElem (by simp [l]) fun i h1 h2 => ?_
    rw [List.getElem_map, List.getElem_range, List.getD_eq_getElem?_getD, List.getElem?_eq_getElem h2]; rfl
  rwa [e] at a
/-- sums by words that can be undone span the same -/
theorem Mix.span {b : Nat} {M W : List Nat} (h : Mix b M) (l : W.length = b) (x : Nat) : Spn (M.map (img W)) x ↔ Spn W x := by
  constructor
  · intro hx
    refine hx.mono fun y hy => ?_
    obtain ⟨z, hz, rfl⟩ := List.mem_map.mp hy
    have := img_span (cols := W) (Nat.le_refl _) (by rw [l]; exact h.lt z hz)
    rwa [List.take_length] at this
  · intro hx
    obtain ⟨y, hy, rfl⟩ := span_img (cols := W) (Nat.le_refl _) (by rwa [List.take_length])
    exact (lin_img W).spn (in_full h.lt (Nat.le_of_eq h.rk.symm) (by rw [← l]; exact hy))
theorem img_in (W : List Nat) {z : Nat} (h : z < 2 ^ W.length) : Spn W (img W z) := by
  have := img_span (cols := W) (Nat.le_refl _) h
  rwa [List.take_length] at this
/-- one more word of the span, anywhere -/
theorem span_more {A B : List Nat} {w : Nat} (p : B.Perm (w :: A)) (h : Spn A w) (x : Nat) : Spn B x ↔ Spn A x := by
  constructor
  · intro hx
    refine hx.mono fun y hy => ?_
    rcases List.mem_cons.mp (p.mem_iff.mp hy) with rfl | hy
    · exact h
    · exact .of hy
  · exact fun hx => hx.sub fun y hy => p.mem_iff.mpr (List.mem_cons_of_mem _ hy)
/-- each word with a sum of others: beside these the same span -/
theorem span_shift {S A : List Nat} {n : Nat} {f g : Nat → Nat} (h : ∀ i, i < n → Spn S (f i ^^^ g i)) (x : Nat) : Spn (S ++ (List.range n).map f) x ↔ Spn (S ++ (List.range n).map g) x := by
  have one : ∀ {f g : Nat → Nat}, (∀ i, i < n → Spn S (f i ^^^ g i)) → ∀ x, Spn (S ++ (List.range n).map f) x → Spn (S ++ (List.range n).map g) x := by
    intro f g h x hx
    refine hx.mono fun y hy => ?_
    rcases List.mem_append.mp hy with hy | hy
    · exact .of (List.mem_append_left _ hy)
    · obtain ⟨i, hi, rfl⟩ := List.mem_map.mp hy
      have a : Spn (S ++ (List.range n).map g) (f i ^^^ g i) := (h i (List.mem_range.mp hi)).sub fun z hz => List.mem_append_left _ hz
      have c : Spn (S ++ (List.range n).map g) (g i) := .of (List.mem_append_right _ (List.mem_map.mpr ⟨i, hi, rfl⟩))
      have := a.xor c
      rwa [xor_cancel_right] at this
  exact ⟨one h x, one (fun i hi => by rw [Nat.xor_comm]; exact h i hi) x⟩
end LaneX
set_option linter.all false
namespace LaneX
/-! ### the law's own rows by min (k17 and others) -/
def les (rows : List Nat) (w : Nat) : Nat := rows.foldl (fun l r => min l (l ^^^ r)) w
theorem lt_bit {x y i : Nat} (hx : x.testBit i = false) (hy : y.testBit i = true) (h : ∀ j, i < j → x.testBit j = y.testBit j) : x < y := by
  have e1 : x >>> (i + 1) = y >>> (i + 1) := by
    apply Nat.eq_of_testBit_eq
    intro j
    rw [Nat.testBit_shiftRight, Nat.testBit_shiftRight]
    exact h _ (by omega)
  rw [Nat.shiftRight_eq_div_pow, Nat.shiftRight_eq_div_pow] at e1
  have p := Nat.two_pow_pos i
  have q : (2 : Nat) ^ (i + 1) = 2 * 2 ^ i := by rw [Nat.pow_succ]; omega
  have a : x % 2 ^ (i + 1) < 2 ^ i := by
    refine lt_of_bits fun j hj => ?_
    rw [Nat.testBit_mod_two_pow]
    by_cases z : j < i + 1
    · have : j = i := by omega
      subst this; simp [hx]
    · simp [z]
  have c : 2 ^ i ≤ y % 2 ^ (i + 1) := by
    refine Nat.ge_two_pow_of_testBit ?_
    rw [Nat.testBit_mod_two_pow, hy]; simp
  have d1 := Nat.div_add_mod x (2 ^ (i + 1))
  have d2 := Nat.div_add_mod y (2 ^ (i + 1))
  rw [e1] at d1
  omega
theorem min_xor {l r : Nat} (h : r ≠ 0) : min l (l ^^^ r) = if l.testBit (blen r - 1) = true then l ^^^ r else l := by
  have t := testBit_top h
  have above : ∀ j, blen r - 1 < j → (l ^^^ r).testBit j = l.testBit j := fun j hj => by
    rw [Nat.testBit_xor, testBit_ge (n := r) (by omega)]; simp
  by_cases e : l.testBit (blen r - 1) = true
  · rw [if_pos e]
    have : l ^^^ r < l := lt_bit (i := blen r - 1) (by rw [Nat.testBit_xor, e, t]; rfl) e fun j hj => above j hj
    omega
  · rw [if_neg e]
    have e' : l.testBit (blen r - 1) = false := by simpa using e
    have : l < l ^^^ r := lt_bit (i := blen r - 1) e' (by rw [Nat.testBit_xor, e', t]; rfl) fun j hj => (above j hj).symm
    omega
theorem les_clr : ∀ {rows : List Nat} (w : Nat), (∀ r ∈ rows, r ≠ 0) → les rows w = clr rows w
  | [], w, _ => rfl
  | r :: rs, w, h => by
    have ih := les_clr (rows := rs) (min w (w ^^^ r)) fun s hs => h s (List.mem_cons_of_mem _ hs)
    show les rs (min w (w ^^^ r)) = clr rs (if w.testBit (blen r - 1) = true then w ^^^ r else w)
    rw [ih, min_xor (h r List.mem_cons_self)]
def rwstep (rows : List Nat) (w : Nat) : List Nat := if clr rows w = 0 then rows else rows ++ [clr rows w]
def rws (ws : List Nat) : List Nat := ws.foldl rwstep []
theorem rws_snoc (a : List Nat) (w : Nat) : rws (a ++ [w]) = rwstep (rws a) w := List.foldl_append ..
/-- none is 0, later ones are 0 at the highest bits of earlier ones -/
structure Hws (rows : List Nat) : Prop where
  nz : ∀ r ∈ rows, r ≠ 0
  red : rows.Pairwise fun r s => s.testBit (blen r - 1) = false
theorem Hws.nil : Hws [] := ⟨fun _ h => (by cases h), .nil⟩
theorem Hws.tops : ∀ {rows : List Nat} {x : Nat}, Hws rows → ∀ r ∈ rows, (clr rows x).testBit (blen r - 1) = false
  | [], x, _, r, h => by cases h
  | s :: rs, x, R, r, h => by
    have hp := List.pairwise_cons.mp R.red
    have R' : Hws rs := ⟨fun t ht => R.nz t (.tail _ ht), hp.2⟩
    rw [clr_cons]
    rcases List.mem_cons.mp h with rfl | h
    · rw [clr_bit fun t ht => hp.1 t ht, Nat.testBit_xor]
      have := testBit_top (R.nz r (.head _))
      cases q : x.testBit (blen r - 1) <;> simp [bx, this]
    · exact R'.tops r h
theorem Hws.self : ∀ {rows : List Nat}, Hws rows → ∀ r ∈ rows, clr rows r = 0
  | [], _, r, h => by cases h
  | s :: rs, R, r, h => by
    have hp := List.pairwise_cons.mp R.red
    have R' : Hws rs := ⟨fun t ht => R.nz t (.tail _ ht), hp.2⟩
    rw [clr_cons]
    rcases List.mem_cons.mp h with rfl | h
    · rw [testBit_top (R.nz r (.head _))]
      simp [bx, clr_zero]
    · rw [hp.1 r h]
      simp only [bx, Bool.false_eq_true, if_false, Nat.xor_zero]
      exact R'.self r h
theorem Hws.span {rows : List Nat} (R : Hws rows) {x : Nat} : Spn rows x ↔ clr rows x = 0 := by
  constructor
  · intro h
    induction h with
    | zero => exact clr_zero rows
    | add hw _ ih => rw [clr_xor, ih, R.self _ hw]; rfl
  · intro h
    have := spn_clr rows x
    rwa [h, Nat.xor_zero] at this
theorem Hws.step {rows : List Nat} (R : Hws rows) (w : Nat) : Hws (rwstep rows w) := by
  unfold rwstep
  split
  · exact R
  · rename_i h
    refine ⟨fun r hr => ?_, List.pairwise_append.mpr ⟨R.red, by simp, fun r hr s hs => ?_⟩⟩
    · rcases List.mem_append.mp hr with hr | hr
      · exact R.nz r hr
      · rcases List.mem_singleton.mp hr with rfl; exact h
    · rcases List.mem_singleton.mp hs with rfl
      exact R.tops r hr
theorem Hws.ind {rows : List Nat} (R : Hws rows) : Ind rows := by
  have : ∀ n (l : List Nat), l.length = n → Hws l → Ind l := by
    intro n
    induction n with
    | zero => intro l hl _; rw [List.length_eq_zero_iff.mp hl]; exact .nil
    | succ n ih =>
      intro l hl L
      have hne : l ≠ [] := fun e => by rw [e] at hl; cases hl
      have e := List.dropLast_concat_getLast hne
      rw [← e] at L ⊢
      have hp := List.pairwise_append.mp L.red
      have L' : Hws l.dropLast := ⟨fun r hr => L.nz r (List.mem_append_left _ hr), hp.1⟩
      refine .snoc (ih _ (by rw [List.length_dropLast, hl]; rfl) L') fun hs => ?_
      have z := L'.span.mp hs
      rw [clr_of_none fun r hr => hp.2.2 r hr _ (List.mem_singleton_self _)] at z
      exact L.nz _ (List.mem_append_right _ (List.mem_singleton_self _)) z
  exact this _ rows rfl R
theorem rws_hws (ws : List Nat) : Hws (rws ws) := snoc_rec (p := fun l => Hws (rws l)) Hws.nil (fun a x ih => by rw [rws_snoc]; exact ih.step x) ws
/-- a word against what is left of it -/
theorem span_trade {rows : List Nat} {w l : Nat} (h : Spn rows (w ^^^ l)) (x : Nat) : Spn (rows ++ [l]) x ↔ Spn (rows ++ [w]) x := by
  rw [span_snoc, span_snoc]
  have e : ∀ a c : Nat, Spn rows (a ^^^ c) → Spn rows (x ^^^ a) → Spn rows (x ^^^ c) := fun a c h1 h2 => by
    have := h2.xor h1
    rwa [Nat.xor_assoc, xor_cancel] at this
  constructor
  · rintro (z | z)
    · exact .inl z
    · exact .inr (e l w (by rw [Nat.xor_comm]; exact h) z)
  · rintro (z | z)
    · exact .inl z
    · exact .inr (e w l h z)
theorem rwstep_span (rows : List Nat) (w x : Nat) : Spn (rwstep rows w) x ↔ Spn (rows ++ [w]) x := by
  have hw := spn_clr rows w
  unfold rwstep
  split
  · rename_i h
    rw [h, Nat.xor_zero] at hw
    rw [span_snoc]
    constructor
    · exact .inl
    · rintro (z | z)
      · exact z
      · have := z.xor hw
        rwa [xor_cancel_right] at this
  · exact span_trade hw x
theorem rws_span (ws : List Nat) : ∀ x, Spn (rws ws) x ↔ Spn ws x := snoc_rec (p := fun l => ∀ x, Spn (rws l) x ↔ Spn l x) (fun x => Iff.rfl) (fun a w ih x => by rw [rws_snoc, rwstep_span, span_app ih]) ws
theorem rws_len (ws : List Nat) : (rws ws).length = rk ws := by rw [← (rws_hws ws).ind.rk]; exact rk_eq (rws_span ws)
theorem rws_len_le (ws : List Nat) : (rws ws).length ≤ ws.length := by rw [rws_len]; exact rk_len ws
/-! ### all sums of some words -/
def sev (rows : List Nat) : List Nat := rows.foldl (fun f w => f ++ f.map fun x => x ^^^ w) [0]
theorem sev_snoc (a : List Nat) (w : Nat) : sev (a ++ [w]) = sev a ++ (sev a).map fun x => x ^^^ w := List.foldl_append ..
theorem sev_len (rows : List Nat) : (sev rows).length = 2 ^ rows.length := snoc_rec (p := fun l => (sev l).length = 2 ^ l.length) rfl (fun a w ih => by
  rw [sev_snoc, List.length_append, List.length_map, ih, List.length_append, List.length_singleton, Nat.pow_succ]; omega) rows
theorem sev_mem (rows : List Nat) : ∀ x, x ∈ sev rows ↔ Spn rows x := snoc_rec (p := fun l => ∀ x, x ∈ sev l ↔ Spn l x) (fun x => by
    show x ∈ [0] ↔ _
    rw [List.mem_singleton]
    exact ⟨fun h => by rw [h]; exact .zero, fun h => h.nil⟩) (fun a w ih x => by
  rw [sev_snoc, List.mem_append, ih, span_snoc]
  constructor
  · rintro (h | h)
    · exact .inl h
    · obtain ⟨y, hy, rfl⟩ := List.mem_map.mp h
      rw [xor_cancel_right]
      exact .inr ((ih y).mp hy)
  · rintro (h | h)
    · exact .inl h
    · exact .inr (List.mem_map.mpr ⟨_, (ih _).mpr h, xor_cancel_right x w⟩)) rows
theorem nodup_xor {l : List Nat} (h : l.Nodup) (w : Nat) : (l.map fun x => x ^^^ w).Nodup := by
  unfold List.Nodup
  rw [List.pairwise_map]
  exact h.imp fun n e => n (by have := congrArg (· ^^^ w) e; simpa [xor_cancel_right] using this)
theorem nodup_xorL {l : List Nat} (h : l.Nodup) (w : Nat) : (l.map fun x => w ^^^ x).Nodup := by
  have : (l.map fun x => w ^^^ x) = l.map fun x => x ^^^ w := List.map_congr_left fun x _ => Nat.xor_comm w x
  rw [this]; exact nodup_xor h w
theorem sev_nodup {rows : List Nat} (h : Ind rows) : (sev rows).Nodup := by
  induction h with
  | nil => show [0].Nodup; simp
  | @snoc a w _ hw ih =>
    rw [sev_snoc]
    refine List.nodup_append.mpr ⟨ih, nodup_xor ih w, fun x hx y hy e => hw ?_⟩
    subst e
    obtain ⟨z, hz, e⟩ := List.mem_map.mp hy
    have c := ((sev_mem a _).mp hx).xor ((sev_mem a _).mp hz)
    rw [← e] at c
    have e2 : z ^^^ w ^^^ z = w := by rw [Nat.xor_comm z w, xor_cancel_right]
    rwa [e2] at c
/-! ### the meet, as a span -/
theorem mtd_span {b : Nat} {A B : List Nat} (lt : ∀ x ∈ A, x < 2 ^ b) (x : Nat) : Spn (mtd b A B) x ↔ Spn A x ∧ Spn B x := by
  have L1 : Lin (fun r => (r <<< b) ^^^ r) := ⟨by simp, fun a c => by rw [Nat.shiftLeft_xor_distrib, xor4]⟩
  have L2 : Lin (fun r => r <<< b) := ⟨by simp, fun a c => Nat.shiftLeft_xor_distrib⟩
  have e1 : (A.map fun r => (r <<< b) + r) = A.map fun r => (r <<< b) ^^^ r := List.map_congr_left fun r hr => add_eq_xor (lt r hr)
  unfold mtd
  rw [(spn_rws _).low_span, spn_span]
  unfold mts
  rw [e1]
  constructor
  · rintro ⟨h, hx⟩
    obtain ⟨p, q, h1, h2, rfl⟩ := span_split h
    obtain ⟨y, hy, rfl⟩ := L1.back h1
    obtain ⟨z, hz, rfl⟩ := L2.back h2
    have hyb := hy.lt lt
    have e2 : (y <<< b ^^^ y) ^^^ z <<< b = ((y ^^^ z) <<< b) ^^^ y := by
      rw [Nat.shiftLeft_xor_distrib, Nat.xor_assoc, Nat.xor_comm y, ← Nat.xor_assoc]
    have hx' : ((y ^^^ z) <<< b) ^^^ y < 2 ^ b := by rw [← e2]; exact hx
    have hs : (y ^^^ z) <<< b < 2 ^ b := by
      have := Nat.xor_lt_two_pow hx' hyb
      rwa [xor_cancel_right] at this
    have z0 : y ^^^ z = 0 := by
      rw [Nat.shiftLeft_eq] at hs
      have pb := Nat.two_pow_pos b
      rcases Nat.eq_zero_or_pos (y ^^^ z) with h0 | h0
      · exact h0
      · have : 1 * 2 ^ b ≤ (y ^^^ z) * 2 ^ b := Nat.mul_le_mul_right _ h0
        omega
    show Spn A ((y <<< b ^^^ y) ^^^ z <<< b) ∧ Spn B ((y <<< b ^^^ y) ^^^ z <<< b)
    rw [e2, z0, Nat.zero_shiftLeft, Nat.zero_xor]
    exact ⟨hy, by rw [xor_eq_zero z0]; exact hz⟩
  · rintro ⟨h1, h2⟩
    refine ⟨?_, h1.lt lt⟩
    have a := (L1.spn h1).sub (vs := A.map (fun r => (r <<< b) ^^^ r) ++ B.map fun r => r <<< b) fun z hz => List.mem_append_left _ hz
    have c := (L2.spn h2).sub (vs := A.map (fun r => (r <<< b) ^^^ r) ++ B.map fun r => r <<< b) fun z hz => List.mem_append_right _ hz
    have d := a.xor c
    have e3 : (x <<< b ^^^ x) ^^^ x <<< b = x := by rw [Nat.xor_comm (x <<< b) x, xor_cancel_right]
    have d' : Spn (A.map (fun r => (r <<< b) ^^^ r) ++ B.map fun r => r <<< b) ((x <<< b ^^^ x) ^^^ x <<< b) := d
    rwa [e3] at d'
/-! ### what a lane lacks, by counting -/
theorem len_of_mem {l m : List Nat} (h1 : l.Nodup) (h2 : m.Nodup) (h : ∀ x, x ∈ l ↔ x ∈ m) : l.length = m.length :=
  Nat.le_antisymm (nodup_sub_len h1 fun x hx => (h x).mp hx) (nodup_sub_len h2 fun x hx => (h x).mpr hx)
theorem filter_not_len (l : List Nat) (p : Nat → Bool) : (l.filter fun x => !p x).length = l.length - (l.filter p).length := by
  have := filter_two p l
  omega
section
variable {b : Nat} {ss os : List Nat}
def shr (ss os : List Nat) : Nat := rk ss + rk os - rk (ss ++ os)
theorem mtd_shr (hs : ∀ x ∈ ss, x < 2 ^ b) : (mtd b (spn ss) (spn os)).length = shr ss os := by
  have a := mtd_len (b := b) (spn_rws ss) (spn_rws os) (spn_lt hs)
  have e : rk (spn ss ++ spn os) = rk (ss ++ os) := rk_eq fun x => span_app2 (spn_span ss) (spn_span os)
  rw [e] at a
  unfold shr
  have h1 : (spn ss).length = rk ss := rfl
  have h2 : (spn os).length = rk os := rfl
  omega
/-- of the sums of os those that lie in a coset of ss -/
theorem count_in (hs : ∀ x ∈ ss, x < 2 ^ b) {T : List Nat} (nd : T.Nodup) (mem : ∀ x, x ∈ T ↔ Spn os x) {d : Nat} (hd : Spn (ss ++ os) d) {q : Nat → Bool} (hq : ∀ w, q w = true ↔ Spn ss (d ^^^ w)) : (T.filter q).length = 2 ^ shr ss os := by
  obtain ⟨s, o, h1, h2, rfl⟩ := span_split hd
  rw [← mtd_shr hs, ← sev_len]
  have e : (sev (mtd b (spn ss) (spn os))).length = ((sev (mtd b (spn ss) (spn os))).map fun x => x ^^^ o).length := by simp
  rw [e]
  refine len_of_mem (nd.filter _) (nodup_xor (sev_nodup (mtd_rws _ _ _).ind) o) fun x => ?_
  rw [List.mem_filter, mem, hq, List.mem_map]
  have key : ∀ y, Spn (mtd b (spn ss) (spn os)) y ↔ Spn ss y ∧ Spn os y := fun y => by rw [mtd_span (spn_lt hs), spn_span, spn_span]
  constructor
  · rintro ⟨h3, h4⟩
    refine ⟨x ^^^ o, (sev_mem _ _).mpr ((key _).mpr ⟨?_, h3.xor h2⟩), xor_cancel_right _ _⟩
    have := h1.xor h4
    rw [Nat.xor_assoc, xor_cancel, Nat.xor_comm] at this
    exact this
  · rintro ⟨y, hy, rfl⟩
    have := (key y).mp ((sev_mem _ _).mp hy)
    refine ⟨this.2.xor h2, ?_⟩
    have e : s ^^^ o ^^^ (y ^^^ o) = s ^^^ y := by rw [xor4, Nat.xor_self, Nat.xor_zero]
    rw [e]
    exact h1.xor this.1
theorem count_out {T : List Nat} (mem : ∀ x, x ∈ T ↔ Spn os x) {d : Nat} (hd : ¬ Spn (ss ++ os) d) {q : Nat → Bool} (hq : ∀ w, q w = true ↔ Spn ss (d ^^^ w)) : (T.filter q).length = 0 := by
  rw [List.length_eq_zero_iff, List.filter_eq_nil_iff]
  intro w hw z
  refine hd ?_
  have a := ((hq w).mp z).sub (vs := ss ++ os) fun y hy => List.mem_append_left _ hy
  have c := ((mem w).mp hw).sub (vs := ss ++ os) fun y hy => List.mem_append_right _ hy
  have := a.xor c
  rwa [xor_cancel_right] at this
end
/-- the entries of a lane, by listing -/
def lot (ss ls : List Nat) (L : Nat) : List Nat := (sev (rws ss)).map fun w => img ls L ^^^ w
theorem sevr_mem (ss : List Nat) (x : Nat) : x ∈ sev (rws ss) ↔ Spn ss x := by rw [sev_mem, rws_span]
theorem lot_mem (ss ls : List Nat) (L e : Nat) : e ∈ lot ss ls L ↔ Spn ss (img ls L ^^^ e) := by
  unfold lot
  rw [List.mem_map]
  constructor
  · rintro ⟨w, hw, rfl⟩
    rw [xor_cancel]; exact (sevr_mem ss w).mp hw
  · intro h
    exact ⟨_, (sevr_mem ss _).mpr h, xor_cancel _ _⟩
def lsm (ls ps : List Nat) : List Nat := (List.range ls.length).map fun i => ls.getD i 0 ^^^ ps.getD i 0
theorem lsm_len (ls ps : List Nat) : (lsm ls ps).length = ls.length := by simp [lsm]
theorem img_lsm {ls ps : List Nat} (h : ls.length = ps.length) (L : Nat) : img (lsm ls ps) L = img ls L ^^^ img ps L := by
  unfold img
  rw [lsm_len, ← h]
  exact imf_add fun i hi => map_range_getD _ hi
def due (ss ls os ps : List Nat) (L : Nat) : Nat := ((lot os ps L).filter fun e => !decide (e ∈ lot ss ls L)).length
open Classical in
theorem due_eq {b : Nat} {ss ls os ps : List Nat} (hs : ∀ x ∈ ss, x < 2 ^ b) (h : ls.length = ps.length) (L : Nat) : due ss ls os ps L = if Spn (ss ++ os) (img (lsm ls ps) L) then 2 ^ rk os - 2 ^ shr ss os else 2 ^ rk os := by
  unfold due
  rw [filter_not_len]
  have nd := sev_nodup (rws_hws os).ind
  have hq : ∀ w, (fun w => decide (img ps L ^^^ w ∈ lot ss ls L)) w = true ↔ Spn ss (img (lsm ls ps) L ^^^ w) := fun w => by
    rw [decide_eq_true_iff, lot_mem, img_lsm h, Nat.xor_assoc]
  have e : ((lot os ps L).filter fun e => decide (e ∈ lot ss ls L)).length = ((sev (rws os)).filter fun w => decide (img ps L ^^^ w ∈ lot ss ls L)).length := by
    unfold lot
    rw [List.filter_map, List.length_map]
    rfl
  have l : (lot os ps L).length = 2 ^ rk os := by
    unfold lot
    rw [List.length_map, sev_len, rws_len]
  rw [e, l]
  split
  · rename_i hd
    rw [count_in hs nd (sevr_mem os) hd hq]
  · rename_i hd
    rw [count_out (sevr_mem os) hd hq, Nat.sub_zero]
/-! ### the least lane that keeps nothing -/
/-- j is the least bit that is no row's highest -/
def Mis (rows : List Nat) (j : Nat) : Prop := (∀ i, i < j → ∃ r ∈ rows, blen r - 1 = i) ∧ ∀ r ∈ rows, blen r - 1 ≠ j
theorem mis_le {rows : List Nat} {j : Nat} (h : ∀ i, i < j → ∃ r ∈ rows, blen r - 1 = i) : j ≤ rows.length := by
  have := nodup_sub_len (l := List.range j) (m := rows.map fun r => blen r - 1) List.nodup_range fun i hi => by
    obtain ⟨r, hr, e⟩ := h i (List.mem_range.mp hi)
    exact List.mem_map.mpr ⟨r, hr, e⟩
  simpa using this
theorem Mis.below {rows : List Nat} (R : Rws rows) {j : Nat} (h : Mis rows j) {x : Nat} (hx : x < 2 ^ j) : Spn rows x := by
  have F := R.low j
  have l : j ≤ (rows.filter fun r => decide (blen r ≤ j)).length := mis_le fun i hi => by
    obtain ⟨r, hr, e⟩ := h.1 i hi
    have := blen_pos (R.nz r hr)
    exact ⟨r, List.mem_filter.mpr ⟨hr, decide_eq_true (by omega)⟩, e⟩
  have := in_full (ws := rows.filter fun r => decide (blen r ≤ j)) (b := j) (fun w hw => blen_le.mp (of_decide_eq_true (List.mem_filter.mp hw).2)) (by rw [spn_id F]; exact l) hx
  exact this.sub fun z hz => (List.mem_filter.mp hz).1
theorem Mis.at_ {rows : List Nat} (R : Rws rows) {j : Nat} (h : Mis rows j) : ¬ Spn rows (2 ^ j) := fun z => by
  obtain ⟨r, hr, e⟩ := R.top_mem z (Nat.ne_of_gt (Nat.two_pow_pos j))
  have e2 : blen (2 ^ j) = j + 1 := by rw [← Nat.one_shiftLeft]; exact blen_unit j
  exact h.2 r hr (by omega)
theorem allin_img {S W : List Nat} (h : ∀ w ∈ W, Spn S w) (L : Nat) : Spn S (img W L) := by
  unfold img
  generalize W.length = n
  induction n with
  | zero => exact .zero
  | succ n ih =>
    rw [imf_succ]
    split
    · refine ih.xor ?_
      by_cases hn : n < W.length
      · exact h _ (getD_mem hn)
      · rw [List.getD_eq_getElem?_getD, List.getElem?_eq_none (by omega)]; exact .zero
    · exact ih
open Classical in
/-- fewest rounds -/
noncomputable def fwr (ss ls os ps : List Nat) : Nat := if ∀ w ∈ lsm ls ps, Spn (ss ++ os) w then 2 ^ rk os - 2 ^ shr ss os else 2 ^ rk os
section
variable {b : Nat} {ss ls os ps : List Nat} (hs : ∀ x ∈ ss, x < 2 ^ b) (hl : ls.length = ps.length)
include hs hl
open Classical in
theorem due_le (L : Nat) : due ss ls os ps L ≤ fwr ss ls os ps := by
  rw [due_eq hs hl]
  unfold fwr
  by_cases h : ∀ w ∈ lsm ls ps, Spn (ss ++ os) w
  · rw [if_pos h, if_pos (allin_img h L)]; exact Nat.le_refl _
  · rw [if_neg h]
    split
    · exact Nat.sub_le _ _
    · exact Nat.le_refl _
theorem due_all (h : ∀ w ∈ lsm ls ps, Spn (ss ++ os) w) (L : Nat) : due ss ls os ps L = fwr ss ls os ps := by
  rw [due_eq hs hl]
  unfold fwr
  rw [if_pos h, if_pos (allin_img h L)]
theorem due_short {j : Nat} (h : ¬ ∀ w ∈ lsm ls ps, Spn (ss ++ os) w) (hj : Mis (ker ((lsm ls ps).map (clr (spn (ss ++ os))))) j) :
    j < ls.length ∧ due ss ls os ps (2 ^ j) = fwr ss ls os ps ∧ ∀ L, L < 2 ^ j → due ss ls os ps L ≠ fwr ss ls os ps := by
  have R := ker_rws ((lsm ls ps).map (clr (spn (ss ++ os))))
  have sp := span_clr_img (ss ++ os) (lsm ls ps)
  rw [lsm_len] at sp
  have jl : j < ls.length := by
    refine Nat.lt_of_not_le fun q => h fun w hw => ?_
    obtain ⟨i, hi, rfl⟩ := List.mem_map.mp hw
    have hi := List.mem_range.mp hi
    have u := (sp (2 ^ i)).mp (hj.below R (Nat.pow_lt_pow_right (by decide) (by omega)))
    have e := img_unit (lsm ls ps) (i := i) (by rw [lsm_len]; exact hi)
    have u2 := u.2
    rw [e] at u2
    have e2 : (lsm ls ps).getD i 0 = ls.getD i 0 ^^^ ps.getD i 0 := map_range_getD _ hi
    rwa [e2] at u2
  refine ⟨jl, ?_, fun L hL => ?_⟩
  · rw [due_eq hs hl]
    unfold fwr
    rw [if_neg h, if_neg fun z => hj.at_ R ((sp _).mpr ⟨Nat.pow_lt_pow_right (by decide) jl, z⟩)]
  · rw [due_eq hs hl]
    unfold fwr
    rw [if_neg h, if_pos ((sp _).mp (hj.below R hL)).2]
    have := Nat.two_pow_pos (rk os)
    have := Nat.two_pow_pos (shr ss os)
    omega
end
end LaneX
set_option linter.all false
namespace LaneX
/-! ### the lane of a word; steps of hops (k24) -/
theorem slv_xor (cs : List Nat) (g h : Nat) : slv cs (g ^^^ h) = slv cs g ^^^ slv cs h := by
  unfold slv
  rw [Nat.shiftLeft_xor_distrib, clr_xor]
theorem slv_zero (cs : List Nat) : slv cs 0 = 0 := by unfold slv; rw [Nat.zero_shiftLeft, clr_zero]
theorem lin_slv (cs : List Nat) : Lin (slv cs) := ⟨slv_zero cs, slv_xor cs⟩
/-- the columns of the lanes, beside the slots -/
def lcs (ss ls : List Nat) : List Nat := ls.map (clr (spn ss))
theorem lcs_len (ss ls : List Nat) : (lcs ss ls).length = ls.length := by simp [lcs]
/-- the least lane that holds a word -/
def lno (ss ls : List Nat) (w : Nat) : Nat := slv (lcs ss ls) (clr (spn ss) w)
theorem lin_lno (ss ls : List Nat) : Lin (lno ss ls) := (lin_slv _).comp (lin_clr _)
/-- a lane's word beside the slots -/
def lph (ss ls : List Nat) (x : Nat) : Nat := clr (spn ss) (img ls x)
theorem lin_lph (ss ls : List Nat) : Lin (lph ss ls) := (lin_clr _).comp (lin_img ls)
theorem lph_zero {ss ls : List Nat} {x : Nat} : lph ss ls x = 0 ↔ Spn ss (img ls x) := clr_spn_zero
theorem img_lcs (ss ls : List Nat) (x : Nat) : img (lcs ss ls) x = lph ss ls x := img_map (lin_clr _) ls x
section
variable {b : Nat} {ss ls : List Nat} (hs : ∀ x ∈ ss, x < 2 ^ b) (hl : ∀ x ∈ ls, x < 2 ^ b) (hb : b ≤ rk (ss ++ ls))
include hs hl hb
theorem lcs_span {w : Nat} (hw : w < 2 ^ b) : Spn (lcs ss ls) (clr (spn ss) w) := by
  refine ((red_clr ss).mem w).mpr (in_full (fun z hz => ?_) hb hw)
  rcases List.mem_append.mp hz with hz | hz
  · exact hs z hz
  · exact hl z hz
theorem lno_ok {w : Nat} (hw : w < 2 ^ b) : lno ss ls w < 2 ^ ls.length ∧ lph ss ls (lno ss ls w) = clr (spn ss) w := by
  have a := slv_ok (lcs_span hs hl hb hw)
  rw [lcs_len, img_lcs] at a
  exact a
theorem lno_span {w : Nat} (hw : w < 2 ^ b) : Spn ss (img ls (lno ss ls w) ^^^ w) := by
  have a := (lno_ok hs hl hb hw).2
  unfold lph at a
  rw [← clr_spn_zero, clr_xor, a, Nat.xor_self]
end
/-- the distances that hops must go -/
def dst (ss ls os ps : List Nat) : List Nat := os.map (lno ss ls) ++ (List.range ps.length).map fun i => lno ss ls (ps.getD i 0) ^^^ 2 ^ i
def nst (ss ls os ps : List Nat) : List Nat := cmpl (twn ss ls) (spn (twn ss ls ++ dst ss ls os ps))
theorem map_span {φ : Nat → Nat} (L : Lin φ) {A B : List Nat} (h : ∀ x, Spn A x ↔ Spn B x) (z : Nat) : Spn (A.map φ) z ↔ Spn (B.map φ) z := by
  constructor
  · intro hz
    obtain ⟨y, hy, rfl⟩ := L.back hz
    exact L.spn ((h y).mp hy)
  · intro hz
    obtain ⟨y, hy, rfl⟩ := L.back hz
    exact L.spn ((h y).mpr hy)
theorem twn_lt {ss ls : List Nat} {x : Nat} (h : Spn (twn ss ls) x) : x < 2 ^ ls.length := ((twn_span ss ls x).mp h).1
theorem twn_ker {ss ls : List Nat} {x : Nat} (h : Spn (twn ss ls) x) : lph ss ls x = 0 := lph_zero.mpr ((twn_span ss ls x).mp h).2
section
variable {b : Nat} {ss ls os ps : List Nat} (hs : ∀ x ∈ ss, x < 2 ^ b) (hl : ∀ x ∈ ls, x < 2 ^ b) (hb : b ≤ rk (ss ++ ls)) (ho : ∀ x ∈ os, x < 2 ^ b) (hp : ∀ x ∈ ps, x < 2 ^ b) (hn : ls.length = ps.length)
include hs hl hb ho hp hn
theorem dst_lt : ∀ x ∈ dst ss ls os ps, x < 2 ^ ls.length := fun x hx => by
  rcases List.mem_append.mp hx with hx | hx
  · obtain ⟨w, hw, rfl⟩ := List.mem_map.mp hx
    exact (lno_ok hs hl hb (ho w hw)).1
  · obtain ⟨i, hi, rfl⟩ := List.mem_map.mp hx
    have hi := List.mem_range.mp hi
    exact Nat.xor_lt_two_pow (lno_ok hs hl hb (hp _ (getD_mem hi))).1 (Nat.pow_lt_pow_right (by decide) (by omega))
theorem dst_lph : (dst ss ls os ps).map (lph ss ls) = (os ++ lsm ls ps).map (clr (spn ss)) := by
  unfold dst
  rw [List.map_append, List.map_map, List.map_append]
  congr 1
  · exact List.map_congr_left fun w hw => (lno_ok hs hl hb (ho w hw)).2
  · unfold lsm
    rw [List.map_map, List.map_map, hn]
    refine List.map_congr_left fun i hi => ?_
    have hi := List.mem_range.mp hi
    show lph ss ls (lno ss ls (ps.getD i 0) ^^^ 2 ^ i) = clr (spn ss) (ls.getD i 0 ^^^ ps.getD i 0)
    rw [(lin_lph ss ls).x, (lno_ok hs hl hb (hp _ (getD_mem hi))).2, clr_xor, Nat.xor_comm]
    congr 1
    unfold lph
    rw [img_unit ls (by omega)]
theorem all_lt {x : Nat} (h : Spn (twn ss ls ++ dst ss ls os ps) x) : x < 2 ^ ls.length := h.lt fun w hw => by
  rcases List.mem_append.mp hw with hw | hw
  · exact twn_lt (.of hw)
  · exact dst_lt hs hl hb ho hp hn w hw
/-- as many steps as the words that slots do not lead to -/
theorem nst_len : (nst ss ls os ps).length = rk (ss ++ (os ++ lsm ls ps)) - rk ss := by
  have R : Rws (twn ss ls) := spn_rws _
  have i := cmpl_ind R (spn (twn ss ls ++ dst ss ls os ps)) (lin_lph ss ls) fun y hy z => by
    have hy := (spn_span _ y).mp hy
    exact (twn_span ss ls y).mpr ⟨all_lt hs hl hb ho hp hn hy, lph_zero.mp z⟩
  have a : rk ((nst ss ls os ps).map (lph ss ls)) = (nst ss ls os ps).length := by
    have := i.rk
    rw [List.length_map] at this
    exact this
  have e : ∀ z, Spn ((nst ss ls os ps).map (lph ss ls)) z ↔ Spn ((dst ss ls os ps).map (lph ss ls)) z := fun z => by
    have cs := cms_span R (spn (twn ss ls ++ dst ss ls os ps))
    have key : ∀ x, Spn (twn ss ls ++ nst ss ls os ps) x ↔ Spn (twn ss ls ++ dst ss ls os ps) x := fun x => by
      have c1 := cs.1 x
      have c2 := cs.2 x
      have c3 : Spn (twn ss ls ++ spn (twn ss ls ++ dst ss ls os ps)) x ↔ Spn (twn ss ls ++ dst ss ls os ps) x := by
        constructor
        · refine fun h => h.mono fun y hy => ?_
          rcases List.mem_append.mp hy with hy | hy
          · exact .of (List.mem_append_left _ hy)
          · exact (spn_span _ y).mp (.of hy)
        · exact fun h => ((spn_span _ x).mpr h).sub fun y hy => List.mem_append_right _ hy
      exact c2.symm.trans (c1.trans c3)
    have dropT : ∀ (D : List Nat), Spn ((twn ss ls ++ D).map (lph ss ls)) z ↔ Spn (D.map (lph ss ls)) z := fun D => by
      rw [List.map_append]
      constructor
      · refine fun h => h.mono fun y hy => ?_
        rcases List.mem_append.mp hy with hy | hy
        · obtain ⟨t, ht, rfl⟩ := List.mem_map.mp hy
          rw [twn_ker (.of ht)]; exact .zero
        · exact .of hy
      · exact fun h => h.sub fun y hy => List.mem_append_right _ hy
    rw [← dropT, map_span (lin_lph ss ls) key, dropT]
  have r := rk_eq e
  rw [dst_lph hs hl hb ho hp hn] at r
  have q := (red_clr ss).rk (os ++ lsm ls ps)
  omega
theorem nst_mem : ∀ x ∈ nst ss ls os ps, x < 2 ^ ls.length := fun x hx => all_lt hs hl hb ho hp hn ((spn_span _ x).mp (.of (cmpl_mem _ x hx)))
theorem nst_span (x : Nat) : Spn (nst ss ls os ps ++ twn ss ls) x ↔ Spn (twn ss ls ++ dst ss ls os ps) x := by
  have R : Rws (twn ss ls) := spn_rws _
  have cs := cms_span R (spn (twn ss ls ++ dst ss ls os ps))
  rw [span_swap]
  refine (cs.2 x).symm.trans ((cs.1 x).trans ?_)
  constructor
  · refine fun h => h.mono fun y hy => ?_
    rcases List.mem_append.mp hy with hy | hy
    · exact .of (List.mem_append_left _ hy)
    · exact (spn_span _ y).mp (.of hy)
  · exact fun h => ((spn_span _ x).mpr h).sub fun y hy => List.mem_append_right _ hy
/-- a wanted entry's lane is reached by the steps -/
theorem reach {lane e : Nat} (h : lane < 2 ^ ls.length) (he : Spn os (e ^^^ img ps lane)) : Spn (nst ss ls os ps ++ twn ss ls) (lane ^^^ lno ss ls e) := by
  rw [nst_span hs hl hb ho hp hn]
  -- lane ^ lno (img ps lane) by the distances of the lanes
  have a : ∀ n, n ≤ ps.length → ∀ x, x < 2 ^ n → Spn (dst ss ls os ps) (x ^^^ lno ss ls (img ps x)) := by
    intro n
    induction n with
    | zero =>
      intro _ x hx
      have : x = 0 := by simpa using hx
      subst this
      rw [(lin_img ps).z, (lin_lno ss ls).z, Nat.xor_zero]; exact .zero
    | succ n ih =>
      intro hn' x hx
      rcases bit_split hx with q | ⟨q, hb'⟩
      · exact ih (by omega) x q
      · have i1 := ih (by omega) _ q
        have i2 : Spn (dst ss ls os ps) (lno ss ls (ps.getD n 0) ^^^ 2 ^ n) := .of (List.mem_append_right _ (List.mem_map.mpr ⟨n, List.mem_range.mpr (by omega), rfl⟩))
        have i3 := i1.xor i2
        rw [(lin_img ps).x, img_unit ps (by omega), (lin_lno ss ls).x] at i3
        have e1 : x ^^^ 2 ^ n ^^^ (lno ss ls (img ps x) ^^^ lno ss ls (ps.getD n 0)) ^^^ (lno ss ls (ps.getD n 0) ^^^ 2 ^ n) = x ^^^ lno ss ls (img ps x) := by
          rw [Nat.xor_comm (lno ss ls (ps.getD n 0)) (2 ^ n), xor4, xor_cancel_right, xor_cancel_right]
        rwa [e1] at i3
  have b1 := a ps.length (Nat.le_refl _) lane (by rw [← hn]; exact h)
  have b2 : Spn (dst ss ls os ps) (lno ss ls (e ^^^ img ps lane)) := ((lin_lno ss ls).spn he).sub fun z hz => List.mem_append_left _ hz
  have c := b1.xor b2
  rw [(lin_lno ss ls).x] at c
  have e2 : lane ^^^ lno ss ls (img ps lane) ^^^ (lno ss ls e ^^^ lno ss ls (img ps lane)) = lane ^^^ lno ss ls e := by rw [xor4, Nat.xor_self, Nat.xor_zero]
  rw [e2] at c
  exact c.sub fun z hz => List.mem_append_right _ hz
end
/-! ### a route -/
/-- the lanes of a route -/
def rte (st : List Nat) (lane c : Nat) (k : Nat) : Nat := (lane ^^^ img st c) ^^^ imf st c k
theorem rte_zero (st : List Nat) (lane c : Nat) : rte st lane c 0 = lane ^^^ img st c := by
  unfold rte
  have : imf st c 0 = 0 := rfl
  rw [this, Nat.xor_zero]
theorem rte_last (st : List Nat) (lane c : Nat) : rte st lane c st.length = lane := by
  unfold rte
  have : imf st c st.length = img st c := rfl
  rw [this, xor_cancel_right]
theorem rte_step (st : List Nat) (lane c k : Nat) : rte st lane c (k + 1) = if c.testBit k = true then rte st lane c k ^^^ st.getD k 0 else rte st lane c k := by
  unfold rte
  rw [imf_succ]
  split
  · rw [Nat.xor_assoc (lane ^^^ img st c)]
  · rfl
theorem rte_lt {st : List Nat} {n lane c : Nat} (h : ∀ x ∈ st, x < 2 ^ n) (hl : lane < 2 ^ n) (k : Nat) : rte st lane c k < 2 ^ n :=
  Nat.xor_lt_two_pow (Nat.xor_lt_two_pow hl (imf_lt h _ _)) (imf_lt h _ _)
/-- the first part of a sum -/
theorem img_mask {P Q : List Nat} {x : Nat} (h : x < 2 ^ (P ++ Q).length) : ∃ y, y < 2 ^ Q.length ∧ img (P ++ Q) x = img P (x &&& (2 ^ P.length - 1)) ^^^ img Q y := by
  have e1 : x &&& (2 ^ P.length - 1) = x % 2 ^ P.length := Nat.and_two_pow_sub_one_eq_mod x P.length
  have lt : x % 2 ^ P.length < 2 ^ P.length := Nat.mod_lt _ (Nat.two_pow_pos _)
  refine ⟨x >>> P.length, ?_, ?_⟩
  · rw [Nat.shiftRight_eq_div_pow, Nat.div_lt_iff_lt_mul (Nat.two_pow_pos _), ← Nat.pow_add, Nat.add_comm, ← List.length_append]
    exact h
  · rw [e1, ← img_app lt]
    congr 1
    apply Nat.eq_of_testBit_eq
    intro i
    rw [Nat.testBit_xor, Nat.testBit_mod_two_pow, Nat.testBit_shiftLeft, Nat.testBit_shiftRight]
    by_cases hi : i < P.length
    · have : decide (i ≥ P.length) = false := by simp; omega
      rw [this]; simp [hi]
    · have : decide (i ≥ P.length) = true := by simp; omega
      rw [this, show P.length + (i - P.length) = i by omega]; simp [hi]
end LaneX
set_option linter.all false
namespace LaneX
/-! ### plans of rounds (k18, k19) -/
theorem img_inj {A : List Nat} (h : rk A = A.length) {x : Nat} (hx : x < 2 ^ A.length) (z : img A x = 0) : x = 0 := by
  have k := ker_len_eq A
  have e : ker A = [] := List.length_eq_zero_iff.mp (by omega)
  have := (ker_span A x).mpr ⟨hx, z⟩
  rw [e] at this
  exact this.nil
theorem img_inj2 {A : List Nat} (h : rk A = A.length) {x y : Nat} (hx : x < 2 ^ A.length) (hy : y < 2 ^ A.length) (z : img A x = img A y) : x = y :=
  xor_eq_zero (img_inj h (Nat.xor_lt_two_pow hx hy) (by rw [(lin_img A).x, z, Nat.xor_self]))
/-- what solved tells of a word that is no sum -/
theorem slv_none {cs : List Nat} {g : Nat} (h : ¬ Spn cs g) : 2 ^ cs.length ≤ slv cs g := by
  refine Nat.le_of_not_lt fun z => h ?_
  have a := spn_clr (prd cs) (g <<< cs.length)
  have a : Spn (prs cs) (g <<< cs.length ^^^ slv cs g) := (spn_span _ _).mp a
  obtain ⟨x, hx, e⟩ := prs_fwd cs a
  have e2 := congrArg (fun y => y >>> cs.length) e
  simp only [Nat.shiftRight_xor_distrib, shl_shr] at e2
  rw [Nat.shiftRight_eq_zero _ _ z, Nat.shiftRight_eq_zero _ _ hx, Nat.xor_zero, Nat.xor_zero] at e2
  rw [e2]
  exact img_in cs hx
/-- the part of a word in the first rows -/
def pin (R O : List Nat) (w : Nat) : Nat := img R (slv (R ++ O) w &&& (2 ^ R.length - 1))
theorem pin_ok {R O : List Nat} {w : Nat} (h : Spn (R ++ O) w) : Spn R (pin R O w) ∧ Spn O (w ^^^ pin R O w) := by
  obtain ⟨a, e⟩ := slv_ok h
  obtain ⟨y, hy, e2⟩ := img_mask a
  rw [e] at e2
  have lt : slv (R ++ O) w &&& (2 ^ R.length - 1) < 2 ^ R.length := by
    rw [Nat.and_two_pow_sub_one_eq_mod]; exact Nat.mod_lt _ (Nat.two_pow_pos _)
  refine ⟨img_in R lt, ?_⟩
  have e3 : w ^^^ pin R O w = img O y := by
    unfold pin
    conv => lhs; lhs; rw [e2]
    rw [Nat.xor_comm, xor_cancel]
  rw [e3]
  exact img_in O hy
theorem img_diff {A B S : List Nat} (hl : A.length = B.length) (h : ∀ i, i < A.length → Spn S (A.getD i 0 ^^^ B.getD i 0)) (x : Nat) : Spn S (img A x ^^^ img B x) := by
  rw [← img_lsm hl]
  refine allin_img (fun w hw => ?_) x
  obtain ⟨i, hi, rfl⟩ := List.mem_map.mp hw
  exact h i (List.mem_range.mp hi)
theorem imf_at {A B : List Nat} {x : Nat} : ∀ {n}, (∀ i, i < n → x.testBit i = true → A.getD i 0 = B.getD i 0) → imf A x n = imf B x n
  | 0, _ => rfl
  | n + 1, h => by
    rw [imf_succ, imf_succ, imf_at fun i hi => h i (by omega)]
    split
    · rename_i z
      rw [h n (by omega) z]
    · rfl
theorem img_at {A B : List Nat} {x : Nat} (hl : A.length = B.length) (h : ∀ i, i < A.length → x.testBit i = true → A.getD i 0 = B.getD i 0) : img A x = img B x := by
  unfold img
  rw [← hl]
  exact imf_at h
theorem Rws.rk {R : List Nat} (h : Rws R) : rk R = R.length := spn_id h
/-- A with what completes it to B -/
theorem base_of {A B : List Nat} (R : Rws A) (h : ∀ x ∈ A, Spn B x) : (∀ x, Spn (A ++ cmpl A B) x ↔ Spn B x) ∧ LaneX.rk (A ++ cmpl A B) = (A ++ cmpl A B).length ∧ (A ++ cmpl A B).length = LaneX.rk B := by
  have cs := cms_span R B
  have e : ∀ x, Spn (A ++ B) x ↔ Spn B x := fun x => ⟨fun z => z.mono fun y hy => by
    rcases List.mem_append.mp hy with hy | hy
    · exact h y hy
    · exact .of hy, fun z => z.sub fun y hy => List.mem_append_right _ hy⟩
  have e2 : ∀ x, Spn (A ++ cmpl A B) x ↔ Spn B x := fun x => ((cs.2 x).symm.trans (cs.1 x)).trans (e x)
  have l := cmpl_len R B
  rw [rk_eq e, R.rk] at l
  have l2 : (A ++ cmpl A B).length = LaneX.rk B := by rw [List.length_append]; omega
  exact ⟨e2, (rk_eq e2).trans l2.symm, l2⟩
/-! ### starts that lanes keep -/
def kst (R O ls ps : List Nat) : List Nat := (List.range ls.length).map fun i => ls.getD i 0 ^^^ pin R O ((lsm ls ps).getD i 0)
theorem kst_len (R O ls ps : List Nat) : (kst R O ls ps).length = ls.length := by simp [kst]
theorem kst_at (R O ls ps : List Nat) {i : Nat} (h : i < ls.length) : (kst R O ls ps).getD i 0 = ls.getD i 0 ^^^ pin R O ((lsm ls ps).getD i 0) := map_range_getD _ h
theorem lsm_at {ls ps : List Nat} {i : Nat} (h : i < ls.length) : (lsm ls ps).getD i 0 = ls.getD i 0 ^^^ ps.getD i 0 := map_range_getD _ h
theorem kst_ok {ss ls os ps : List Nat} (hl : ls.length = ps.length) (h : ∀ w ∈ lsm ls ps, Spn (ss ++ os) w) (x : Nat) :
    Spn ss (img (kst (spn ss) (spn os) ls ps) x ^^^ img ls x) ∧ Spn os (img (kst (spn ss) (spn os) ls ps) x ^^^ img ps x) := by
  have key : ∀ i, i < ls.length → Spn ss (pin (spn ss) (spn os) ((lsm ls ps).getD i 0)) ∧ Spn os ((lsm ls ps).getD i 0 ^^^ pin (spn ss) (spn os) ((lsm ls ps).getD i 0)) := fun i hi => by
    have m : (lsm ls ps).getD i 0 ∈ lsm ls ps := getD_mem (by rw [lsm_len]; exact hi)
    have p := pin_ok (R := spn ss) (O := spn os) ((span_app2 (spn_span ss) (spn_span os)).mpr (h _ m))
    exact ⟨(spn_span ss _).mp p.1, (spn_span os _).mp p.2⟩
  constructor
  · refine img_diff (kst_len _ _ _ _) (fun i hi => ?_) x
    rw [kst_len] at hi
    rw [kst_at _ _ _ _ hi, Nat.xor_comm (ls.getD i 0), xor_cancel_right]
    exact (key i hi).1
  · refine img_diff (by rw [kst_len, hl]) (fun i hi => ?_) x
    rw [kst_len] at hi
    have k2 := (key i hi).2
    rw [lsm_at hi] at k2
    rw [kst_at _ _ _ _ hi, lsm_at hi, Nat.xor_assoc, Nat.xor_comm (pin _ _ _), ← Nat.xor_assoc]
    exact k2
theorem kst_lt {b : Nat} {ss ls os ps : List Nat} (hs : ∀ x ∈ ss, x < 2 ^ b) (hL : ∀ x ∈ ls, x < 2 ^ b) (h : ∀ w ∈ lsm ls ps, Spn (ss ++ os) w) : ∀ x ∈ kst (spn ss) (spn os) ls ps, x < 2 ^ b := fun x hx => by
  obtain ⟨i, hi, rfl⟩ := List.mem_map.mp hx
  have hi := List.mem_range.mp hi
  have m : (lsm ls ps).getD i 0 ∈ lsm ls ps := getD_mem (by rw [lsm_len]; exact hi)
  have p := pin_ok (R := spn ss) (O := spn os) ((span_app2 (spn_span ss) (spn_span os)).mpr (h _ m))
  exact Nat.xor_lt_two_pow (hL _ (getD_mem hi)) (((spn_span ss _).mp p.1).lt hs)
/-! ### starts that span, with the slots, all -/
def wvl (ps I G W : List Nat) (i : Nat) : Nat := G.getD i 0 ^^^ W.getD i 0 ^^^ img ps (I.getD i 0 ^^^ 1 <<< (blen (I.getD i 0) - 1))
def wsf (ps I G W : List Nat) (k : Nat) : List Nat := (List.range k).foldl (fun st i => st.set (blen (I.getD i 0) - 1) (wvl ps I G W i)) ps
theorem wsf_succ (ps I G W : List Nat) (k : Nat) : wsf ps I G W (k + 1) = (wsf ps I G W k).set (blen (I.getD k 0) - 1) (wvl ps I G W k) := by
  unfold wsf
  rw [List.range_succ, List.foldl_append]
  rfl
theorem wsf_len (ps I G W : List Nat) : ∀ k, (wsf ps I G W k).length = ps.length
  | 0 => rfl
  | k + 1 => by rw [wsf_succ, List.length_set, wsf_len ps I G W k]
theorem getD_set' (F : List Nat) (i j v : Nat) (hi : i < F.length) : (F.set i v).getD j 0 = if j = i then v else F.getD j 0 := by
  simp only [List.getD_eq_getElem?_getD, List.getElem?_set]
  by_cases h : i = j
  · subst h; simp [hi]
  · rw [if_neg h, if_neg (fun z => h z.symm)]
theorem tops_ne {I : List Nat} (R : Rws I) {i j : Nat} (hi : i < I.length) (hj : j < I.length) (h : i ≠ j) : blen (I.getD i 0) - 1 ≠ blen (I.getD j 0) - 1 := fun z => by
  have n1 := blen_pos (R.nz _ (getD_mem hi))
  have n2 := blen_pos (R.nz _ (getD_mem hj))
  have e : blen (I.getD i 0) = blen (I.getD j 0) := by omega
  have nd := R.tops_nodup
  have e1 : (I.map blen)[i]? = some (blen (I.getD i 0)) := by
    rw [List.getElem?_map, List.getElem?_eq_getElem hi, List.getD_eq_getElem?_getD, List.getElem?_eq_getElem hi]; rfl
  have e2 : (I.map blen)[j]? = some (blen (I.getD j 0)) := by
    rw [List.getElem?_map, List.getElem?_eq_getElem hj, List.getD_eq_getElem?_getD, List.getElem?_eq_getElem hj]; rfl
  exact h ((List.getElem?_inj (by rw [List.length_map]; exact hi) nd).mp (by rw [e1, e2, e]))
theorem tops_bit {I : List Nat} (R : Rws I) {i j : Nat} (hi : i < I.length) (hj : j < I.length) (h : i ≠ j) : (I.getD i 0).testBit (blen (I.getD j 0) - 1) = false := by
  have p := R.red
  rw [List.pairwise_iff_getElem] at p
  have e1 : I.getD i 0 = I[i] := by rw [List.getD_eq_getElem?_getD, List.getElem?_eq_getElem hi]; rfl
  have e2 : I.getD j 0 = I[j] := by rw [List.getD_eq_getElem?_getD, List.getElem?_eq_getElem hj]; rfl
  rw [e1, e2]
  rcases Nat.lt_or_gt_of_ne h with z | z
  · exact (p i j hi hj z).1
  · exact (p j i hj hi z).2
section
variable {ps I G W : List Nat} (R : Rws I) (hI : ∀ x ∈ I, x < 2 ^ ps.length)
include R hI
theorem wsf_at : ∀ k, k ≤ I.length → (∀ i, i < k → (wsf ps I G W k).getD (blen (I.getD i 0) - 1) 0 = wvl ps I G W i) ∧ ∀ j, (∀ i, i < k → j ≠ blen (I.getD i 0) - 1) → (wsf ps I G W k).getD j 0 = ps.getD j 0
  | 0, _ => ⟨fun i hi => absurd hi (Nat.not_lt_zero _), fun j _ => rfl⟩
  | k + 1, hk => by
    obtain ⟨h1, h2⟩ := wsf_at k (by omega)
    have tl : blen (I.getD k 0) - 1 < (wsf ps I G W k).length := by
      rw [wsf_len]
      have a := blen_le.mpr (hI _ (getD_mem (show k < I.length by omega)))
      have b := blen_pos (R.nz _ (getD_mem (show k < I.length by omega)))
      omega
    rw [wsf_succ]
    refine ⟨fun i hi => ?_, fun j hj => ?_⟩
    · rw [getD_set' _ _ _ _ tl]
      by_cases e : i = k
      · subst e; rw [if_pos rfl]
      · rw [if_neg (tops_ne R (by omega) (by omega) e)]
        exact h1 i (by omega)
    · rw [getD_set' _ _ _ _ tl, if_neg (hj k (by omega))]
      exact h2 j fun i hi => hj i (by omega)
theorem wsf_row {k i : Nat} (hk : k ≤ I.length) (hi : i < k) : img (wsf ps I G W k) (I.getD i 0) = G.getD i 0 ^^^ W.getD i 0 := by
  obtain ⟨h1, h2⟩ := wsf_at R hI k hk
  have nz := R.nz _ (getD_mem (show i < I.length by omega))
  have lt := hI _ (getD_mem (show i < I.length by omega))
  have a := blen_le.mpr lt
  have b := blen_pos nz
  have tb := testBit_top nz
  generalize hx : I.getD i 0 = x at *
  generalize ht : blen x - 1 = t at *
  have e1 : x = 2 ^ t ^^^ (x ^^^ 2 ^ t) := by rw [Nat.xor_comm x, xor_cancel]
  have e2 : img (wsf ps I G W k) (2 ^ t) = wvl ps I G W i := by
    rw [img_unit _ (by rw [wsf_len]; omega)]
    have := h1 i hi
    rwa [hx, ht] at this
  have e3 : img (wsf ps I G W k) (x ^^^ 2 ^ t) = img ps (x ^^^ 2 ^ t) := by
    refine img_at (wsf_len _ _ _ _ _) fun j _ hb => h2 j fun m hm z => ?_
    rw [Nat.testBit_xor, Nat.testBit_two_pow] at hb
    by_cases e : m = i
    · subst e
      rw [hx, ht] at z
      subst z
      rw [tb] at hb
      simp at hb
    · have q := tops_bit R (show i < I.length by omega) (show m < I.length by omega) (Ne.symm e)
      have q2 := tops_ne R (show i < I.length by omega) (show m < I.length by omega) (Ne.symm e)
      rw [hx, ← z] at q
      rw [hx, ht, ← z] at q2
      rw [q] at hb
      simp [q2] at hb
  conv => lhs; rw [e1]
  rw [(lin_img _).x, e2, e3]
  unfold wvl
  rw [hx, ht, Nat.one_shiftLeft, xor_cancel_right]
theorem wsf_to {O : List Nat} {k : Nat} (hk : k ≤ I.length) (h : ∀ i, i < k → Spn O (img ps (I.getD i 0) ^^^ G.getD i 0) ∧ Spn O (W.getD i 0)) : ∀ j, j < ps.length → Spn O ((wsf ps I G W k).getD j 0 ^^^ ps.getD j 0) := fun j hj => by
  obtain ⟨h1, h2⟩ := wsf_at (G := G) (W := W) R hI k hk
  by_cases e : ∃ i, i < k ∧ j = blen (I.getD i 0) - 1
  · obtain ⟨i, hi, rfl⟩ := e
    rw [h1 i hi]
    unfold wvl
    have a := h i hi
    rw [← img_unit ps hj, Nat.xor_assoc, ← (lin_img ps).x, Nat.one_shiftLeft, Nat.xor_assoc (I.getD i 0), Nat.xor_self, Nat.xor_zero]
    have := a.1.xor a.2
    have e : G.getD i 0 ^^^ W.getD i 0 ^^^ img ps (I.getD i 0) = img ps (I.getD i 0) ^^^ G.getD i 0 ^^^ W.getD i 0 := by
      rw [Nat.xor_comm, ← Nat.xor_assoc]
    rw [e]
    exact this
  · rw [h2 j fun i hi z => e ⟨i, hi, z⟩, Nat.xor_self]
    exact .zero
end
/-- the lanes that want what slots of both lead to -/
def wdi (ss os ps : List Nat) : List Nat := ker (ps.map (clr (spn (spn ss ++ spn os))))
def wdg (ss os ps : List Nat) : List Nat := (wdi ss os ps).map fun x => pin (spn ss) (spn os) (img ps x)
def wdw (ss os : List Nat) : List Nat := cmpl (spn ss) (spn os)
def wds (ss os ps : List Nat) : List Nat := wsf ps (wdi ss os ps) (wdg ss os ps) (wdw ss os) (wdw ss os).length
theorem both_sp (ss os : List Nat) (x : Nat) : Spn (spn ss ++ spn os) x ↔ Spn (ss ++ os) x := span_app2 (spn_span ss) (spn_span os)
theorem wdi_span (ss os ps : List Nat) (x : Nat) : Spn (wdi ss os ps) x ↔ x < 2 ^ ps.length ∧ Spn (ss ++ os) (img ps x) := by
  unfold wdi
  rw [span_clr_img, both_sp]
theorem wdi_rws (ss os ps : List Nat) : Rws (wdi ss os ps) := ker_rws _
theorem wds_len (ss os ps : List Nat) : (wds ss os ps).length = ps.length := wsf_len _ _ _ _ _
theorem wdg_at {ss os ps : List Nat} {i : Nat} (h : i < (wdi ss os ps).length) : (wdg ss os ps).getD i 0 = pin (spn ss) (spn os) (img ps ((wdi ss os ps).getD i 0)) := by
  unfold wdg
  simp only [List.getD_eq_getElem?_getD, List.getElem?_map, List.getElem?_eq_getElem h]
  rfl
section
variable {b : Nat} {ss ls os ps : List Nat} (hs : ∀ x ∈ ss, x < 2 ^ b) (hL : ∀ x ∈ ls, x < 2 ^ b) (ho : ∀ x ∈ os, x < 2 ^ b) (hp : ∀ x ∈ ps, x < 2 ^ b) (hl : ls.length = ps.length) (hb : b ≤ rk (ss ++ ls)) (hb2 : b ≤ rk (os ++ ps))
include hs ho hp hl hb in
theorem wdw_le : (wdw ss os).length ≤ (wdi ss os ps).length := by
  have a := ksz (spn ss ++ spn os) ps
  have e1 : (spn (ker (ps.map (clr (spn (spn ss ++ spn os)))))).length = (wdi ss os ps).length := (wdi_rws ss os ps).rk
  have c := cmpl_len (spn_rws ss) (spn os)
  have e2 : rk (spn ss ++ spn os ++ ps) ≤ b := rk_le_bits fun x hx => by
    rcases List.mem_append.mp hx with hx | hx
    · rcases List.mem_append.mp hx with hx | hx
      · exact spn_lt hs x hx
      · exact spn_lt ho x hx
    · exact hp x hx
  have e3 := rk_app_len ss ls
  rw [rk_spn] at c
  have e4 : (wdw ss os).length = (cmpl (spn ss) (spn os)).length := rfl
  omega
theorem wdi_in {i : Nat} (h : i < (wdi ss os ps).length) : Spn ss ((wdg ss os ps).getD i 0) ∧ Spn os (img ps ((wdi ss os ps).getD i 0) ^^^ (wdg ss os ps).getD i 0) := by
  have a := ((wdi_span ss os ps _).mp (.of (getD_mem h))).2
  have p := pin_ok (R := spn ss) (O := spn os) ((both_sp ss os _).mpr a)
  rw [wdg_at h]
  exact ⟨(spn_span ss _).mp p.1, (spn_span os _).mp p.2⟩
theorem wdw_in {i : Nat} (h : i < (wdw ss os).length) : Spn os ((wdw ss os).getD i 0) := (spn_span os _).mp (.of (cmpl_mem _ _ (getD_mem h)))
theorem wdi_lt : ∀ x ∈ wdi ss os ps, x < 2 ^ ps.length := fun x hx => ((wdi_span ss os ps x).mp (.of hx)).1
include hs ho hp hl hb
theorem wds_to (x : Nat) : Spn os (img (wds ss os ps) x ^^^ img ps x) := by
  have le := wdw_le hs ho hp hl hb
  refine img_diff (wds_len ss os ps) (fun i hi => ?_) x
  rw [wds_len] at hi
  exact wsf_to (wdi_rws ss os ps) wdi_lt le (fun m hm => ⟨(wdi_in (by omega)).2, wdw_in hm⟩) i hi
theorem wds_at {i : Nat} (hi : i < ps.length) : Spn os ((wds ss os ps).getD i 0 ^^^ ps.getD i 0) :=
  wsf_to (wdi_rws ss os ps) wdi_lt (wdw_le hs ho hp hl hb) (fun m hm => ⟨(wdi_in (by have := wdw_le hs ho hp hl hb; omega)).2, wdw_in hm⟩) i hi
theorem wds_lt : ∀ x ∈ wds ss os ps, x < 2 ^ b := fun x hx => by
  obtain ⟨i, hi, rfl⟩ := List.mem_iff_getElem.mp hx
  have hi' : i < ps.length := by rwa [wds_len] at hi
  have a := wds_at hs ho hp hl hb hi'
  have e : (wds ss os ps).getD i 0 = (wds ss os ps)[i] := by rw [List.getD_eq_getElem?_getD, List.getElem?_eq_getElem hi]; rfl
  rw [e] at a
  have q := Nat.xor_lt_two_pow (a.lt ho) (hp _ (getD_mem hi'))
  rwa [xor_cancel_right] at q
include hb2
/-- with the slots they span all -/
theorem wds_all : b ≤ rk (ss ++ wds ss os ps) := by
  have le := wdw_le hs ho hp hl hb
  have key : ∀ i, i < (wdw ss os).length → Spn (ss ++ wds ss os ps) ((wdw ss os).getD i 0) := fun i hi => by
    have r := wsf_row (G := wdg ss os ps) (W := wdw ss os) (wdi_rws ss os ps) wdi_lt le hi
    have a : Spn (ss ++ wds ss os ps) (img (wds ss os ps) ((wdi ss os ps).getD i 0)) := by
      refine (img_in _ ?_).sub fun y hy => List.mem_append_right _ hy
      rw [wds_len]
      exact wdi_lt _ (getD_mem (by omega))
    have r' : img (wds ss os ps) ((wdi ss os ps).getD i 0) = (wdg ss os ps).getD i 0 ^^^ (wdw ss os).getD i 0 := r
    rw [r'] at a
    have g : Spn (ss ++ wds ss os ps) ((wdg ss os ps).getD i 0) := (wdi_in (ss := ss) (os := os) (ps := ps) (i := i) (by omega)).1.sub fun y hy => List.mem_append_left _ hy
    have := g.xor a
    rwa [xor_cancel] at this
  have cs := cms_span (spn_rws ss) (spn os)
  have os_in : ∀ x, Spn os x → Spn (ss ++ wds ss os ps) x := fun x hx => by
    have h1 : Spn (spn ss ++ spn os) x := ((spn_span os x).mpr hx).sub fun y hy => List.mem_append_right _ hy
    have h2 := (cs.2 x).mp ((cs.1 x).mpr h1)
    refine h2.mono fun y hy => ?_
    rcases List.mem_append.mp hy with hy | hy
    · exact ((spn_span ss y).mp (.of hy)).sub fun z hz => List.mem_append_left _ hz
    · obtain ⟨i, hi, rfl⟩ := List.mem_iff_getElem.mp hy
      have e : (wdw ss os).getD i 0 = (cms (spn ss) (spn os)).2[i] := by
        have hi' : i < (wdw ss os).length := hi
        rw [List.getD_eq_getElem?_getD, List.getElem?_eq_getElem hi']; rfl
      rw [← e]
      exact key i hi
  refine Nat.le_trans hb2 (rk_le fun x hx => ?_)
  rcases List.mem_append.mp hx with hx | hx
  · exact os_in x (.of hx)
  · obtain ⟨i, hi, rfl⟩ := List.mem_iff_getElem.mp hx
    have a := os_in _ (wds_at hs ho hp hl hb hi)
    have c : Spn (ss ++ wds ss os ps) ((wds ss os ps).getD i 0) := (Spn.of (getD_mem (by rw [wds_len]; exact hi))).sub fun z hz => List.mem_append_right _ hz
    have d := c.xor a
    rw [xor_cancel] at d
    have e : ps.getD i 0 = ps[i] := by rw [List.getD_eq_getElem?_getD, List.getElem?_eq_getElem hi]; rfl
    rwa [e] at d
end
/-! ### lanes that show -/
def shi (b : Nat) (ss st : List Nat) : List Nat := mtd b (spn st) (spn ss)
def sho (b : Nat) (ss st : List Nat) : List Nat := cmpl (shi b ss st) (spn st)
def shL (b : Nat) (ss ls st : List Nat) : List Nat := (twn ss ls).take (shi b ss st).length ++ (sho b ss st).map (lno ss ls)
def shn (b : Nat) (ss ls st : List Nat) : List Nat := st.map fun w => img (shL b ss ls st) (slv (shi b ss st ++ sho b ss st) w)
section
variable {b : Nat} {ss ls st : List Nat} (hs : ∀ x ∈ ss, x < 2 ^ b) (hL : ∀ x ∈ ls, x < 2 ^ b) (hS : ∀ x ∈ st, x < 2 ^ b) (hl : st.length = ls.length) (hb : b ≤ rk (ss ++ ls)) (hst : b ≤ rk (ss ++ st))
include hS in
theorem shi_span (x : Nat) : Spn (shi b ss st) x ↔ Spn st x ∧ Spn ss x := by
  unfold shi
  rw [mtd_span (spn_lt hS), spn_span, spn_span]
include hS in
theorem sh_base : (∀ x, Spn (shi b ss st ++ sho b ss st) x ↔ Spn st x) ∧ rk (shi b ss st ++ sho b ss st) = (shi b ss st ++ sho b ss st).length := by
  have a := base_of (A := shi b ss st) (B := spn st) (mtd_rws _ _ _) fun x hx => (spn_span st x).mpr ((shi_span hS x).mp (.of hx)).1
  exact ⟨fun x => (a.1 x).trans (spn_span st x), a.2.1⟩
include hs hL hS hl hb hst
theorem shi_le : (shi b ss st).length ≤ (twn ss ls).length := by
  have a := mtd_len (b := b) (spn_rws st) (spn_rws ss) (spn_lt hS)
  have t := twn_size ss ls
  have e : rk (spn st ++ spn ss) = rk (ss ++ st) := rk_eq fun x => (both_sp st ss x).trans (span_swap st ss x)
  have e1 : (spn st).length = rk st := rfl
  have e2 : (spn ss).length = rk ss := rfl
  have e3 := rk_len st
  have e4 : (shi b ss st).length = (mtd b (spn st) (spn ss)).length := rfl
  have e5 : rk (ss ++ ls) ≤ b := rk_le_bits fun x hx => by
    rcases List.mem_append.mp hx with hx | hx
    · exact hs x hx
    · exact hL x hx
  omega
theorem shL_len : (shL b ss ls st).length = (shi b ss st ++ sho b ss st).length := by
  have := shi_le hs hL hS hl hb hst
  unfold shL
  rw [List.length_append, List.length_append, List.length_take, List.length_map]
  omega
theorem sho_lt : ∀ x ∈ sho b ss st, x < 2 ^ b := fun x hx => ((spn_span st x).mp (.of (cmpl_mem _ x hx))).lt hS
theorem shL_lt : ∀ x ∈ shL b ss ls st, x < 2 ^ ls.length := fun x hx => by
  rcases List.mem_append.mp hx with hx | hx
  · exact twn_lt (.of (List.mem_of_mem_take hx))
  · obtain ⟨w, hw, rfl⟩ := List.mem_map.mp hx
    exact (lno_ok hs hL hb (sho_lt hs hL hS hl hb hst w hw)).1
theorem sh_from (c : Nat) : Spn ss (img ls (img (shL b ss ls st) c) ^^^ img (shi b ss st ++ sho b ss st) c) := by
  have le := shi_le hs hL hS hl hb hst
  rw [← img_map (lin_img ls)]
  refine img_diff (by rw [List.length_map, shL_len hs hL hS hl hb hst]) (fun i hi => ?_) c
  rw [List.length_map, shL_len hs hL hS hl hb hst, List.length_append] at hi
  have tl : ((twn ss ls).take (shi b ss st).length).length = (shi b ss st).length := by rw [List.length_take]; omega
  by_cases z : i < (shi b ss st).length
  · have e1 : (shL b ss ls st).getD i 0 = (twn ss ls).getD i 0 := by
      unfold shL
      simp only [List.getD_eq_getElem?_getD, List.getElem?_append_left (show i < ((twn ss ls).take (shi b ss st).length).length by omega), List.getElem?_take, if_pos z]
    have e2 : (shi b ss st ++ sho b ss st).getD i 0 = (shi b ss st).getD i 0 := by
      simp only [List.getD_eq_getElem?_getD, List.getElem?_append_left z]
    have e3 : ((shL b ss ls st).map (img ls)).getD i 0 = img ls ((shL b ss ls st).getD i 0) := by
      have : i < (shL b ss ls st).length := by rw [shL_len hs hL hS hl hb hst, List.length_append]; omega
      simp only [List.getD_eq_getElem?_getD, List.getElem?_map, List.getElem?_eq_getElem this]; rfl
    rw [e3, e1, e2]
    exact ((twn_span ss ls _).mp (.of (getD_mem (by omega)))).2.xor ((shi_span hS _).mp (.of (getD_mem z))).2
  · have e1 : (shL b ss ls st).getD i 0 = lno ss ls ((sho b ss st).getD (i - (shi b ss st).length) 0) := by
      unfold shL
      have : i - (shi b ss st).length < (sho b ss st).length := by omega
      simp only [List.getD_eq_getElem?_getD, List.getElem?_append_right (show ((twn ss ls).take (shi b ss st).length).length ≤ i by omega), tl, List.getElem?_map, List.getElem?_eq_getElem this]
      rfl
    have e2 : (shi b ss st ++ sho b ss st).getD i 0 = (sho b ss st).getD (i - (shi b ss st).length) 0 := by
      simp only [List.getD_eq_getElem?_getD, List.getElem?_append_right (show (shi b ss st).length ≤ i by omega)]
    have e3 : ((shL b ss ls st).map (img ls)).getD i 0 = img ls ((shL b ss ls st).getD i 0) := by
      have : i < (shL b ss ls st).length := by rw [shL_len hs hL hS hl hb hst, List.length_append]; omega
      simp only [List.getD_eq_getElem?_getD, List.getElem?_map, List.getElem?_eq_getElem this]; rfl
    rw [e3, e1, e2]
    exact lno_span hs hL hb (sho_lt hs hL hS hl hb hst _ (getD_mem (by omega)))
theorem lin_sh : Lin fun w => img (shL b ss ls st) (slv (shi b ss st ++ sho b ss st) w) := (lin_img _).comp (lin_slv _)
theorem shn_img (x : Nat) : img (shn b ss ls st) x = img (shL b ss ls st) (slv (shi b ss st ++ sho b ss st) (img st x)) := img_map (lin_sh hs hL hS hl hb hst) st x
theorem shn_from {x : Nat} (hx : x < 2 ^ st.length) : Spn ss (img ls (img (shn b ss ls st) x) ^^^ img st x) := by
  rw [shn_img hs hL hS hl hb hst]
  have a := slv_ok (((sh_base (b := b) (ss := ss) hS).1 _).mpr (img_in st hx))
  have c := sh_from hs hL hS hl hb hst (slv (shi b ss st ++ sho b ss st) (img st x))
  rwa [a.2] at c
theorem shn_lt : ∀ x ∈ shn b ss ls st, x < 2 ^ ls.length := fun x hx => by
  obtain ⟨w, _, rfl⟩ := List.mem_map.mp hx
  exact imf_lt (shL_lt hs hL hS hl hb hst) _ _
theorem shn_inj {x y : Nat} (hx : x < 2 ^ st.length) (hy : y < 2 ^ st.length) (h : img (shn b ss ls st) x = img (shn b ss ls st) y) : img st x = img st y := by
  have z : x ^^^ y < 2 ^ st.length := Nat.xor_lt_two_pow hx hy
  have e : img (shn b ss ls st) (x ^^^ y) = 0 := by rw [(lin_img _).x, h, Nat.xor_self]
  have fr := shn_from hs hL hS hl hb hst z
  rw [e, (lin_img ls).z, Nat.zero_xor] at fr
  rw [shn_img hs hL hS hl hb hst] at e
  have inst := img_in st z
  obtain ⟨c1, c2⟩ := slv_ok (((sh_base (b := b) (ss := ss) hS).1 _).mpr inst)
  have inner : Spn (shi b ss st) (img st (x ^^^ y)) := (shi_span hS _).mpr ⟨inst, fr⟩
  obtain ⟨w, hw, e2⟩ := span_img (cols := shi b ss st) (Nat.le_refl _) (by rw [List.take_length]; exact inner)
  have e3 : img (shi b ss st ++ sho b ss st) w = img (shi b ss st) w := by
    have := img_app (P := shi b ss st) (Q := sho b ss st) (y := 0) hw
    rwa [Nat.zero_shiftLeft, Nat.xor_zero, (lin_img _).z, Nat.xor_zero] at this
  have hw2 : w < 2 ^ (shi b ss st ++ sho b ss st).length := Nat.lt_of_lt_of_le hw (Nat.pow_le_pow_right (by decide) (by rw [List.length_append]; omega))
  have e4 : slv (shi b ss st ++ sho b ss st) (img st (x ^^^ y)) = w := img_inj2 (sh_base hS).2 c1 hw2 (by rw [c2, e3, e2])
  rw [e4] at e
  have le := shi_le hs hL hS hl hb hst
  have tl : ((twn ss ls).take (shi b ss st).length).length = (shi b ss st).length := by rw [List.length_take]; omega
  have e5 : img (shL b ss ls st) w = img ((twn ss ls).take (shi b ss st).length) w := by
    have := img_app (P := (twn ss ls).take (shi b ss st).length) (Q := (sho b ss st).map (lno ss ls)) (x := w) (y := 0) (by rw [tl]; exact hw)
    rwa [Nat.zero_shiftLeft, Nat.xor_zero, (lin_img _).z, Nat.xor_zero] at this
  rw [e5] at e
  have R : Rws ((twn ss ls).take (shi b ss st).length) := by
    have A : Rws (twn ss ls) := spn_rws _
    exact ⟨fun r hr => A.nz r (List.mem_of_mem_take hr), A.red.sublist (List.take_sublist _ _)⟩
  have w0 := img_inj R.rk (by rw [tl]; exact hw) e
  rw [w0, (lin_img _).z] at e2
  have := e2.symm
  rw [(lin_img st).x] at this
  exact xor_eq_zero this
end
/-! ### a plan -/
structure Pln (b : Nat) (ss ls os ps st sh wd : List Nat) (sk : Nat) : Prop where
  sl : st.length = ls.length
  hl : sh.length = ls.length
  wl : wd.length = rk os
  sm : ∀ x ∈ st, x < 2 ^ b
  hm : ∀ x ∈ sh, x < 2 ^ ls.length
  wm : ∀ x ∈ wd, x < 2 ^ b
  wi : rk wd = wd.length
  ws : ∀ x, Spn wd x ↔ Spn os x
  to : ∀ x, Spn os (img st x ^^^ img ps x)
  fr : ∀ x, x < 2 ^ ls.length → Spn ss (img ls (img sh x) ^^^ img st x)
  inj : ∀ x y, x < 2 ^ ls.length → y < 2 ^ ls.length → img sh x = img sh y → img st x = img st y
  sk1 : 2 ^ wd.length - sk = fwr ss ls os ps
  sk2 : sk ≤ 2 ^ wd.length
  low : ∀ f x, f < sk → Spn ss (img wd f ^^^ (img st x ^^^ img ls x))
  high : ∀ f x, sk ≤ f → f < 2 ^ wd.length → x < 2 ^ ls.length → sk ≠ 0 → ¬ Spn ss (img wd f ^^^ (img st x ^^^ img ls x))
theorem img_units {n x : Nat} (h : x < 2 ^ n) : img ((List.range n).map fun i => 1 <<< i) x = x := by
  have key : ∀ m, m ≤ n → imf ((List.range n).map fun i => 1 <<< i) x m = x % 2 ^ m := by
    intro m
    induction m with
    | zero => intro _; simp [imf, Nat.mod_one]
    | succ m ih =>
      intro hm
      rw [imf_succ, ih (by omega), map_range_getD _ (by omega), Nat.one_shiftLeft]
      apply Nat.eq_of_testBit_eq
      intro j
      rw [Nat.testBit_mod_two_pow]
      split
      · rename_i z
        rw [Nat.testBit_xor, Nat.testBit_mod_two_pow, Nat.testBit_two_pow]
        by_cases e : m = j
        · subst e; simp [z]
        · by_cases e2 : j < m
          · simp [e, e2, show j < m + 1 by omega]
          · simp [e, e2, show ¬ j < m + 1 by omega]
      · rename_i z
        rw [Nat.testBit_mod_two_pow]
        by_cases e : j = m
        · subst e; simp [z]
        · by_cases e2 : j < m
          · simp [e2, show j < m + 1 by omega]
          · simp [e2, show ¬ j < m + 1 by omega]
  unfold img
  rw [List.length_map, List.length_range, key n (Nat.le_refl _), Nat.mod_eq_of_lt h]
section
variable {b : Nat} {ss ls os ps : List Nat} (hs : ∀ x ∈ ss, x < 2 ^ b) (hL : ∀ x ∈ ls, x < 2 ^ b) (ho : ∀ x ∈ os, x < 2 ^ b) (hp : ∀ x ∈ ps, x < 2 ^ b) (hl : ls.length = ps.length) (hb : b ≤ rk (ss ++ ls)) (hb2 : b ≤ rk (os ++ ps))
def kwd (b : Nat) (ss os : List Nat) : List Nat := mtd b (spn ss) (spn os) ++ cmpl (mtd b (spn ss) (spn os)) (spn os)
include hs hL ho hl
theorem pln_keep (h : ∀ w ∈ lsm ls ps, Spn (ss ++ os) w) : Pln b ss ls os ps (kst (spn ss) (spn os) ls ps) ((List.range ls.length).map fun i => 1 <<< i) (kwd b ss os) (2 ^ (mtd b (spn ss) (spn os)).length) := by
  have key : ∀ y, Spn (mtd b (spn ss) (spn os)) y ↔ Spn ss y ∧ Spn os y := fun y => by rw [mtd_span (spn_lt hs), spn_span, spn_span]
  have B := base_of (A := mtd b (spn ss) (spn os)) (B := spn os) (mtd_rws _ _ _) fun x hx => (spn_span os x).mpr ((key x).mp (.of hx)).2
  have wl : (kwd b ss os).length = rk os := B.2.2.trans (rk_spn os)
  have ws : ∀ x, Spn (kwd b ss os) x ↔ Spn os x := fun x => (B.1 x).trans (spn_span os x)
  have ml := mtd_shr (os := os) hs
  have mle : (mtd b (spn ss) (spn os)).length ≤ (kwd b ss os).length := by unfold kwd; rw [List.length_append]; omega
  have ap : ∀ f, f < 2 ^ (mtd b (spn ss) (spn os)).length → img (kwd b ss os) f = img (mtd b (spn ss) (spn os)) f := fun f hf => by
    have := img_app (P := mtd b (spn ss) (spn os)) (Q := cmpl (mtd b (spn ss) (spn os)) (spn os)) (y := 0) hf
    rwa [Nat.zero_shiftLeft, Nat.xor_zero, (lin_img _).z, Nat.xor_zero] at this
  have ks := fun x => kst_ok hl h x
  refine ⟨kst_len _ _ _ _, by simp, wl, kst_lt hs hL h, fun x hx => ?_, fun x hx => ((ws x).mp (.of hx)).lt ho, B.2.1, ws, fun x => (ks x).2, fun x hx => ?_, fun x y hx hy z => ?_, ?_, Nat.pow_le_pow_right (by decide) mle, fun f x hf => ?_, fun f x h1 h2 hx _ z => ?_⟩
  · obtain ⟨i, hi, rfl⟩ := List.mem_map.mp hx
    rw [Nat.one_shiftLeft]
    exact Nat.pow_lt_pow_right (by decide) (List.mem_range.mp hi)
  · rw [img_units hx, Nat.xor_comm]
    exact (ks x).1
  · rw [img_units hx, img_units hy] at z
    rw [z]
  · rw [wl, ml]
    unfold fwr
    rw [if_pos h]
  · rw [ap f hf]
    exact ((key _).mp (img_in _ hf)).1.xor (ks x).1
  · have z1 := z.xor (ks x).1
    rw [xor_cancel_right] at z1
    have z2 : Spn (mtd b (spn ss) (spn os)) (img (kwd b ss os) f) := (key _).mpr ⟨z1, (ws _).mp (img_in _ h2)⟩
    obtain ⟨w, hw, e⟩ := span_img (cols := mtd b (spn ss) (spn os)) (Nat.le_refl _) (by rw [List.take_length]; exact z2)
    have hw2 : w < 2 ^ (kwd b ss os).length := Nat.lt_of_lt_of_le hw (Nat.pow_le_pow_right (by decide) mle)
    have := img_inj2 B.2.1 h2 hw2 (e.symm.trans (ap w hw).symm)
    omega
include hp hb hb2
theorem pln_wide (h : ¬ ∀ w ∈ lsm ls ps, Spn (ss ++ os) w) : Pln b ss ls os ps (wds ss os ps) (shn b ss ls (wds ss os ps)) (spn os) 0 := by
  have hS := wds_lt hs ho hp hl hb
  have hl2 : (wds ss os ps).length = ls.length := (wds_len ss os ps).trans hl.symm
  have al := wds_all hs ho hp hl hb hb2
  refine ⟨hl2, by unfold shn; rw [List.length_map, hl2], rfl, hS, shn_lt hs hL hS hl2 hb al, spn_lt ho, (spn_rws os).rk, spn_span os, wds_to hs ho hp hl hb, fun x hx => shn_from hs hL hS hl2 hb al (by rw [hl2]; exact hx), fun x y hx hy z => shn_inj hs hL hS hl2 hb al (by rw [hl2]; exact hx) (by rw [hl2]; exact hy) z, ?_, Nat.zero_le _, fun f x hf => absurd hf (Nat.not_lt_zero _), fun f x _ _ _ z => absurd rfl z⟩
  unfold fwr
  rw [if_neg h, Nat.sub_zero]
  rfl
end
end LaneX
set_option linter.all false
namespace LaneX
/-! ### what a plan of rounds tells -/
section
variable {b : Nat} {ss ls os ps st sh wd : List Nat} {sk : Nat} (pn : Pln b ss ls os ps st sh wd sk) (hs : ∀ x ∈ ss, x < 2 ^ b) (hL : ∀ x ∈ ls, x < 2 ^ b) (hb : b ≤ rk (ss ++ ls))
include pn
theorem Pln.wlt (n : Nat) : img wd n < 2 ^ b := imf_lt pn.wm _ _
theorem Pln.win {n : Nat} (h : n < 2 ^ wd.length) : Spn os (img wd n) := (pn.ws _).mp (img_in _ h)
theorem Pln.want {L n : Nat} (h : n < 2 ^ wd.length) : Spn os ((img st L ^^^ img wd n) ^^^ img ps L) := by
  have a := (pn.to L).xor (pn.win h)
  have e : img st L ^^^ img ps L ^^^ img wd n = (img st L ^^^ img wd n) ^^^ img ps L := by
    rw [Nat.xor_assoc, Nat.xor_comm (img ps L), ← Nat.xor_assoc]
  rwa [e] at a
theorem Pln.one {f g : Nat} (hf : f < 2 ^ wd.length) (hg : g < 2 ^ wd.length) (h : img wd f = img wd g) : f = g := img_inj2 pn.wi hf hg h
theorem Pln.in_wanted {L e : Nat} : Spn os (e ^^^ img st L) ↔ Spn os (e ^^^ img ps L) := by
  constructor
  · intro h
    have := h.xor (pn.to L)
    have e2 : e ^^^ img st L ^^^ (img st L ^^^ img ps L) = e ^^^ img ps L := by rw [Nat.xor_assoc, xor_cancel]
    rwa [e2] at this
  · intro h
    have := h.xor (pn.to L)
    have e2 : e ^^^ img ps L ^^^ (img st L ^^^ img ps L) = e ^^^ img st L := by rw [xor4, Nat.xor_self, Nat.xor_zero]
    rwa [e2] at this
include hs hL hb
theorem Pln.src {L : Nat} (n : Nat) : img sh L ^^^ lno ss ls (img wd n) < 2 ^ ls.length :=
  Nat.xor_lt_two_pow (imf_lt pn.hm _ _) (lno_ok hs hL hb (pn.wlt n)).1
theorem Pln.hold {L : Nat} (n : Nat) (h : L < 2 ^ ls.length) : Spn ss ((img st L ^^^ img wd n) ^^^ img ls (img sh L ^^^ lno ss ls (img wd n))) := by
  rw [(lin_img ls).x]
  have a := (pn.fr L h).xor (lno_span hs hL hb (pn.wlt n))
  have e : img ls (img sh L) ^^^ img st L ^^^ (img ls (lno ss ls (img wd n)) ^^^ img wd n) = (img st L ^^^ img wd n) ^^^ (img ls (img sh L) ^^^ img ls (lno ss ls (img wd n))) := by
    rw [xor4, Nat.xor_comm]
  rwa [e] at a
end
/-! ### the least lane that keeps nothing -/
/-- the lanes of one bit that keep nothing -/
def sty (ss ls os ps : List Nat) : List Nat := (List.range ls.length).filter fun i => !decide (clr (rws (ss ++ os)) (ls.getD i 0 ^^^ ps.getD i 0) = 0)
theorem clr_rws' {ws : List Nat} {x : Nat} : clr (rws ws) x = 0 ↔ Spn ws x := by rw [← (rws_hws ws).span, rws_span]
section
variable {b : Nat} {ss ls os ps : List Nat} (hs : ∀ x ∈ ss, x < 2 ^ b) (hl : ls.length = ps.length)
theorem sty_nil : sty ss ls os ps = [] ↔ ∀ w ∈ lsm ls ps, Spn (ss ++ os) w := by
  unfold sty
  rw [List.filter_eq_nil_iff]
  constructor
  · intro h w hw
    obtain ⟨i, hi, rfl⟩ := List.mem_map.mp hw
    have := h i hi
    simp only [Bool.not_eq_true', Bool.not_eq_true, decide_eq_false_iff_not, Decidable.not_not] at this
    exact clr_rws'.mp (by simpa using this)
  · intro h i hi
    have := clr_rws'.mpr (h _ (List.mem_map.mpr ⟨i, hi, rfl⟩))
    rw [decide_eq_true this]; decide
theorem head_least : ∀ {l : List Nat} {n : Nat} {p : Nat → Bool} {j : Nat} {r : List Nat}, (List.range n).filter p = j :: r → j < n ∧ p j = true ∧ ∀ i, i < j → p i = false := by
  intro l n p j r h
  have m : j ∈ (List.range n).filter p := by rw [h]; exact .head _
  have m' := List.mem_filter.mp m
  refine ⟨List.mem_range.mp m'.1, m'.2, fun i hi => ?_⟩
  cases q : p i with
  | false => rfl
  | true =>
    have mi : i ∈ (List.range n).filter p := List.mem_filter.mpr ⟨List.mem_range.mpr (by have := List.mem_range.mp m'.1; omega), q⟩
    rw [h] at mi
    have sorted : ((List.range n).filter p).Pairwise (· < ·) := List.Pairwise.filter _ List.pairwise_lt_range
    rw [h] at sorted
    rcases List.mem_cons.mp mi with e | e
    · omega
    · have := (List.pairwise_cons.mp sorted).1 i e
      omega
include hs hl
theorem sty_due {j : Nat} {r : List Nat} (h : sty ss ls os ps = j :: r) : j < ls.length ∧ due ss ls os ps (2 ^ j) = fwr ss ls os ps ∧ ∀ L, L < 2 ^ j → due ss ls os ps L ≠ fwr ss ls os ps := by
  obtain ⟨h1, h2, h3⟩ := head_least (l := []) h
  have at_ : ∀ i, i < ls.length → img (lsm ls ps) (2 ^ i) = ls.getD i 0 ^^^ ps.getD i 0 := fun i hi => by rw [img_unit _ (by rw [lsm_len]; exact hi), lsm_at hi]
  have out : ¬ Spn (ss ++ os) (img (lsm ls ps) (2 ^ j)) := by
    rw [at_ j h1, ← clr_rws']
    simpa using h2
  have nall : ¬ ∀ w ∈ lsm ls ps, Spn (ss ++ os) w := fun z => by
    rw [← sty_nil, h] at z
    cases z
  have e1 : fwr ss ls os ps = 2 ^ rk os := by unfold fwr; rw [if_neg nall]
  refine ⟨h1, ?_, fun L hL => ?_⟩
  · rw [due_eq hs hl, if_neg out, e1]
  · have inn : Spn (ss ++ os) (img (lsm ls ps) L) := by
      have key : ∀ n, n ≤ j → ∀ x, x < 2 ^ n → Spn (ss ++ os) (img (lsm ls ps) x) := by
        intro n
        induction n with
        | zero =>
          intro _ x hx
          have : x = 0 := by simpa using hx
          subst this
          rw [(lin_img _).z]; exact .zero
        | succ n ih =>
          intro hn x hx
          rcases bit_split hx with q | ⟨q, _⟩
          · exact ih (by omega) x q
          · have a := ih (by omega) _ q
            have c : Spn (ss ++ os) (img (lsm ls ps) (2 ^ n)) := by
              rw [at_ n (by omega), ← clr_rws']
              simpa using h3 n (by omega)
            have d := a.xor c
            rwa [← (lin_img _).x, xor_cancel_right] at d
      exact key j (Nat.le_refl _) L hL
    rw [due_eq hs hl, if_pos inn, e1]
    have := Nat.two_pow_pos (shr ss os)
    have := Nat.two_pow_pos (rk os)
    omega
/-- the short lane is told -/
theorem short_is {L : Nat} (h1 : due ss ls os ps L = fwr ss ls os ps) (h2 : ∀ i, i < L → due ss ls os ps i ≠ fwr ss ls os ps) : L = match sty ss ls os ps with | [] => 0 | j :: _ => 2 ^ j := by
  cases q : sty ss ls os ps with
  | nil =>
    have a := sty_nil.mp q
    refine Classical.byContradiction fun z => ?_
    exact h2 0 (by simp at z; omega) (due_all hs hl a 0)
  | cons j r =>
    obtain ⟨_, d1, d2⟩ := sty_due hs hl q
    show L = 2 ^ j
    rcases Nat.lt_trichotomy L (2 ^ j) with z | z | z
    · exact absurd h1 (d2 L z)
    · exact z
    · exact absurd d1 (h2 _ z)
end
end LaneX
set_option linter.all false
namespace LaneX
/-! ### side by side (k62) -/
def jn (n : Nat) (A B : List Nat) : List Nat := A ++ B.map fun x => x <<< n
theorem jn_len (n : Nat) (A B : List Nat) : (jn n A B).length = A.length + B.length := by simp [jn]
theorem lin_shl (n : Nat) : Lin fun x => x <<< n := ⟨Nat.zero_shiftLeft n, fun a b => Nat.shiftLeft_xor_distrib⟩
theorem low_split {n a b c d : Nat} (ha : a < 2 ^ n) (hc : c < 2 ^ n) (h : a ^^^ b <<< n = c ^^^ d <<< n) : a = c ∧ b = d := by
  have e1 := congrArg (fun x => x >>> n) h
  simp only [Nat.shiftRight_xor_distrib, shl_shr] at e1
  rw [Nat.shiftRight_eq_zero _ _ ha, Nat.shiftRight_eq_zero _ _ hc, Nat.zero_xor, Nat.zero_xor] at e1
  subst e1
  have e2 := congrArg (fun x => x ^^^ b <<< n) h
  simp only [xor_cancel_right] at e2
  exact ⟨e2, rfl⟩
theorem jn_span {n : Nat} {A B : List Nat} (x : Nat) : Spn (jn n A B) x ↔ ∃ a b, Spn A a ∧ Spn B b ∧ x = a ^^^ b <<< n := by
  constructor
  · intro h
    obtain ⟨a, c, h1, h2, rfl⟩ := span_split h
    obtain ⟨b, h3, rfl⟩ := (lin_shl n).back h2
    exact ⟨a, b, h1, h3, rfl⟩
  · rintro ⟨a, b, h1, h2, rfl⟩
    exact (h1.sub fun y hy => List.mem_append_left _ hy).xor (((lin_shl n).spn h2).sub fun y hy => List.mem_append_right _ hy)
theorem jn_in {n : Nat} {A B : List Nat} (hA : ∀ x ∈ A, x < 2 ^ n) {a b : Nat} (ha : a < 2 ^ n) : Spn (jn n A B) (a ^^^ b <<< n) ↔ Spn A a ∧ Spn B b := by
  rw [jn_span]
  constructor
  · rintro ⟨c, d, h1, h2, e⟩
    obtain ⟨rfl, rfl⟩ := low_split ha (h1.lt hA) e
    exact ⟨h1, h2⟩
  · rintro ⟨h1, h2⟩
    exact ⟨a, b, h1, h2, rfl⟩
theorem jn_ind {n : Nat} {A B : List Nat} (hA : ∀ x ∈ A, x < 2 ^ n) (iA : Ind A) (iB : Ind B) : Ind (jn n A B) := by
  induction iB with
  | nil => simpa [jn] using iA
  | snoc h1 h2 ih =>
    rename_i a w
    have e : jn n A (a ++ [w]) = jn n A a ++ [w <<< n] := by simp [jn]
    rw [e]
    refine .snoc ih fun z => h2 ?_
    have z' : Spn (jn n A a) (0 ^^^ w <<< n) := by rw [Nat.zero_xor]; exact z
    exact ((jn_in hA (Nat.two_pow_pos n)).mp z').2
theorem jn_rk {n : Nat} {A B : List Nat} (hA : ∀ x ∈ A, x < 2 ^ n) : rk (jn n A B) = rk A + rk B := by
  have e : rk (jn n A B) = rk (jn n (spn A) (spn B)) := rk_eq fun x => by
    rw [jn_span, jn_span]
    constructor
    · rintro ⟨a, b, h1, h2, rfl⟩
      exact ⟨a, b, (spn_span A a).mpr h1, (spn_span B b).mpr h2, rfl⟩
    · rintro ⟨a, b, h1, h2, rfl⟩
      exact ⟨a, b, (spn_span A a).mp h1, (spn_span B b).mp h2, rfl⟩
  rw [e, (jn_ind (spn_lt hA) (spn_rws A).ind (spn_rws B).ind).rk, jn_len]
  rfl
/-- two and two, side by side -/
theorem jn_app {n : Nat} {A B C D : List Nat} (x : Nat) : Spn (jn n A B ++ jn n C D) x ↔ Spn (jn n (A ++ C) (B ++ D)) x := by
  have p : (jn n A B ++ jn n C D).Perm (jn n (A ++ C) (B ++ D)) := by
    unfold jn
    rw [List.map_append, List.append_assoc, List.append_assoc]
    refine List.Perm.append_left A ?_
    rw [← List.append_assoc, ← List.append_assoc]
    exact List.Perm.append_right _ List.perm_append_comm
  exact ⟨fun h => h.sub fun w hw => p.mem_iff.mp hw, fun h => h.sub fun w hw => p.mem_iff.mpr hw⟩
theorem jn_lt {n m : Nat} {A B : List Nat} (hA : ∀ x ∈ A, x < 2 ^ n) (hB : ∀ x ∈ B, x < 2 ^ m) : ∀ x ∈ jn n A B, x < 2 ^ (n + m) := fun x hx => by
  rcases List.mem_append.mp hx with hx | hx
  · exact Nat.lt_of_lt_of_le (hA x hx) (Nat.pow_le_pow_right (by decide) (by omega))
  · obtain ⟨y, hy, rfl⟩ := List.mem_map.mp hx
    rw [Nat.shiftLeft_eq, Nat.pow_add, Nat.mul_comm (2 ^ n)]
    exact Nat.mul_lt_mul_of_pos_right (hB y hy) (Nat.two_pow_pos n)
theorem jn_img {n : Nat} {A B : List Nat} {x y : Nat} (h : x < 2 ^ A.length) : img (jn n A B) (x ^^^ y <<< A.length) = img A x ^^^ img B y <<< n := by
  unfold jn
  rw [img_app h, img_map (lin_shl n)]
theorem shr_le' (ss os : List Nat) : shr ss os ≤ rk os ∧ shr ss os ≤ rk ss ∧ rk (ss ++ os) + shr ss os = rk ss + rk os := by
  have a := rk_app ss os
  have b := rk_left ss os
  have c := rk_right ss os
  unfold shr
  omega
theorem jn_shr {n : Nat} {A B C D : List Nat} (hA : ∀ x ∈ A, x < 2 ^ n) (hC : ∀ x ∈ C, x < 2 ^ n) : shr (jn n A B) (jn n C D) = shr A C + shr B D := by
  have a := shr_le' A C
  have b := shr_le' B D
  have c := shr_le' (jn n A B) (jn n C D)
  have e : rk (jn n A B ++ jn n C D) = rk (A ++ C) + rk (B ++ D) := by
    rw [rk_eq jn_app, jn_rk fun x hx => by
      rcases List.mem_append.mp hx with hx | hx
      · exact hA x hx
      · exact hC x hx]
  have r1 := jn_rk (B := B) hA
  have r2 := jn_rk (B := D) hC
  omega
section
variable {n m : Nat} {s1 l1 o1 p1 s2 l2 o2 p2 : List Nat} (hs1 : ∀ x ∈ s1, x < 2 ^ n) (hl1 : ∀ x ∈ l1, x < 2 ^ n) (ho1 : ∀ x ∈ o1, x < 2 ^ n) (hp1 : ∀ x ∈ p1, x < 2 ^ n) (hs2 : ∀ x ∈ s2, x < 2 ^ m) (e1 : l1.length = p1.length) (e2 : l2.length = p2.length)
/-- what a lane holds of what it wants -/
noncomputable def hld (ss ls os ps : List Nat) (L : Nat) : Nat := 2 ^ rk os - due ss ls os ps L
open Classical in
theorem hld_eq {b : Nat} {ss ls os ps : List Nat} (hs : ∀ x ∈ ss, x < 2 ^ b) (h : ls.length = ps.length) (L : Nat) : hld ss ls os ps L = if Spn (ss ++ os) (img ls L ^^^ img ps L) then 2 ^ shr ss os else 0 := by
  have a := Nat.pow_le_pow_right (n := 2) (by decide) (shr_le' ss os).1
  unfold hld
  rw [due_eq hs h, img_lsm h]
  generalize 2 ^ shr ss os = u at *
  generalize 2 ^ rk os = v at *
  split
  · omega
  · omega
include hs1 hl1 ho1 hp1 hs2 e1 e2
theorem jn_due {x y : Nat} (hx : x < 2 ^ l1.length) : due (jn n s1 s2) (jn n l1 l2) (jn n o1 o2) (jn n p1 p2) (x ^^^ y <<< l1.length) = 2 ^ rk o1 * 2 ^ rk o2 - hld s1 l1 o1 p1 x * hld s2 l2 o2 p2 y := by
  have E : (jn n l1 l2).length = (jn n p1 p2).length := by rw [jn_len, jn_len, e1, e2]
  have hJ : ∀ x ∈ jn n s1 s2, x < 2 ^ (n + m) := jn_lt hs1 hs2
  rw [due_eq hJ E, img_lsm E, jn_img hx]
  have hx' : x < 2 ^ p1.length := by rw [← e1]; exact hx
  have eP : img (jn n p1 p2) (x ^^^ y <<< l1.length) = img p1 x ^^^ img p2 y <<< n := by rw [e1]; exact jn_img hx'
  rw [eP, xor4, ← Nat.shiftLeft_xor_distrib, hld_eq hs1 e1, hld_eq hs2 e2, jn_rk ho1, jn_shr hs1 ho1, Nat.pow_add, Nat.pow_add]
  have hSO : ∀ z ∈ s1 ++ o1, z < 2 ^ n := fun z hz => by
    rcases List.mem_append.mp hz with hz | hz
    · exact hs1 z hz
    · exact ho1 z hz
  have lt : img l1 x ^^^ img p1 x < 2 ^ n := Nat.xor_lt_two_pow (imf_lt hl1 _ _) (imf_lt hp1 _ _)
  have key : Spn (jn n s1 s2 ++ jn n o1 o2) ((img l1 x ^^^ img p1 x) ^^^ (img l2 y ^^^ img p2 y) <<< n) ↔ Spn (s1 ++ o1) (img l1 x ^^^ img p1 x) ∧ Spn (s2 ++ o2) (img l2 y ^^^ img p2 y) := by
    rw [jn_app, jn_in hSO lt]
  by_cases q1 : Spn (s1 ++ o1) (img l1 x ^^^ img p1 x)
  · by_cases q2 : Spn (s2 ++ o2) (img l2 y ^^^ img p2 y)
    · rw [if_pos (key.mpr ⟨q1, q2⟩), if_pos q1, if_pos q2]
    · rw [if_neg (fun z => q2 (key.mp z).2), if_neg q2, Nat.mul_zero, Nat.sub_zero]
  · rw [if_neg (fun z => q1 (key.mp z).1), if_neg q1, Nat.zero_mul, Nat.sub_zero]
end
theorem fwr_self (ss ls : List Nat) : fwr ss ls ss ls = 0 := by
  have h : ∀ w ∈ lsm ls ls, Spn (ss ++ ss) w := fun w hw => by
    obtain ⟨i, _, rfl⟩ := List.mem_map.mp hw
    rw [Nat.xor_self]; exact .zero
  have e : rk (ss ++ ss) = rk ss := rk_eq fun x => ⟨fun h => h.sub fun w hw => (List.mem_append.mp hw).elim id id, fun h => h.sub fun w hw => List.mem_append_left _ hw⟩
  unfold fwr
  rw [if_pos h]
  unfold shr
  rw [e, Nat.add_sub_cancel, Nat.sub_self]
theorem fwr_le (ss ls os ps : List Nat) : fwr ss ls os ps ≤ 2 ^ rk os := by
  unfold fwr
  split
  · exact Nat.sub_le _ _
  · exact Nat.le_refl _
section
variable {n m : Nat} {s1 l1 o1 p1 s2 l2 o2 p2 : List Nat} (hs1 : ∀ x ∈ s1, x < 2 ^ n) (hl1 : ∀ x ∈ l1, x < 2 ^ n) (ho1 : ∀ x ∈ o1, x < 2 ^ n) (hp1 : ∀ x ∈ p1, x < 2 ^ n) (e1 : l1.length = p1.length) (e2 : l2.length = p2.length)
theorem jn_at1 {n : Nat} {A B : List Nat} {i : Nat} (h : i < A.length) : (jn n A B).getD i 0 = A.getD i 0 := by
  unfold jn
  simp only [List.getD_eq_getElem?_getD, List.getElem?_append_left h]
theorem jn_at2 {n : Nat} {A B : List Nat} {i : Nat} (h : i < B.length) : (jn n A B).getD (A.length + i) 0 = B.getD i 0 <<< n := by
  unfold jn
  simp only [List.getD_eq_getElem?_getD, List.getElem?_append_right (Nat.le_add_right _ _), Nat.add_sub_cancel_left, List.getElem?_map, List.getElem?_eq_getElem h]
  rfl
include hs1 hl1 ho1 hp1 e1 e2
theorem jn_hold (h : ∀ w ∈ lsm (jn n l1 l2) (jn n p1 p2), Spn (jn n s1 s2 ++ jn n o1 o2) w) : (∀ w ∈ lsm l1 p1, Spn (s1 ++ o1) w) ∧ ∀ w ∈ lsm l2 p2, Spn (s2 ++ o2) w := by
  have hSO : ∀ z ∈ s1 ++ o1, z < 2 ^ n := fun z hz => by
    rcases List.mem_append.mp hz with hz | hz
    · exact hs1 z hz
    · exact ho1 z hz
  constructor
  · intro w hw
    obtain ⟨i, hi, rfl⟩ := List.mem_map.mp hw
    have hi := List.mem_range.mp hi
    have a := h _ (List.mem_map.mpr ⟨i, List.mem_range.mpr (by rw [jn_len]; omega), rfl⟩)
    rw [jn_at1 hi, jn_at1 (by omega), jn_app] at a
    have lt : l1.getD i 0 ^^^ p1.getD i 0 < 2 ^ n := Nat.xor_lt_two_pow (hl1 _ (getD_mem hi)) (hp1 _ (getD_mem (by omega)))
    have b : Spn (jn n (s1 ++ o1) (s2 ++ o2)) ((l1.getD i 0 ^^^ p1.getD i 0) ^^^ 0 <<< n) := by rw [Nat.zero_shiftLeft, Nat.xor_zero]; exact a
    exact ((jn_in hSO lt).mp b).1
  · intro w hw
    obtain ⟨i, hi, rfl⟩ := List.mem_map.mp hw
    have hi := List.mem_range.mp hi
    have a := h _ (List.mem_map.mpr ⟨l1.length + i, List.mem_range.mpr (by rw [jn_len]; omega), rfl⟩)
    have q : (jn n p1 p2).getD (l1.length + i) 0 = p2.getD i 0 <<< n := by rw [e1]; exact jn_at2 (by omega)
    rw [jn_at2 hi, q, ← Nat.shiftLeft_xor_distrib, jn_app] at a
    have b : Spn (jn n (s1 ++ o1) (s2 ++ o2)) (0 ^^^ (l2.getD i 0 ^^^ p2.getD i 0) <<< n) := by rw [Nat.zero_xor]; exact a
    exact ((jn_in hSO (Nat.two_pow_pos n)).mp b).2
theorem jn_fwr : fwr s1 l1 o1 p1 ≤ fwr (jn n s1 s2) (jn n l1 l2) (jn n o1 o2) (jn n p1 p2) ∧ fwr s2 l2 o2 p2 ≤ fwr (jn n s1 s2) (jn n l1 l2) (jn n o1 o2) (jn n p1 p2) := by
  have r := jn_rk (B := o2) ho1
  have p1' : 1 ≤ 2 ^ rk o1 := Nat.two_pow_pos _
  have p2' : 1 ≤ 2 ^ rk o2 := Nat.two_pow_pos _
  by_cases h : ∀ w ∈ lsm (jn n l1 l2) (jn n p1 p2), Spn (jn n s1 s2 ++ jn n o1 o2) w
  · obtain ⟨h1, h2⟩ := jn_hold hs1 hl1 ho1 hp1 e1 e2 h
    have e : fwr (jn n s1 s2) (jn n l1 l2) (jn n o1 o2) (jn n p1 p2) = 2 ^ rk o1 * 2 ^ rk o2 - 2 ^ shr s1 o1 * 2 ^ shr s2 o2 := by
      unfold fwr
      rw [if_pos h, r, jn_shr hs1 ho1, Nat.pow_add, Nat.pow_add]
    have f1 : fwr s1 l1 o1 p1 = 2 ^ rk o1 - 2 ^ shr s1 o1 := by unfold fwr; rw [if_pos h1]
    have f2 : fwr s2 l2 o2 p2 = 2 ^ rk o2 - 2 ^ shr s2 o2 := by unfold fwr; rw [if_pos h2]
    have q1 := Nat.pow_le_pow_right (n := 2) (by decide) (shr_le' s1 o1).1
    have q2 := Nat.pow_le_pow_right (n := 2) (by decide) (shr_le' s2 o2).1
    have p3 : 1 ≤ 2 ^ shr s1 o1 := Nat.two_pow_pos _
    have p4 : 1 ≤ 2 ^ shr s2 o2 := Nat.two_pow_pos _
    rw [e, f1, f2]
    generalize 2 ^ rk o1 = R1 at *
    generalize 2 ^ rk o2 = R2 at *
    generalize 2 ^ shr s1 o1 = S1 at *
    generalize 2 ^ shr s2 o2 = S2 at *
    have m1 : S1 * S2 ≤ S1 * R2 := Nat.mul_le_mul_left _ q2
    have m2 : S1 * S2 ≤ R1 * S2 := Nat.mul_le_mul_right _ q1
    have m3 : R1 - S1 ≤ (R1 - S1) * R2 := Nat.le_mul_of_pos_right _ (by omega)
    have m4 : R2 - S2 ≤ R1 * (R2 - S2) := Nat.le_mul_of_pos_left _ (by omega)
    have m5 : (R1 - S1) * R2 = R1 * R2 - S1 * R2 := Nat.sub_mul _ _ _
    have m6 : R1 * (R2 - S2) = R1 * R2 - R1 * S2 := Nat.mul_sub _ _ _
    rw [m5] at m3
    rw [m6] at m4
    constructor <;> omega
  · have e : fwr (jn n s1 s2) (jn n l1 l2) (jn n o1 o2) (jn n p1 p2) = 2 ^ rk o1 * 2 ^ rk o2 := by
      unfold fwr
      rw [if_neg h, r, Nat.pow_add]
    rw [e]
    have f1 := fwr_le s1 l1 o1 p1
    have f2 := fwr_le s2 l2 o2 p2
    exact ⟨Nat.le_trans f1 (Nat.le_mul_of_pos_right _ (by omega)), Nat.le_trans f2 (Nat.le_mul_of_pos_left _ (by omega))⟩
end
/-- the rank of words that span all -/
theorem rk_all {b : Nat} {A : List Nat} (h : ∀ x ∈ A, x < 2 ^ b) (hb : b ≤ rk A) : rk A = b := Nat.le_antisymm (rk_le_bits h) hb
section
variable {n m : Nat} {s1 l1 s2 l2 : List Nat} (hs1 : ∀ x ∈ s1, x < 2 ^ n) (hl1 : ∀ x ∈ l1, x < 2 ^ n) (hs2 : ∀ x ∈ s2, x < 2 ^ m) (hl2 : ∀ x ∈ l2, x < 2 ^ m) (hb1 : n ≤ rk (s1 ++ l1)) (hb2 : m ≤ rk (s2 ++ l2))
include hs1 hl1
theorem two_lt : ∀ x ∈ s1 ++ l1, x < 2 ^ n := fun x hx => by
  rcases List.mem_append.mp hx with hx | hx
  · exact hs1 x hx
  · exact hl1 x hx
theorem jn_rk2 : rk (jn n s1 s2 ++ jn n l1 l2) = rk (s1 ++ l1) + rk (s2 ++ l2) := by rw [rk_eq jn_app, jn_rk (two_lt hs1 hl1)]
include hb1 hb2
/-- side by side they are onto -/
theorem jn_full : n + m ≤ rk (jn n s1 s2 ++ jn n l1 l2) := by
  rw [jn_rk2 hs1 hl1]; omega
include hs2 hl2
/-- copies -/
theorem jn_copies : (ker (jn n s1 s2 ++ jn n l1 l2)).length = (ker (s1 ++ l1)).length + (ker (s2 ++ l2)).length := by
  have a := ker_len_eq (jn n s1 s2 ++ jn n l1 l2)
  have b := ker_len_eq (s1 ++ l1)
  have c := ker_len_eq (s2 ++ l2)
  rw [jn_rk2 hs1 hl1, List.length_append, jn_len, jn_len] at a
  rw [List.length_append] at b c
  have q1 := rk_len (s1 ++ l1)
  have q2 := rk_len (s2 ++ l2)
  omega
/-- partners of words of the first one -/
theorem jn_partners {ws : List Nat} (hw : ∀ x ∈ ws, x < 2 ^ n) : (prt (jn n s1 s2) (jn n l1 l2) (spn ws)).length = (prt s1 l1 (spn ws)).length + (twn s2 l2).length := by
  have a := prt_size (jn n s1 s2) (jn n l1 l2) ws
  have b := prt_size s1 l1 ws
  have c := twn_size s2 l2
  have hsw : ∀ x ∈ s1 ++ ws, x < 2 ^ n := two_lt hs1 hw
  have e : ∀ x, Spn (jn n s1 s2 ++ ws) x ↔ Spn (jn n (s1 ++ ws) s2) x := fun x => by
    have p : (jn n s1 s2 ++ ws).Perm (jn n (s1 ++ ws) s2) := by
      unfold jn
      rw [List.append_assoc, List.append_assoc]
      exact List.Perm.append_left _ List.perm_append_comm
    exact ⟨fun h => h.sub fun w hw => p.mem_iff.mp hw, fun h => h.sub fun w hw => p.mem_iff.mpr hw⟩
  have r1 : rk (jn n s1 s2 ++ ws) = rk (s1 ++ ws) + rk s2 := by rw [rk_eq e, jn_rk hsw]
  have r2 : rk (jn n s1 s2 ++ ws ++ jn n l1 l2) = rk (s1 ++ ws ++ l1) + rk (s2 ++ l2) := by
    rw [rk_eq fun x => span_app e, rk_eq jn_app, jn_rk (two_lt hsw hl1)]
  have f1 : rk (s1 ++ ws ++ l1) ≤ l1.length + rk (s1 ++ ws) := by have := rk_app_len (s1 ++ ws) l1; omega
  rw [r1, r2, jn_len] at a
  omega
end
/-- no rounds for an empty space -/
theorem smr_nil {b : Nat} {ss ls : List Nat} (hs : ∀ x ∈ ss, x < 2 ^ b) (hl : ∀ x ∈ ls, x < 2 ^ b) (hb : b ≤ rk (ss ++ ls)) : smr b ss ls (spn []) = 0 := by
  have l := ldr_size (ws := []) hs hl (fun x hx => by cases hx) hb
  rw [List.append_nil, Nat.sub_self] at l
  unfold smr
  rw [l]
  unfold rdf
  rw [if_pos (Nat.zero_le _), Nat.sub_zero, Nat.sub_self]
end LaneX
set_option linter.all false
namespace LaneX
/-! ### words added to one another, words beside one another -/
theorem add_beside {n a b : Nat} (h : a < 2 ^ n) : a + b * 2 ^ n = a ^^^ b <<< n := by
  rw [← Nat.shiftLeft_eq, Nat.add_comm, add_eq_xor h, Nat.xor_comm]
theorem beside_lt {n m a b : Nat} (ha : a < 2 ^ n) (hb : b < 2 ^ m) : a ^^^ b <<< n < 2 ^ (n + m) := by
  refine Nat.xor_lt_two_pow (Nat.lt_of_lt_of_le ha (Nat.pow_le_pow_right (by decide) (Nat.le_add_right _ _))) ?_
  rw [Nat.shiftLeft_eq, Nat.pow_add, Nat.mul_comm]
  exact Nat.mul_lt_mul_of_pos_left hb (Nat.two_pow_pos n)
theorem set_span {M : List Nat} {i j : Nat} (hi : i < M.length) (hj : j < M.length) (ne : i ≠ j) (x : Nat) : Spn (M.set j (M.getD j 0 ^^^ M.getD i 0)) x ↔ Spn M x := by
  have gi : (M.set j (M.getD j 0 ^^^ M.getD i 0)).getD i 0 = M.getD i 0 := by rw [getD_set' _ _ _ _ hj, if_neg ne]
  have gj : (M.set j (M.getD j 0 ^^^ M.getD i 0)).getD j 0 = M.getD j 0 ^^^ M.getD i 0 := by rw [getD_set' _ _ _ _ hj, if_pos rfl]
  have l : (M.set j (M.getD j 0 ^^^ M.getD i 0)).length = M.length := List.length_set
  have gk : ∀ k, k ≠ j → (M.set j (M.getD j 0 ^^^ M.getD i 0)).getD k 0 = M.getD k 0 := fun k e => by rw [getD_set' _ _ _ _ hj, if_neg e]
  have at_ : ∀ (L : List Nat) (w : Nat), w ∈ L → ∃ k, k < L.length ∧ L.getD k 0 = w := fun L w hw => by
    obtain ⟨k, hk, e⟩ := List.getElem_of_mem hw
    exact ⟨k, hk, by rw [List.getD_eq_getElem?_getD, List.getElem?_eq_getElem hk, ← e]; rfl⟩
  constructor
  · intro h
    refine h.mono fun w hw => ?_
    obtain ⟨k, hk, rfl⟩ := at_ _ w hw
    rw [l] at hk
    rw [getD_set' _ _ _ _ hj]
    split
    · exact (Spn.of (getD_mem hj)).xor (.of (getD_mem hi))
    · exact .of (getD_mem hk)
  · intro h
    refine h.mono fun w hw => ?_
    obtain ⟨k, hk, rfl⟩ := at_ _ w hw
    have m : ∀ k, k < M.length → (M.set j (M.getD j 0 ^^^ M.getD i 0)).getD k 0 ∈ M.set j (M.getD j 0 ^^^ M.getD i 0) := fun k hk => getD_mem (by rw [l]; exact hk)
    generalize M.set j (M.getD j 0 ^^^ M.getD i 0) = N at *
    by_cases e : k = j
    · subst e
      have a := (Spn.of (m k hj)).xor (Spn.of (m i hi))
      rwa [gj, gi, Nat.xor_assoc, Nat.xor_self, Nat.xor_zero] at a
    · have g := gk k e
      rw [← g]
      exact .of (m k hk)
theorem mix_step {b : Nat} {M : List Nat} (h : Mix b M) {i j : Nat} (hi : i < b) (hj : j < b) (ne : i ≠ j) : Mix b (M.set j (M.getD j 0 ^^^ M.getD i 0)) := by
  have l := h.len
  have sp := set_span (M := M) (by omega) (by omega) ne
  refine ⟨by rw [List.length_set, l], fun x hx => ((sp x).mp (.of hx)).lt h.lt, by rw [rk_eq sp, h.rk]⟩
theorem prt_twice (ss ls ws : List Nat) : (prt ss ls (spn (spn ws))).length = (prt ss ls (spn ws)).length := by
  have a := prt_size ss ls ws
  have b := prt_size ss ls (spn ws)
  have e : ∀ x, Spn (ss ++ spn ws) x ↔ Spn (ss ++ ws) x := fun x => span_app2 (fun _ => Iff.rfl) (spn_span ws)
  have e2 : ∀ x, Spn (ss ++ spn ws ++ ls) x ↔ Spn (ss ++ ws ++ ls) x := fun x => span_app e
  rw [rk_eq e, rk_eq e2] at b
  omega
end LaneX
set_option Elab.async false
set_option linter.all false
set_option maxRecDepth 100000
set_option maxHeartbeats 4000000
namespace LaneX
open PySem PySem.Spec PyProof.Rows L2

/-! ### natural numbers as values -/
abbrev vN (n : Nat) : V := .int (n : Int)
theorem nnAnd (n m : Nat) : Builtin.bitAnd (n : Int) (m : Int) = ((n &&& m : Nat) : Int) := by
  unfold Builtin.bitAnd
  have h1 : decide (0 ≤ (n : Int)) = true := decide_eq_true (Int.natCast_nonneg _)
  have h2 : decide (0 ≤ (m : Int)) = true := decide_eq_true (Int.natCast_nonneg _)
  simp
theorem nnOr (n m : Nat) : Builtin.bitOr (n : Int) (m : Int) = ((n ||| m : Nat) : Int) := by
  rw [bitOr_nn (Int.natCast_nonneg _) (Int.natCast_nonneg _)]
  simp
theorem and_or_xor (n m : Nat) : (n ||| m) = (n ^^^ m) + (n &&& m) := by
  have h : (n ^^^ m) &&& (n &&& m) = 0 := by
    apply Nat.eq_of_testBit_eq
    intro i
    simp only [Nat.testBit_and, Nat.testBit_xor, Nat.zero_testBit]
    cases n.testBit i <;> cases m.testBit i <;> rfl
  have h2 : (n ^^^ m) ||| (n &&& m) = n ||| m := by
    apply Nat.eq_of_testBit_eq
    intro i
    simp only [Nat.testBit_and, Nat.testBit_xor, Nat.testBit_or]
    cases n.testBit i <;> cases m.testBit i <;> rfl
  have add : ∀ (k a b : Nat), a < 2 ^ k → a &&& b = 0 → a + b = a ||| b := by
    intro k
    induction k with
    | zero =>
      intro a b ha _
      have : a = 0 := by simpa using ha
      subst this
      simp
    | succ k ih =>
      intro a b ha hab
      have e1 : a / 2 &&& b / 2 = 0 := by
        rw [← Nat.and_div_two, hab]
      have e2 := ih (a / 2) (b / 2) (by rw [Nat.pow_succ] at ha; omega) e1
      have e3 : (a ||| b) / 2 = a / 2 ||| b / 2 := Nat.or_div_two
      have e8 : a / 2 + b / 2 = (a ||| b) / 2 := by rw [e3]; exact e2
      clear e1 e2 e3 ih
      have e5 : (a &&& b).testBit 0 = false := by rw [hab]; simp
      have e6 : (a ||| b).testBit 0 = (a.testBit 0 || b.testBit 0) := Nat.testBit_or ..
      have e7 : (a.testBit 0 && b.testBit 0) = false := by rw [← Nat.testBit_and]; exact e5
      have t : ∀ x : Nat, x % 2 = if x.testBit 0 = true then 1 else 0 := by
        intro x
        rw [Nat.testBit_zero]
        split <;> simp_all
      have ta := t a
      have tb := t b
      have to := t (a ||| b)
      rw [e6] at to
      cases h1 : a.testBit 0 <;> cases h2 : b.testBit 0 <;> rw [h1] at ta to e7 <;> rw [h2] at tb to e7
      · simp only [Bool.or_false, Bool.false_eq_true, if_false] at ta tb to; omega
      · simp only [Bool.or_true, Bool.false_eq_true, if_false, if_true] at ta tb to; omega
      · simp only [Bool.or_false, Bool.false_eq_true, if_false, if_true] at ta tb to; omega
      · cases e7
  have := add ((n ^^^ m) + 1) (n ^^^ m) (n &&& m) (Nat.lt_of_lt_of_le Nat.lt_two_pow_self (Nat.pow_le_pow_right (by decide) (Nat.le_succ _))) h
  rw [h2] at this
  exact this.symm
theorem nnXor (n m : Nat) : Builtin.bitXor (n : Int) (m : Int) = ((n ^^^ m : Nat) : Int) := by
  unfold Builtin.bitXor
  rw [nnOr, nnAnd, and_or_xor]
  omega
theorem blen_bits (n : Nat) : Builtin.Int.intBits (n : Int) = blen n := by
  unfold Builtin.Int.intBits blen
  by_cases h : n = 0
  · subst h; rfl
  · have : ((n : Int) == 0) = false := by simp [h]
    rw [this]
    simp [h]

section
variable {X : Cx}
/-- two naturals, a condition, a natural -/
def rN (C : Nat → Nat → Prop) (g : Nat → Nat → Nat) : R2 := fun x y H Q => ∃ n m : Nat, x = .int (n : Int) ∧ y = .int (m : Int) ∧ C n m ∧ Q (.int (g n m : Nat)) H
def rN0 (g : Nat → Nat → Nat) : R2 := fun x y H Q => ∃ n m : Nat, x = .int (n : Int) ∧ y = .int (m : Int) ∧ Q (.int (g n m : Nat)) H
theorem on_xor : OpR X (binaryOp .BitXor) (fun x y H Q => ∃ n m : Nat, x = .int (n : Int) ∧ y = .int (m : Int) ∧ Q (.int ((n ^^^ m : Nat) : Int)) H) := by
  intro pins s σ H x y v u Q I rx ry h
  obtain ⟨n, m, rfl, rfl, q⟩ := h
  rw [← nnXor] at q
  exact op_xor pins s σ H _ _ v u Q I rx ry ⟨_, _, rfl, rfl, q⟩
theorem on_and : OpR X (binaryOp .BitAnd) (fun x y H Q => ∃ n m : Nat, x = .int (n : Int) ∧ y = .int (m : Int) ∧ Q (.int ((n &&& m : Nat) : Int)) H) := by
  intro pins s σ H x y v u Q I rx ry h
  obtain ⟨n, m, rfl, rfl, q⟩ := h
  rw [← nnAnd] at q
  exact op_and pins s σ H _ _ v u Q I rx ry ⟨_, _, rfl, rfl, q⟩
theorem on_or : OpR X (binaryOp .BitOr) (fun x y H Q => ∃ n m : Nat, x = .int (n : Int) ∧ y = .int (m : Int) ∧ Q (.int ((n ||| m : Nat) : Int)) H) := by
  intro pins s σ H x y v u Q I rx ry h
  obtain ⟨n, m, rfl, rfl, q⟩ := h
  rw [← nnOr] at q
  exact op_or pins s σ H _ _ v u Q I rx ry ⟨_, _, rfl, rfl, q⟩
theorem on_add : OpR X (binaryOp .Add) (fun x y H Q => ∃ n m : Nat, x = .int (n : Int) ∧ y = .int (m : Int) ∧ Q (.int ((n + m : Nat) : Int)) H) := op_addN
theorem on_sub : OpR X (binaryOp .Sub) (fun x y H Q => ∃ n m : Nat, x = .int (n : Int) ∧ y = .int (m : Int) ∧ (m ≤ n) ∧ Q (.int ((n - m : Nat) : Int)) H) := op_subN
theorem on_shr : OpR X (binaryOp .RShift) (fun x y H Q => ∃ n m : Nat, x = .int (n : Int) ∧ y = .int (m : Int) ∧ Q (.int ((n >>> m : Nat) : Int)) H) := by
  intro pins s σ H x y v u Q I rx ry h
  obtain ⟨n, m, rfl, rfl, q⟩ := h
  refine op_shrN pins s σ H _ _ v u Q I rx ry ⟨_, _, rfl, rfl, ?_⟩
  have e : ((n >>> m : Nat) : Int) = (n : Int) / 2 ^ m := by
    rw [Nat.shiftRight_eq_div_pow, Int.natCast_ediv]
    simp
  rw [← e]
  exact q
/-- a shift to the left: few bits in all -/
def CShN (n m : Nat) : Prop := blen n + m ≤ 100000000
theorem on_shl : OpR X (binaryOp .LShift) (fun x y H Q => ∃ n m : Nat, x = .int (n : Int) ∧ y = .int (m : Int) ∧ CShN n m ∧ Q (.int ((n <<< m : Nat) : Int)) H) := by
  intro pins s σ H x y v u Q I rx ry h
  obtain ⟨n, m, rfl, rfl, hc, q⟩ := h
  refine op_shlN pins s σ H _ _ v u Q I rx ry ⟨_, _, rfl, rfl, ⟨by omega, ?_⟩, ?_⟩
  · rw [blen_bits]
    have : blen n + m ≤ 100000000 := hc
    omega
  · have e : ((n <<< m : Nat) : Int) = (n : Int) * 2 ^ m := by
      rw [Nat.shiftLeft_eq]
      simp
    rw [← e]
    exact q
theorem on_mul : OpR X (binaryOp .Mult) (fun x y H Q => ∃ n m : Nat, x = .int (n : Int) ∧ y = .int (m : Int) ∧ (n < 2 ^ 64) ∧ Q (.int ((n * m : Nat) : Int)) H) := by
  intro pins s σ H x y v u Q I rx ry h
  obtain ⟨n, m, rfl, rfl, c, q⟩ := h
  rw [Int.natCast_mul] at q
  exact op_mul pins s σ H _ _ v u Q I rx ry ⟨_, _, rfl, rfl, show CMul (n : Int) (m : Int) from Or.inl ⟨by omega, by have : n < 18446744073709551616 := c; omega⟩, q⟩
theorem on_fdiv : OpR X (binaryOp .FloorDiv) (fun x y H Q => ∃ n m : Nat, x = .int (n : Int) ∧ y = .int (m : Int) ∧ (0 < m ∧ m < 1073741824) ∧ Q (.int ((n / m : Nat) : Int)) H) := op_fdivNN
/-- the left one any size, the divisor below 2 ^ 9000 -/
theorem on_fdivW : OpR X (binaryOp .FloorDiv) (fun x y H Q => ∃ n m : Nat, x = .int (n : Int) ∧ y = .int (m : Int) ∧ (0 < m ∧ m < 2 ^ 8999) ∧ Q (.int ((n / m : Nat) : Int)) H) := by
  intro pins s σ H x y v u Q I rx ry h
  obtain ⟨n, m, rfl, rfl, ⟨c1, c2⟩, q⟩ := h
  rw [Int.natCast_ediv] at q
  refine op_fdivW pins s σ H _ _ v u Q I rx ry ⟨_, _, rfl, rfl, wide_div (b := 8999) (by omega) ?_ (by decide) (by decide), q⟩
  simpa using c2
theorem on_mod : OpR X (binaryOp .Mod) (fun x y H Q => ∃ n m : Nat, x = .int (n : Int) ∧ y = .int (m : Int) ∧ (0 < m) ∧ Q (.int ((n % m : Nat) : Int)) H) := by
  intro pins s σ H x y v u Q I rx ry h
  obtain ⟨n, m, rfl, rfl, c, q⟩ := h
  rw [Int.natCast_emod] at q
  exact op_mod pins s σ H _ _ v u Q I rx ry ⟨_, _, rfl, rfl, show (0 : Int) < (m : Int) by have : 0 < m := c; omega, q⟩
end
end LaneX
set_option Elab.async false
set_option linter.all false
set_option maxRecDepth 100000
set_option maxHeartbeats 4000000
namespace LaneX
open PySem PySem.Spec PyProof.Rows L2

/-! ### defs, methods, classes by their names -/
section
variable (P : Program) (w : World) (K : PySem.W.Frag) (mg : Str → Option Value) (base : Heap)
/-- the def x keeps the promise sp at level k -/
structure Dn (k : Nat) (x : Str) (ps : List Str) (sp : Sp) : Prop where
  ex : ∃ (f : Addr) (fd : FuncData), mg x = some (.ref f) ∧ PySem.W.keepIn K (.ref f) = true ∧ Binds K fd ps [] ∧ FnOk P w K mg base CX0 k f fd ps sp
/-- the method m of the class at C -/
structure Mn (k : Nat) (C : Addr) (m : Str) (ps : List Str) (sp : Sp) : Prop where
  cl : Cls K C
  ex : ∃ (f : Addr) (fd : FuncData), Meth K C m f ∧ Binds K fd ps [] ∧ FnOk P w K mg base CX0 k f fd ps sp
/-- the class x at C, made by its __init__ -/
structure Kn (k : Nat) (C : Addr) (x : Str) (ps : List Str) (sp : Sp) : Prop where
  gl : mg x = some (.ref C)
  ex : ∃ (f : Addr) (fd : FuncData), Mk K C f ∧ Binds K fd ps [] ∧ FnOk P w K mg base CX0 k f fd ps sp
end
section
variable {X : Cx} {k j : Nat} {x m : Str} {ps : List Str} {sp : Sp} {C : Addr} {p pos apos : Pos} {e o : Expr} {es : List Expr} {t : TA} {to : TE}
theorem pe_d (D : Dn X.prog X.w X.K X.mg X.base k x ps sp) (hr : Room j X.A) (ha : PA X (e :: es) t) (hk : k ≤ j := by decide) (hg : Gl X x := by rfl) (hdb : (x == ("__debug__" : Str)) = false := by decide)
    (he : starEach (e :: es) X.env = (false, eval e X.env) :: starEach es X.env := by rfl) (hpl : (backTo pos (starEach es X.env)).any (·.1) = false := by rfl) :
    PE X (.Call (.Name x p) (e :: es) [] pos) (tCall sp [] E0 t) := by
  obtain ⟨f, fd, h1, h2, h3, h4⟩ := D.ex
  exact pe_call h4 (hr.mono hk) hg h1 h2 h3 .nil pass0 ha hdb he hpl
theorem pe_k (D : Kn X.prog X.w X.K X.mg X.base k C x ps sp) (hr : Room j X.A) (ha : PA X (e :: es) t) (hk : k + 1 ≤ j := by decide) (hg : Gl X x := by rfl) (hdb : (x == ("__debug__" : Str)) = false := by decide)
    (he : starEach (e :: es) X.env = (false, eval e X.env) :: starEach es X.env := by rfl) (hpl : (backTo pos (starEach es X.env)).any (·.1) = false := by rfl) :
    PE X (.Call (.Name x p) (e :: es) [] pos) (tMake C sp [] E0 t) := by
  obtain ⟨f, fd, h1, h3, h4⟩ := D.ex
  exact pe_make h1 h4 (hr.mono hk) hg D.gl h3 .nil pass0 ha hdb he hpl
theorem pe_m {pl : Sem Bool} (ho : PE X o to) (D : Mn X.prog X.w X.K X.mg X.base k C m ps sp) (hr : Room j X.A) (ha : PA X (e :: es) t) (hk : k ≤ j := by decide)
    (hst : starEach (e :: es) X.env = (false, eval e X.env) :: starEach es X.env := by rfl) (hpl : (backTo pos (starEach es X.env)).any (·.1) = false := by rfl)
    (ht : eval (.Call (.Attribute o m apos) (e :: es) [] pos) X.env = (do
      let ov ← eval o X.env
      standAt apos.atName
      let (f, first) ← holding [ov] (getMethod ov m pl)
      callWith pos f first (backTo pos (starEach (e :: es) X.env)) (backToKw pos (keywordEach [] X.env))) := by rfl) :
    PE X (.Call (.Attribute o m apos) (e :: es) [] pos) (tMeth C m sp [] E0 to t) := by
  obtain ⟨f, fd, h1, h3, h4⟩ := D.ex
  exact pe_meth ho D.cl h1 h4 (hr.mono hk) h3 .nil pass0 ha hst hpl ht
theorem pe_m0 {pl : Sem Bool} (ho : PE X o to) (D : Mn X.prog X.w X.K X.mg X.base k C m ps sp) (hr : Room j X.A) (hk : k ≤ j := by decide)
    (ht : eval (.Call (.Attribute o m apos) [] [] pos) X.env = (do
      let ov ← eval o X.env
      standAt apos.atName
      let (f, first) ← holding [ov] (getMethod ov m pl)
      callWith pos f first (backTo pos (starEach [] X.env)) (backToKw pos (keywordEach [] X.env))) := by rfl) :
    PE X (.Call (.Attribute o m apos) [] [] pos) (tMeth C m sp [] E0 to tNil) := by
  obtain ⟨f, fd, h1, h3, h4⟩ := D.ex
  exact pe_meth0 ho D.cl h1 h4 (hr.mono hk) h3 .nil pass0 ht
end
/-- a def of the text (no defaults) -/
abbrev FnP (K : PySem.W.Frag) (x qual : Str) (st : Stmt) (f : Addr) (fd : FuncData) : Prop := FunD K x qual (defArgs st) (defBody st) (defScope st) [] [] f fd
section
variable {P : Program} {w : World} {K : PySem.W.Frag} {mg : Str → Option Value} {base : Heap}
theorem fnok {x qual : Str} {st : Stmt} {f : Addr} {fd : FuncData} {N ps : List Str} {k : Nat} {sp : Sp} (F : FnP K x qual st f fd) (S : FnScope N ps (defScope st)) (len : ∀ vs H Q E, sp vs H Q E → vs.length = ps.length)
    (hbody : ∀ (cdv : Value) (A : Around) (outer : List Env) (s : Shared) (H : Hp) (vs : List V) (Q : VK) (E : XK), Room k (A.deeper (envOfC qual (defScope st) s.heap.objs.size f cdv)) → sp vs H Q E →
      ∃ t, PSs (cxOf CX0 P w K mg base N qual (defScope st) f cdv A outer s H E).nox (defBody st) t ∧ t { nx := fun _ H' => Q .non H', rt := Q } (start N vs) H) : FnOk P w K mg base CX0 (k + 1) f fd ps sp := by
  refine F.ok S len (fun cdv A outer s H vs Q E hr h => ?_)
  obtain ⟨t, h1, h2⟩ := hbody cdv A outer s H vs Q E hr h
  exact ⟨t, PSs.nox h1, h2⟩
end

/-! ### lists and tuples alike -/
def Sq (K : PySem.W.Frag) (H : Hp) (a : Addr) (xs : List V) : Prop := SqL K H a xs ∨ SqT K H a xs
def iSeq (K : PySem.W.Frag) (tl : TE) : TI := fun σ H R => tl σ H fun x H1 => ∃ (a : Addr) (xs : List V), x = .ref a ∧ ((SqL K H1 a xs ∧ R (Itl K a) H1) ∨ (SqT K H1 a xs ∧ R (Itt K a) H1))
theorem pi_seq {X : Cx} {tg : Expr} {l : Expr} {tl : TE} (hl : PE X l tl) : PI X tg l (iSeq X.K tl) := by
  refine ⟨fun pins s σ H R I h => ?_⟩
  refine thn (hl.run pins s σ H _ I h) fun v s1 hh => ?_
  obtain ⟨x, H1, I1, r1, a, xs, e, q⟩ := hh
  subst e
  cases r1
  have fp : ∀ b ∈ [s1.heap.objs.size], FpOk X pins H1 b := fun b hb => by
    have e : b = s1.heap.objs.size := by simpa using hb
    subst e
    exact I1.fpOk (Nat.le_refl _) (I1.hok.fresh (Nat.le_refl _))
  rcases q with ⟨hq, q⟩ | ⟨hq, q⟩
  · obtain ⟨its, rv, p, hz⟩ := I1.list hq
    exact wpAny_pyIter_list p.isList ⟨_, _, _, _, H1, rfl, I1.kept (t' := s1.toks) fun b o e => Heap.get?_push_of_some _ e, turn_list a _, ⟨_, Heap.get?_push_size _ rfl, rfl, rfl⟩, fp, q⟩
  · obtain ⟨its, rv, p, hz⟩ := I1.tuple hq
    exact wpAny_pyIter_tuple (show s1.heap.IsTuple a its.toArray from p) ⟨_, _, _, _, H1, rfl, I1.kept (t' := s1.toks) fun b o e => Heap.get?_push_of_some _ e, turn_tuple a _, ⟨_, Heap.get?_push_size _ rfl, rfl, rfl⟩, fp, q⟩

/-! ### heaps: all is kept; all but dicts is kept -/
/-- all but a dict whose first key is a text (the pen) -/
def notD : HO → Bool
  | .dK ((.inr _, _) :: _) => false
  | _ => true
structure Kp (H H' : Hp) : Prop where
  keep : ∀ b o, H b = some o → notD o = true → H' b = some o
  free : ∀ b, H' b = none → H b = none
instance {H H' : Hp} : CoeFun (Kp H H') (fun _ => ∀ b o, H b = some o → notD o = true → H' b = some o) := ⟨Kp.keep⟩
theorem Kp.refl (H : Hp) : Kp H H := ⟨fun _ _ h _ => h, fun _ h => h⟩
theorem Kp.of {H H' : Hp} (s : Same H H') : Kp H H' := ⟨fun b o h _ => s b o h, fun b h => s.free h⟩
theorem Kp.trans {H H1 H2 : Hp} (a : Kp H H1) (b : Kp H1 H2) : Kp H H2 := ⟨fun c o h n => b.keep c o (a.keep c o h n) n, fun c h => a.free c (b.free c h)⟩
theorem upd_new {H : Hp} {p a : Addr} {o u : HO} (n : H p = none) (h : H a = some u) : upd H p o a = some u := (upd_ne (ne_of_none h n)).trans h
theorem same_new {H H' : Hp} {p : Addr} {o : HO} (s : Same H H') (n : H' p = none) : Same H (upd H' p o) := fun b u e => upd_new n (s b u e)
theorem same_new0 {H : Hp} {p : Addr} {o : HO} (n : H p = none) : Same H (upd H p o) := fun b u e => upd_new n e
/-- a list of one's own is written -/
theorem same_put {H H' : Hp} {p : Addr} {o : HO} (s : Same H H') (n : H p = none) : Same H (upd H' p o) := fun b u e => (upd_ne (ne_of_none e n)).trans (s b u e)
theorem upd_free {H : Hp} {p b : Addr} {o : HO} (h : upd H p o b = none) : H b = none := by
  by_cases e : b = p
  · subst e; rw [upd_same] at h; cases h
  · rw [upd_ne e] at h; exact h
theorem kp_new {H H' : Hp} {p : Addr} {o : HO} (s : Kp H H') (n : H' p = none) : Kp H (upd H' p o) := ⟨fun b u e q => upd_new n (s.keep b u e q), fun b h => s.free b (upd_free h)⟩
theorem kp_put {H H' : Hp} {p : Addr} {o : HO} (s : Kp H H') (n : H p = none) : Kp H (upd H' p o) := ⟨fun b u e q => (upd_ne (ne_of_none e n)).trans (s.keep b u e q), fun b h => s.free b (upd_free h)⟩
theorem same_l {H H' : Hp} (s : Same H H') {a : Addr} {xs : List V} (h : H a = some (.lst xs)) : H' a = some (.lst xs) := s _ _ h
theorem same_sq {K : PySem.W.Frag} {H H' : Hp} (s : Same H H') {a : Addr} {xs : List V} (h : Sq K H a xs) : Sq K H' a xs := by
  rcases h with h | h
  · exact .inl (s.seq h)
  · refine .inr ?_
    rcases h with (h | ⟨o, h⟩) | h
    · exact .inl (.inl (s _ _ h))
    · exact .inl (.inr ⟨o, s _ _ h⟩)
    · exact .inr h
theorem kp_sqL {K : PySem.W.Frag} {H H' : Hp} (s : Kp H H') {a : Addr} {xs : List V} (h : SqL K H a xs) : SqL K H' a xs := by
  rcases h with (h | ⟨o, h⟩) | h
  · exact .inl (.inl (s _ _ h rfl))
  · exact .inl (.inr ⟨o, s _ _ h rfl⟩)
  · exact .inr h
theorem kp_sqT {K : PySem.W.Frag} {H H' : Hp} (s : Kp H H') {a : Addr} {xs : List V} (h : SqT K H a xs) : SqT K H' a xs := by
  rcases h with (h | ⟨o, h⟩) | h
  · exact .inl (.inl (s _ _ h rfl))
  · exact .inl (.inr ⟨o, s _ _ h rfl⟩)
  · exact .inr h
theorem kp_sq {K : PySem.W.Frag} {H H' : Hp} (s : Kp H H') {a : Addr} {xs : List V} (h : Sq K H a xs) : Sq K H' a xs := h.elim (fun h => .inl (kp_sqL s h)) fun h => .inr (kp_sqT s h)
theorem Sq.l {K : PySem.W.Frag} {H : Hp} {a : Addr} {xs : List V} (h : H a = some (.lst xs)) : Sq K H a xs := .inl (SqL.of h)
theorem Sq.t {K : PySem.W.Frag} {H : Hp} {a : Addr} {xs : List V} (h : H a = some (.tup xs)) : Sq K H a xs := .inr (SqT.of h)

/-- a tracked list or tuple -/
def Tq (H : Hp) (a : Addr) (xs : List V) : Prop := H a = some (.lst xs) ∨ H a = some (.tup xs)
theorem Tq.sq {K : PySem.W.Frag} {H : Hp} {a : Addr} {xs : List V} (h : Tq H a xs) : Sq K H a xs := h.elim Sq.l Sq.t
theorem Tq.l {H : Hp} {a : Addr} {xs : List V} (h : H a = some (.lst xs)) : Tq H a xs := .inl h
theorem Tq.t {H : Hp} {a : Addr} {xs : List V} (h : H a = some (.tup xs)) : Tq H a xs := .inr h
theorem same_tq {H H' : Hp} (s : Same H H') {a : Addr} {xs : List V} (h : Tq H a xs) : Tq H' a xs := h.elim (fun h => .inl (s _ _ h)) fun h => .inr (s _ _ h)
theorem kp_tq {H H' : Hp} (s : Kp H H') {a : Addr} {xs : List V} (h : Tq H a xs) : Tq H' a xs := h.elim (fun h => .inl (s _ _ h rfl)) fun h => .inr (s _ _ h rfl)
theorem Tq.new {H : Hp} {a p : Addr} {o : HO} {xs : List V} (h : Tq H a xs) (n : H p = none) : Tq (upd H p o) a xs := h.elim (fun h => .inl (upd_new n h)) fun h => .inr (upd_new n h)
theorem Tq.sqlt {K : PySem.W.Frag} {H : Hp} {a : Addr} {xs : List V} (h : Tq H a xs) : SqL K H a xs ∨ SqT K H a xs := h.elim (fun h => .inl (SqL.of h)) fun h => .inr (SqT.of h)
theorem Tq.ty {K : PySem.W.Frag} {H : Hp} {a : Addr} {xs : List V} (h : Tq H a xs) : ∃ t, TyX K H (.ref a) t ∧ PySem.W.kitAny K t [.type "list", .type "tuple"] = some true := by
  rcases h with h | h
  · exact ⟨_, .base (.lst h), kitAny_cons (b := true) (kit_ty (by decide +kernel)) (fun z => by cases z) (fun _ => rfl)⟩
  · exact ⟨_, .base (.tup h), kitAny_cons (b := false) (kit_ty (by decide +kernel)) (fun _ => kitAny_cons (b := true) (kit_ty (by decide +kernel)) (fun z => by cases z) (fun _ => rfl)) (fun z => by cases z)⟩

theorem same_free {H H' : Hp} (e : Same H H') {l : Addr} (h : H' l = none) : H l = none := e.free h
theorem map_get {α : Type} {g : α → V} {l : List α} {i : Nat} {x : V} (h : (l.map g)[i]? = some x) : ∃ n, l[i]? = some n ∧ x = g n := by
  rw [List.getElem?_map] at h
  cases e : l[i]? with
  | none => rw [e] at h; cases h
  | some n => rw [e] at h; exact ⟨n, rfl, (Option.some.inj h).symm⟩
/-! ### a for, a comprehension over a list or tuple, over a range -/
def ForR (g : TG) (tb : TS) (D : Ends) (σ : L2.St) : It → Hp → Prop := fun J H => ∃ W : Nat → Nat → L2.St → Hp → Prop, (∃ m, W 0 m σ H) ∧ ∀ i m σ H, W i m σ H →
  (J.stop i H ∧ D.nx σ H) ∨ (J.go i H ∧ ∃ N : L2.St → Hp → Prop, (∀ σ' H', N σ' H' → ∃ m', m' < m ∧ W (i + 1) m' σ' H') ∧ ∀ x H', J.yld i H x H' → g x σ H' fun σ2 H2 => tb { D with nx := N, ct := N, bk := D.nx } σ2 H2)
def LcR (g : TG) (tt : TT) (te : TE) (vs : List Nat) (σ : L2.St) (Q : Addr → Hp → Prop) : It → Hp → Prop := fun J H1 => ∀ D, H1 D = none → ∃ W : Nat → Nat → Hp → Prop, (∃ m, W 0 m (upd H1 D (.lst []))) ∧ ∀ i m H, W i m H →
  (J.stop i H ∧ Q D H) ∨ (J.go i H ∧ ∃ Nx : Hp → Prop, (∀ H', Nx H' → ∃ m', m' < m ∧ W (i + 1) m' H') ∧ ∀ x H', J.yld i H x H' → g x (wipe σ vs) H' fun σ2 H2 => wipe σ2 vs = wipe σ vs ∧ tt σ2 H2 fun b H3 =>
    if b = true then te σ2 H3 fun y H4 => ∃ acc, H4 D = some (.lst acc) ∧ acc.length < sizeLine ∧ Nx (upd H4 D (.lst (acc ++ [y]))) else Nx H3)
theorem for_seq {K : PySem.W.Frag} {a : Addr} {xs : List V} {g : TG} {tb : TS} {D : Ends} {σ : L2.St} {H : Hp} (hS : Sq K H a xs) (Pv : Nat → L2.St → Hp → Prop) (h0 : Pv 0 σ H) (hk : ∀ i σ' H', Pv i σ' H' → Kp H H')
    (hs : ∀ i x σ H, xs[i]? = some x → Pv i σ H → g x σ H fun σ2 H2 => tb { D with nx := Pv (i + 1), ct := Pv (i + 1), bk := D.nx } σ2 H2) (hd : ∀ σ H, Pv xs.length σ H → D.nx σ H) :
    ∃ (a' : Addr) (xs' : List V), V.ref a = .ref a' ∧ ((SqL K H a' xs' ∧ ForR g tb D σ (Itl K a') H) ∨ (SqT K H a' xs' ∧ ForR g tb D σ (Itt K a') H)) := by
  refine ⟨a, xs, rfl, ?_⟩
  rcases hS with h | h
  · exact .inl ⟨h, for_it walk_list Pv h0 (fun i σ' H' hi p => kp_sqL (hk i σ' H' p) h) (fun i x σ' H' H'' _ p y => by obtain ⟨e, hx⟩ := y; subst e; exact hs i x σ' _ hx p) hd⟩
  · exact .inr ⟨h, for_it walk_tup Pv h0 (fun i σ' H' hi p => kp_sqT (hk i σ' H' p) h) (fun i x σ' H' H'' _ p y => by obtain ⟨e, hx⟩ := y; subst e; exact hs i x σ' _ hx p) hd⟩
/-- .. where what is walked alone must stay -/
theorem for_sq2 {K : PySem.W.Frag} {a : Addr} {xs : List V} {g : TG} {tb : TS} {D : Ends} {σ : L2.St} {H : Hp} (hS : Tq H a xs) (Pv : Nat → L2.St → Hp → Prop) (h0 : Pv 0 σ H) (hk : ∀ i σ' H', Pv i σ' H' → ∀ o, H a = some o → H' a = some o)
    (hs : ∀ i x σ H, xs[i]? = some x → Pv i σ H → g x σ H fun σ2 H2 => tb { D with nx := Pv (i + 1), ct := Pv (i + 1), bk := D.nx } σ2 H2) (hd : ∀ σ H, Pv xs.length σ H → D.nx σ H) :
    ∃ (a' : Addr) (xs' : List V), V.ref a = .ref a' ∧ ((SqL K H a' xs' ∧ ForR g tb D σ (Itl K a') H) ∨ (SqT K H a' xs' ∧ ForR g tb D σ (Itt K a') H)) := by
  refine ⟨a, xs, rfl, ?_⟩
  rcases hS with h | h
  · exact .inl ⟨SqL.of h, for_it walk_list Pv h0 (fun i σ' H' hi p => SqL.of (hk i σ' H' p _ h)) (fun i x σ' H' H'' _ p y => by obtain ⟨e, hx⟩ := y; subst e; exact hs i x σ' _ hx p) hd⟩
  · exact .inr ⟨SqT.of h, for_it walk_tup Pv h0 (fun i σ' H' hi p => SqT.of (hk i σ' H' p _ h)) (fun i x σ' H' H'' _ p y => by obtain ⟨e, hx⟩ := y; subst e; exact hs i x σ' _ hx p) hd⟩
/-- what stood under the loop stands, by what stood ahead -/
theorem stay_of {H HB H2 : Hp} {a : Addr} {u : HO} (h : H a = some u) (s0 : Same H HB) (s2 : ∀ c o, H c = some o → H2 c = some o) : ∀ o, HB a = some o → H2 a = some o := fun o ho => by
  rw [s0 _ _ h] at ho
  cases ho
  exact s2 _ _ h
/-- Pv speaks of the heap and the new list at D -/
theorem lc_seq {K : PySem.W.Frag} {a : Addr} {xs : List V} {g : TG} {tt : TT} {te : TE} {vs : List Nat} {σ : L2.St} {H : Hp} {Q : Addr → Hp → Prop} (hS : Sq K H a xs) (Pv : Addr → Nat → Hp → Prop) (h0 : ∀ D, H D = none → Pv D 0 (upd H D (.lst [])))
    (hk : ∀ D i H', H D = none → Pv D i H' → Kp H H')
    (hs : ∀ D i x H', H D = none → xs[i]? = some x → Pv D i H' → g x (wipe σ vs) H' fun σ2 H2 => wipe σ2 vs = wipe σ vs ∧ tt σ2 H2 fun b H3 =>
      if b = true then te σ2 H3 fun y H4 => ∃ acc, H4 D = some (.lst acc) ∧ acc.length < sizeLine ∧ Pv D (i + 1) (upd H4 D (.lst (acc ++ [y]))) else Pv D (i + 1) H3) (hd : ∀ D H', H D = none → Pv D xs.length H' → Q D H') :
    ∃ (a' : Addr) (xs' : List V), V.ref a = .ref a' ∧ ((SqL K H a' xs' ∧ LcR g tt te vs σ Q (Itl K a') H) ∨ (SqT K H a' xs' ∧ LcR g tt te vs σ Q (Itt K a') H)) := by
  refine ⟨a, xs, rfl, ?_⟩
  rcases hS with h | h
  · exact .inl ⟨h, fun D hD => lc_it walk_list (Pv D) (h0 D hD) (fun i H' _ p => kp_sqL (hk D i H' hD p) h) (fun i x H' H'' _ p y => by obtain ⟨e, hx⟩ := y; subst e; exact hs D i x _ hD hx p) fun H' p => hd D H' hD p⟩
  · exact .inr ⟨h, fun D hD => lc_it walk_tup (Pv D) (h0 D hD) (fun i H' _ p => kp_sqT (hk D i H' hD p) h) (fun i x H' H'' _ p y => by obtain ⟨e, hx⟩ := y; subst e; exact hs D i x _ hD hx p) fun H' p => hd D H' hD p⟩
/-! ### pure comprehensions -/
theorem br {b : Bool} {A B : Prop} (h1 : b = true → A) (h2 : b = false → B) : if b = true then A else B := by
  cases b with
  | true => exact iteT (h1 rfl)
  | false => exact iteF (h2 rfl)
theorem take_succ {α : Type} {l : List α} {i : Nat} {x : α} (h : l[i]? = some x) : l.take (i + 1) = l.take i ++ [x] := by
  rw [List.take_succ, h]
  rfl
theorem size6 {n : Nat} (h : n ≤ 1000000) : n < sizeLine := by rw [sizeLine_eq]; omega
theorem size6' {n : Nat} (h : n ≤ 1000000) : n ≤ sizeLine := Nat.le_of_lt (size6 h)
section
variable {α : Type} {K : PySem.W.Frag} {g : TG} {tt : TT} {te : TE} {vs : List Nat} {σ : L2.St} {H : Hp} {Q : Addr → Hp → Prop}
/-- one turn of a comprehension: all is kept, the item is v n if p n -/
def LcT (g : TG) (tt : TT) (te : TE) (vs : List Nat) (σ : L2.St) (x : V) (H' : Hp) (p : Bool) (v : V) : Prop :=
  ∀ (Z : VK) (Nx : Hp → Prop), (p = true → ∀ H4, Same H' H4 → Z v H4) → (p = false → ∀ H4, Same H' H4 → Nx H4) →
    g x (wipe σ vs) H' fun σ2 H2 => wipe σ2 vs = wipe σ vs ∧ tt σ2 H2 fun b H3 => if b = true then te σ2 H3 Z else Nx H3
theorem lc_turn {l : List α} {ι : α → V} {p : α → Bool} {v : α → V} (hlen : l.length ≤ 1000000) {D : Addr} {i : Nat} {n : α} {H' : Hp} (hD : H D = none) (hn : l[i]? = some n) (s : Same H H') (hH : H' D = some (.lst (((l.take i).filter p).map v)))
    (hs : LcT g tt te vs σ (ι n) H' (p n) (v n)) :
    g (ι n) (wipe σ vs) H' fun σ2 H2 => wipe σ2 vs = wipe σ vs ∧ tt σ2 H2 fun b H3 =>
      if b = true then te σ2 H3 fun y H4 => ∃ acc, H4 D = some (.lst acc) ∧ acc.length < sizeLine ∧ (Same H (upd H4 D (.lst (acc ++ [y]))) ∧ upd H4 D (.lst (acc ++ [y])) D = some (.lst (((l.take (i + 1)).filter p).map v))) else (Same H H3 ∧ H3 D = some (.lst (((l.take (i + 1)).filter p).map v))) := by
  have e1 := take_succ hn
  refine hs _ _ (fun hp H4 s4 => ⟨_, s4 _ _ hH, ?_, same_put (s.trans s4) hD, ?_⟩) (fun hp H4 s4 => ⟨s.trans s4, ?_⟩)
  · refine size6 (Nat.le_trans ?_ hlen)
    rw [List.length_map]
    exact Nat.le_trans (List.length_filter_le _ _) (by rw [List.length_take]; omega)
  · rw [upd_same, e1, List.filter_append, List.map_append]
    simp [hp]
  · rw [s4 _ _ hH, e1, List.filter_append, List.map_append]
    simp [hp]
theorem lc_pure {a : Addr} (l : List α) (ι : α → V) (p : α → Bool) (v : α → V) (hS : Tq H a (l.map ι)) (hlen : l.length ≤ 1000000) (hs : ∀ n H', n ∈ l → Same H H' → LcT g tt te vs σ (ι n) H' (p n) (v n))
    (hd : ∀ D H', H D = none → Same H H' → H' D = some (.lst ((l.filter p).map v)) → Q D H') :
    ∃ (a' : Addr) (xs' : List V), V.ref a = .ref a' ∧ ((SqL K H a' xs' ∧ LcR g tt te vs σ Q (Itl K a') H) ∨ (SqT K H a' xs' ∧ LcR g tt te vs σ Q (Itt K a') H)) := by
  refine lc_seq hS.sq (fun D i H' => Same H H' ∧ H' D = some (.lst (((l.take i).filter p).map v))) (fun D hD => ⟨same_new0 hD, upd_same⟩) (fun D i H' hD hp => Kp.of hp.1) (fun D i x H' hD hx hp => ?_) (fun D H' hD hp => ?_)
  · obtain ⟨n, hn, rfl⟩ := map_get hx
    exact lc_turn hlen hD hn hp.1 hp.2 (hs n H' (List.mem_of_getElem? hn) hp.1)
  · obtain ⟨h1, h2⟩ := hp
    rw [List.length_map, List.take_length] at h2
    exact hd D H' hD h1 h2
theorem range_get {n i : Nat} (h : i < n) : (List.range n)[i]? = some i := by simp [h]
/-- .. over range(n) -/
theorem lc_pureR {n : Nat} (p : Nat → Bool) (v : Nat → V) (hlen : n ≤ 1000000) (hs : ∀ i H', i < n → Same H H' → LcT g tt te vs σ (vN i) H' (p i) (v i))
    (hd : ∀ D H', H D = none → Same H H' → H' D = some (.lst (((List.range n).filter p).map v)) → Q D H') : LcR g tt te vs σ Q (Itr 0 n) H := by
  intro D hD
  refine lc_range (fun i H' => Same H H' ∧ H' D = some (.lst ((((List.range n).take i).filter p).map v))) ⟨same_new0 hD, by simpa using upd_same⟩ (fun i H' hi hp => ?_) (fun H' hp => ?_)
  · have q := lc_turn (ι := vN) (l := List.range n) (by simpa using hlen) hD (range_get hi) hp.1 hp.2 (hs i H' hi hp.1)
    rw [show (0 : Int) + (i : Int) = (i : Int) by omega]
    exact q
  · obtain ⟨h1, h2⟩ := hp
    rw [List.take_of_length_le (by simp)] at h2
    exact hd D H' hD h1 h2
end
section
variable {X : Cx}
/-- sorted(xs), naturals -/
theorem cr_sortedN : CallR X (.builtin "sorted") (fun xs H Q => ∃ (a : Addr) (ns : List Nat), xs = [.ref a] ∧ H a = some (.lst (ns.map vN)) ∧ ∀ p, H p = none → Q (.ref p) (upd H p (.lst ((srt ns).map vN)))) := by
  intro pins s σ H xs us Q I r h
  obtain ⟨a, ns, rfl, hS, h⟩ := h
  have em : ∀ l : List Nat, l.map vN = (l.map Int.ofNat).map V.int := fun l => by rw [List.map_map]; rfl
  refine cr_sortedI pins s σ H _ us Q I r ⟨a, ns.map Int.ofNat, rfl, SqL.of (by rw [← em]; exact hS), fun ns' p hp hs hn => ?_⟩
  have e : ns' = (srt ns).map Int.ofNat := by
    have e1 : ns' = (ns'.map Int.toNat).map Int.ofNat := by
      rw [List.map_map]
      have : ∀ z ∈ ns', (Int.ofNat ∘ Int.toNat) z = z := fun z hz => by
        obtain ⟨k, _, hk⟩ := List.mem_map.mp (hp.mem_iff.mp hz)
        subst hk
        rfl
      rw [List.map_congr_left this, List.map_id']
    have e2 : ns'.map Int.toNat = srt ns := by
      refine srt_of ?_ ?_
      · have := hp.map Int.toNat
        rw [List.map_map] at this
        have e3 : ns.map (Int.toNat ∘ Int.ofNat) = ns := by
          exact (List.map_congr_left (g := id) (fun z _ => rfl)).trans (List.map_id _)
        rw [e3] at this
        exact this
      · rw [List.pairwise_map]
        exact hs.imp fun h => by omega
    rw [← e2]
    exact e1
  rw [e, ← em]
  exact h p hn
end
/-! ### items by place, ranges -/
section
variable {X : Cx}
def rIxQ : R2 := fun x y H Q => ∃ (p : Addr) (xs : List V) (n : Nat) (v : V), x = .ref p ∧ y = .int (n : Int) ∧ Tq H p xs ∧ xs[n]? = some v ∧ Q v H
theorem ix_q : IxR X rIxQ := by
  intro value slice pins s σ H x y v u Q I rx ry h hs
  obtain ⟨p, xs, n, z, rfl, rfl, hq, he, q⟩ := h
  refine ix_seq value slice pins s σ H _ _ v u Q I rx ry ?_ hs
  rcases hq with hq | hq
  · exact .inl ⟨p, xs, n, z, rfl, rfl, SqL.of hq, atI_nat he, q⟩
  · exact .inr (.inl ⟨p, xs, n, z, rfl, rfl, SqT.of hq, atI_nat he, q⟩)
theorem call_lenQ : CallR X (.builtin "len") (fun xs H Q => ∃ (p : Addr) (ys : List V), xs = [.ref p] ∧ Tq H p ys ∧ Q (.int (ys.length : Nat)) H) := by
  intro pins s σ H xs us Q I r h
  obtain ⟨p, ys, rfl, hq, q⟩ := h
  exact call_len_seq pins s σ H _ us Q I r ⟨p, ys, rfl, hq.sqlt, q⟩
theorem call_listQ : CallR X (.type "list") (fun xs H Q => ∃ (p : Addr) (ys : List V), xs = [.ref p] ∧ Tq H p ys ∧ ∀ l, H l = none → Q (.ref l) (upd H l (.lst ys))) := by
  intro pins s σ H xs us Q I r h
  obtain ⟨p, ys, rfl, hq, q⟩ := h
  exact call_list_of pins s σ H _ us Q I r ⟨p, ys, rfl, hq.sqlt, q⟩
/-- tuple(xs), xs a list -/
theorem call_tupleQ : CallR X (.type "tuple") (fun xs H Q => ∃ (p : Addr) (ys : List V), xs = [.ref p] ∧ H p = some (.lst ys) ∧ ∀ l, H l = none → Q (.ref l) (upd H l (.tup ys))) := by
  intro pins s σ H xs us Q I r h
  obtain ⟨p, ys, rfl, hq, q⟩ := h
  exact call_tuple_of pins s σ H _ us Q I r ⟨p, ys, rfl, .inl ⟨SqL.of hq, q⟩⟩
end
end LaneX
set_option Elab.async false
set_option linter.all false
set_option maxRecDepth 100000
set_option maxHeartbeats 4000000
namespace LaneX
open PySem PySem.Spec PyProof.Rows L2
/-! ### an operator of an own class, both operands of that class -/
def rOwn (C : Addr) (sp : Sp) : R2 := fun x y H Q => ∃ (a b dx dy : Addr) (fs gs : List (Str × V)), x = .ref a ∧ y = .ref b ∧ H a = some (.ins C dx fs) ∧ H b = some (.ins C dy gs) ∧ sp [.ref a, .ref b] H Q E0
section
variable {X : Cx}
theorem back_of {pins : List (Addr × Obj)} {σ : L2.St} {Q : VK} {v : Value} {s : Shared} (h : EP X pins σ Q v s) : PySem.W.CmpBack (EP X pins σ Q) v s := by
  have h' := h
  obtain ⟨x, H', I, r, q⟩ := h'
  have nn : v ≠ Value.notImplemented := fun z => by
    subst z
    cases x with
    | non => exact absurd (show Value.notImplemented = Value.none from r) (fun z => nomatch z)
    | bl b => exact absurd (show Value.notImplemented = Value.bool b from r) (fun z => nomatch z)
    | int i => obtain ⟨t, z⟩ := (show ∃ t, Value.notImplemented = Value.int i t from r); exact nomatch z
    | str i => obtain ⟨t, z⟩ := (show ∃ t, Value.notImplemented = Value.str i t from r); exact nomatch z
    | byt i => obtain ⟨t, z⟩ := (show ∃ t, Value.notImplemented = Value.bytes i t from r); exact nomatch z
    | flt i => obtain ⟨t, z⟩ := (show ∃ t, Value.notImplemented = Value.float i t from r); exact nomatch z
    | ref a => exact absurd (show Value.notImplemented = Value.ref a from r) (fun z => nomatch z)
    | ty n => exact absurd (show Value.notImplemented = Value.type n from r) (fun z => nomatch z)
  cases v <;> first | exact h | exact absurd rfl nn
theorem op_own {op : Operator} {m : Str} {k j : Nat} {C : Addr} {ps : List Str} {sp : Sp} (hm : m = PySem.dunder op.info.2) (D : Mn X.prog X.w X.K X.mg X.base k C m ps sp) (hc : PySem.W.selfFirst X.K C = true) (hr : Room j X.A) (hk : k ≤ j := by decide) : OpR X (binaryOp op) (rOwn C sp) := by
  intro pins s σ H x y v u Q I rx ry h
  obtain ⟨a, b, dx, dy, fs, gs, rfl, rfl, ha, hb, hsp⟩ := h
  obtain ⟨f, fd, h1, h3, h4⟩ := D.ex
  cases (show v = Value.ref a from rx)
  cases (show u = Value.ref b from ry)
  obtain ⟨mA, O, _⟩ := ins_get I.hok ha
  obtain ⟨od, J, _⟩ := O.look
  obtain ⟨mB, O2, _⟩ := ins_get I.hok hb
  obtain ⟨od2, J2, _⟩ := O2.look
  obtain ⟨mm, F⟩ := I.fr
  subst hm
  refine PySem.W.binop_K F I.mod.kin J J2.type hc h1.at_ h1.fn ?_
  exact wpAny_mono (run_fn h4 (hr.mono hk) h3 .nil pass0 I (vs := [.ref a, .ref b]) (.cons rfl (.cons rfl .nil)) hsp) (fun v s' hq => back_of hq) fun _ _ z => z
end
end LaneX
set_option Elab.async false
set_option linter.all false
set_option maxRecDepth 100000
set_option maxHeartbeats 4000000
namespace LaneX
open PySem PySem.Spec PyProof.Rows L2
/-! ### lists of ints compared -/
theorem dpAll_ints {K : PySem.W.Frag} {H : Hp} : ∀ ns : List Int, DpAll K H (ns.map V.int) (ns.map PyData.int)
  | [] => .nil
  | n :: r => .cons (.int n) (dpAll_ints r)
theorem eqvAll_ints : ∀ ns ms : List Int, PyData.eqvAll (ns.map PyData.int) (ms.map PyData.int) = decide (ns = ms)
  | [], [] => rfl
  | [], _ :: _ => rfl
  | _ :: _, [] => rfl
  | n :: r, m :: q => by
    show (PyData.eqv (.int n) (.int m) && PyData.eqvAll (r.map PyData.int) (q.map PyData.int)) = _
    rw [eqvAll_ints r q]
    show ((n == m) && decide (r = q)) = _
    by_cases h : n = m
    · subst h; simp
    · simp [h]
theorem shaped_tints (ns : List Int) : SeqAt.shaped (.tuple (ns.map PyData.int)) = true := by
  have h := PySem.W.ke_shaped_ints ns
  unfold SeqAt.shaped at h ⊢
  exact h
section
variable {X : Cx}
theorem op_neL (hu : X.A.units + 64 < cLine) : OpR X (compareOp .NotEq) (fun x y H Q => ∃ (a b : Addr) (ns ms : List Int), x = .ref a ∧ y = .ref b ∧ H a = some (.lst (ns.map V.int)) ∧ H b = some (.lst (ms.map V.int)) ∧ Q (.bl (!decide (ns = ms))) H) := by
  intro pins s σ H x y v u Q I rx ry h
  obtain ⟨a, b, ns, ms, rfl, rfl, ha, hb, q⟩ := h
  refine op_neD hu pins s σ H _ _ v u Q I rx ry ⟨.list (ns.map .int), .list (ms.map .int), .lst (SqL.of ha) (dpAll_ints ns), .lst (SqL.of hb) (dpAll_ints ms), PySem.W.ke_shaped_ints ns, PySem.W.ke_shaped_ints ms, ?_⟩
  show Q (.bl (!PyData.eqvAll (ns.map .int) (ms.map .int))) H
  rw [eqvAll_ints]
  exact q
theorem op_eqL (hu : X.A.units + 64 < cLine) : OpR X (compareOp .Eq) (fun x y H Q => ∃ (a b : Addr) (ns ms : List Int), x = .ref a ∧ y = .ref b ∧ H a = some (.lst (ns.map V.int)) ∧ H b = some (.lst (ms.map V.int)) ∧ Q (.bl (decide (ns = ms))) H) := by
  intro pins s σ H x y v u Q I rx ry h
  obtain ⟨a, b, ns, ms, rfl, rfl, ha, hb, q⟩ := h
  refine op_eqD hu pins s σ H _ _ v u Q I rx ry ⟨.list (ns.map .int), .list (ms.map .int), .lst (SqL.of ha) (dpAll_ints ns), .lst (SqL.of hb) (dpAll_ints ms), PySem.W.ke_shaped_ints ns, PySem.W.ke_shaped_ints ms, ?_⟩
  show Q (.bl (PyData.eqvAll (ns.map .int) (ms.map .int))) H
  rw [eqvAll_ints]
  exact q
theorem vN_ints (l : List Nat) : l.map vN = (l.map Int.ofNat).map V.int := by rw [List.map_map]; rfl
/-- a list of naturals against the empty list -/
theorem op_neE (hu : X.A.units + 64 < cLine) : OpR X (compareOp .NotEq) (fun x y H Q => ∃ (a b : Addr) (ns : List Nat), x = .ref a ∧ y = .ref b ∧ H a = some (.lst (ns.map vN)) ∧ H b = some (.lst []) ∧ Q (.bl (!ns.isEmpty)) H) := by
  intro pins s σ H x y v u Q I rx ry h
  obtain ⟨a, b, ns, rfl, rfl, ha, hb, q⟩ := h
  rw [vN_ints] at ha
  refine op_neL hu pins s σ H _ _ v u Q I rx ry ⟨a, b, _, [], rfl, rfl, ha, hb, ?_⟩
  have e : (!decide (ns.map Int.ofNat = [])) = !ns.isEmpty := by cases ns <;> simp
  rw [e]
  exact q
theorem op_eqE (hu : X.A.units + 64 < cLine) : OpR X (compareOp .Eq) (fun x y H Q => ∃ (a b : Addr) (ns : List Nat), x = .ref a ∧ y = .ref b ∧ H a = some (.lst (ns.map vN)) ∧ H b = some (.lst []) ∧ Q (.bl ns.isEmpty) H) := by
  intro pins s σ H x y v u Q I rx ry h
  obtain ⟨a, b, ns, rfl, rfl, ha, hb, q⟩ := h
  rw [vN_ints] at ha
  refine op_eqL hu pins s σ H _ _ v u Q I rx ry ⟨a, b, _, [], rfl, rfl, ha, hb, ?_⟩
  have e : decide (ns.map Int.ofNat = []) = ns.isEmpty := by cases ns <;> simp
  rw [e]
  exact q
/-- min and max of two naturals -/
theorem call_minN (hc : X.calm = true) : CallR X (.builtin "min") (fun xs H Q => ∃ n m : Nat, xs = [.int (n : Int), .int (m : Int)] ∧ Q (.int ((min n m : Nat) : Int)) H) := by
  intro pins s σ H xs us Q I r h
  obtain ⟨n, m, rfl, q⟩ := h
  refine call_min2 hc pins s σ H _ us Q I r ⟨_, _, rfl, ?_⟩
  have e : (if (m : Int) < (n : Int) then (m : Int) else (n : Int)) = ((min n m : Nat) : Int) := by split <;> omega
  rw [e]
  exact q
/-! ### numbers -/
theorem call_intQ : CallR X (.type "int") (fun xs H Q => ∃ i : Int, xs = [.int i] ∧ Q (.int i) H) := by
  intro pins s σ H xs us Q I r h
  obtain ⟨i, rfl, q⟩ := h
  exact call_int1 pins s σ H _ us Q I r (.inl ⟨i, rfl, q⟩)
theorem call_absN : CallR X (.builtin "abs") (fun xs H Q => ∃ i : Int, xs = [.int i] ∧ Q (.int (i.natAbs : Nat)) H) := by
  intro pins s σ H xs us Q I r h
  obtain ⟨i, rfl, q⟩ := h
  refine call_abs pins s σ H _ us Q I r ⟨i, rfl, ?_⟩
  have e : (if i < 0 then -i else i) = (i.natAbs : Int) := by split <;> omega
  rw [e]
  exact q
theorem on_pow : OpR X (binaryOp .Pow) (fun x y H Q => ∃ n m : Nat, x = .int (n : Int) ∧ y = .int (m : Int) ∧ (n < 2 ^ 64 ∧ m ≤ 1000000) ∧ Q (.int ((n ^ m : Nat) : Int)) H) := by
  intro pins s σ H x y v u Q I rx ry h
  obtain ⟨n, m, rfl, rfl, ⟨c1, c2⟩, q⟩ := h
  refine op_pow pins s σ H _ _ v u Q I rx ry ⟨_, _, rfl, rfl, ⟨by omega, by omega, by simpa using c1⟩, ?_⟩
  rw [Int.natCast_pow] at q
  exact q
/-- an int of any sign, a positive divisor -/
theorem on_modI : OpR X (binaryOp .Mod) (fun x y H Q => ∃ (i : Int) (m : Nat), x = .int i ∧ y = .int (m : Int) ∧ 0 < m ∧ Q (.int ((i % (m : Int)).toNat : Nat)) H) := by
  intro pins s σ H x y v u Q I rx ry h
  obtain ⟨i, m, rfl, rfl, c, q⟩ := h
  have e : (((i % (m : Int)).toNat : Nat) : Int) = i % (m : Int) := by
    have := Int.emod_nonneg i (b := (m : Int)) (by omega)
    omega
  rw [e] at q
  exact op_mod pins s σ H _ _ v u Q I rx ry ⟨_, _, rfl, rfl, show (0 : Int) < (m : Int) by omega, q⟩
end
section
variable {X : Cx}
theorem and_neg (n : Nat) : Builtin.bitAnd (n : Int) (-(n : Int)) = ((lwb n : Nat) : Int) := by
  unfold Builtin.bitAnd lwb
  by_cases h : n = 0
  · subst h
    rfl
  · have h1 : decide (0 ≤ (n : Int)) = true := decide_eq_true (Int.natCast_nonneg _)
    have h2 : decide (0 ≤ -(n : Int)) = false := decide_eq_false (by omega)
    rw [h1, h2]
    show (n : Int) - (((n : Int).toNat &&& (Builtin.bitNot (-(n : Int))).toNat : Nat) : Int) = _
    have e : (Builtin.bitNot (-(n : Int))).toNat = n - 1 := by
      unfold Builtin.bitNot
      omega
    rw [e, Int.toNat_natCast]
    have le : n &&& (n - 1) ≤ n := Nat.and_le_left
    omega
/-- n & -n -/
theorem on_low : OpR X (binaryOp .BitAnd) (fun x y H Q => ∃ n : Nat, x = .int (n : Int) ∧ y = .int (-(n : Int)) ∧ Q (.int ((lwb n : Nat) : Int)) H) := by
  intro pins s σ H x y v u Q I rx ry h
  obtain ⟨n, rfl, rfl, q⟩ := h
  rw [← and_neg] at q
  exact op_and pins s σ H _ _ v u Q I rx ry ⟨_, _, rfl, rfl, q⟩
end
/-! ### the pen -/
def pen (a b c : Str) (lc : Addr) (n m : Nat) : List (Key × V) := [(.inr a, .ref lc), (.inr b, vN n), (.inr c, vN m)]
structure PenN (a b c : Str) : Prop where
  ab : a ≠ b
  ac : a ≠ c
  bc : b ≠ c
def PenAt (a b c : Str) (H : Hp) (p lc : Addr) (N : Nat) : Prop := ∃ (cs : List Int) (n m : Nat), H p = some (.dK (pen a b c lc n m)) ∧ H lc = some (.lst (cs.map V.int)) ∧ n ≤ N
section
variable {a b c : Str} {H H' : Hp} {p lc : Addr} {N M : Nat}
theorem PenAt.mono (h : PenAt a b c H p lc N) (l : N ≤ M) : PenAt a b c H p lc M := by
  obtain ⟨cs, n, m, h1, h2, h3⟩ := h
  exact ⟨cs, n, m, h1, h2, Nat.le_trans h3 l⟩
theorem PenAt.same (h : PenAt a b c H p lc N) (s : Same H H') : PenAt a b c H' p lc N := by
  obtain ⟨cs, n, m, h1, h2, h3⟩ := h
  exact ⟨cs, n, m, s _ _ h1, s _ _ h2, h3⟩
theorem PenAt.ne (h : PenAt a b c H p lc N) {l : Addr} (hl : H l = none) : lc ≠ l ∧ p ≠ l := by
  obtain ⟨cs, n, m, h1, h2, h3⟩ := h
  exact ⟨ne_of_none h2 hl, ne_of_none h1 hl⟩
/-- a list of one's own is written -/
theorem PenAt.put {l : Addr} {o : HO} (h : PenAt a b c H p lc N) (h1 : lc ≠ l ∧ p ≠ l) : PenAt a b c (upd H l o) p lc N := by
  obtain ⟨cs, n, m, g1, g2, g3⟩ := h
  exact ⟨cs, n, m, (upd_ne h1.2).trans g1, (upd_ne h1.1).trans g2, g3⟩
theorem pen_a (n m : Nat) : valV (pen a b c lc n m) (.inr a) = some (.ref lc) := valV_pos rfl
theorem pen_b (hN : PenN a b c) (n m : Nat) : valV (pen a b c lc n m) (.inr b) = some (vN n) := by
  unfold pen valV
  simp [hN.ab]
theorem pen_c (hN : PenN a b c) (n m : Nat) : valV (pen a b c lc n m) (.inr c) = some (vN m) := by
  unfold pen valV
  simp [hN.ac, hN.bc]
theorem pen_pb (hN : PenN a b c) (n m k : Nat) : putK (pen a b c lc n m) (.inr b) (vN k) = pen a b c lc k m := by
  unfold pen putK
  simp [hN.ab, hN.bc.symm]
theorem pen_pc (hN : PenN a b c) (n m k : Nat) : putK (pen a b c lc n m) (.inr c) (vN k) = pen a b c lc n k := by
  unfold pen putK
  simp [hN.ac, hN.bc]
theorem pen_len (n m : Nat) : (pen a b c lc n m).length < sizeLine := by
  show 3 < sizeLine
  decide
end
end LaneX
set_option Elab.async false
set_option linter.all false
set_option maxRecDepth 100000
set_option maxHeartbeats 4000000
namespace LaneX
open PySem PySem.Spec PyProof.Rows L2
/-! ### == and != of own classes -/
section
variable {X : Cx}
/-- an own def, called somewhere below the running body -/
theorem call_below {k : Nat} {f : Addr} {fd : FuncData} {ps : List Str} {sp : Sp} {A : Around} {pins : List (Addr × Obj)} {σ : L2.St} {H : Hp} {s : Shared} {vs : List V} {us : List Value} {Q : VK} (F : FnOk X.prog X.w X.K X.mg X.base CX0 k f fd ps sp) (hb : Binds X.K fd ps [])
    (sb : Sub X k A) (I : Inv X pins σ H s) (r : Vals vs us) (hsp : sp vs H Q E0) : wpAny (model X.prog X.w) A (call (.ref f) us) (EP X pins σ Q) X.xe s := by
  have e0 : Env0 X.prog X.w X.K X.mg X.base A X.stack s H := by
    have e := I.env0
    exact ⟨by rw [sb.fr]; exact e.frames, e.mod, e.bs, e.bsz, e.funs, e.frf, e.hok, e.bare⟩
  have hl := F.len _ _ _ _ hsp
  refine wpAny_call (codeAny_mono (F.run A X.stack s H ⟨us, []⟩ us vs _ E0 sb.room e0 (by
    have := hb s us I.kIn (by have := r.length; simp; omega)
    simpa using this) r hsp) fun r s' hq => ?_)
  cases r with
  | error e => exact pass0 pins σ H s e s' I hq
  | ok fl =>
    cases fl with
    | ret w =>
      obtain ⟨z, H', I', rz, q⟩ := I.after hq
      exact ⟨z, H', I', rz, q⟩
    | next => exact False.elim hq
    | brk => exact False.elim hq
    | cont => exact False.elim hq
/-- x == y, both of the class at C, by its own __eq__ -/
theorem op_eqO {k j : Nat} {C : Addr} {ps : List Str} {sp : Sp} (D : Mn X.prog X.w X.K X.mg X.base k C "__eq__" ps sp) (hr : Room j X.A) (hk : k ≤ j := by decide) : OpR X (compareOp .Eq) (rOwn C sp) := by
  intro pins s σ H x y v u Q I rx ry h
  obtain ⟨a, b, dx, dy, fs, gs, rfl, rfl, ha, hb, hsp⟩ := h
  obtain ⟨f, fd, h1, h3, h4⟩ := D.ex
  cases (show v = Value.ref a from rx)
  cases (show u = Value.ref b from ry)
  obtain ⟨mA, O, _⟩ := ins_get I.hok ha
  obtain ⟨od, J, _⟩ := O.look
  obtain ⟨mB, O2, _⟩ := ins_get I.hok hb
  obtain ⟨od2, J2, _⟩ := O2.look
  obtain ⟨mm, F⟩ := I.fr
  show wpAny (model X.prog X.w) X.A (richCompare .Eq (.ref a) (.ref b)) (EP X pins σ Q) X.xe s
  refine PySem.W.cmp_K (op := .Eq) (tb := .ref C) hr.units0 F I.mod.kin J J2.type (by simp [PySem.W.notFirst]) h1.at_ h1.fn ?_
  exact wpAny_mono (call_below (vs := [.ref a, .ref b]) (us := [Value.ref a, Value.ref b]) h4 h3 ⟨hr.mono hk, rfl⟩ I (.cons rfl (.cons rfl .nil)) hsp) (fun v s' hq => back_of hq) fun _ _ z => z
/-- x != y, both of the class at C, by its own __eq__ (no own __ne__) -/
def rNeO (C : Addr) (sp : Sp) : R2 := fun x y H Q => ∃ (a b dx dy : Addr) (fs gs : List (Str × V)), x = .ref a ∧ y = .ref b ∧ H a = some (.ins C dx fs) ∧ H b = some (.ins C dy gs) ∧ sp [.ref a, .ref b] H (fun v H' => ∃ r : Bool, v = .bl r ∧ Q (.bl (!r)) H') E0
theorem ifBound_ne {M : Model} {A : Around} {E : Value → Shared → Prop} {s : Shared} {K : PySem.W.Frag} {x C : Addr} {ox : Obj} {od : Option Obj} {args : List Value} {Q : Option Value → Shared → Prop} (X : K.In s.heap) (I : PySem.W.InstAt s.heap x ox C od)
    (hs : PySem.W.findIn K (.ref C) "__ne__" = some (some (.builtin "object.__ne__"))) (h : wpAny M A (call (.builtin "object.__ne__") (.ref x :: args)) (fun v => Q (some v)) E s) : wpAny M A (callSpecialIfBound? (.ref x) "__ne__" args) Q E s := by
  simp only [callSpecialIfBound?, bindSpecialIfBound?]
  refine wpAny_holding (wpAny_bind (wpAny_bind (wpAny_bind (I.type.here ((PySem.W.looks_findIn X hs).here ?_)))))
  refine wpAny_bind (wpAny_askSetting (wpAny_ite ?_))
  have fin : wpAny M A (call (.builtin "object.__ne__") ([.ref x] ++ args) >>= fun v => pure (some v)) Q E s := wpAny_bind (wpAny_mono h (fun v s' h' => wpAny_pure h') fun _ _ h' => h')
  split
  · exact wpAny_bind (wpAny_of_eq (F.cmp_object.ne.bind _) (wpAny_pure (by exact fin)))
  · exact wpAny_tryCatch (wpAny_bind (wpAny_of_eq (F.cmp_object.ne.bind _) (wpAny_pure (by exact fin))))
theorem op_neO {k j : Nat} {C : Addr} {ps : List Str} {sp : Sp} (D : Mn X.prog X.w X.K X.mg X.base k C "__eq__" ps sp) (hne : PySem.W.findIn X.K (.ref C) "__ne__" = some (some (.builtin "object.__ne__"))) (hm : PySem.W.mroIn X.K C (.type "object") = some true) (hr : Room j X.A) (hk : k + 1 ≤ j := by decide) :
    OpR X (compareOp .NotEq) (rNeO C sp) := by
  intro pins s σ H x y v u Q I rx ry h
  obtain ⟨a, b, dx, dy, fs, gs, rfl, rfl, ha, hb, hsp⟩ := h
  obtain ⟨f, fd, h1, h3, h4⟩ := D.ex
  cases (show v = Value.ref a from rx)
  cases (show u = Value.ref b from ry)
  obtain ⟨mA, O, _⟩ := ins_get I.hok ha
  obtain ⟨od, J, _⟩ := O.look
  obtain ⟨mB, O2, _⟩ := ins_get I.hok hb
  obtain ⟨od2, J2, _⟩ := O2.look
  have KX := I.kIn
  have r1 : Room (k + 1) X.A := hr.mono hk
  have rb := call_below (A := X.A.in1) h4 h3 ⟨r1.in1, rfl⟩ I (.cons rfl (.cons rfl .nil)) hsp (vs := [.ref a, .ref b]) (us := [Value.ref a, Value.ref b])
  have hu1 : X.A.in1.units < cLine := r1.in1.units0
  have one : wpAny (model X.prog X.w) X.A (tryCompare (.ref a) "__ne__" (.ref b)) (fun r s' => ∃ v, r = some v ∧ EP X pins σ Q v s') X.xe s := by
    unfold tryCompare
    refine wpAny_bind (ifBound_ne KX J hne (wpAny_call (codeAny_call_builtin F.cmp_object.ne.plain F.cmpEntry_ne (PySem.W.check_slot F.cmpKind_ne F.cmpSplit_ne (J.type.andThen (PySem.W.looks_mroIn KX hm)) (F.cmpArgs_ne _ _) ?_))))
    unfold Builtin.«object.__ne__»
    repeat (first | with_reducible refine wpAny_cRoomFor hu1 ?_ | (with_reducible refine PySem.W.ifBound_K KX J h1.at_ h1.fn ?_; refine wpAny_mono rb ?_ ?_) | wp_step)
    · intro v s' hq
      obtain ⟨z, H', I', rz, r, ez, q⟩ := hq
      subst ez
      cases (show v = Value.bool r from rz)
      refine wpAny_bind (wpAny_truthy_bool (wpAny_pure ?_))
      exact wpAny_pure ⟨_, rfl, .bl (!r), H', I', rfl, q⟩
    · exact fun _ _ z => z
  show wpAny (model X.prog X.w) X.A (richCompare .NotEq (.ref a) (.ref b)) (EP X pins σ Q) X.xe s
  unfold richCompare
  simp only [oneThing_ref]
  refine wpAny_holding (wpAny_bind (wpAny_cRoomFor hr.units0 ?_))
  refine wpAny_bind (J.type.here (wpAny_bind (J2.type.here ?_)))
  rw [if_neg (by simp)]
  refine wpAny_bind (wpAny_pure ?_)
  simp only [Bool.false_eq_true, if_false]
  refine wpAny_bind (wpAny_mono one (fun r s' z => ?_) fun _ _ e => e)
  obtain ⟨v, rfl, hq⟩ := z
  exact wpAny_pure hq
/-- x == y of two instances of one class without an own __eq__ -/
def rEqI (C : Addr) : R2 := fun x y H Q => ∃ (a b dx dy : Addr) (fs gs : List (Str × V)), x = .ref a ∧ y = .ref b ∧ a ≠ b ∧ H a = some (.ins C dx fs) ∧ H b = some (.ins C dy gs) ∧ Q (.bl false) H
theorem op_eqI {j : Nat} {C : Addr} (heq : PySem.W.findIn X.K (.ref C) "__eq__" = some (some (.builtin "object.__eq__"))) (hm : PySem.W.mroIn X.K C (.type "object") = some true) (hr : Room j X.A) : OpR X (compareOp .Eq) (rEqI C) := by
  intro pins s σ H x y v u Q I rx ry h
  obtain ⟨a, b, dx, dy, fs, gs, rfl, rfl, hne, ha, hb, q⟩ := h
  cases (show v = Value.ref a from rx)
  cases (show u = Value.ref b from ry)
  obtain ⟨mA, O, _⟩ := ins_get I.hok ha
  obtain ⟨od, J, _⟩ := O.look
  obtain ⟨mB, O2, _⟩ := ins_get I.hok hb
  obtain ⟨od2, J2, _⟩ := O2.look
  have KX := I.kIn
  have one : ∀ {x y : Addr} {ox oy : Obj} {ex ey : Option Obj}, x ≠ y → PySem.W.InstAt s.heap x ox C ex → PySem.W.InstAt s.heap y oy C ey → wpAny (model X.prog X.w) X.A (tryCompare (.ref x) "__eq__" (.ref y)) (fun r s' => r = none ∧ s' = s) X.xe s := by
    intro x y ox oy ex ey nxy Jx Jy
    unfold tryCompare
    refine wpAny_bind (HN.ifBound_objEq KX Jx heq (wpAny_call (codeAny_call_builtin F.cmp_object.eq.plain F.cmpEntry_eq (PySem.W.check_slot F.cmpKind_eq F.cmpSplit_eq (Jx.type.andThen (PySem.W.looks_mroIn KX hm)) (F.cmpArgs_eq _ _) ?_))))
    exact objEq_entry_other nxy Jx.at_ Jy.at_ (by rw [Jx.cls]; intro z; cases z) (wpAny_pure ⟨rfl, rfl⟩)
  show wpAny (model X.prog X.w) X.A (richCompare .Eq (.ref a) (.ref b)) (EP X pins σ Q) X.xe s
  simp only [richCompare, cmpInfo_Eq, oneThing_ref]
  refine wpAny_holding (wpAny_bind (wpAny_cRoomFor hr.units0 ?_))
  refine wpAny_bind (J.type.here (wpAny_bind (J2.type.here ?_)))
  rw [if_neg (by simp)]
  refine wpAny_bind (wpAny_pure ?_)
  simp only [Bool.false_eq_true, if_false, Bool.not_false, if_true]
  refine wpAny_bind (wpAny_mono (one hne J J2) (fun r s1 z => ?_) fun _ _ e => e)
  obtain ⟨z1, z2⟩ := z
  subst z1
  subst z2
  refine wpAny_bind (wpAny_mono (one hne.symm J2 J) (fun r s2 z => ?_) fun _ _ e => e)
  obtain ⟨z1, z2⟩ := z
  subst z1
  subst z2
  exact wpAny_bind (wpAny_rule (wpAny_bind (wpAny_isSame_ref_other hne J.at_ J2.at_ (by rw [J.cls]; intro z; cases z) (wpAny_pure ⟨.bl false, H, I, rfl, q⟩))))
end
end LaneX
set_option Elab.async false
set_option linter.all false
set_option maxRecDepth 100000
set_option maxHeartbeats 4000000
namespace LaneX
open PySem PySem.Spec PyProof.Rows L2
/-! ### enumerate(t), t a tuple -/
theorem meets_enumT {v : Value} {o : Obj} {H : Heap → Prop} (B : Begins v o H) :
    Meets (Builtin.«enumerate.__new__» ⟨[.type "enumerate", v], []⟩) (fun _ R s => H s.heap ∧
      R (.ok (.ret (.ref (s.heap.push o).objs.size))) { s with heap := (s.heap.push o).push { cls := .type "enumerate", data := .fields #[.none, .bool false, .ref s.heap.objs.size, rawInt 0, .none, .none] } }) := by
  refine .of_wp fun prog w A R s h => ?_
  obtain ⟨hp, g, d, tk, os⟩ := s
  obtain ⟨h1, h2⟩ := h
  have subE := sub_enumerate
  have itE : ∀ {A1 : Around} {E1 : Value → Shared → Prop} {Q1 : Value → Shared → Prop}, Q1 (.ref hp.objs.size) ⟨hp.push o, g, d, tk, os⟩ → wpAny (model prog w) A1 (pyIter v) Q1 E1 ⟨hp, g, d, tk, os⟩ := fun q => B.iter prog w _ _ ⟨hp, g, d, tk, os⟩ _ h1 q
  wp_walk using itE
  refine wpAny_stack_any fun st => wpAny_pure ?_
  split
  · rename_i c _ _ _ _ _
    cases (c == Value.type "enumerate") <;> (wp_walk using itE; exact ⟨_, rfl, h2⟩)
  · wp_walk using itE
    exact ⟨_, rfl, h2⟩
theorem call_enumT {P : Program} {w : World} {A : Around} {E : Value → Shared → Prop} {s : Shared} {t : Addr} {items : Array Value} {Q : Value → Shared → Prop} (hT : s.heap.IsTuple t items)
    (h : ∀ h', IsEnum h' (s.heap.objs.size + 1) s.heap.objs.size 0 .none → h'.IsTupleIter s.heap.objs.size t 0 → (∀ b o, s.heap.get? b = some o → h'.get? b = some o) → Q (.ref (s.heap.objs.size + 1)) { s with heap := h' }) :
    wpAny (model P w) A (call (.type "enumerate") [.ref t]) Q E s := by
  refine callType_new F.called_enumerate (by decide) (F.typeCall_enumerate_1 _) (F.newCall_enumerate_1 _) (fun obj => F.args_object_init_2 obj _) F.entry_enumerate_new (meets_enumT (begins_tuple t items)) ⟨hT, ?_⟩
  have sz : ∀ o : Obj, (s.heap.push o).objs.size = s.heap.objs.size + 1 := fun o => Heap.size_push ..
  show _ ∧ _
  rw [sz]
  have e1 : ∀ (o u : Obj), u.isFreed = false → ((s.heap.push o).push u).get? (s.heap.objs.size + 1) = some u := fun o u hu => by
    have := Heap.get?_push_size (s.heap.push o) (o := u) hu
    rwa [sz] at this
  have he := e1 { cls := .type "tuple_iterator", data := .fields #[.ref t, .int 0 0] } { cls := .type "enumerate", data := .fields #[.none, .bool false, .ref s.heap.objs.size, rawInt 0, .none, .none] } rfl
  exact ⟨⟨_, he, rfl⟩, h _ he ⟨_, Heap.get?_push_of_some _ (Heap.get?_push_size _ rfl), rfl, rfl⟩ fun b o z => Heap.get?_push_of_some _ (Heap.get?_push_of_some _ z)⟩
def Itu (K : PySem.W.Frag) (a : Addr) : It :=
  ⟨fun i H => ∃ (xs : List V) (x : V), SqT K H a xs ∧ xs[i]? = some x, fun i H v H' => ∃ T x, v = .ref T ∧ H T = none ∧ H' = upd H T (.tup [.int (i : Nat), x]) ∧ ∀ xs, SqT K H a xs → xs[i]? = some x, fun i H => ∃ xs : List V, SqT K H a xs ∧ xs.length ≤ i⟩
theorem turn_enumT {P : Program} {w : World} {K : PySem.W.Frag} {elts : List Expr} {kk : Nat} {tpos : Pos} (a e it : Addr) :
    Turn P w K (.Tuple elts kk tpos) (Itu K a) [e, it] e (fun i h => (∃ old, IsEnum h e it ((i : Nat) : Int) old) ∧ h.IsTupleIter it a i ∧ e ≠ it) where
  mem := List.mem_cons_self
  obj := fun i h st b hb => by
    obtain ⟨⟨old, he⟩, ⟨o, ho, hc, hd⟩, _⟩ := st
    rcases List.mem_cons.mp hb with z | z
    · subst z; exact ⟨_, he, fun v q => nomatch q⟩
    · rcases List.mem_singleton.mp z with z
      subst z; exact ⟨o, ho, fun v q => by rw [hd] at q; cases q⟩
  keep := fun i h h' st k => by
    obtain ⟨⟨old, he⟩, hi, hne⟩ := st
    exact ⟨⟨old, k e List.mem_cons_self _ he⟩, hi.at fun o q => k it (List.mem_cons_of_mem _ List.mem_cons_self) o q, hne⟩
  item := by
    intro X hP hw hK hc i pins s σ H E I hf st hg
    subst hP hw hK
    obtain ⟨⟨old, he⟩, hit, hne⟩ := st
    obtain ⟨xs, x, hq, hx⟩ := hg
    obtain ⟨its, rv, p, hz⟩ := I.tuple hq
    have p' : s.heap.IsTuple a its.toArray := p
    obtain ⟨u, hu, ru⟩ := rv.get hx
    have hel : e < s.heap.objs.size := Heap.lt_size he
    have hil : it < s.heap.objs.size := by obtain ⟨_, q, _⟩ := hit; exact Heap.lt_size q
    have nai : a ≠ it := fun z => by
      obtain ⟨o1, q1, c1, _⟩ := hit
      obtain ⟨o2, q2, c2, _⟩ := p'
      rw [z, q1] at q2; cases q2; rw [c1] at c2; exact absurd c2 (by decide)
    have nea : e ≠ a := fun z => by
      obtain ⟨o2, q2, c2, _⟩ := p'
      rw [← z, show s.heap.get? e = _ from he] at q2; cases q2; exact absurd (show Value.type "enumerate" = Value.type "tuple" from c2) (by decide)
    have hlt : i < its.toArray.size := by
      rw [List.size_toArray]
      exact (List.getElem?_eq_some_iff.mp hu).1
    refine wpAny_pyNext_enum_itemD (Draws.tuple (A := X.A.in1) (by simpa using I.ok.hd hc) it a nai its.toArray) he ⟨hit, p'⟩ hlt hne (by simp [hne, nea]) fun y h' tk hy ho st' hT hsz hk => ?_
    have ey : y = u := by
      rw [List.getElem?_toArray, hu] at hy
      exact (Option.some.inj hy).symm
    subst ey
    refine ⟨_, rfl, wpAny_letOwnedTupleGo_enum (s := { s with heap := h', toks := tk + 1 }) ho fun h'' he' sb => ?_⟩
    have hT2 : h''.get? s.heap.objs.size = some { cls := .type "tuple", data := .seq #[.int i tk, y] } := (sb.2 _ (Nat.ne_of_gt hel)).trans hT
    have new : ObjOk X.prog X.w (upd H s.heap.objs.size (.tup [.int (i : Nat), x])) h'' s.heap.objs.size (.tup [.int (i : Nat), x]) :=
      ⟨(by show 2 ≤ sizeLine; decide), [.int i tk, y], .cons ⟨_, rfl⟩ (.cons ru .nil), ⟨_, hT2, rfl, _, rfl⟩⟩
    have I1 : Inv X pins σ (upd H s.heap.objs.size (.tup [.int (i : Nat), x])) { s with heap := h'', toks := tk + 1 } :=
      I.turnedNew (ch := [e, it]) (fun b ob hb q => (sb.2 b (fun z => hb (by simp [z]))).trans (hk b ob (fun z => hb (by simp [z])) (fun z => hb (by simp [z])) q)) hf (Nat.le_refl _) new
    refine ⟨.ref s.heap.objs.size, _, I1, rfl, ⟨_, x, rfl, I.hok.fresh (Nat.le_refl _), rfl, fun ys hy => ?_⟩, ⟨⟨y, ?_⟩, st'.1.at fun o q => (sb.2 it (Ne.symm hne)).trans q, hne⟩, fun b hb => ?_⟩
    · rw [I.tuple_inj hy hq]; exact hx
    · rw [show ((i + 1 : Nat) : Int) = (i : Int) + 1 by omega]; exact he'
    · have hb' : b < s.heap.objs.size := by
        rcases List.mem_cons.mp hb with z | z
        · rw [z]; exact hel
        · rw [List.mem_singleton.mp z]; exact hil
      rw [upd_ne (Nat.ne_of_lt hb')]
      exact (hf b hb).1
  done := by
    intro X hP hw hK hc i pins s σ H E I hf st hg
    subst hP hw hK
    obtain ⟨⟨old, he⟩, hit, hne⟩ := st
    obtain ⟨xs, hq, hx⟩ := hg
    obtain ⟨its, rv, p, hz⟩ := I.tuple hq
    have p' : s.heap.IsTuple a its.toArray := p
    have nai : a ≠ it := fun z => by
      obtain ⟨o1, q1, c1, _⟩ := hit
      obtain ⟨o2, q2, c2, _⟩ := p'
      rw [z, q1] at q2; cases q2; rw [c1] at c2; exact absurd c2 (by decide)
    obtain ⟨f0, f1, f2, f3, f4, f5⟩ := hf it (List.mem_cons_of_mem _ List.mem_cons_self)
    have hn : its.toArray[i]? = none := by
      have := rv.length
      rw [List.getElem?_toArray]
      exact List.getElem?_eq_none (by omega)
    have tyE : s.TypeIs (.ref e) "enumerate" := ⟨_, he, rfl⟩
    unfold pyNext
    refine wpAny_bind (wpAny_attempt (wpAny_callSpecial?_slot (name := Str.ofString "__next__") tyE F.slot_enumerate_next (wpAny_call_entry F.slot_enumerate_next tyE F.entry_enumerate_next ?_ (F.args_enumerate_next_1 _))))
    show wpAny _ _ (field (.ref e) 2 >>= _) _ _ _
    refine wpAny_bind (wpAny_field he rfl (x := .ref it) rfl (wpAny_bind (wpAny_nextOf_tuple_end (by simpa using I.ok.hd hc) hit p' hn fun h' y he' hy' => ?_)))
    obtain ⟨o, ho, hcl⟩ := hy'
    refine wpAny_bind (wpAny_isInstance (T := "StopIteration") (b := true) ⟨o, ho, hcl⟩ isSubtype_stop (wpAny_pure ?_))
    exact ⟨rfl, I.turned (t' := s.toks) (fun b o hb q => he' b o hb q) f0 f1 f3 f4 f5⟩
  self := fun A i s Q E st h => let ⟨⟨_, he⟩, _⟩ := st; wpAny_pyIter_enum he h
def iEnumT (K : PySem.W.Frag) (ta : TA) : TI := fun σ H R => ta σ H fun vs H1 => ∃ a xs, vs = [.ref a] ∧ SqT K H1 a xs ∧ R (Itu K a) H1
theorem pi_enumT {X : Cx} {e : Expr} {ta : TA} {p pos tpos : Pos} {elts : List Expr} {kk : Nat} (hg : Gl X "enumerate") (hm : X.mg "enumerate" = none) (ha : PA X [e] ta) (hs : starEach [e] X.env = [(false, eval e X.env)] := by rfl) :
    PI X (.Tuple elts kk tpos) (.Call (.Name "enumerate" p) [e] [] pos) (iEnumT X.K ta) := by
  refine ⟨fun pins s σ H R I h => Call_ (ld_blt I hg hm boot_enumerate (PyProof.Rows.callWith_type1 (thn (ha.run pos pins s σ H _ I h) fun us s1 ⟨vs, H1, I1, r1, a, xs, ex, hq, q⟩ => ?_) hs rfl))⟩
  subst ex
  rw [Vals.ref1 r1]
  obtain ⟨its, rv, p', hz⟩ := I1.tuple hq
  refine call_enumT (show s1.heap.IsTuple a its.toArray from p') fun h' he hit hk => wpAny_pyIter_enum he ?_
  refine ⟨s1.heap.objs.size + 1, [s1.heap.objs.size + 1, s1.heap.objs.size], _, _, H1, rfl, I1.kept (t' := s1.toks) hk, turn_enumT a (s1.heap.objs.size + 1) s1.heap.objs.size, ⟨⟨.none, he⟩, hit, Nat.succ_ne_self _⟩, fun b hb => ?_, q⟩
  have le : s1.heap.objs.size ≤ b := by
    rcases List.mem_cons.mp hb with z | z
    · rw [z]; exact Nat.le_succ _
    · rw [List.mem_singleton.mp z]; exact Nat.le_refl _
  exact I1.fpOk le (I1.hok.fresh le)
theorem walk_enumT {K : PySem.W.Frag} {a : Addr} {xs : List V} : Walk (Itu K a) xs.length (fun H => SqT K H a xs) (YPair (fun i => some (.int (i : Nat))) (fun i => xs[i]?)) := by
  refine ⟨fun i _ hi q => ⟨xs, xs[i], q, List.getElem?_eq_getElem hi⟩, fun _ q => ⟨xs, q, Nat.le_refl _⟩, fun i H v H' _ q y => ?_⟩
  obtain ⟨T, x, y1, y2, y3, y4⟩ := y
  exact ⟨T, .int (i : Nat), x, y1, y2, y3, rfl, y4 xs q⟩
section
variable {K : PySem.W.Frag} {g : TG} {tt : TT} {te : TE} {vs : List Nat} {σ : L2.St} {H : Hp} {Q : Addr → Hp → Prop}
/-- a pure comprehension over enumerate(t) -/
theorem lc_pureE {a : Addr} {xs : List V} (v : Nat → V) (hS : H a = some (.tup xs)) (hlen : xs.length ≤ 1000000) (hs : ∀ i x H' T, xs[i]? = some x → Same H H' → H' T = some (.tup [vN i, x]) → LcT g tt te vs σ (.ref T) H' true (v i))
    (hd : ∀ D H', H D = none → Same H H' → H' D = some (.lst ((List.range xs.length).map v)) → Q D H') : LcR g tt te vs σ Q (Itu K a) H := by
  intro D hD
  refine lc_it walk_enumT (fun i H' => Same H H' ∧ H' D = some (.lst ((((List.range xs.length).take i).filter fun _ => true).map v))) ⟨same_new0 hD, by simpa using upd_same⟩ (fun i H' _ hp => SqT.of (hp.1 _ _ hS)) (fun i x H' H2 hi hp y => ?_) (fun H' hp => ?_)
  · obtain ⟨T, x1, x2, rfl, nT, rfl, e1, e2⟩ := y
    cases e1
    have s2 : Same H (upd H' T (.tup [vN i, x2])) := same_new hp.1 nT
    exact lc_turn (l := List.range xs.length) (ι := fun _ => .ref T) (p := fun _ => true) (v := v) (by simpa using hlen) hD (range_get hi) s2 (upd_new nT hp.2) (hs i x2 _ T e2 s2 upd_same)
  · obtain ⟨h1, h2⟩ := hp
    rw [List.take_of_length_le (by simp), List.filter_eq_self.mpr fun _ _ => rfl] at h2
    exact hd D H' hD h1 h2
end
end LaneX
set_option Elab.async false
set_option linter.all false
set_option maxRecDepth 100000
set_option maxHeartbeats 4000000
namespace LaneX
open PySem PySem.Spec PyProof.Rows L2
/-! ### naturals in lists: in, index, max; further numbers -/
theorem inV_nat {n : Nat} {l : List Nat} : inV (vN n) (l.map vN) = decide (n ∈ l) := by
  unfold inV
  rw [List.any_map, Bool.eq_iff_iff, List.any_eq_true, decide_eq_true_iff]
  have e : ∀ x : Nat, ((fun y => eqV y (vN n)) ∘ vN) x = true ↔ x = n := fun x => by
    show (((x : Int) == (n : Int)) = true) ↔ _
    rw [beq_iff_eq]; omega
  constructor
  · rintro ⟨x, hx, h⟩
    rw [← (e x).mp h]; exact hx
  · exact fun h => ⟨n, h, (e n).mpr rfl⟩
theorem flat_nats (l : List Nat) : (l.map vN).all flatV = true := by
  rw [List.all_eq_true]
  intro v hv
  obtain ⟨x, _, rfl⟩ := List.mem_map.mp hv
  rfl
section
variable {X : Cx}
theorem on_in : OpR X (compareOp .In) (fun x y H Q => ∃ (n : Nat) (p : Addr) (ns : List Nat), x = vN n ∧ y = .ref p ∧ Tq H p (ns.map vN) ∧ Q (.bl (decide (n ∈ ns))) H) := by
  intro pins s σ H x y v u Q I rx ry h
  obtain ⟨n, p, ns, rfl, rfl, hS, q⟩ := h
  refine op_in_seq pins s σ H _ _ v u Q I rx ry ⟨p, _, rfl, hS.sqlt, rfl, flat_nats ns, ?_⟩
  simp only [Bool.false_eq_true, if_false, inV_nat]
  exact q
theorem on_notIn : OpR X (compareOp .NotIn) (fun x y H Q => ∃ (n : Nat) (p : Addr) (ns : List Nat), x = vN n ∧ y = .ref p ∧ Tq H p (ns.map vN) ∧ Q (.bl (!decide (n ∈ ns))) H) := by
  intro pins s σ H x y v u Q I rx ry h
  obtain ⟨n, p, ns, rfl, rfl, hS, q⟩ := h
  refine op_notIn_seq pins s σ H _ _ v u Q I rx ry ⟨p, _, rfl, hS.sqlt, rfl, flat_nats ns, ?_⟩
  simp only [if_true, inV_nat]
  exact q
/-- the right factor below 2 ^ 64 -/
theorem on_mulR : OpR X (binaryOp .Mult) (fun x y H Q => ∃ n m : Nat, x = .int (n : Int) ∧ y = .int (m : Int) ∧ (m < 2 ^ 64) ∧ Q (.int ((n * m : Nat) : Int)) H) := by
  intro pins s σ H x y v u Q I rx ry h
  obtain ⟨n, m, rfl, rfl, c, q⟩ := h
  rw [Int.natCast_mul] at q
  exact op_mul pins s σ H _ _ v u Q I rx ry ⟨_, _, rfl, rfl, show CMul (n : Int) (m : Int) from Or.inr ⟨by omega, by have : m < 18446744073709551616 := c; omega⟩, q⟩
/-- an int of any sign times a natural -/
theorem on_mulI : OpR X (binaryOp .Mult) (fun x y H Q => ∃ (i : Int) (m : Nat), x = .int i ∧ y = .int (m : Int) ∧ (m < 2 ^ 64) ∧ Q (.int (i * (m : Int))) H) := by
  intro pins s σ H x y v u Q I rx ry h
  obtain ⟨n, m, rfl, rfl, c, q⟩ := h
  exact op_mul pins s σ H _ _ v u Q I rx ry ⟨_, _, rfl, rfl, show CMul n (m : Int) from Or.inr ⟨by omega, by have : m < 18446744073709551616 := c; omega⟩, q⟩
theorem on_addI : OpR X (binaryOp .Add) (fun x y H Q => ∃ i j : Int, x = .int i ∧ y = .int j ∧ Q (.int (i + j)) H) := op_add
/-- a difference that is a natural -/
theorem on_subD : OpR X (binaryOp .Sub) (fun x y H Q => ∃ (i j : Int) (d : Nat), x = .int i ∧ y = .int j ∧ i - j = (d : Int) ∧ Q (vN d) H) := by
  intro pins s σ H x y v u Q I rx ry h
  obtain ⟨i, j, d, rfl, rfl, e, q⟩ := h
  refine op_sub pins s σ H _ _ v u Q I rx ry ⟨i, j, rfl, rfl, ?_⟩
  show Q (V.int (i - j)) H
  rw [e]
  exact q
/-- int(True), int(False) -/
theorem call_intB : CallR X (.type "int") (fun xs H Q => ∃ b : Bool, xs = [.bl b] ∧ Q (vN (if b = true then 1 else 0)) H) := by
  intro pins s σ H xs us Q I r h
  obtain ⟨b, rfl, q⟩ := h
  refine call_int1 pins s σ H _ us Q I r (.inr ⟨b, rfl, ?_⟩)
  cases b <;> exact q
/-- max(xs), naturals -/
theorem cr_maxN (hc : X.calm = true) : CallR X (.builtin "max") (fun xs H Q => ∃ (a : Addr) (ns : List Nat), xs = [.ref a] ∧ H a = some (.lst (ns.map vN)) ∧ 0 < ns.length ∧ ∀ m, m ∈ ns → (∀ x ∈ ns, x ≤ m) → Q (vN m) H) := by
  intro pins s σ H xs us Q I r h
  obtain ⟨a, ns, rfl, hS, h0, q⟩ := h
  rw [vN_ints] at hS
  refine cr_max hc pins s σ H _ us Q I r ⟨a, ns.map Int.ofNat, rfl, SqL.of hS, by simpa using h0, fun m hm hle => ?_⟩
  obtain ⟨k, hk, rfl⟩ := List.mem_map.mp hm
  refine q k hk fun x hx => ?_
  have := hle (x : Int) (List.mem_map.mpr ⟨x, hx, rfl⟩)
  have e : Int.ofNat k = (k : Int) := rfl
  omega
theorem call_maxN (hc : X.calm = true) : CallR X (.builtin "max") (fun xs H Q => ∃ n m : Nat, xs = [.int (n : Int), .int (m : Int)] ∧ Q (.int ((max n m : Nat) : Int)) H) := by
  intro pins s σ H xs us Q I r h
  obtain ⟨n, m, rfl, q⟩ := h
  refine call_max2 hc pins s σ H _ us Q I r ⟨_, _, rfl, ?_⟩
  have e : (if (m : Int) > (n : Int) then (m : Int) else (n : Int)) = ((max n m : Nat) : Int) := by split <;> omega
  rw [e]
  exact q
end
end LaneX
set_option Elab.async false
set_option linter.all false
set_option maxRecDepth 100000
set_option maxHeartbeats 4000000
namespace LaneX
open PySem PySem.Spec PyProof.Rows L2
def top (i : Nat) : Stmt := PySem.Challenge.pw_laneswap_k62_whole_side_by_side.main.body.getD i (.Pass ⟨0, 0, 0, 0⟩)
abbrev s_is_whole : Stmt := top 10
theorem sc_is_whole : FnScope ["value"] ["value"] (defScope s_is_whole) := ⟨rfl, rfl, rfl, by decide +kernel, rfl, by decide +kernel, by decide +kernel⟩
abbrev s_need_whole : Stmt := top 11
theorem sc_need_whole : FnScope ["value"] ["value"] (defScope s_need_whole) := ⟨rfl, rfl, rfl, by decide +kernel, rfl, by decide +kernel, by decide +kernel⟩
abbrev s_need_items : Stmt := top 12
theorem sc_need_items : FnScope ["value"] ["value"] (defScope s_need_items) := ⟨rfl, rfl, rfl, by decide +kernel, rfl, by decide +kernel, by decide +kernel⟩
abbrev s_need_word : Stmt := top 13
theorem sc_need_word : FnScope ["value", "bits"] ["value", "bits"] (defScope s_need_word) := ⟨rfl, rfl, rfl, by decide +kernel, rfl, by decide +kernel, by decide +kernel⟩
abbrev s_need_words : Stmt := top 14
theorem sc_need_words : FnScope ["values", "bits", "value"] ["values", "bits"] (defScope s_need_words) := ⟨rfl, rfl, rfl, by decide +kernel, rfl, by decide +kernel, by decide +kernel⟩
abbrev s_ones : Stmt := top 16
theorem sc_ones : FnScope ["word", "found", "left", "low"] ["word"] (defScope s_ones) := ⟨rfl, rfl, rfl, by decide +kernel, rfl, by decide +kernel, by decide +kernel⟩
abbrev s_cleared : Stmt := top 18
theorem sc_cleared : FnScope ["rows", "word", "left", "row"] ["rows", "word"] (defScope s_cleared) := ⟨rfl, rfl, rfl, by decide +kernel, rfl, by decide +kernel, by decide +kernel⟩
abbrev s_grown : Stmt := top 19
theorem sc_grown : FnScope ["rows", "word", "left", "top", "row"] ["rows", "word"] (defScope s_grown) := ⟨rfl, rfl, rfl, by decide +kernel, rfl, by decide +kernel, by decide +kernel⟩
abbrev s_spanned : Stmt := top 20
theorem sc_spanned : FnScope ["words", "rows", "word"] ["words"] (defScope s_spanned) := ⟨rfl, rfl, rfl, by decide +kernel, rfl, by decide +kernel, by decide +kernel⟩
abbrev s_image_of : Stmt := top 23
theorem sc_image_of : FnScope ["columns", "word", "total", "bit"] ["columns", "word"] (defScope s_image_of) := ⟨rfl, rfl, rfl, by decide +kernel, rfl, by decide +kernel, by decide +kernel⟩
abbrev s_paired : Stmt := top 24
theorem sc_paired : FnScope ["columns", "source", "bit"] ["columns"] (defScope s_paired) := ⟨rfl, rfl, rfl, by decide +kernel, rfl, by decide +kernel, by decide +kernel⟩
abbrev s_kernel_rows : Stmt := top 25
theorem sc_kernel_rows : FnScope ["columns", "row"] ["columns"] (defScope s_kernel_rows) := ⟨rfl, rfl, rfl, by decide +kernel, rfl, by decide +kernel, by decide +kernel⟩
abbrev s_met : Stmt := top 27
theorem sc_met : FnScope ["bits", "rows", "others", "both", "row"] ["bits", "rows", "others"] (defScope s_met) := ⟨rfl, rfl, rfl, by decide +kernel, rfl, by decide +kernel, by decide +kernel⟩
abbrev s_Space_init : Stmt := inClass (top 29) 0
theorem sc_Space_init : FnScope ["self", "bits", "words"] ["self", "bits", "words"] (defScope s_Space_init) := ⟨rfl, rfl, rfl, by decide +kernel, rfl, by decide +kernel, by decide +kernel⟩
abbrev s_Space_eq : Stmt := inClass (top 29) 1
theorem sc_Space_eq : FnScope ["self", "other"] ["self", "other"] (defScope s_Space_eq) := ⟨rfl, rfl, rfl, by decide +kernel, rfl, by decide +kernel, by decide +kernel⟩
abbrev s_Space_and : Stmt := inClass (top 29) 3
theorem sc_Space_and : FnScope ["self", "other"] ["self", "other"] (defScope s_Space_and) := ⟨rfl, rfl, rfl, by decide +kernel, rfl, by decide +kernel, by decide +kernel⟩
abbrev s_Space_completing : Stmt := inClass (top 29) 8
theorem sc_Space_completing : FnScope ["self", "other", "rows", "found", "row"] ["self", "other"] (defScope s_Space_completing) := ⟨rfl, rfl, rfl, by decide +kernel, rfl, by decide +kernel, by decide +kernel⟩
abbrev s_need_space : Stmt := top 30
theorem sc_need_space : FnScope ["value", "bits"] ["value", "bits"] (defScope s_need_space) := ⟨rfl, rfl, rfl, by decide +kernel, rfl, by decide +kernel, by decide +kernel⟩
abbrev s_Map_init : Stmt := inClass (top 32) 0
theorem sc_Map_init : FnScope ["self", "goal", "columns"] ["self", "goal", "columns"] (defScope s_Map_init) := ⟨rfl, rfl, rfl, by decide +kernel, rfl, by decide +kernel, by decide +kernel⟩
abbrev s_Map_kernel : Stmt := inClass (top 32) 10
theorem sc_Map_kernel : FnScope ["self"] ["self"] (defScope s_Map_kernel) := ⟨rfl, rfl, rfl, by decide +kernel, rfl, by decide +kernel, by decide +kernel⟩
abbrev s_Spread_init : Stmt := inClass (top 37) 0
theorem sc_Spread_init : FnScope ["self", "bits", "slots", "lanes", "rows"] ["self", "bits", "slots", "lanes"] (defScope s_Spread_init) := ⟨rfl, rfl, rfl, by decide +kernel, rfl, by decide +kernel, by decide +kernel⟩
abbrev s_Spread_eq : Stmt := inClass (top 37) 1
theorem sc_Spread_eq : FnScope ["self", "other"] ["self", "other"] (defScope s_Spread_eq) := ⟨rfl, rfl, rfl, by decide +kernel, rfl, by decide +kernel, by decide +kernel⟩
abbrev s_Spread_or : Stmt := inClass (top 37) 2
theorem sc_Spread_or : FnScope ["self", "other", "slots", "lanes", "word"] ["self", "other"] (defScope s_Spread_or) := ⟨rfl, rfl, rfl, by decide +kernel, rfl, by decide +kernel, by decide +kernel⟩
abbrev s_Spread_floordiv : Stmt := inClass (top 37) 3
theorem sc_Spread_floordiv : FnScope ["self", "one", "slots", "lanes"] ["self", "one"] (defScope s_Spread_floordiv) := ⟨rfl, rfl, rfl, by decide +kernel, rfl, by decide +kernel, by decide +kernel⟩
abbrev s_Spread_entry : Stmt := inClass (top 37) 4
theorem sc_Spread_entry : FnScope ["self", "slot", "lane"] ["self", "slot", "lane"] (defScope s_Spread_entry) := ⟨rfl, rfl, rfl, by decide +kernel, rfl, by decide +kernel, by decide +kernel⟩
abbrev s_Spread_slot_space : Stmt := inClass (top 37) 8
theorem sc_Spread_slot_space : FnScope ["self"] ["self"] (defScope s_Spread_slot_space) := ⟨rfl, rfl, rfl, by decide +kernel, rfl, by decide +kernel, by decide +kernel⟩
abbrev s_Spread_twins : Stmt := inClass (top 37) 10
theorem sc_Spread_twins : FnScope ["self", "rows", "word"] ["self"] (defScope s_Spread_twins) := ⟨rfl, rfl, rfl, by decide +kernel, rfl, by decide +kernel, by decide +kernel⟩
abbrev s_Spread_copies : Stmt := inClass (top 37) 11
theorem sc_Spread_copies : FnScope ["self"] ["self"] (defScope s_Spread_copies) := ⟨rfl, rfl, rfl, by decide +kernel, rfl, by decide +kernel, by decide +kernel⟩
abbrev s_Spread_placing : Stmt := inClass (top 37) 12
theorem sc_Spread_placing : FnScope ["self"] ["self"] (defScope s_Spread_placing) := ⟨rfl, rfl, rfl, by decide +kernel, rfl, by decide +kernel, by decide +kernel⟩
abbrev s_any_spread : Stmt := top 38
theorem sc_any_spread : FnScope ["value"] ["value"] (defScope s_any_spread) := ⟨rfl, rfl, rfl, by decide +kernel, rfl, by decide +kernel, by decide +kernel⟩
abbrev s_left_over : Stmt := top 39
theorem sc_left_over : FnScope ["words", "first", "bits", "many", "word"] ["words", "first", "bits"] (defScope s_left_over) := ⟨rfl, rfl, rfl, by decide +kernel, rfl, by decide +kernel, by decide +kernel⟩
abbrev s_need_fit : Stmt := top 41
theorem sc_need_fit : FnScope ["one", "other"] ["one", "other"] (defScope s_need_fit) := ⟨rfl, rfl, rfl, by decide +kernel, rfl, by decide +kernel, by decide +kernel⟩
abbrev s_lane_sums : Stmt := top 42
theorem sc_lane_sums : FnScope ["one", "other", "at", "word"] ["one", "other"] (defScope s_lane_sums) := ⟨rfl, rfl, rfl, by decide +kernel, rfl, by decide +kernel, by decide +kernel⟩
abbrev s_both_rows : Stmt := top 43
theorem sc_both_rows : FnScope ["one", "other", "rows", "others"] ["one", "other"] (defScope s_both_rows) := ⟨rfl, rfl, rfl, by decide +kernel, rfl, by decide +kernel, by decide +kernel⟩
abbrev s_all_hold : Stmt := top 44
theorem sc_all_hold : FnScope ["one", "other", "sums", "both", "word"] ["one", "other"] (defScope s_all_hold) := ⟨rfl, rfl, rfl, by decide +kernel, rfl, by decide +kernel, by decide +kernel⟩
abbrev s_fewest_rounds : Stmt := top 45
theorem sc_fewest_rounds : FnScope ["one", "other", "rows", "others", "both", "shared"] ["one", "other"] (defScope s_fewest_rounds) := ⟨rfl, rfl, rfl, by decide +kernel, rfl, by decide +kernel, by decide +kernel⟩
abbrev s_lacks : Stmt := top 46
theorem sc_lacks : FnScope ["one", "other", "lane", "rows", "others", "both", "shared"] ["one", "other", "lane"] (defScope s_lacks) := ⟨rfl, rfl, rfl, by decide +kernel, rfl, by decide +kernel, by decide +kernel⟩
abbrev s_need_pair : Stmt := top 48
theorem sc_need_pair : FnScope ["spread", "space"] ["spread", "space"] (defScope s_need_pair) := ⟨rfl, rfl, rfl, by decide +kernel, rfl, by decide +kernel, by decide +kernel⟩
abbrev s_partner_rows : Stmt := top 49
theorem sc_partner_rows : FnScope ["spread", "space", "rows", "word"] ["spread", "space"] (defScope s_partner_rows) := ⟨rfl, rfl, rfl, by decide +kernel, rfl, by decide +kernel, by decide +kernel⟩
abbrev s_partners : Stmt := top 50
theorem sc_partners : FnScope ["spread", "space"] ["spread", "space"] (defScope s_partners) := ⟨rfl, rfl, rfl, by decide +kernel, rfl, by decide +kernel, by decide +kernel⟩
abbrev s_leaders : Stmt := top 51
theorem sc_leaders : FnScope ["spread", "space"] ["spread", "space"] (defScope s_leaders) := ⟨rfl, rfl, rfl, by decide +kernel, rfl, by decide +kernel, by decide +kernel⟩
abbrev s_kept_bits : Stmt := top 52
theorem sc_kept_bits : FnScope ["spread", "space", "slots"] ["spread", "space"] (defScope s_kept_bits) := ⟨rfl, rfl, rfl, by decide +kernel, rfl, by decide +kernel, by decide +kernel⟩
abbrev s_rounds_for : Stmt := top 53
theorem sc_rounds_for : FnScope ["bits", "apart"] ["bits", "apart"] (defScope s_rounds_for) := ⟨rfl, rfl, rfl, by decide +kernel, rfl, by decide +kernel, by decide +kernel⟩
abbrev s_sum_rounds : Stmt := top 54
theorem sc_sum_rounds : FnScope ["spread", "space", "bits"] ["spread", "space"] (defScope s_sum_rounds) := ⟨rfl, rfl, rfl, by decide +kernel, rfl, by decide +kernel, by decide +kernel⟩
abbrev s_penL : Stmt := top 56
theorem sc_penL : FnScope ["_law_script"] ["_law_script"] (defScope s_penL) := ⟨rfl, rfl, rfl, by decide +kernel, rfl, by decide +kernel, by decide +kernel⟩
abbrev s_drawL : Stmt := top 57
theorem sc_drawL : FnScope ["_law_pen_here", "_law_many", "_law_digit", "_law_stop", "_law_cell", "_law_blend"] ["_law_pen_here", "_law_many"] (defScope s_drawL) := ⟨rfl, rfl, rfl, by decide +kernel, rfl, by decide +kernel, by decide +kernel⟩
abbrev s_baseL : Stmt := top 59
theorem sc_baseL : FnScope ["_law_pen_here", "_law_bits", "_law_words", "_law_k", "_law_at", "_law_to"] ["_law_pen_here", "_law_bits"] (defScope s_baseL) := ⟨rfl, rfl, rfl, by decide +kernel, rfl, by decide +kernel, by decide +kernel⟩
abbrev s_unitL : Stmt := top 60
theorem sc_unitL : FnScope ["_law_k", "_law_found", "_law_step"] ["_law_k"] (defScope s_unitL) := ⟨rfl, rfl, rfl, by decide +kernel, rfl, by decide +kernel, by decide +kernel⟩
abbrev s_wordL : Stmt := top 61
theorem sc_wordL : FnScope ["_law_pen_here", "_law_bits", "_law_found", "_law_k"] ["_law_pen_here", "_law_bits"] (defScope s_wordL) := ⟨rfl, rfl, rfl, by decide +kernel, rfl, by decide +kernel, by decide +kernel⟩
abbrev s_spreadL : Stmt := top 62
theorem sc_spreadL : FnScope ["_law_pen_here", "_law_bits", "_law_lanes", "_law_words", "_law_order"] ["_law_pen_here", "_law_bits", "_law_lanes"] (defScope s_spreadL) := ⟨rfl, rfl, rfl, by decide +kernel, rfl, by decide +kernel, by decide +kernel⟩
abbrev s_sizesL : Stmt := top 63
theorem sc_sizesL : FnScope ["_law_one", "_law_other", "_law_lane", "_law_wanted"] ["_law_one", "_law_other", "_law_lane"] (defScope s_sizesL) := ⟨rfl, rfl, rfl, by decide +kernel, rfl, by decide +kernel, by decide +kernel⟩
abbrev s_joinedL : Stmt := top 64
theorem sc_joinedL : FnScope ["_law_low", "_law_high", "_law_shift"] ["_law_low", "_law_high", "_law_shift"] (defScope s_joinedL) := ⟨rfl, rfl, rfl, by decide +kernel, rfl, by decide +kernel, by decide +kernel⟩
abbrev s_pairL : Stmt := top 65
theorem sc_pairL : FnScope ["_law_pen_here", "_law_bits", "_law_lanes"] ["_law_pen_here", "_law_bits"] (defScope s_pairL) := ⟨rfl, rfl, rfl, by decide +kernel, rfl, by decide +kernel, by decide +kernel⟩
abbrev s_law : Stmt := top 66
theorem sc_law : FnScope ["_law_script", "_law_pen_here", "_law_lap", "_law_one", "_law_other", "_law_low", "_law_high", "_law_start", "_law_goal", "_law_n", "_law_t", "_law_r", "_law_k", "_law_here", "_law_there", "_law_lane", "_law_first", "_law_second", "_law_slot", "_law_more", "_law_due", "_law_space", "_law_wide"] ["_law_script"] (defScope s_law) := ⟨rfl, rfl, rfl, by decide +kernel, rfl, by decide +kernel, by decide +kernel⟩
structure Bt (mg : Str → Option Value) : Prop where
  all : mg "all" = none
  any : mg "any" = none
  bool : mg "bool" = none
  enumerate : mg "enumerate" = none
  int : mg "int" = none
  isinstance : mg "isinstance" = none
  len : mg "len" = none
  list : mg "list" = none
  max : mg "max" = none
  min : mg "min" = none
  range : mg "range" = none
  sorted : mg "sorted" = none
  tuple : mg "tuple" = none
  zip : mg "zip" = none
end LaneX
set_option Elab.async false
set_option linter.all false
set_option maxRecDepth 100000
set_option maxHeartbeats 4000000
namespace LaneX
open PySem PySem.Spec PyProof.Rows L2

/-! ### what the checks promise, for values that are as described -/
def sp_is_whole : Sp := fun vs H Q _ => ∃ n : Nat, vs = [vN n] ∧ Q (.bl true) H
def sp_need_whole : Sp := fun vs H Q _ => ∃ n : Nat, vs = [vN n] ∧ Q .non H
def sp_need_items : Sp := fun vs H Q _ => ∃ (a : Addr) (xs : List V), vs = [.ref a] ∧ Tq H a xs ∧ ∀ H', Same H H' → Q .non H'
def sp_need_word : Sp := fun vs H Q _ => ∃ n b : Nat, vs = [vN n, vN b] ∧ blen n ≤ b ∧ Q .non H
def sp_need_words : Sp := fun vs H Q _ => ∃ (a : Addr) (ns : List Nat) (b : Nat), vs = [.ref a, vN b] ∧ Tq H a (ns.map vN) ∧ (∀ n ∈ ns, blen n ≤ b) ∧ ∀ H' p, Same H H' → H p = none → H' p = some (.lst (ns.map vN)) → Q (.ref p) H'
theorem ok_is_whole {P : Program} {w : World} {K : PySem.W.Frag} {mg : Str → Option Value} {base : Heap} {f : Addr} {fd : FuncData} (T : Bt mg) (F : FnP K "is_whole" "is_whole" s_is_whole f fd) : FnOk P w K mg base CX0 1 f fd ["value"] sp_is_whole := by
  have nd := sc_is_whole.nd
  refine fnok F sc_is_whole (fun vs H Q E h => ?_) (fun cdv A outer s H vs Q E hr h => ?_)
  · obtain ⟨n, rfl, _⟩ := h
    rfl
  · obtain ⟨n, rfl, k⟩ := h
    refine ⟨_, (pss_one (ps_ret (pe_and (pe_callB call_isi (by rfl) T.isinstance (by decide +kernel) (pa_cons (pv 0) (pa_cons (pe_bltn (v := .ty "int") (by rfl) T.int (by decide +kernel) rfl) pa_nil))) (pe_and (pe_not (pe_callB call_isi (by rfl) T.isinstance (by decide +kernel) (pa_cons (pv 0) (pa_cons (pe_bltn (v := .ty "bool") (by rfl) T.bool (by decide +kernel) rfl) pa_nil)))) (pe_one (pe_cmpR op_ge (pv 0) pe_int (nomark _))))))), ?_⟩
    refine ⟨_, rfl, _, _, _, _, _, rfl, .ty _, .base (.int _), kit_ty (r := true) (by decide +kernel), _, rfl, iteT ?_⟩
    refine ⟨_, rfl, _, _, _, _, _, rfl, .ty _, .base (.int _), kit_ty (r := false) (by decide +kernel), _, rfl, _, rfl, iteT ?_⟩
    refine ⟨_, rfl, _, _, rfl, rfl, ?_⟩
    have e : decide ((0 : Int) ≤ (n : Int)) = true := decide_eq_true (by omega)
    show Q (.bl (decide ((0 : Int) ≤ (n : Int)))) H
    rw [e]
    exact k
theorem ok_need_whole {P : Program} {w : World} {K : PySem.W.Frag} {mg : Str → Option Value} {base : Heap} {f : Addr} {fd : FuncData} (T : Bt mg) (F : FnP K "need_whole" "need_whole" s_need_whole f fd) (D_is_whole : Dn P w K mg base 1 "is_whole" ["value"] sp_is_whole) : FnOk P w K mg base CX0 2 f fd ["value"] sp_need_whole := by
  have nd := sc_need_whole.nd
  refine fnok F sc_need_whole (fun vs H Q E h => ?_) (fun cdv A outer s H vs Q E hr h => ?_)
  · obtain ⟨n, rfl, _⟩ := h
    rfl
  · obtain ⟨n, rfl, k⟩ := h
    refine ⟨_, (pss_one (ps_if (pt_not (pt_val (pe_d D_is_whole hr (pa_cons (pv 0) pa_nil))))
      (pss_one ps_never)
      pss_nil)), ?_⟩
    exact ⟨_, rfl, n, rfl, _, rfl, iteF k⟩
theorem ok_need_items {P : Program} {w : World} {K : PySem.W.Frag} {mg : Str → Option Value} {base : Heap} {f : Addr} {fd : FuncData} (T : Bt mg) (F : FnP K "need_items" "need_items" s_need_items f fd) : FnOk P w K mg base CX0 1 f fd ["value"] sp_need_items := by
  have nd := sc_need_items.nd
  refine fnok F sc_need_items (fun vs H Q E h => ?_) (fun cdv A outer s H vs Q E hr h => ?_)
  · obtain ⟨a, xs, rfl, _⟩ := h
    rfl
  · obtain ⟨a, xs, rfl, hS, k⟩ := h
    refine ⟨_, (pss_one (ps_if (pt_not (pt_val (pe_callB call_isiT (by rfl) T.isinstance (by decide +kernel) (pa_cons (pv 0) (pa_cons (pe_tup (pa_cons (pe_bltn (v := .ty "list") (by rfl) T.list (by decide +kernel) rfl) (pa_cons (pe_bltn (v := .ty "tuple") (by rfl) T.tuple (by decide +kernel) rfl) pa_nil))) pa_nil)))))
      (pss_one ps_never)
      pss_nil)), ?_⟩
    refine ⟨_, rfl, (by show 2 ≤ sizeLine; decide), fun p hp => ?_⟩
    obtain ⟨t, ht, hk⟩ := (hS.new (o := .tup [.ty "list", .ty "tuple"]) hp).ty (K := K)
    refine ⟨_, _, _, _, _, _, rfl, upd_same, .cons (.ty _) (.cons (.ty _) .nil), ht, hk, _, rfl, iteF ?_⟩
    exact k _ (same_new0 hp)
theorem ok_need_word {P : Program} {w : World} {K : PySem.W.Frag} {mg : Str → Option Value} {base : Heap} {f : Addr} {fd : FuncData} (T : Bt mg) (F : FnP K "need_word" "need_word" s_need_word f fd) (D_is_whole : Dn P w K mg base 1 "is_whole" ["value"] sp_is_whole) : FnOk P w K mg base CX0 2 f fd ["value", "bits"] sp_need_word := by
  have nd := sc_need_word.nd
  refine fnok F sc_need_word (fun vs H Q E h => ?_) (fun cdv A outer s H vs Q E hr h => ?_)
  · obtain ⟨n, b, rfl, _⟩ := h
    rfl
  · obtain ⟨n, b, rfl, hb, k⟩ := h
    refine ⟨_, (pss_one (ps_if (PW.pt (pw_or (pt_not (pt_val (pe_d D_is_whole hr (pa_cons (pv 0) pa_nil)))) (pw_or1 (pt_cmpR op_gt (pe_bits (pv 0)) (pv 1) (nomark _)))))
      (pss_one ps_never)
      pss_nil)), ?_⟩
    refine ⟨_, rfl, n, rfl, _, rfl, iteF ?_⟩
    refine ⟨_, rfl, _, rfl, _, rfl, _, _, rfl, rfl, _, rfl, ?_⟩
    rw [blen_bits]
    have e : decide ((b : Int) < (blen n : Int)) = false := decide_eq_false (by omega)
    rw [e]
    exact iteF k
theorem ok_need_words {P : Program} {w : World} {K : PySem.W.Frag} {mg : Str → Option Value} {base : Heap} {f : Addr} {fd : FuncData} (T : Bt mg) (F : FnP K "need_words" "need_words" s_need_words f fd) (D_need_items : Dn P w K mg base 1 "need_items" ["value"] sp_need_items) (D_need_word : Dn P w K mg base 2 "need_word" ["value", "bits"] sp_need_word) :
    FnOk P w K mg base CX0 3 f fd ["values", "bits"] sp_need_words := by
  have nd := sc_need_words.nd
  refine fnok F sc_need_words (fun vs H Q E h => ?_) (fun cdv A outer s H vs Q E hr h => ?_)
  · obtain ⟨a, ns, b, rfl, _⟩ := h
    rfl
  · obtain ⟨a, ns, b, rfl, hS, hb, k⟩ := h
    refine ⟨_, (pss_cons (ps_expr (pe_d D_need_items hr (pa_cons (pv 0) pa_nil)))
      (pss_cons (ps_for PassesOwn.never rfl (pi_seq (pv 0)) (pg_name (i := 2) nd rfl (Or.inl rfl))
        (pss_one (ps_expr (pe_d D_need_word hr (pa_cons (pv 2) (pa_cons (pv 1) pa_nil))))))
      (pss_one (ps_ret (pe_callTy call_listQ (by rfl) T.list (by decide +kernel) (pa_cons (pv 0) pa_nil)))))), ?_⟩
    refine ⟨_, rfl, a, _, rfl, hS, fun H1 s1 => ?_⟩
    refine ⟨_, rfl, for_seq (K := K) (same_tq s1 hS).sq (fun i σ H2 => ∃ v, σ = [some (.ref a), some (vN b), v] ∧ H2 = H1) ⟨none, rfl, rfl⟩ (fun i σ H2 hp => by obtain ⟨_, _, rfl⟩ := hp; exact Kp.refl _) ?_ ?_⟩
    · rintro i x σ H2 hx ⟨v, rfl, rfl⟩
      obtain ⟨n, hn, rfl⟩ := map_get hx
      exact ⟨_, rfl, _, rfl, n, b, rfl, hb n (List.mem_of_getElem? hn), _, rfl, rfl⟩
    · rintro σ H2 ⟨v, rfl, rfl⟩
      refine ⟨_, rfl, a, _, rfl, (same_tq s1 hS), fun l hl => ?_⟩
      exact k _ _ (same_new s1 hl) (same_free s1 hl) upd_same
end LaneX
set_option Elab.async false
set_option linter.all false
set_option maxRecDepth 100000
set_option maxHeartbeats 4000000
namespace LaneX
open PySem PySem.Spec PyProof.Rows L2
theorem dec_int {a b : Int} : decide (V.int a = V.int b) = decide (a = b) := by
  by_cases h : a = b
  · subst h; simp
  · rw [decide_eq_false h, decide_eq_false (fun e => h (by cases e; rfl))]
theorem dec_nat {a b : Nat} : decide (V.int (a : Int) = V.int (b : Int)) = decide (a = b) := by
  rw [dec_int]
  by_cases h : a = b
  · subst h; simp
  · rw [decide_eq_false h, decide_eq_false (by omega)]
theorem clr_snoc (a : List Nat) (r w : Nat) : clr (a ++ [r]) w = if (clr a w).testBit (blen r - 1) = true then clr a w ^^^ r else clr a w := clr_append a [r] w
theorem dec_zero {n : Nat} (h : decide (V.int (n : Int) = V.int 0) = true) : n = 0 := by
  rw [show (V.int 0 : V) = V.int ((0 : Nat) : Int) from rfl, dec_nat] at h
  exact of_decide_eq_true h
theorem dec_nz {n : Nat} (h : decide (V.int (n : Int) = V.int 0) = false) : n ≠ 0 := by
  rw [show (V.int 0 : V) = V.int ((0 : Nat) : Int) from rfl, dec_nat] at h
  exact of_decide_eq_false h
theorem dec_bit (n b : Nat) : decide (V.int ((n >>> b &&& 1 : Nat) : Int) = V.int 1) = n.testBit b := by
  rw [show (V.int 1 : V) = V.int ((1 : Nat) : Int) from rfl, dec_nat]
  cases q : n.testBit b with
  | true => exact decide_eq_true ((shr_and_one _ _).mpr q)
  | false => exact decide_eq_false fun z => by rw [(shr_and_one _ _).mp z] at q; cases q
theorem size6'' {n : Nat} (h : n ≤ 1000000) : n + 1 ≤ sizeLine := by rw [sizeLine_eq]; omega
def sp_spanned : Sp := fun vs H Q _ => ∃ (a : Addr) (ws : List Nat), vs = [.ref a] ∧ Tq H a (ws.map vN) ∧ ws.length ≤ 1000000 ∧
  ∀ H' p, Same H H' → H p = none → H' p = some (.lst ((spn ws).map vN)) → Q (.ref p) H'
def sp_cleared : Sp := fun vs H Q _ => ∃ (a : Addr) (rows : List Nat) (x : Nat), vs = [.ref a, vN x] ∧ Tq H a (rows.map vN) ∧ (∀ r ∈ rows, r ≠ 0) ∧ Q (vN (clr rows x)) H
def sp_grown : Sp := fun vs H Q _ => ∃ (a : Addr) (rows : List Nat) (x : Nat), vs = [.ref a, vN x] ∧ Tq H a (rows.map vN) ∧ (∀ r ∈ rows, r ≠ 0) ∧ rows.length ≤ 1000000 ∧
  ∀ H' p, Same H H' → H p = none → H' p = some (.lst ((grw rows x).map vN)) → Q (.ref p) H'
section
variable {P : Program} {w : World} {K : PySem.W.Frag} {mg : Str → Option Value} {base : Heap} {f : Addr} {fd : FuncData} (T : Bt mg)
include T
theorem ok_cleared (F : FnP K "cleared" "cleared" s_cleared f fd) : FnOk P w K mg base CX0 1 f fd ["rows", "word"] sp_cleared := by
  have nd := sc_cleared.nd
  refine fnok F sc_cleared (fun vs H Q E h => ?_) (fun cdv A outer s H vs Q E hr h => ?_)
  · obtain ⟨a, rows, x, rfl, _⟩ := h
    rfl
  · obtain ⟨a, rows, x, rfl, hS, hn, k⟩ := h
    refine ⟨_, (pss_cons (ps_set (i := 2) nd rfl (Or.inl rfl) (pv 1))
      (pss_cons (ps_for PassesOwn.never rfl (pi_seq (pv 0)) (pg_name (i := 3) nd rfl (Or.inl rfl))
        (pss_one (ps_if (pt_cmpR op_eq (pe_op on_and (pe_op on_shr (pv 2) (pe_op on_sub (pe_bits (pv 3)) pe_int)) pe_int) pe_int (nomark _))
          (pss_one (ps_set (i := 2) nd rfl (Or.inl rfl) (pe_op on_xor (pv 2) (pv 3))))
          pss_nil)))
      (pss_one (ps_ret (pv 2))))), ?_⟩
    refine ⟨_, rfl, _, rfl, for_seq (K := K) hS.sq (fun i σ H2 => ∃ v, σ = [some (.ref a), some (vN x), some (vN (clr (rows.take i) x)), v] ∧ H2 = H) ⟨none, rfl, rfl⟩ (fun i σ H2 hp => by obtain ⟨_, _, rfl⟩ := hp; exact Kp.refl _) ?_ ?_⟩
    · rintro i y σ H2 hy ⟨v, rfl, rfl⟩
      obtain ⟨r, hr', rfl⟩ := map_get hy
      have rn := hn r (List.mem_of_getElem? hr')
      have rb := blen_pos rn
      refine ⟨_, rfl, _, rfl, _, rfl, _, 1, rfl, rfl, (by show 1 ≤ Builtin.Int.intBits (r : Int); rw [blen_bits]; exact rb), _, _, rfl, rfl, _, 1, rfl, rfl, rfl, _, rfl, ?_⟩
      rw [take_succ hr', clr_snoc]
      rw [blen_bits]
      have e : decide (V.int ((clr (rows.take i) x >>> (blen r - 1) &&& 1 : Nat) : Int) = V.int 1) = (clr (rows.take i) x).testBit (blen r - 1) := by
        rw [show (V.int 1 : V) = V.int ((1 : Nat) : Int) from rfl, dec_nat]
        cases q : (clr (rows.take i) x).testBit (blen r - 1) with
        | true => exact decide_eq_true ((shr_and_one _ _).mpr q)
        | false => exact decide_eq_false fun z => by rw [(shr_and_one _ _).mp z] at q; cases q
      rw [e]
      cases q : (clr (rows.take i) x).testBit (blen r - 1) with
      | true => exact iteT ⟨_, rfl, _, rfl, _, _, rfl, rfl, _, rfl, rfl⟩
      | false => exact iteF ⟨_, rfl, rfl⟩
    · rintro σ H2 ⟨v, rfl, rfl⟩
      refine ⟨_, rfl, ?_⟩
      rw [List.length_map, List.take_length]
      exact k
theorem ok_grown (F : FnP K "grown" "grown" s_grown f fd) (D_cleared : Dn P w K mg base 1 "cleared" ["rows", "word"] sp_cleared) : FnOk P w K mg base CX0 2 f fd ["rows", "word"] sp_grown := by
  have nd := sc_grown.nd
  refine fnok F sc_grown (fun vs H Q E h => ?_) (fun cdv A outer s H vs Q E hr h => ?_)
  · obtain ⟨a, rows, x, rfl, _⟩ := h
    rfl
  · obtain ⟨a, rows, x, rfl, hS, hn, hl, k⟩ := h
    refine ⟨_, (pss_cons (ps_set (i := 2) nd rfl (Or.inr rfl) (pe_d D_cleared hr (pa_cons (pv 0) (pa_cons (pv 1) pa_nil))))
  (pss_cons (ps_if (pt_cmpR op_eq (pv 2) pe_int (nomark _))
    (pss_one (ps_ret (pe_callTy call_listQ (by rfl) T.list (by decide +kernel) (pa_cons (pv 0) pa_nil))))
    pss_nil)
  (pss_cons (ps_set (i := 3) nd rfl (Or.inr rfl) (pe_op on_sub (pe_bits (pv 2)) pe_int))
  (pss_one (ps_ret (pe_callB cr_sortedN (by rfl) T.sorted (by decide +kernel) (pa_cons (pe_op op_cat (pe_lc (own := [("row", 4)]) (g := gName 4) (by rfl) nd (pi_seq (pv 0)) (blkOk_by (own := [("row", 4)]) (N := ["rows", "word", "left", "top", "row"]) (sc := defScope s_grown) (by decide +kernel)) (fun _ _ _ _ _ => (pg_name (i := 4) nd rfl (Or.inl rfl))) (fun _ _ _ _ _ => pts_nil) (fun _ _ _ _ _ => (pe_ifExp (pt_cmpR op_eq (pe_op on_and (pe_op on_shr (pv 4) (pv 3)) pe_int) pe_int (nomark _)) (pe_op on_xor (pv 4) (pv 2)) (pv 4)))) (pe_lst (pa_cons (pv 2) pa_nil))) pa_nil))))))), ?_⟩
    refine ⟨_, rfl, _, rfl, a, rows, x, rfl, hS, hn, ?_⟩
    refine ⟨_, rfl, rfl, _, rfl, ?_⟩
    refine br (fun e => ?_) (fun e => ?_)
    · have e0 : clr rows x = 0 := dec_zero e
      refine ⟨_, rfl, a, _, rfl, hS, fun l hl' => ?_⟩
      refine k _ _ (same_new0 hl') hl' ?_
      rw [grw_eq, if_pos e0]
      exact upd_same
    · have e0 : clr rows x ≠ 0 := dec_nz e
      have eb := blen_pos e0
      refine ⟨_, rfl, _, rfl, _, 1, rfl, rfl, (by show 1 ≤ Builtin.Int.intBits (clr rows x : Int); rw [blen_bits]; exact eb), ?_⟩
      refine ⟨_, rfl, lc_pure rows vN (fun _ => true) (fun r => vN (chg (clr rows x) r)) hS hl (fun n H' hn' s => ?_) (fun D H1 hD s1 h1 => ?_)⟩
      · intro Z Nx h1 h2
        refine ⟨rfl, _, rfl, _, rfl, _, _, rfl, rfl, _, 1, rfl, rfl, rfl, _, rfl, ?_⟩
        rw [blen_bits, dec_bit]
        have z := h1 rfl H' (Same.refl H')
        unfold chg at z
        cases q : n.testBit (blen (clr rows x) - 1) with
        | true =>
          rw [q] at z
          exact iteT ⟨_, rfl, _, rfl, _, _, rfl, rfl, z⟩
        | false =>
          rw [q] at z
          exact iteF ⟨_, rfl, z⟩
      · rw [List.filter_eq_self.mpr (fun _ _ => rfl)] at h1
        refine ⟨_, rfl, (by show 1 ≤ sizeLine; decide), fun l hl' => ?_⟩
        refine ⟨_, _, _, _, rfl, rfl, upd_new hl' h1, upd_same, (by show (rows.map _).length + 1 ≤ _; rw [List.length_map]; exact size6'' hl), fun q hq => ?_⟩
        refine ⟨q, rows.map (chg (clr rows x)) ++ [clr rows x], rfl, ?_, fun p hp => ?_⟩
        · rw [upd_same]
          simp [List.map_append]
        · have s3 := same_new (o := .lst [vN (clr rows x)]) s1 hl'
          have s4 := same_new (o := .lst (rows.map (fun r => vN (chg (clr rows x) r)) ++ [vN (clr rows x)])) s3 hq
          refine k _ _ (same_new s4 hp) (same_free s4 hp) ?_
          rw [upd_same, grw_eq, if_neg e0]
theorem ok_spanned (F : FnP K "spanned" "spanned" s_spanned f fd) (D_grown : Dn P w K mg base 2 "grown" ["rows", "word"] sp_grown) : FnOk P w K mg base CX0 3 f fd ["words"] sp_spanned := by
  have nd := sc_spanned.nd
  refine fnok F sc_spanned (fun vs H Q E h => ?_) (fun cdv A outer s H vs Q E hr h => ?_)
  · obtain ⟨a, ws, rfl, _⟩ := h
    rfl
  · obtain ⟨a, ws, rfl, hS, hl, k⟩ := h
    refine ⟨_, (pss_cons (ps_set (i := 1) nd rfl (Or.inl rfl) (pe_lst pa_nil))
      (pss_cons (ps_for PassesOwn.never rfl (pi_seq (pv 0)) (pg_name (i := 2) nd rfl (Or.inl rfl))
        (pss_one (ps_set (i := 1) nd rfl (Or.inl rfl) (pe_d D_grown hr (pa_cons (pv 1) (pa_cons (pv 2) pa_nil))))))
      (pss_one (ps_ret (pv 1))))), ?_⟩
    refine ⟨(by show 0 ≤ sizeLine; decide), fun l0 hl0 => ?_⟩
    have s0 : Same H (upd H l0 (.lst [])) := same_new0 hl0
    refine ⟨_, rfl, for_seq (K := K) (same_tq s0 hS).sq (fun i σ H2 => ∃ v l, σ = [some (.ref a), some (.ref l), v] ∧ Same (upd H l0 (.lst [])) H2 ∧ H l = none ∧ H2 l = some (.lst ((spn (ws.take i)).map vN))) ⟨none, l0, rfl, Same.refl _, hl0, upd_same⟩ (fun i σ H2 hp => ?_) ?_ ?_⟩
    · obtain ⟨_, l, _, s2, hn, h2⟩ := hp
      exact Kp.of s2
    · rintro i y σ H2 hy ⟨v, l, rfl, s2, hn, h2⟩
      obtain ⟨r, hr', rfl⟩ := map_get hy
      refine ⟨_, rfl, _, rfl, l, _, r, rfl, .inl h2, (spn_rws _).nz, Nat.le_trans (spn_len _) (Nat.le_trans (by rw [List.length_take]; omega) hl), fun H3 p s3 hp h3 => ?_⟩
      refine ⟨_, p, rfl, s2.trans s3, same_free s0 (same_free s2 hp), ?_⟩
      rw [take_succ hr', spn_append]
      exact h3
    · rintro σ H2 ⟨v, l, rfl, s2, hn, h2⟩
      rw [List.length_map, List.take_length] at h2
      exact ⟨_, rfl, k _ _ (s0.trans s2) hn h2⟩
end
end LaneX
set_option Elab.async false
set_option linter.all false
set_option maxRecDepth 100000
set_option maxHeartbeats 4000000
namespace LaneX
open PySem PySem.Spec PyProof.Rows L2
def sp_paired : Sp := fun vs H Q _ => ∃ (a : Addr) (cs : List Nat), vs = [.ref a] ∧ Tq H a (cs.map vN) ∧ cs.length ≤ 1000000 ∧ (∀ c ∈ cs, blen c ≤ 1000000) ∧
  ∀ H' p, Same H H' → H p = none → H' p = some (.lst ((prd cs).map vN)) → Q (.ref p) H'
def sp_kernel_rows : Sp := fun vs H Q _ => ∃ (a : Addr) (cs : List Nat), vs = [.ref a] ∧ Tq H a (cs.map vN) ∧ cs.length ≤ 1000000 ∧ (∀ c ∈ cs, blen c ≤ 1000000) ∧
  ∀ H' p, Same H H' → H p = none → H' p = some (.lst ((ker cs).map vN)) → Q (.ref p) H'
def sp_met : Sp := fun vs H Q _ => ∃ (b : Nat) (a c : Addr) (rs os : List Nat), vs = [vN b, .ref a, .ref c] ∧ Tq H a (rs.map vN) ∧ Tq H c (os.map vN) ∧ b ≤ 1000000 ∧ rs.length ≤ 400000 ∧ os.length ≤ 400000 ∧ (∀ r ∈ rs, blen r ≤ 1000000) ∧ (∀ r ∈ os, blen r ≤ 1000000) ∧
  ∀ H' p, Same H H' → H p = none → H' p = some (.lst ((mtd b rs os).map vN)) → Q (.ref p) H'
theorem shl_ok1 {n m : Nat} (h1 : blen n ≤ 1000000) (h2 : m ≤ 1000000) : CShN n m := by unfold CShN; omega
theorem blen_one : blen 1 = 1 := by decide
theorem dec_le (a b : Nat) : decide ((a : Int) ≤ (b : Int)) = decide (a ≤ b) := by
  by_cases h : a ≤ b
  · rw [decide_eq_true h, decide_eq_true (by omega)]
  · rw [decide_eq_false h, decide_eq_false (by omega)]
theorem filt_true {α : Type} (l : List α) : l.filter (fun _ => true) = l := List.filter_eq_self.mpr fun _ _ => rfl
section
variable {P : Program} {w : World} {K : PySem.W.Frag} {mg : Str → Option Value} {base : Heap} {f : Addr} {fd : FuncData} (T : Bt mg)
include T
theorem ok_paired (F : FnP K "paired" "paired" s_paired f fd) (D_spanned : Dn P w K mg base 3 "spanned" ["words"] sp_spanned) : FnOk P w K mg base CX0 4 f fd ["columns"] sp_paired := by
  have nd := sc_paired.nd
  refine fnok F sc_paired (fun vs H Q E h => ?_) (fun cdv A outer s H vs Q E hr h => ?_)
  · obtain ⟨a, cs, rfl, _⟩ := h
    rfl
  · obtain ⟨a, cs, rfl, hS, hl, hc, k⟩ := h
    refine ⟨_, (pss_cons (ps_set (i := 1) nd rfl (Or.inr rfl) (pe_callB call_lenQ (by rfl) T.len PySem.boot_len (pa_cons (pv 0) pa_nil)))
  (pss_one (ps_ret (pe_d D_spanned hr (pa_cons (pe_lc (own := [("bit", 2)]) (g := gName 2) (by rfl) nd (pi_range1 (by rfl) T.range (pa_cons (pv 1) pa_nil)) (blkOk_by (own := [("bit", 2)]) (N := ["columns", "source", "bit"]) (sc := defScope s_paired) (by decide +kernel)) (fun _ _ _ _ _ => (pg_name (i := 2) nd rfl (Or.inl rfl))) (fun _ _ _ _ _ => pts_nil) (fun _ _ _ _ _ => (pe_op on_add (pe_op on_shl (pe_ix ix_q (pv 0) (pv 2) (fun _ _ => rfl)) (pv 1)) (pe_op on_shl pe_int (pv 2))))) pa_nil))))), ?_⟩
    refine ⟨_, rfl, a, _, rfl, hS, _, rfl, _, rfl, (by omega), (by rw [List.length_map]; omega), lc_pureR (n := (cs.map vN).length) (fun _ => true) (fun i => vN ((cs.getD i 0 <<< cs.length) + (1 <<< i))) (by rw [List.length_map]; exact hl) (fun i H' hi s => ?_) (fun D H1 hD s1 h1 => ?_)⟩
    · intro Z Nx h1 h2
      rw [List.length_map] at hi
      have hg : (cs.map vN)[i]? = some (vN (cs.getD i 0)) := by
        rw [List.getElem?_map, List.getElem?_eq_getElem hi, List.getD_eq_getElem?_getD, List.getElem?_eq_getElem hi]
        rfl
      have hm : cs.getD i 0 ∈ cs := by
        rw [List.getD_eq_getElem?_getD, List.getElem?_eq_getElem hi]
        exact List.getElem_mem hi
      have z := h1 rfl H' (Same.refl H')
      rw [← List.length_map (f := vN)] at z
      exact ⟨rfl, _, rfl, _, rfl, a, _, i, _, rfl, rfl, same_tq s hS, hg, _, rfl, _, _, rfl, rfl, shl_ok1 (hc _ hm) (by rw [List.length_map]; exact hl), _, rfl, 1, _, rfl, rfl, shl_ok1 (by rw [blen_one]; decide) (by omega), _, _, rfl, rfl, z⟩
    · rw [filt_true, List.length_map] at h1
      refine ⟨D, prs cs, rfl, .inl ?_, by simp [prs]; omega, fun H2 p s2 hp h2 => k _ _ (s1.trans s2) (same_free s1 hp) h2⟩
      rw [h1]
      simp [prs]
theorem ok_kernel_rows (F : FnP K "kernel_rows" "kernel_rows" s_kernel_rows f fd) (D_paired : Dn P w K mg base 4 "paired" ["columns"] sp_paired) : FnOk P w K mg base CX0 5 f fd ["columns"] sp_kernel_rows := by
  have nd := sc_kernel_rows.nd
  refine fnok F sc_kernel_rows (fun vs H Q E h => ?_) (fun cdv A outer s H vs Q E hr h => ?_)
  · obtain ⟨a, cs, rfl, _⟩ := h
    rfl
  · obtain ⟨a, cs, rfl, hS, hl, hc, k⟩ := h
    refine ⟨_, (pss_one (ps_ret (pe_lc (own := [("row", 1)]) (g := gName 1) (by rfl) nd (pi_seq (pe_d D_paired hr (pa_cons (pv 0) pa_nil))) (blkOk_by (own := [("row", 1)]) (N := ["columns", "row"]) (sc := defScope s_kernel_rows) (by decide +kernel)) (fun _ _ _ _ _ => (pg_name (i := 1) nd rfl (Or.inl rfl))) (fun _ _ _ _ _ => (pts_one (pt_cmpR op_le (pe_bits (pv 1)) (pe_callB call_lenQ (by rfl) T.len PySem.boot_len (pa_cons (pv 0) pa_nil)) (nomark _)))) (fun _ _ _ _ _ => (pv 1))))), ?_⟩
    refine ⟨_, rfl, a, cs, rfl, hS, hl, hc, fun H1 p s1 hp h1 => ?_⟩
    have hlp : (prd cs).length ≤ 1000000 := Nat.le_trans (spn_len _) (by simp [prs]; exact hl)
    refine lc_pure (prd cs) vN (fun r => decide (blen r ≤ cs.length)) vN (.inl h1) hlp (fun n H' hn s => ?_) (fun D H2 hD s2 h2 => ?_)
    · intro Z Nx z1 z2
      refine ⟨rfl, _, rfl, _, rfl, _, rfl, a, _, rfl, (same_tq (s1.trans s) hS), _, _, rfl, rfl, _, rfl, ?_⟩
      rw [blen_bits, List.length_map, dec_le]
      exact br (fun e => ⟨_, rfl, z1 e _ (Same.refl _)⟩) (fun e => z2 e _ (Same.refl _))
    · exact k _ _ (s1.trans s2) (same_free s1 hD) h2
theorem ok_met (F : FnP K "met" "met" s_met f fd) (D_spanned : Dn P w K mg base 3 "spanned" ["words"] sp_spanned) : FnOk P w K mg base CX0 4 f fd ["bits", "rows", "others"] sp_met := by
  have nd := sc_met.nd
  refine fnok F sc_met (fun vs H Q E h => ?_) (fun cdv A outer s H vs Q E hr h => ?_)
  · obtain ⟨b, a, c, rs, os, rfl, _⟩ := h
    rfl
  · obtain ⟨b, a, c, rs, os, rfl, hA, hC, hb, hl1, hl2, hr1, hr2, k⟩ := h
    refine ⟨_, (pss_cons (ps_set (i := 3) nd rfl (Or.inl rfl) (pe_op op_cat (pe_lc (own := [("row", 4)]) (g := gName 4) (by rfl) nd (pi_seq (pv 1)) (blkOk_by (own := [("row", 4)]) (N := ["bits", "rows", "others", "both", "row"]) (sc := defScope s_met) (by decide +kernel)) (fun _ _ _ _ _ => (pg_name (i := 4) nd rfl (Or.inl rfl))) (fun _ _ _ _ _ => pts_nil) (fun _ _ _ _ _ => (pe_op on_add (pe_op on_shl (pv 4) (pv 0)) (pv 4)))) (pe_lc (own := [("row", 4)]) (g := gName 4) (by rfl) nd (pi_seq (pv 2)) (blkOk_by (own := [("row", 4)]) (N := ["bits", "rows", "others", "both", "row"]) (sc := defScope s_met) (by decide +kernel)) (fun _ _ _ _ _ => (pg_name (i := 4) nd rfl (Or.inl rfl))) (fun _ _ _ _ _ => pts_nil) (fun _ _ _ _ _ => (pe_op on_shl (pv 4) (pv 0))))))
  (pss_one (ps_ret (pe_lc (own := [("row", 4)]) (g := gName 4) (by rfl) nd (pi_seq (pe_d D_spanned hr (pa_cons (pv 3) pa_nil))) (blkOk_by (own := [("row", 4)]) (N := ["bits", "rows", "others", "both", "row"]) (sc := defScope s_met) (by decide +kernel)) (fun _ _ _ _ _ => (pg_name (i := 4) nd rfl (Or.inl rfl))) (fun _ _ _ _ _ => (pts_one (pt_cmpR op_le (pe_bits (pv 4)) (pv 0) (nomark _)))) (fun _ _ _ _ _ => (pv 4)))))), ?_⟩
    refine ⟨_, rfl, lc_pure rs vN (fun _ => true) (fun r => vN ((r <<< b) + r)) hA (by omega) (fun n H' hn s => ?_) (fun D1 H1 hD1 s1 h1 => ?_)⟩
    · intro Z Nx z1 z2
      exact ⟨rfl, _, rfl, _, rfl, _, _, rfl, rfl, shl_ok1 (hr1 n hn) hb, _, rfl, _, _, rfl, rfl, z1 rfl _ (Same.refl _)⟩
    · rw [filt_true] at h1
      refine ⟨_, rfl, lc_pure os vN (fun _ => true) (fun r => vN (r <<< b)) (same_tq s1 hC) (by omega) (fun n H' hn s => ?_) (fun D2 H2 hD2 s2 h2 => ?_)⟩
      · intro Z Nx z1 z2
        exact ⟨rfl, _, rfl, _, rfl, _, _, rfl, rfl, shl_ok1 (hr2 n hn) hb, z1 rfl _ (Same.refl _)⟩
      · rw [filt_true] at h2
        refine ⟨_, _, _, _, rfl, rfl, s2 _ _ h1, h2, (by rw [List.length_map, List.length_map, sizeLine_eq]; omega), fun q hq => ?_⟩
        have s3 := same_new (o := .lst (rs.map (fun r => vN ((r <<< b) + r)) ++ os.map (fun r => vN (r <<< b)))) (s1.trans s2) hq
        refine ⟨_, rfl, q, mts b rs os, rfl, .inl ?_, (by simp [mts]; omega), fun H3 p s4 hp h3 => ?_⟩
        · rw [upd_same]
          simp [mts]
          rfl
        · have hlp : (spn (mts b rs os)).length ≤ 1000000 := Nat.le_trans (spn_len _) (by simp [mts]; omega)
          refine lc_pure (spn (mts b rs os)) vN (fun r => decide (blen r ≤ b)) vN (.inl h3) hlp (fun n H' hn s => ?_) (fun D H4 hD s5 h4 => ?_)
          · intro Z Nx z1 z2
            refine ⟨rfl, _, rfl, _, rfl, _, rfl, _, _, rfl, rfl, _, rfl, ?_⟩
            rw [blen_bits, dec_le]
            exact br (fun e => ⟨_, rfl, z1 e _ (Same.refl _)⟩) (fun e => z2 e _ (Same.refl _))
          · exact k _ _ ((s3.trans s4).trans s5) (same_free (s3.trans s4) hD) h4
end
end LaneX
set_option Elab.async false
set_option linter.all false
set_option maxRecDepth 100000
set_option maxHeartbeats 4000000
namespace LaneX
open PySem PySem.Spec PyProof.Rows L2
/-! ### objects -/
structure ObjT (K : PySem.W.Frag) (C : Addr) : Prop where
  cl : Cls K C
  ha : PySem.W.findIn K (.ref C) "__class__" = some (some (.builtin "object.__class__"))
  hn : PySem.W.specialIn K (.builtin "object.__class__") "__get__" = some (some (.builtin "getset_descriptor.__get__"))
  htk : PySem.W.takesIn K (.builtin "object.__class__") = some true
  hm : PySem.W.mroIn K C (.type "object") = some true
  me : PySem.W.kitOne K (.ref C) (.ref C) = some true
theorem ObjT.ty {K : PySem.W.Frag} {C : Addr} (T : ObjT K C) {H : Hp} {a dx : Addr} {fs : List (Str × V)} (e : H a = some (.ins C dx fs)) : TyX K H (.ref a) (.ref C) := .base (.ins e T.cl T.ha T.hn T.htk T.hm)
structure SpaceT (K : PySem.W.Frag) (mg : Str → Option Value) (C : Addr) : Prop extends ObjT K C where
  gl : mg "Space" = some (.ref C)
  nb : NoAttr K C "bits"
  nr : NoAttr K C "rows"
  nd : NoAttr K C "dimension"
structure SpreadT (K : PySem.W.Frag) (mg : Str → Option Value) (C : Addr) : Prop extends ObjT K C where
  gl : mg "Spread" = some (.ref C)
  nb : NoAttr K C "bits"
  ns : NoAttr K C "slots"
  nl : NoAttr K C "lanes"
def spf (b : Nat) (t : Addr) (d : Nat) : List (Str × V) := [("bits", vN b), ("rows", .ref t), ("dimension", vN d)]
def srf (b : Nat) (s l : Addr) : List (Str × V) := [("bits", vN b), ("slots", .ref s), ("lanes", .ref l)]
theorem spf_b (b : Nat) (t : Addr) (d : Nat) : (spf b t d).lookup ("bits" : Str) = some (vN b) := rfl
theorem spf_r (b : Nat) (t : Addr) (d : Nat) : (spf b t d).lookup ("rows" : Str) = some (.ref t) := rfl
theorem spf_d (b : Nat) (t : Addr) (d : Nat) : (spf b t d).lookup ("dimension" : Str) = some (vN d) := rfl
theorem srf_b (b : Nat) (t d : Addr) : (srf b t d).lookup ("bits" : Str) = some (vN b) := rfl
theorem srf_s (b : Nat) (t d : Addr) : (srf b t d).lookup ("slots" : Str) = some (.ref t) := rfl
theorem srf_l (b : Nat) (t d : Addr) : (srf b t d).lookup ("lanes" : Str) = some (.ref d) := rfl
theorem spf_p (b : Nat) (t : Addr) (d : Nat) : putF "dimension" (vN d) (putF "rows" (.ref t) (putF "bits" (vN b) [])) = spf b t d := rfl
theorem srf_p (b : Nat) (t d : Addr) : putF "lanes" (.ref d) (putF "slots" (.ref t) (putF "bits" (vN b) [])) = srf b t d := rfl
def SpaceAt (C : Addr) (H : Hp) (p : Addr) (b : Nat) (rows : List Nat) : Prop := ∃ dx t, H p = some (.ins C dx (spf b t rows.length)) ∧ H t = some (.tup (rows.map vN))
def SpreadAt (C : Addr) (H : Hp) (p : Addr) (b : Nat) (ss ls : List Nat) : Prop := ∃ dx s l, H p = some (.ins C dx (srf b s l)) ∧ H s = some (.tup (ss.map vN)) ∧ H l = some (.tup (ls.map vN))
theorem SpaceAt.same {C : Addr} {H H' : Hp} {p : Addr} {b : Nat} {rows : List Nat} (h : SpaceAt C H p b rows) (s : Same H H') : SpaceAt C H' p b rows := by
  obtain ⟨dx, t, h1, h2⟩ := h
  exact ⟨dx, t, s _ _ h1, s _ _ h2⟩
theorem SpaceAt.kp {C : Addr} {H H' : Hp} {p : Addr} {b : Nat} {rows : List Nat} (h : SpaceAt C H p b rows) (s : Kp H H') : SpaceAt C H' p b rows := by
  obtain ⟨dx, t, h1, h2⟩ := h
  exact ⟨dx, t, s _ _ h1 rfl, s _ _ h2 rfl⟩
theorem SpreadAt.same {C : Addr} {H H' : Hp} {p : Addr} {b : Nat} {ss ls : List Nat} (h : SpreadAt C H p b ss ls) (s : Same H H') : SpreadAt C H' p b ss ls := by
  obtain ⟨dx, a, l, h1, h2, h3⟩ := h
  exact ⟨dx, a, l, s _ _ h1, s _ _ h2, s _ _ h3⟩
theorem SpreadAt.kp {C : Addr} {H H' : Hp} {p : Addr} {b : Nat} {ss ls : List Nat} (h : SpreadAt C H p b ss ls) (s : Kp H H') : SpreadAt C H' p b ss ls := by
  obtain ⟨dx, a, l, h1, h2, h3⟩ := h
  exact ⟨dx, a, l, s _ _ h1 rfl, s _ _ h2 rfl, s _ _ h3 rfl⟩

/-- a new instance, filled -/
theorem made_same {H H1 : Hp} {x dx C : Addr} (nx : H x = none) (nd : H dx = none) (k : ∀ b o, (upd (upd H dx (.own x)) x (.ins C dx [])) b = some o → b ≠ x → H1 b = some o) : Same H H1 := Same.made nx nd k
def sp_Space (C : Addr) : Sp := fun vs H Q _ => ∃ (p dx : Addr) (b : Nat) (a : Addr) (ws : List Nat), vs = [.ref p, vN b, .ref a] ∧ H p = some (.ins C dx []) ∧ Tq H a (ws.map vN) ∧ (∀ x ∈ ws, blen x ≤ b) ∧ ws.length ≤ 1000000 ∧
  ∀ H', SpaceAt C H' p b (spn ws) → (∀ c o, H c = some o → c ≠ p → H' c = some o) → Q .non H'
def sp_Spread (C : Addr) : Sp := fun vs H Q _ => ∃ (p dx : Addr) (b : Nat) (a c : Addr) (ss ls : List Nat), vs = [.ref p, vN b, .ref a, .ref c] ∧ H p = some (.ins C dx []) ∧ Tq H a (ss.map vN) ∧ Tq H c (ls.map vN) ∧ (∀ x ∈ ss, blen x ≤ b) ∧ (∀ x ∈ ls, blen x ≤ b) ∧
  ss.length ≤ 400000 ∧ ls.length ≤ 400000 ∧ b ≤ rk (ss ++ ls) ∧ ∀ H', SpreadAt C H' p b ss ls → (∀ c o, H c = some o → c ≠ p → H' c = some o) → Q .non H'
def sp_need_space (C : Addr) : Sp := fun vs H Q _ => ∃ (p : Addr) (b : Nat) (rows : List Nat), vs = [.ref p, vN b] ∧ SpaceAt C H p b rows ∧ Q .non H
def sp_any_spread (C : Addr) : Sp := fun vs H Q _ => ∃ (p : Addr) (b : Nat) (ss ls : List Nat), vs = [.ref p] ∧ SpreadAt C H p b ss ls ∧ Q .non H
theorem upd_put {H : Hp} {p a : Addr} {o u : HO} (h : H a = some u) (n : a ≠ p) : upd H p o a = some u := (upd_ne n).trans h
section
variable {P : Program} {w : World} {K : PySem.W.Frag} {mg : Str → Option Value} {base : Heap} {f : Addr} {fd : FuncData} {CS CR : Addr} (T : Bt mg) (TS : SpaceT K mg CS) (TR : SpreadT K mg CR)
include T
include TS in
theorem ok_Space (F : FnP K "__init__" "Space.__init__" s_Space_init f fd) (D_need_whole : Dn P w K mg base 2 "need_whole" ["value"] sp_need_whole) (D_need_words : Dn P w K mg base 3 "need_words" ["values", "bits"] sp_need_words) (D_spanned : Dn P w K mg base 3 "spanned" ["words"] sp_spanned) :
    FnOk P w K mg base CX0 4 f fd ["self", "bits", "words"] (sp_Space CS) := by
  have nd := sc_Space_init.nd
  refine fnok F sc_Space_init (fun vs H Q E h => ?_) (fun cdv A outer s H vs Q E hr h => ?_)
  · obtain ⟨p, dx, b, a, ws, rfl, _⟩ := h
    rfl
  · obtain ⟨p, dx, b, a, ws, rfl, hp, hS, hb, hl, k⟩ := h
    refine ⟨_, (pss_cons (ps_expr (pe_d D_need_whole hr (pa_cons (pv 1) pa_nil)))
  (pss_cons (ps_fld (pv 0) (pv 1) rfl)
  (pss_cons (ps_fld (pv 0) (pe_callTy call_tupleQ (by rfl) T.tuple (by decide +kernel) (pa_cons (pe_d D_spanned hr (pa_cons (pe_d D_need_words hr (pa_cons (pv 2) (pa_cons (pv 1) pa_nil))) pa_nil)) pa_nil)) rfl)
  (pss_one (ps_fld (pv 0) (pe_callB call_lenQ (by rfl) T.len PySem.boot_len (pa_cons (pe_fld (pv 0) rfl) pa_nil)) rfl))))), ?_⟩
    have nap : a ≠ p := by
      rcases hS with h | h
      · exact ne_of h hp (by intro z; cases z)
      · exact ne_of h hp (by intro z; cases z)
    have hS1 : Tq (upd H p (.ins CS dx (putF "bits" (vN b) []))) a (ws.map vN) := hS.elim (fun h => .inl (upd_put h nap)) fun h => .inr (upd_put h nap)
    refine ⟨_, rfl, b, rfl, _, rfl, _, rfl, p, CS, dx, [], rfl, hp, TS.cl, TS.nb, (by decide), ?_⟩
    refine ⟨_, rfl, _, rfl, a, ws, b, rfl, hS1, hb, fun H1 q1 s1 hq1 h1 => ?_⟩
    refine ⟨q1, ws, rfl, .inl h1, hl, fun H2 q2 s2 hq2 h2 => ?_⟩
    refine ⟨q2, _, rfl, h2, fun t ht => ?_⟩
    have hpt : p ≠ t := ne_of_none (s2 _ _ (s1 _ _ upd_same)) ht
    have hp3 : upd H2 t (.tup ((spn ws).map vN)) p = some (.ins CS dx (putF "bits" (vN b) [])) := upd_put (s2 _ _ (s1 _ _ upd_same)) hpt
    refine ⟨_, rfl, p, CS, dx, _, rfl, hp3, TS.cl, TS.nr, (by show 1 < 1000; decide), ?_⟩
    refine ⟨_, rfl, p, CS, dx, _, .ref t, rfl, upd_same, TS.cl, TS.nr, rfl, t, _, rfl, .inr (upd_put upd_same hpt.symm), ?_⟩
    refine ⟨_, rfl, p, CS, dx, _, rfl, upd_same, TS.cl, TS.nd, (by show 2 < 1000; decide), ?_⟩
    refine k _ ⟨dx, t, ?_, upd_put (upd_put upd_same hpt.symm) hpt.symm⟩ fun c o hc hcp => ?_
    · rw [upd_same, List.length_map]
      rfl
    · have e1 : upd H p (.ins CS dx (putF "bits" (vN b) [])) c = some o := upd_put hc hcp
      have e2 := s2 _ _ (s1 _ _ e1)
      exact upd_put (upd_put (upd_put e2 (ne_of_none e2 ht)) hcp) hcp
include TR in
theorem ok_Spread (F : FnP K "__init__" "Spread.__init__" s_Spread_init f fd) (D_need_whole : Dn P w K mg base 2 "need_whole" ["value"] sp_need_whole) (D_need_words : Dn P w K mg base 3 "need_words" ["values", "bits"] sp_need_words) (D_spanned : Dn P w K mg base 3 "spanned" ["words"] sp_spanned) :
    FnOk P w K mg base CX0 4 f fd ["self", "bits", "slots", "lanes"] (sp_Spread CR) := by
  have nd := sc_Spread_init.nd
  refine fnok F sc_Spread_init (fun vs H Q E h => ?_) (fun cdv A outer s H vs Q E hr h => ?_)
  · obtain ⟨p, dx, b, a, c, ss, ls, rfl, _⟩ := h
    rfl
  · obtain ⟨p, dx, b, a, c, ss, ls, rfl, hp, hS, hL, hb1, hb2, hl1, hl2, hk, k⟩ := h
    refine ⟨_, (pss_cons (ps_expr (pe_d D_need_whole hr (pa_cons (pv 1) pa_nil)))
  (pss_cons (ps_fld (pv 0) (pv 1) rfl)
  (pss_cons (ps_fld (pv 0) (pe_callTy call_tupleQ (by rfl) T.tuple (by decide +kernel) (pa_cons (pe_d D_need_words hr (pa_cons (pv 2) (pa_cons (pv 1) pa_nil))) pa_nil)) rfl)
  (pss_cons (ps_fld (pv 0) (pe_callTy call_tupleQ (by rfl) T.tuple (by decide +kernel) (pa_cons (pe_d D_need_words hr (pa_cons (pv 3) (pa_cons (pv 1) pa_nil))) pa_nil)) rfl)
  (pss_cons (ps_set (i := 4) nd rfl (Or.inl rfl) (pe_d D_spanned hr (pa_cons (pe_op op_cat (pe_callTy call_listQ (by rfl) T.list (by decide +kernel) (pa_cons (pe_fld (pv 0) rfl) pa_nil)) (pe_callTy call_listQ (by rfl) T.list (by decide +kernel) (pa_cons (pe_fld (pv 0) rfl) pa_nil))) pa_nil)))
  (pss_one (ps_if (pt_cmpR op_lt (pe_callB call_lenQ (by rfl) T.len PySem.boot_len (pa_cons (pv 4) pa_nil)) (pv 1) (nomark _))
    (pss_one ps_never)
    pss_nil))))))), ?_⟩
    have tqp : ∀ {H0 : Hp} {o : HO} {d : Addr} {fs : List (Str × V)} {e : Addr} {xs : List V}, Tq H0 e xs → H0 p = some (.ins CR d fs) → Tq (upd H0 p o) e xs := fun {H0 o d fs e xs} h hp => by
      rcases h with h | h
      · exact .inl (upd_put h (ne_of h hp (by intro z; cases z)))
      · exact .inr (upd_put h (ne_of h hp (by intro z; cases z)))
    refine ⟨_, rfl, b, rfl, _, rfl, _, rfl, p, CR, dx, [], rfl, hp, TR.cl, TR.nb, (by decide), ?_⟩
    refine ⟨_, rfl, _, rfl, a, ss, b, rfl, tqp hS hp, hb1, fun H1 q1 s1 hq1 h1 => ?_⟩
    refine ⟨q1, _, rfl, h1, fun t ht => ?_⟩
    have hpt : p ≠ t := ne_of_none (s1 _ _ upd_same) ht
    have hp1 : upd H1 t (.tup (ss.map vN)) p = some (.ins CR dx (putF "bits" (vN b) [])) := upd_put (s1 _ _ upd_same) hpt
    refine ⟨_, rfl, p, CR, dx, _, rfl, hp1, TR.cl, TR.ns, (by show 1 < 1000; decide), ?_⟩
    refine ⟨_, rfl, _, rfl, c, ls, b, rfl, tqp (same_tq (same_new s1 ht) (tqp hL hp)) hp1, hb2, fun H2 q2 s2 hq2 h2 => ?_⟩
    refine ⟨q2, _, rfl, h2, fun u hu => ?_⟩
    have hpu : p ≠ u := ne_of_none (s2 _ _ upd_same) hu
    have htu : t ≠ u := ne_of_none (s2 _ _ (upd_put upd_same hpt.symm)) hu
    have hp2 : upd H2 u (.tup (ls.map vN)) p = some (.ins CR dx (putF "slots" (.ref t) (putF "bits" (vN b) []))) := upd_put (s2 _ _ upd_same) hpu
    refine ⟨_, rfl, p, CR, dx, _, rfl, hp2, TR.cl, TR.nl, (by show 2 < 1000; decide), ?_⟩
    have ht3 : upd (upd H2 u (.tup (ls.map vN))) p (.ins CR dx (srf b t u)) t = some (.tup (ss.map vN)) := upd_put (upd_put (s2 _ _ (upd_put upd_same hpt.symm)) htu) hpt.symm
    have hu3 : upd (upd H2 u (.tup (ls.map vN))) p (.ins CR dx (srf b t u)) u = some (.tup (ls.map vN)) := upd_put upd_same hpu.symm
    have fin : ∀ cc o, H cc = some o → cc ≠ p → upd (upd H2 u (.tup (ls.map vN))) p (.ins CR dx (srf b t u)) cc = some o := fun cc o hc hcp => by
      have e1 : upd H p (.ins CR dx (putF "bits" (vN b) [])) cc = some o := upd_put hc hcp
      have e2 := s1 _ _ e1
      have e3 : upd (upd H1 t (.tup (ss.map vN))) p (.ins CR dx (putF "slots" (.ref t) (putF "bits" (vN b) []))) cc = some o := upd_put (upd_put e2 (ne_of_none e2 ht)) hcp
      have e4 := s2 _ _ e3
      exact upd_put (upd_put e4 (ne_of_none e4 hu)) hcp
    refine ⟨_, rfl, p, CR, dx, srf b t u, .ref t, rfl, upd_same, TR.cl, TR.ns, rfl, t, _, rfl, .inr ht3, fun l1 hl1' => ?_⟩
    refine ⟨_, rfl, p, CR, dx, srf b t u, .ref u, rfl, upd_new hl1' upd_same, TR.cl, TR.nl, rfl, u, _, rfl, .inr (upd_new hl1' hu3), fun l2 hl2' => ?_⟩
    refine ⟨l1, l2, _, _, rfl, rfl, upd_new hl2' upd_same, upd_same, (by rw [List.length_map, List.length_map, sizeLine_eq]; omega), fun l3 hl3' => ?_⟩
    refine ⟨l3, ss ++ ls, rfl, .inl (by rw [upd_same, List.map_append]), (by rw [List.length_append]; omega), fun H4 q4 s4 hq4 h4 => ?_⟩
    refine ⟨_, rfl, q4, _, rfl, .inl h4, _, rfl, _, _, rfl, rfl, _, rfl, ?_⟩
    have e : decide ((((spn (ss ++ ls)).map vN).length : Int) < (b : Int)) = false := decide_eq_false (by rw [List.length_map]; have : b ≤ (spn (ss ++ ls)).length := hk; omega)
    rw [e]
    refine iteF ?_
    have sN : Same (upd (upd H2 u (.tup (ls.map vN))) p (.ins CR dx (srf b t u))) H4 := ((same_new (same_new (same_new0 hl1') hl2') hl3').trans s4)
    exact k _ ⟨dx, t, u, sN _ _ upd_same, sN _ _ ht3, sN _ _ hu3⟩ fun cc o hc hcp => sN _ _ (fin cc o hc hcp)
end
end LaneX
set_option Elab.async false
set_option linter.all false
set_option maxRecDepth 100000
set_option maxHeartbeats 4000000
namespace LaneX
open PySem PySem.Spec PyProof.Rows L2
theorem mk_Space {C : Addr} {H1 : Hp} {b : Nat} {a : Addr} {ws : List Nat} {Q : VK} {E : XK} (hS : Tq H1 a (ws.map vN)) (hb : ∀ x ∈ ws, blen x ≤ b) (hl : ws.length ≤ 1000000) (k : ∀ H' p, Same H1 H' → H1 p = none → SpaceAt C H' p b (spn ws) → Q (.ref p) H') :
    ∀ x dx, H1 x = none → H1 dx = none → dx ≠ x → sp_Space C (.ref x :: ([vN b, .ref a] ++ [])) (upd (upd H1 dx (.own x)) x (.ins C dx [])) (fun v H2 => v = .non ∧ Q (.ref x) H2) E := by
  intro x dx nx ndx ne
  have nx' : upd H1 dx (.own x) x = none := (upd_ne ne.symm).trans nx
  refine ⟨x, dx, b, a, ws, rfl, upd_same, (hS.new ndx).new nx', hb, hl, fun H' hA kp => ⟨rfl, k _ _ (made_same nx ndx kp) nx hA⟩⟩
theorem mk_Spread {C : Addr} {H1 : Hp} {b : Nat} {a c : Addr} {ss ls : List Nat} {Q : VK} {E : XK} (hS : Tq H1 a (ss.map vN)) (hL : Tq H1 c (ls.map vN)) (wf : WfR b ss ls) (hk : b ≤ rk (ss ++ ls)) (k : ∀ H' p, Same H1 H' → H1 p = none → SpreadAt C H' p b ss ls → Q (.ref p) H') :
    ∀ x dx, H1 x = none → H1 dx = none → dx ≠ x → sp_Spread C (.ref x :: ([vN b, .ref a, .ref c] ++ [])) (upd (upd H1 dx (.own x)) x (.ins C dx [])) (fun v H2 => v = .non ∧ Q (.ref x) H2) E := by
  intro x dx nx ndx ne
  have nx' : upd H1 dx (.own x) x = none := (upd_ne ne.symm).trans nx
  refine ⟨x, dx, b, a, c, ss, ls, rfl, upd_same, (hS.new ndx).new nx', (hL.new ndx).new nx', wf.s, wf.l, wf.sl, wf.ll, hk, fun H' hA kp => ⟨rfl, k _ _ (made_same nx ndx kp) nx hA⟩⟩
/-- a def that gives a new Space -/
def spNewSpace (C : Addr) (b : Nat) (rows : List Nat) (H : Hp) (Q : VK) : Prop := ∀ H' p, Same H H' → H p = none → SpaceAt C H' p b rows → Q (.ref p) H'
def sp_every (C : Addr) : Sp := fun vs H Q _ => ∃ b : Nat, vs = [vN b] ∧ b ≤ 400000 ∧ spNewSpace C b (spn ((List.range b).map fun i => 1 <<< i)) H Q
def sp_and (C : Addr) : Sp := fun vs H Q _ => ∃ (p q : Addr) (b : Nat) (rs os : List Nat), vs = [.ref p, .ref q] ∧ SpaceAt C H p b rs ∧ SpaceAt C H q b os ∧ WfS b rs ∧ WfS b os ∧ spNewSpace C b (spn (mtd b rs os)) H Q
def sp_completing (C : Addr) : Sp := fun vs H Q _ => ∃ (p q : Addr) (b : Nat) (rs os : List Nat), vs = [.ref p, .ref q] ∧ SpaceAt C H p b rs ∧ SpaceAt C H q b os ∧ WfS b rs ∧ WfS b os ∧ ∀ H' t, Same H H' → H t = none → H' t = some (.tup ((cmpl rs os).map vN)) → Q (.ref t) H'
def sp_slot_space (CS CR : Addr) : Sp := fun vs H Q _ => ∃ (p : Addr) (b : Nat) (ss ls : List Nat), vs = [.ref p] ∧ SpreadAt CR H p b ss ls ∧ WfR b ss ls ∧ spNewSpace CS b (spn ss) H Q
def sp_twins (CS CR : Addr) : Sp := fun vs H Q _ => ∃ (p : Addr) (b : Nat) (ss ls : List Nat), vs = [.ref p] ∧ SpreadAt CR H p b ss ls ∧ WfR b ss ls ∧ spNewSpace CS ls.length (twn ss ls) H Q
def sp_need_pair (CS CR : Addr) : Sp := fun vs H Q _ => ∃ (p q : Addr) (b : Nat) (ss ls rows : List Nat), vs = [.ref p, .ref q] ∧ SpreadAt CR H p b ss ls ∧ SpaceAt CS H q b rows ∧ Q .non H
/-- what a spread and a space ask -/
def spPair (CS CR : Addr) (k : Nat → List Nat → List Nat → List Nat → Hp → VK → Prop) : Sp := fun vs H Q _ => ∃ (p q : Addr) (b : Nat) (ss ls rows : List Nat), vs = [.ref p, .ref q] ∧ SpreadAt CR H p b ss ls ∧ SpaceAt CS H q b rows ∧ WfR b ss ls ∧ WfS b rows ∧ k b ss ls rows H Q
def sp_partner_rows (CS CR : Addr) : Sp := spPair CS CR fun b ss ls rows H Q => ∀ H' t, Same H H' → H t = none → H' t = some (.lst ((prw ss ls rows).map vN)) → Q (.ref t) H'
def sp_partners (CS CR : Addr) : Sp := spPair CS CR fun b ss ls rows H Q => spNewSpace CS ls.length (prt ss ls rows) H Q
def sp_leaders (CS CR : Addr) : Sp := spPair CS CR fun b ss ls rows H Q => ∀ H' t, Same H H' → H t = none → H' t = some (.lst ((ldr ss ls rows).map vN)) → Q (.ref t) H'
def sp_kept_bits (CS CR : Addr) : Sp := spPair CS CR fun b ss ls rows H Q => ∀ H', Same H H' → Q (.int (kpt b ss rows)) H'
def sp_sum_rounds (CS CR : Addr) : Sp := spPair CS CR fun b ss ls rows H Q => ∀ H', Same H H' → Q (vN (smr b ss ls rows)) H'
def sp_sum_steps (CS CR : Addr) : Sp := spPair CS CR fun b ss ls rows H Q => ∀ H' t, Same H H' → H t = none → H' t = some (.tup ((ldr ss ls rows).map vN)) → Q (.ref t) H'
def sp_rounds_for : Sp := fun vs H Q _ => ∃ n m : Nat, vs = [vN n, vN m] ∧ n ≤ 400000 ∧ m ≤ 400000 ∧ Q (vN (rdf n m)) H
theorem dec_ne0 {n : Nat} : (!decide (V.int (n : Int) = V.int 0)) = !decide (n = 0) := by
  rw [show (V.int 0 : V) = V.int ((0 : Nat) : Int) from rfl, dec_nat]
section
variable {P : Program} {w : World} {K : PySem.W.Frag} {mg : Str → Option Value} {base : Heap} {f : Addr} {fd : FuncData} {CS CR : Addr} (T : Bt mg) (TS : SpaceT K mg CS) (TR : SpreadT K mg CR)
include T
include TS in
theorem ok_need_space (F : FnP K "need_space" "need_space" s_need_space f fd) : FnOk P w K mg base CX0 1 f fd ["value", "bits"] (sp_need_space CS) := by
  have nd := sc_need_space.nd
  refine fnok F sc_need_space (fun vs H Q E h => ?_) (fun cdv A outer s H vs Q E hr h => ?_)
  · obtain ⟨p, b, rows, rfl, _⟩ := h
    rfl
  · obtain ⟨p, b, rows, rfl, ⟨dx, t, h1, h2⟩, k⟩ := h
    refine ⟨_, (pss_one (ps_if (PW.pt (pw_or (pt_not (pt_val (pe_callB call_isi (by rfl) T.isinstance (by decide +kernel) (pa_cons (pv 0) (pa_cons (pe_glob (v := .ref CS) (by rfl) TS.gl rfl) pa_nil))))) (pw_or1 (pt_cmpR op_ne (pe_fld (pv 0) rfl) (pv 1) (nomark _)))))
    (pss_one ps_never)
    pss_nil)), ?_⟩
    refine ⟨_, rfl, _, _, _, _, _, rfl, .own _, TS.ty h1, TS.me, _, rfl, iteF ?_⟩
    refine ⟨_, rfl, p, CS, dx, _, vN b, rfl, h1, TS.cl, TS.nb, rfl, _, rfl, rfl, _, rfl, ?_⟩
    rw [show (!decide (vN b = vN b)) = false by simp]
    exact iteF k
include TR in
theorem ok_any_spread (F : FnP K "any_spread" "any_spread" s_any_spread f fd) : FnOk P w K mg base CX0 1 f fd ["value"] (sp_any_spread CR) := by
  have nd := sc_any_spread.nd
  refine fnok F sc_any_spread (fun vs H Q E h => ?_) (fun cdv A outer s H vs Q E hr h => ?_)
  · obtain ⟨p, b, ss, ls, rfl, _⟩ := h
    rfl
  · obtain ⟨p, b, ss, ls, rfl, ⟨dx, t, u, h1, h2, h3⟩, k⟩ := h
    refine ⟨_, (pss_one (ps_if (pt_not (pt_val (pe_callB call_isi (by rfl) T.isinstance (by decide +kernel) (pa_cons (pv 0) (pa_cons (pe_glob (v := .ref CR) (by rfl) TR.gl rfl) pa_nil)))))
    (pss_one ps_never)
    pss_nil)), ?_⟩
    exact ⟨_, rfl, _, _, _, _, _, rfl, .own _, TR.ty h1, TR.me, _, rfl, iteF k⟩
include TS in
theorem ok_and (F : FnP K "__and__" "Space.__and__" s_Space_and f fd) (D_need_space : Dn P w K mg base 1 "need_space" ["value", "bits"] (sp_need_space CS)) (D_met : Dn P w K mg base 4 "met" ["bits", "rows", "others"] sp_met) (K_Space : Kn P w K mg base 4 CS "Space" ["self", "bits", "words"] (sp_Space CS)) :
    FnOk P w K mg base CX0 6 f fd ["self", "other"] (sp_and CS) := by
  have nd := sc_Space_and.nd
  refine fnok F sc_Space_and (fun vs H Q E h => ?_) (fun cdv A outer s H vs Q E hr h => ?_)
  · obtain ⟨p, q, b, rs, os, rfl, _⟩ := h
    rfl
  · obtain ⟨p, q, b, rs, os, rfl, hp, hq, w1, w2, k⟩ := h
    refine ⟨_, (pss_cons (ps_expr (pe_d D_need_space hr (pa_cons (pv 1) (pa_cons (pe_fld (pv 0) rfl) pa_nil))))
  (pss_one (ps_ret (pe_k K_Space hr (pa_cons (pe_fld (pv 0) rfl) (pa_cons (pe_d D_met hr (pa_cons (pe_fld (pv 0) rfl) (pa_cons (pe_fld (pv 0) rfl) (pa_cons (pe_fld (pv 1) rfl) pa_nil)))) pa_nil)))))), ?_⟩
    obtain ⟨dx, t, h1, h2⟩ := hp
    have hq' := hq
    obtain ⟨dy, u, g1, g2⟩ := hq
    refine ⟨_, rfl, _, rfl, p, CS, dx, _, vN b, rfl, h1, TS.cl, TS.nb, rfl, q, b, os, rfl, hq', ?_⟩
    refine ⟨_, rfl, p, CS, dx, _, vN b, rfl, h1, TS.cl, TS.nb, rfl, _, rfl, p, CS, dx, _, vN b, rfl, h1, TS.cl, TS.nb, rfl, _, rfl, p, CS, dx, _, .ref t, rfl, h1, TS.cl, TS.nr, rfl, _, rfl, q, CS, dy, _, .ref u, rfl, g1, TS.cl, TS.nr, rfl, ?_⟩
    have bb := w1.bb
    refine ⟨b, t, u, rs, os, rfl, .inr h2, .inr g2, by omega, w1.len, w2.len, fun r hr => Nat.le_trans (w1.b r hr) (by omega), fun r hr => Nat.le_trans (w2.b r hr) (by omega), fun H1 q1 s1 hq1 h3 => ?_⟩
    exact mk_Space (.inl h3) (mtd_blen _ _ _) (Nat.le_trans ((mtd_rws b rs os).len_le (mtd_blen _ _ _)) (by omega)) (fun H' p s2 hp hA => k _ _ (s1.trans s2) (same_free s1 hp) hA)
end
end LaneX
set_option Elab.async false
set_option linter.all false
set_option maxRecDepth 100000
set_option maxHeartbeats 4000000
namespace LaneX
open PySem PySem.Spec PyProof.Rows L2
section
variable {P : Program} {w : World} {K : PySem.W.Frag} {mg : Str → Option Value} {base : Heap} {f : Addr} {fd : FuncData} {CS CR : Addr} (T : Bt mg) (TS : SpaceT K mg CS) (TR : SpreadT K mg CR)
include T
include TS in
theorem ok_completing (F : FnP K "completing" "Space.completing" s_Space_completing f fd) (D_need_space : Dn P w K mg base 1 "need_space" ["value", "bits"] (sp_need_space CS)) (D_cleared : Dn P w K mg base 1 "cleared" ["rows", "word"] sp_cleared) (D_grown : Dn P w K mg base 2 "grown" ["rows", "word"] sp_grown) :
    FnOk P w K mg base CX0 3 f fd ["self", "other"] (sp_completing CS) := by
  have nd := sc_Space_completing.nd
  refine fnok F sc_Space_completing (fun vs H Q E h => ?_) (fun cdv A outer s H vs Q E hr h => ?_)
  · obtain ⟨p, q, b, rs, os, rfl, _⟩ := h
    rfl
  · obtain ⟨p, q, b, rs, os, rfl, hp, hq, w1, w2, k⟩ := h
    refine ⟨_, (pss_cons (ps_expr (pe_d D_need_space hr (pa_cons (pv 1) (pa_cons (pe_fld (pv 0) rfl) pa_nil))))
  (pss_cons (ps_par (i := 2) (j := 3) (by rfl) nd rfl rfl (by decide) rfl rfl (pa_cons (pe_callTy call_listQ (by rfl) T.list (by decide +kernel) (pa_cons (pe_fld (pv 0) rfl) pa_nil)) (pa_cons (pe_lst pa_nil) pa_nil)) (by rfl))
  (pss_cons (ps_for PassesOwn.never rfl (pi_seq (pe_fld (pv 1) rfl)) (pg_name (i := 4) nd rfl (Or.inl rfl))
    (pss_one (ps_if (pt_cmpR op_ne (pe_d D_cleared hr (pa_cons (pv 2) (pa_cons (pv 4) pa_nil))) pe_int (nomark _))
      (pss_cons (ps_set (i := 2) nd rfl (Or.inl rfl) (pe_d D_grown hr (pa_cons (pv 2) (pa_cons (pv 4) pa_nil))))
      (pss_one (ps_expr (pe_bm PySem.F.plainAttrs_list PySem.F.slot_list_append PySem.F.type_list_append mt_append (pv 3) (pa_cons (pv 4) pa_nil)))))
      pss_nil)))
  (pss_one (ps_ret (pe_callTy call_tupleQ (by rfl) T.tuple (by decide +kernel) (pa_cons (pv 3) pa_nil))))))), ?_⟩
    have l1 := w1.len
    have l2 := w2.len
    obtain ⟨dx, t, h1, h2⟩ := hp
    have hq' := hq
    obtain ⟨dy, u, g1, g2⟩ := hq
    refine ⟨_, rfl, _, rfl, p, CS, dx, _, vN b, rfl, h1, TS.cl, TS.nb, rfl, q, b, os, rfl, hq', ?_⟩
    refine ⟨_, rfl, p, CS, dx, _, .ref t, rfl, h1, TS.cl, TS.nr, rfl, t, _, rfl, .inr h2, fun a0 ha0 => ?_⟩
    refine ⟨(by decide), fun c0 hc0 => ⟨_, _, rfl, ?_⟩⟩
    have na : a0 ≠ c0 := ne_of_none upd_same hc0
    have hc0' : H c0 = none := same_free (same_new0 ha0) hc0
    generalize hHB : upd (upd H a0 (.lst (rs.map vN))) c0 (.lst []) = HB at *
    have s0 : Same H HB := by rw [← hHB]; exact same_new (same_new0 ha0) hc0
    have hB1 : HB a0 = some (.lst (rs.map vN)) := by rw [← hHB]; exact upd_new hc0 upd_same
    have hB2 : HB c0 = some (.lst []) := by rw [← hHB]; exact upd_same
    refine ⟨_, rfl, q, CS, dy, _, .ref u, rfl, s0 _ _ g1, TS.cl, TS.nr, rfl, for_sq2 (K := K) (Tq.t (s0 _ _ g2)) (fun i σ H2 => ∃ v a, σ = [some (.ref p), some (.ref q), some (.ref a), some (.ref c0), v] ∧ (∀ c o, H c = some o → H2 c = some o) ∧ H a = none ∧ a ≠ c0 ∧ H2 a = some (.lst ((cms rs (os.take i)).1.map vN)) ∧ H2 c0 = some (.lst ((cms rs (os.take i)).2.map vN)))
      ⟨none, a0, rfl, s0, ha0, na, hB1, hB2⟩ (fun i σ H2 hp => ?_) ?_ ?_⟩
    · obtain ⟨_, _, _, s2, _⟩ := hp
      exact stay_of g2 s0 s2
    · rintro i y σ H2 hy ⟨v, a, rfl, s2, han, nac, h3, h4⟩
      obtain ⟨r, hr', rfl⟩ := map_get hy
      have R := cms_rws w1.r (os.take i)
      have L := cms_len rs (os.take i)
      have tl : (os.take i).length ≤ 400000 := Nat.le_trans (by rw [List.length_take]; omega) l2
      refine ⟨_, rfl, _, rfl, a, _, r, rfl, .inl h3, R.nz, rfl, _, rfl, ?_⟩
      rw [dec_ne0, take_succ hr', cms_snoc]
      refine br (fun e => ?_) (fun e => ?_)
      · have e0 : clr (cms rs (os.take i)).1 r ≠ 0 := by simpa using e
        rw [if_neg e0]
        refine ⟨_, rfl, _, rfl, a, _, r, rfl, .inl h3, R.nz, (by omega), fun H3 a1 s3 ha1 h5 => ?_⟩
        have na1 : a1 ≠ c0 := (ne_of_none h4 ha1).symm
        refine ⟨_, rfl, .inl ⟨rfl, _, SqL.of (s3 _ _ h4)⟩, _, rfl, c0, _, _, rfl, rfl, s3 _ _ h4, (by rw [List.length_map]; exact size6 (by omega)), ?_⟩
        refine ⟨_, a1, rfl, fun c o hc => upd_put (s3 _ _ (s2 _ _ hc)) (ne_of_none hc hc0'), ?_, na1, upd_put h5 na1, ?_⟩
        · cases z : H a1 with
          | none => rfl
          | some o => rw [s2 _ _ z] at ha1; cases ha1
        · rw [upd_same, List.map_append]
          rfl
      · have e0 : clr (cms rs (os.take i)).1 r = 0 := by simpa using e
        rw [if_pos e0]
        exact ⟨_, a, rfl, s2, han, nac, h3, h4⟩
    · rintro σ H2 ⟨v, a, rfl, s2, han, nac, h3, h4⟩
      rw [List.length_map, List.take_length] at h4
      refine ⟨_, rfl, c0, _, rfl, h4, fun t' ht' => ?_⟩
      refine k _ _ (same_new s2 ht') ?_ upd_same
      cases z : H t' with
      | none => rfl
      | some o => rw [s2 _ _ z] at ht'; cases ht'
include TR in
theorem ok_slot_space (F : FnP K "slot_space" "Spread.slot_space" s_Spread_slot_space f fd) (K_Space : Kn P w K mg base 4 CS "Space" ["self", "bits", "words"] (sp_Space CS)) : FnOk P w K mg base CX0 6 f fd ["self"] (sp_slot_space CS CR) := by
  have nd := sc_Spread_slot_space.nd
  refine fnok F sc_Spread_slot_space (fun vs H Q E h => ?_) (fun cdv A outer s H vs Q E hr h => ?_)
  · obtain ⟨p, b, ss, ls, rfl, _⟩ := h
    rfl
  · obtain ⟨p, b, ss, ls, rfl, ⟨dx, t, u, h1, h2, h3⟩, wf, k⟩ := h
    refine ⟨_, (pss_one (ps_ret (pe_k K_Space hr (pa_cons (pe_fld (pv 0) rfl) (pa_cons (pe_fld (pv 0) rfl) pa_nil))))), ?_⟩
    refine ⟨_, rfl, p, CR, dx, _, vN b, rfl, h1, TR.cl, TR.nb, rfl, _, rfl, p, CR, dx, _, .ref t, rfl, h1, TR.cl, TR.ns, rfl, ?_⟩
    have := wf.sl
    exact mk_Space (.inr h2) wf.s (by omega) (fun H' p s2 hp hA => k _ _ s2 hp hA)
include TR in
theorem ok_twins (F : FnP K "twins" "Spread.twins" s_Spread_twins f fd) (D_spanned : Dn P w K mg base 3 "spanned" ["words"] sp_spanned) (D_cleared : Dn P w K mg base 1 "cleared" ["rows", "word"] sp_cleared) (D_kernel_rows : Dn P w K mg base 5 "kernel_rows" ["columns"] sp_kernel_rows)
    (K_Space : Kn P w K mg base 4 CS "Space" ["self", "bits", "words"] (sp_Space CS)) : FnOk P w K mg base CX0 6 f fd ["self"] (sp_twins CS CR) := by
  have nd := sc_Spread_twins.nd
  refine fnok F sc_Spread_twins (fun vs H Q E h => ?_) (fun cdv A outer s H vs Q E hr h => ?_)
  · obtain ⟨p, b, ss, ls, rfl, _⟩ := h
    rfl
  · obtain ⟨p, b, ss, ls, rfl, ⟨dx, t, u, h1, h2, h3⟩, wf, k⟩ := h
    obtain ⟨bb, ws, wl, wsl, wll⟩ := id wf
    refine ⟨_, (pss_cons (ps_set (i := 1) nd rfl (Or.inr rfl) (pe_d D_spanned hr (pa_cons (pe_fld (pv 0) rfl) pa_nil)))
  (pss_one (ps_ret (pe_k K_Space hr (pa_cons (pe_callB call_lenQ (by rfl) T.len PySem.boot_len (pa_cons (pe_fld (pv 0) rfl) pa_nil)) (pa_cons (pe_d D_kernel_rows hr (pa_cons (pe_lc (own := [("word", 2)]) (g := gName 2) (by rfl) nd (pi_seq (pe_fld (pv 0) rfl)) (blkOk_by (own := [("word", 2)]) (N := ["self", "rows", "word"]) (sc := defScope s_Spread_twins) (by decide +kernel)) (fun _ _ _ _ _ => (pg_name (i := 2) nd rfl (Or.inl rfl))) (fun _ _ _ _ _ => pts_nil) (fun _ _ _ _ _ => (pe_d D_cleared hr (pa_cons (pv 1) (pa_cons (pv 2) pa_nil))))) pa_nil)) pa_nil)))))), ?_⟩
    refine ⟨_, rfl, p, CR, dx, _, .ref t, rfl, h1, TR.cl, TR.ns, rfl, t, ss, rfl, .inr h2, (by omega), fun H1 q1 s1 hq1 g1 => ?_⟩
    refine ⟨_, rfl, p, CR, dx, _, .ref u, rfl, s1 _ _ h1, TR.cl, TR.nl, rfl, u, _, rfl, .inr (s1 _ _ h3), ?_⟩
    refine ⟨_, rfl, p, CR, dx, _, .ref u, rfl, s1 _ _ h1, TR.cl, TR.nl, rfl, lc_pure ls vN (fun _ => true) (fun x => vN (clr (spn ss) x)) (.inr (s1 _ _ h3)) (by omega) (fun n H' hn s => ?_) (fun D H2 hD s2 g2 => ?_)⟩
    · intro Z Nx z1 z2
      exact ⟨rfl, _, rfl, _, rfl, q1, _, n, rfl, .inl (s _ _ g1), (spn_rws ss).nz, z1 rfl _ (Same.refl _)⟩
    · rw [filt_true] at g2
      refine ⟨D, ls.map (clr (spn ss)), rfl, .inl (by rw [g2, List.map_map]; rfl), (by rw [List.length_map]; omega), ?_, fun H3 q3 s3 hq3 g3 => ?_⟩
      · intro c hc
        obtain ⟨x, hx, rfl⟩ := List.mem_map.mp hc
        exact Nat.le_trans (clr_blen (spn_blen ws) (wl x hx)) (by omega)
      · rw [List.length_map]
        refine mk_Space (.inl g3) (fun x hx => ?_) ?_ (fun H' p s4 hp hA => k _ _ ((s1.trans s2).trans (s3.trans s4)) (same_free ((s1.trans s2).trans s3) hp) hA)
        · have := ker_blen _ x hx
          simpa using this
        · have := ker_len (ls.map (clr (spn ss)))
          rw [List.length_map] at this
          omega
end
end LaneX
set_option Elab.async false
set_option linter.all false
set_option maxRecDepth 100000
set_option maxHeartbeats 4000000
namespace LaneX
open PySem PySem.Spec PyProof.Rows L2
theorem ldr_len {b : Nat} {ss ls : List Nat} (wf : WfR b ss ls) (rows : List Nat) : (ldr ss ls rows).length ≤ 400000 :=
  Nat.le_trans (cms_len (twn ss ls) (prt ss ls rows)).2 (prt_wf wf rows).len
section
variable {P : Program} {w : World} {K : PySem.W.Frag} {mg : Str → Option Value} {base : Heap} {f : Addr} {fd : FuncData} {CS CR : Addr} (T : Bt mg) (TS : SpaceT K mg CS) (TR : SpreadT K mg CR)
include T
include TR in
theorem ok_need_pair (F : FnP K "need_pair" "need_pair" s_need_pair f fd) (D_any_spread : Dn P w K mg base 1 "any_spread" ["value"] (sp_any_spread CR)) (D_need_space : Dn P w K mg base 1 "need_space" ["value", "bits"] (sp_need_space CS)) : FnOk P w K mg base CX0 2 f fd ["spread", "space"] (sp_need_pair CS CR) := by
  have nd := sc_need_pair.nd
  refine fnok F sc_need_pair (fun vs H Q E h => ?_) (fun cdv A outer s H vs Q E hr h => ?_)
  · obtain ⟨p, q, b, ss, ls, rows, rfl, _⟩ := h
    rfl
  · obtain ⟨p, q, b, ss, ls, rows, rfl, hp, hq, k⟩ := h
    refine ⟨_, (pss_cons (ps_expr (pe_d D_any_spread hr (pa_cons (pv 0) pa_nil)))
  (pss_one (ps_expr (pe_d D_need_space hr (pa_cons (pv 1) (pa_cons (pe_fld (pv 0) rfl) pa_nil)))))), ?_⟩
    have hp' := hp
    obtain ⟨dx, t, u, h1, h2, h3⟩ := hp'
    exact ⟨_, rfl, p, b, ss, ls, rfl, hp, _, rfl, _, rfl, p, CR, dx, _, vN b, rfl, h1, TR.cl, TR.nb, rfl, q, b, rows, rfl, hq, k⟩
include TS TR in
theorem ok_partner_rows (F : FnP K "partner_rows" "partner_rows" s_partner_rows f fd) (D_spanned : Dn P w K mg base 3 "spanned" ["words"] sp_spanned) (D_cleared : Dn P w K mg base 1 "cleared" ["rows", "word"] sp_cleared) (D_kernel_rows : Dn P w K mg base 5 "kernel_rows" ["columns"] sp_kernel_rows) :
    FnOk P w K mg base CX0 6 f fd ["spread", "space"] (sp_partner_rows CS CR) := by
  have nd := sc_partner_rows.nd
  refine fnok F sc_partner_rows (fun vs H Q E h => ?_) (fun cdv A outer s H vs Q E hr h => ?_)
  · obtain ⟨p, q, b, ss, ls, rows, rfl, _⟩ := h
    rfl
  · obtain ⟨p, q, b, ss, ls, rows, rfl, ⟨dx, t, u, h1, h2, h3⟩, ⟨dy, z, g1, g2⟩, wf, wfs, k⟩ := h
    obtain ⟨bb, ws, wl, wsl, wll⟩ := id wf
    have wrl := wfs.len
    refine ⟨_, (pss_cons (ps_set (i := 2) nd rfl (Or.inr rfl) (pe_d D_spanned hr (pa_cons (pe_op op_cat (pe_callTy call_listQ (by rfl) T.list (by decide +kernel) (pa_cons (pe_fld (pv 0) rfl) pa_nil)) (pe_callTy call_listQ (by rfl) T.list (by decide +kernel) (pa_cons (pe_fld (pv 1) rfl) pa_nil))) pa_nil)))
  (pss_one (ps_ret (pe_d D_kernel_rows hr (pa_cons (pe_lc (own := [("word", 3)]) (g := gName 3) (by rfl) nd (pi_seq (pe_fld (pv 0) rfl)) (blkOk_by (own := [("word", 3)]) (N := ["spread", "space", "rows", "word"]) (sc := defScope s_partner_rows) (by decide +kernel)) (fun _ _ _ _ _ => (pg_name (i := 3) nd rfl (Or.inl rfl))) (fun _ _ _ _ _ => pts_nil) (fun _ _ _ _ _ => (pe_d D_cleared hr (pa_cons (pv 2) (pa_cons (pv 3) pa_nil))))) pa_nil))))), ?_⟩
    refine ⟨_, rfl, p, CR, dx, _, .ref t, rfl, h1, TR.cl, TR.ns, rfl, t, _, rfl, .inr h2, fun a1 ha1 => ?_⟩
    have s1 : Same H (upd H a1 (.lst (ss.map vN))) := same_new0 ha1
    refine ⟨_, rfl, q, CS, dy, _, .ref z, rfl, s1 _ _ g1, TS.cl, TS.nr, rfl, z, _, rfl, .inr (s1 _ _ g2), fun a2 ha2 => ?_⟩
    have s2 := same_new (o := .lst (rows.map vN)) s1 ha2
    refine ⟨_, _, _, _, rfl, rfl, upd_new ha2 upd_same, upd_same, (by rw [List.length_map, List.length_map, sizeLine_eq]; omega), fun a3 ha3 => ?_⟩
    have s3 := same_new (o := .lst (ss.map vN ++ rows.map vN)) s2 ha3
    refine ⟨a3, ss ++ rows, rfl, .inl (by rw [upd_same, List.map_append]), (by rw [List.length_append]; omega), fun H4 q4 s4 hq4 g4 => ?_⟩
    have s5 := s3.trans s4
    refine ⟨_, rfl, p, CR, dx, _, .ref u, rfl, s5 _ _ h1, TR.cl, TR.nl, rfl, lc_pure ls vN (fun _ => true) (fun x => vN (clr (spn (ss ++ rows)) x)) (.inr (s5 _ _ h3)) (by omega) (fun n H' hn s => ?_) (fun D H6 hD s6 g6 => ?_)⟩
    · intro Z Nx z1 z2
      exact ⟨rfl, _, rfl, _, rfl, q4, _, n, rfl, .inl (s _ _ g4), (spn_rws _).nz, z1 rfl _ (Same.refl _)⟩
    · rw [filt_true] at g6
      refine ⟨D, ls.map (clr (spn (ss ++ rows))), rfl, .inl (by rw [g6, List.map_map]; rfl), (by rw [List.length_map]; omega), ?_, fun H7 q7 s7 hq7 g7 => ?_⟩
      · intro c hc
        obtain ⟨x, hx, rfl⟩ := List.mem_map.mp hc
        refine Nat.le_trans (clr_blen (k := b) (spn_blen fun y hy => ?_) (wl x hx)) (by omega)
        rcases List.mem_append.mp hy with hy | hy
        · exact ws y hy
        · exact wfs.b y hy
      · exact k _ _ ((s5.trans s6).trans s7) (same_free (s5.trans s6) hq7) g7
include TR in
theorem ok_partners (F : FnP K "partners" "partners" s_partners f fd) (D_need_pair : Dn P w K mg base 2 "need_pair" ["spread", "space"] (sp_need_pair CS CR)) (D_partner_rows : Dn P w K mg base 6 "partner_rows" ["spread", "space"] (sp_partner_rows CS CR))
    (K_Space : Kn P w K mg base 4 CS "Space" ["self", "bits", "words"] (sp_Space CS)) : FnOk P w K mg base CX0 7 f fd ["spread", "space"] (sp_partners CS CR) := by
  have nd := sc_partners.nd
  refine fnok F sc_partners (fun vs H Q E h => ?_) (fun cdv A outer s H vs Q E hr h => ?_)
  · obtain ⟨p, q, b, ss, ls, rows, rfl, _⟩ := h
    rfl
  · obtain ⟨p, q, b, ss, ls, rows, rfl, hp, hq, wf, wfs, k⟩ := h
    refine ⟨_, (pss_cons (ps_expr (pe_d D_need_pair hr (pa_cons (pv 0) (pa_cons (pv 1) pa_nil))))
  (pss_one (ps_ret (pe_k K_Space hr (pa_cons (pe_callB call_lenQ (by rfl) T.len PySem.boot_len (pa_cons (pe_fld (pv 0) rfl) pa_nil)) (pa_cons (pe_d D_partner_rows hr (pa_cons (pv 0) (pa_cons (pv 1) pa_nil))) pa_nil)))))), ?_⟩
    have hp' := hp
    obtain ⟨dx, t, u, h1, h2, h3⟩ := hp'
    refine ⟨_, rfl, _, rfl, p, q, b, ss, ls, rows, rfl, hp, hq, ?_⟩
    refine ⟨_, rfl, p, CR, dx, _, .ref u, rfl, h1, TR.cl, TR.nl, rfl, u, _, rfl, .inr h3, _, rfl, _, rfl, p, q, b, ss, ls, rows, rfl, hp, hq, wf, wfs, fun H1 a1 s1 ha1 g1 => ?_⟩
    rw [List.length_map]
    have := wf.ll
    refine mk_Space (.inl g1) (fun x hx => ?_) ?_ (fun H' p s4 hp hA => k _ _ (s1.trans s4) (same_free s1 hp) hA)
    · have := ker_blen _ x hx
      simpa using this
    · have := ker_len (ls.map (clr (spn (ss ++ rows))))
      rw [List.length_map] at this
      show (ker _).length ≤ _
      omega
theorem ok_leaders (F : FnP K "leaders" "leaders" s_leaders f fd) (D_partners : Dn P w K mg base 7 "partners" ["spread", "space"] (sp_partners CS CR)) (M_Spread_twins : Mn P w K mg base 6 CR "twins" ["self"] (sp_twins CS CR)) (M_Space_completing : Mn P w K mg base 3 CS "completing" ["self", "other"] (sp_completing CS)) :
    FnOk P w K mg base CX0 8 f fd ["spread", "space"] (sp_leaders CS CR) := by
  have nd := sc_leaders.nd
  refine fnok F sc_leaders (fun vs H Q E h => ?_) (fun cdv A outer s H vs Q E hr h => ?_)
  · obtain ⟨p, q, b, ss, ls, rows, rfl, _⟩ := h
    rfl
  · obtain ⟨p, q, b, ss, ls, rows, rfl, hp, hq, wf, wfs, k⟩ := h
    refine ⟨_, (pss_one (ps_ret (pe_callTy call_listQ (by rfl) T.list (by decide +kernel) (pa_cons (pe_m (pe_m0 (pv 0) M_Spread_twins hr) M_Space_completing hr (pa_cons (pe_d D_partners hr (pa_cons (pv 0) (pa_cons (pv 1) pa_nil))) pa_nil)) pa_nil)))), ?_⟩
    have hp' := hp
    obtain ⟨dx, t, u, h1, h2, h3⟩ := hp'
    refine ⟨_, rfl, p, dx, _, rfl, h1, rfl, p, b, ss, ls, rfl, hp, wf, fun H1 x1 s1 hx1 g1 => ?_⟩
    have g1' := g1
    obtain ⟨dz, z, g2, g3⟩ := g1'
    refine ⟨x1, dz, _, rfl, g2, rfl, _, rfl, _, rfl, p, q, b, ss, ls, rows, rfl, hp.same s1, hq.same s1, wf, wfs, fun H2 x2 s2 hx2 g4 => ?_⟩
    refine ⟨x1, x2, ls.length, _, _, rfl, g1.same s2, g4, twn_wf wf, prt_wf wf rows, fun H3 t3 s3 ht3 g5 => ?_⟩
    refine ⟨t3, _, rfl, .inr g5, fun l hl => ?_⟩
    exact k _ _ (same_new ((s1.trans s2).trans s3) hl) (same_free ((s1.trans s2).trans s3) hl) upd_same
include TS in
theorem ok_kept_bits (F : FnP K "kept_bits" "kept_bits" s_kept_bits f fd) (M_Spread_slot_space : Mn P w K mg base 6 CR "slot_space" ["self"] (sp_slot_space CS CR)) (M_Space_and : Mn P w K mg base 6 CS "__and__" ["self", "other"] (sp_and CS)) (hsf : PySem.W.selfFirst K CS = true) :
    FnOk P w K mg base CX0 7 f fd ["spread", "space"] (sp_kept_bits CS CR) := by
  have nd := sc_kept_bits.nd
  refine fnok F sc_kept_bits (fun vs H Q E h => ?_) (fun cdv A outer s H vs Q E hr h => ?_)
  · obtain ⟨p, q, b, ss, ls, rows, rfl, _⟩ := h
    rfl
  · obtain ⟨p, q, b, ss, ls, rows, rfl, hp, hq, wf, wfs, k⟩ := h
    refine ⟨_, (pss_cons (ps_set (i := 2) nd rfl (Or.inl rfl) (pe_m0 (pv 0) M_Spread_slot_space hr))
  (pss_one (ps_ret (pe_op op_sub (pe_fld (pv 2) rfl) (pe_fld (pe_op (op_own (by rfl) M_Space_and hsf hr) (pv 2) (pv 1)) rfl))))), ?_⟩
    have hp' := hp
    obtain ⟨dx, t, u, h1, h2, h3⟩ := hp'
    refine ⟨_, rfl, p, dx, _, rfl, h1, rfl, p, b, ss, ls, rfl, hp, wf, fun H1 x1 s1 hx1 g1 => ?_⟩
    have g1' := g1
    obtain ⟨dz, z, g2, g3⟩ := g1'
    have q1 := hq.same s1
    have q1' := q1
    obtain ⟨dy, y, g4, g5⟩ := q1'
    refine ⟨_, rfl, x1, CS, dz, _, vN (spn ss).length, rfl, g2, TS.cl, TS.nd, rfl, _, rfl, _, rfl, x1, q, dz, dy, _, _, rfl, rfl, g2, g4, x1, q, b, spn ss, rows, rfl, g1, q1, WfS.of wf.bb wf.s, wfs, fun H2 x2 s2 hx2 g6 => ?_⟩
    obtain ⟨dv, v, g7, g8⟩ := g6
    exact ⟨x2, CS, dv, _, vN (spn (mtd b (spn ss) rows)).length, rfl, g7, TS.cl, TS.nd, rfl, _, _, rfl, rfl, k _ (s1.trans s2)⟩
theorem ok_rounds_for (F : FnP K "rounds_for" "rounds_for" s_rounds_for f fd) : FnOk P w K mg base CX0 1 f fd ["bits", "apart"] sp_rounds_for := by
  have nd := sc_rounds_for.nd
  refine fnok F sc_rounds_for (fun vs H Q E h => ?_) (fun cdv A outer s H vs Q E hr h => ?_)
  · obtain ⟨n, m, rfl, _⟩ := h
    rfl
  · obtain ⟨n, m, rfl, hn, hm, k⟩ := h
    refine ⟨_, (pss_cons (ps_if (pt_cmpR op_ge (pv 0) (pv 1) (nomark _))
    (pss_one (ps_ret (pe_op on_sub (pe_op on_shl pe_int (pv 0)) (pe_op on_shl pe_int (pe_op on_sub (pv 0) (pv 1))))))
    pss_nil)
  (pss_one (ps_ret (pe_op on_sub (pe_op on_add (pe_op on_sub (pe_op on_shl pe_int (pv 0)) pe_int) (pv 1)) (pv 0))))), ?_⟩
    have o1 : CShN 1 n := shl_ok1 (by rw [blen_one]; decide) (by omega)
    have p1 : 1 ≤ 1 <<< n := by rw [Nat.one_shiftLeft]; exact Nat.two_pow_pos n
    have p2 : n < 1 <<< n := by rw [Nat.one_shiftLeft]; exact Nat.lt_two_pow_self
    refine ⟨_, rfl, _, rfl, _, _, rfl, rfl, _, rfl, ?_⟩
    rw [dec_le]
    unfold rdf at k
    refine br (fun e => ?_) (fun e => ?_)
    · have e0 : m ≤ n := of_decide_eq_true e
      rw [if_pos e0] at k
      refine ⟨_, rfl, 1, _, rfl, rfl, o1, _, rfl, _, rfl, _, _, rfl, rfl, e0, 1, _, rfl, rfl, shl_ok1 (by rw [blen_one]; decide) (by show n - m ≤ 1000000; omega), _, _, rfl, rfl, ?_, k⟩
      show 1 <<< (n - m) ≤ 1 <<< n
      rw [Nat.one_shiftLeft, Nat.one_shiftLeft]
      exact Nat.pow_le_pow_right (by decide) (by omega)
    · have e0 : ¬ m ≤ n := of_decide_eq_false e
      rw [if_neg e0] at k
      exact ⟨_, rfl, 1, _, rfl, rfl, o1, _, 1, rfl, rfl, p1, _, rfl, _, _, rfl, rfl, _, rfl, _, _, rfl, rfl, (by show n ≤ 1 <<< n - 1 + m; omega), k⟩
include TS in
theorem ok_sum_rounds (F : FnP K "sum_rounds" "sum_rounds" s_sum_rounds f fd) (D_need_pair : Dn P w K mg base 2 "need_pair" ["spread", "space"] (sp_need_pair CS CR)) (D_kept_bits : Dn P w K mg base 7 "kept_bits" ["spread", "space"] (sp_kept_bits CS CR)) (M_Spread_twins : Mn P w K mg base 6 CR "twins" ["self"] (sp_twins CS CR))
    (D_leaders : Dn P w K mg base 8 "leaders" ["spread", "space"] (sp_leaders CS CR)) (D_rounds_for : Dn P w K mg base 1 "rounds_for" ["bits", "apart"] sp_rounds_for) : FnOk P w K mg base CX0 9 f fd ["spread", "space"] (sp_sum_rounds CS CR) := by
  have nd := sc_sum_rounds.nd
  refine fnok F sc_sum_rounds (fun vs H Q E h => ?_) (fun cdv A outer s H vs Q E hr h => ?_)
  · obtain ⟨p, q, b, ss, ls, rows, rfl, _⟩ := h
    rfl
  · obtain ⟨p, q, b, ss, ls, rows, rfl, hp, hq, wf, wfs, k⟩ := h
    refine ⟨_, (pss_cons (ps_expr (pe_d D_need_pair hr (pa_cons (pv 0) (pa_cons (pv 1) pa_nil))))
  (pss_cons (ps_set (i := 2) nd rfl (Or.inl rfl) (pe_callB (call_max2 rfl) (by rfl) T.max (by decide +kernel) (pa_cons pe_int (pa_cons (pe_op op_sub (pe_d D_kept_bits hr (pa_cons (pv 0) (pa_cons (pv 1) pa_nil))) (pe_fld (pe_m0 (pv 0) M_Spread_twins hr) rfl)) pa_nil))))
  (pss_one (ps_ret (pe_d D_rounds_for hr (pa_cons (pv 2) (pa_cons (pe_callB call_lenQ (by rfl) T.len PySem.boot_len (pa_cons (pe_d D_leaders hr (pa_cons (pv 0) (pa_cons (pv 1) pa_nil))) pa_nil)) pa_nil))))))), ?_⟩
    refine ⟨_, rfl, _, rfl, p, q, b, ss, ls, rows, rfl, hp, hq, ?_⟩
    refine ⟨_, rfl, _, rfl, p, q, b, ss, ls, rows, rfl, hp, hq, wf, wfs, fun H1 s1 => ?_⟩
    have p1 := hp.same s1
    have p1' := p1
    obtain ⟨dx, t, u, h1, h2, h3⟩ := p1'
    refine ⟨_, rfl, p, dx, _, rfl, h1, rfl, p, b, ss, ls, rfl, p1, wf, fun H2 x2 s2 hx2 g2 => ?_⟩
    obtain ⟨dv, v, g3, g4⟩ := g2
    refine ⟨x2, CS, dv, _, vN (twn ss ls).length, rfl, g3, TS.cl, TS.nd, rfl, _, _, rfl, rfl, _, _, rfl, ?_⟩
    have s3 := s1.trans s2
    have em : (if kpt b ss rows - ((twn ss ls).length : Int) > 0 then kpt b ss rows - ((twn ss ls).length : Int) else 0) = (((kpt b ss rows - ((twn ss ls).length : Int)).toNat : Nat) : Int) := by
      split <;> omega
    have kb : kpt b ss rows ≤ 400000 := by
      have := (WfS.of wf.bb wf.s).len
      unfold kpt
      omega
    rw [em]
    refine ⟨_, rfl, _, rfl, _, rfl, p, q, b, ss, ls, rows, rfl, hp.same s3, hq.same s3, wf, wfs, fun H4 t4 s4 ht4 g4 => ?_⟩
    refine ⟨t4, _, rfl, .inl g4, ?_⟩
    rw [List.length_map]
    exact ⟨_, _, rfl, (by omega), ldr_len wf rows, k _ (s3.trans s4)⟩
end
end LaneX
set_option Elab.async false
set_option linter.all false
set_option maxRecDepth 100000
set_option maxHeartbeats 4000000
namespace LaneX
open PySem PySem.Spec PyProof.Rows L2
/-! ### the bits of a word -/
theorem lwb_le {n : Nat} : lwb n ≤ n := Nat.sub_le _ _
theorem lt_of_bit : ∀ (i : Nat) {n m : Nat}, n.testBit i = false → m.testBit i = true → (∀ j, i < j → n.testBit j = m.testBit j) → n < m
  | 0, n, m, h1, h2, h => by
    have e : n / 2 = m / 2 := Nat.eq_of_testBit_eq fun j => by
      have := h (j + 1) (Nat.succ_pos j)
      rwa [Nat.testBit_succ, Nat.testBit_succ] at this
    rw [Nat.testBit_zero] at h1 h2
    have := of_decide_eq_false h1
    have := of_decide_eq_true h2
    omega
  | i + 1, n, m, h1, h2, h => by
    rw [Nat.testBit_succ] at h1 h2
    have := lt_of_bit i h1 h2 fun j hj => by
      have := h (j + 1) (by omega)
      rwa [Nat.testBit_succ, Nat.testBit_succ] at this
    omega
theorem xor_lwb_lt {n : Nat} (h : n ≠ 0) : n ^^^ lwb n < n := by
  have hb := low_bit h
  rw [lwb_eq h]
  refine lt_of_bit (low n) ?_ hb fun j hj => ?_
  · rw [Nat.testBit_xor, hb, Nat.testBit_two_pow_self]; rfl
  · rw [Nat.testBit_xor, Nat.testBit_two_pow, decide_eq_false (by omega), Bool.xor_false]
def ons (n : Nat) : List Nat := if h : n = 0 then [] else low n :: ons (n ^^^ lwb n)
termination_by n
decreasing_by exact xor_lwb_lt h
theorem ons_zero : ons 0 = [] := by unfold ons; rfl
theorem ons_pos {n : Nat} (h : n ≠ 0) : ons n = low n :: ons (n ^^^ lwb n) := by
  conv => lhs; unfold ons
  rw [dif_neg h]
theorem low_lt {n k : Nat} (h : n ≠ 0) (hk : n < 2 ^ k) : low n < k := by
  refine Classical.byContradiction fun z => ?_
  have := low_bit h
  rw [Nat.testBit_lt_two_pow (Nat.lt_of_lt_of_le hk (Nat.pow_le_pow_right (by decide) (by omega)))] at this
  cases this
theorem lwb_lt {n k : Nat} (h : n ≠ 0) (hk : n < 2 ^ k) : n ^^^ lwb n < 2 ^ k := Nat.lt_trans (xor_lwb_lt h) hk
theorem ons_lt {k : Nat} : ∀ {n : Nat}, n < 2 ^ k → ∀ i ∈ ons n, i < k := by
  intro n
  induction n using Nat.strongRecOn with
  | _ n ih =>
    intro hk i hi
    by_cases h : n = 0
    · subst h; rw [ons_zero] at hi; cases hi
    · rw [ons_pos h] at hi
      rcases List.mem_cons.mp hi with rfl | hi
      · exact low_lt h hk
      · exact ih _ (xor_lwb_lt h) (lwb_lt h hk) i hi
theorem ons_len {k : Nat} : ∀ {n : Nat}, n < 2 ^ k → (ons n).length ≤ n := by
  intro n
  induction n using Nat.strongRecOn with
  | _ n ih =>
    intro hk
    by_cases h : n = 0
    · subst h; rw [ons_zero]; exact Nat.le_refl _
    · rw [ons_pos h]
      have := ih _ (xor_lwb_lt h) (lwb_lt h hk)
      have := xor_lwb_lt h
      simp only [List.length_cons]
      omega
theorem low_le_low {n i : Nat} (h : n.testBit i = true) : low n ≤ i := by
  induction n using Nat.strongRecOn generalizing i with
  | _ n ih =>
    have hn : n ≠ 0 := fun e => by rw [e] at h; simp at h
    unfold low
    rw [dif_neg hn]
    split
    · exact Nat.zero_le _
    · rename_i ho
      cases i with
      | zero => rw [Nat.testBit_zero] at h; exact absurd (of_decide_eq_true h) ho
      | succ i =>
        rw [Nat.testBit_succ] at h
        have := ih (n / 2) (by omega) h
        omega
theorem ons_sorted : ∀ {n : Nat}, (ons n).Pairwise (· < ·) := by
  intro n
  induction n using Nat.strongRecOn with
  | _ n ih =>
    by_cases h : n = 0
    · subst h; rw [ons_zero]; exact .nil
    · rw [ons_pos h]
      refine List.pairwise_cons.mpr ⟨fun i hi => ?_, ih _ (xor_lwb_lt h)⟩
      have bit : ∀ {m j : Nat}, j ∈ ons m → m.testBit j = true := by
        intro m
        induction m using Nat.strongRecOn with
        | _ m ihm =>
          intro j hj
          by_cases hm : m = 0
          · subst hm; rw [ons_zero] at hj; cases hj
          · rw [ons_pos hm] at hj
            rcases List.mem_cons.mp hj with rfl | hj
            · exact low_bit hm
            · have := ihm _ (xor_lwb_lt hm) hj
              rw [Nat.testBit_xor, lwb_eq hm, Nat.testBit_two_pow] at this
              by_cases e : low m = j
              · subst e; exact low_bit hm
              · simpa [e] using this
      have b := bit hi
      rw [Nat.testBit_xor, lwb_eq h, Nat.testBit_two_pow] at b
      by_cases e : low n = i
      · subst e
        rw [low_bit h] at b
        simp at b
      · have b2 : n.testBit i = true := by simpa [e] using b
        have := low_le_low b2
        omega
theorem pw_len : ∀ {l : List Nat} {b k : Nat}, l.Pairwise (· < ·) → (∀ i ∈ l, b ≤ i ∧ i < k) → l.length ≤ k - b
  | [], _, _, _, _ => Nat.zero_le _
  | x :: l, b, k, hp, h => by
    have hp' := List.pairwise_cons.mp hp
    have hx := h x (.head _)
    have := pw_len (b := x + 1) (k := k) hp'.2 fun i hi => ⟨hp'.1 i hi, (h i (.tail _ hi)).2⟩
    simp only [List.length_cons]
    omega
theorem ons_len2 {n k : Nat} (h : n < 2 ^ k) : (ons n).length ≤ k := by
  have := pw_len (b := 0) (k := k) (ons_sorted (n := n)) fun i hi => ⟨Nat.zero_le _, ons_lt h i hi⟩
  omega
/-- what image_of sums -/
def ims (cols : List Nat) (l : List Nat) : Nat := l.foldl (fun t i => t ^^^ cols.getD i 0) 0
theorem ims_from (cols : List Nat) : ∀ (l : List Nat) (t : Nat), l.foldl (fun t i => t ^^^ cols.getD i 0) t = t ^^^ ims cols l
  | [], t => by show t = t ^^^ 0; rw [Nat.xor_zero]
  | i :: l, t => by
    show l.foldl _ (t ^^^ cols.getD i 0) = t ^^^ (l.foldl _ (0 ^^^ cols.getD i 0))
    rw [ims_from cols l, ims_from cols l, Nat.zero_xor, Nat.xor_assoc]
theorem ims_ons (cols : List Nat) : ∀ {n : Nat}, n < 2 ^ cols.length → ims cols (ons n) = img cols n := by
  intro n
  induction n using Nat.strongRecOn with
  | _ n ih =>
    intro hk
    by_cases h : n = 0
    · subst h; rw [ons_zero, (lin_img cols).z]; rfl
    · rw [ons_pos h]
      have e := ih _ (xor_lwb_lt h) (lwb_lt h hk)
      show (ons (n ^^^ lwb n)).foldl _ (0 ^^^ cols.getD (low n) 0) = _
      rw [ims_from, e, Nat.zero_xor, (lin_img cols).x, lwb_eq h, img_unit cols (low_lt h hk), Nat.xor_comm (img cols n), xor_cancel]
def sp_ones : Sp := fun vs H Q _ => ∃ n k : Nat, vs = [vN n] ∧ n < 2 ^ k ∧ k ≤ 1000000 ∧ ∀ H' q, Same H H' → H q = none → H' q = some (.tup ((ons n).map vN)) → Q (.ref q) H'
def sp_image_of : Sp := fun vs H Q _ => ∃ (a : Addr) (cs : List Nat) (n : Nat), vs = [.ref a, vN n] ∧ Tq H a (cs.map vN) ∧ cs.length ≤ 1000000 ∧ n < 2 ^ cs.length ∧ ∀ H', Same H H' → Q (vN (img cs n)) H'
def sp_solved : Sp := fun vs H Q _ => ∃ (a : Addr) (ss : List Nat) (b g : Nat), vs = [.ref a, vN ss.length, vN g] ∧ Tq H a ((prd ss).map vN) ∧ ss.length ≤ 400000 ∧ g < 2 ^ b ∧ b ≤ 400000 ∧ Spn ss g ∧ Q (vN (slv ss g)) H
def sp_write_count (CR : Addr) : Sp := fun vs H Q _ => ∃ (p : Addr) (b : Nat) (ss ls : List Nat), vs = [.ref p] ∧ SpreadAt CR H p b ss ls ∧ b ≤ 400000 ∧ Q (vN (1 <<< (b - ls.length))) H
section
variable {P : Program} {w : World} {K : PySem.W.Frag} {mg : Str → Option Value} {base : Heap} {f : Addr} {fd : FuncData} {CS CR : Addr} (T : Bt mg) (TR : SpreadT K mg CR)
include T
theorem ok_ones (F : FnP K "ones" "ones" s_ones f fd) (D_need_whole : Dn P w K mg base 2 "need_whole" ["value"] sp_need_whole) : FnOk P w K mg base CX0 3 f fd ["word"] sp_ones := by
  have nd := sc_ones.nd
  refine fnok F sc_ones (fun vs H Q E h => ?_) (fun cdv A outer s H vs Q E hr h => ?_)
  · obtain ⟨n, k, rfl, _⟩ := h
    rfl
  · obtain ⟨n, k, rfl, hn, hk, q⟩ := h
    refine ⟨_, (pss_cons (ps_expr (pe_d D_need_whole hr (pa_cons (pv 0) pa_nil)))
  (pss_cons (ps_set (i := 1) nd rfl (Or.inl rfl) (pe_lst pa_nil))
  (pss_cons (ps_set (i := 2) nd rfl (Or.inl rfl) (pv 0))
  (pss_cons (ps_while PassesOwn.never (pt_cmpR op_gt (pv 2) pe_int (nomark _))
    (pss_cons (ps_set (i := 3) nd rfl (Or.inl rfl) (pe_op on_low (pv 2) (pe_un un_neg (pv 2))))
    (pss_cons (ps_expr (pe_bm PySem.F.plainAttrs_list PySem.F.slot_list_append PySem.F.type_list_append mt_append (pv 1) (pa_cons (pe_op on_sub (pe_bits (pv 3)) pe_int) pa_nil)))
    (pss_one (ps_set (i := 2) nd rfl (Or.inl rfl) (pe_op on_xor (pv 2) (pv 3)))))))
  (pss_one (ps_ret (pe_callTy call_tupleQ (by rfl) T.tuple (by decide +kernel) (pa_cons (pv 1) pa_nil)))))))), ?_⟩
    refine ⟨_, rfl, n, rfl, (by decide), fun l hl => ⟨_, rfl, ?_⟩⟩
    refine ⟨fun m σ H2 => ∃ v3 ds, σ = [some (vN n), some (.ref l), some (vN m), v3] ∧ Same H H2 ∧ H2 l = some (.lst (ds.map vN)) ∧ ds ++ ons m = ons n ∧ m < 2 ^ k, ⟨n, none, [], rfl, same_new0 hl, upd_same, rfl, hn⟩, ?_⟩
    rintro m σ H2 ⟨v3, ds, rfl, s2, h2, e, hm⟩
    have ld : ds.length ≤ k := by
      have := ons_len2 hn
      rw [← e, List.length_append] at this
      omega
    refine ⟨_, rfl, _, _, rfl, rfl, _, rfl, br (fun z => ?_) (fun z => ?_)⟩
    · have z0 : m ≠ 0 := by have := of_decide_eq_true z; omega
      refine ⟨fun σ' H' => ∃ v3 ds, σ' = [some (vN n), some (.ref l), some (vN (m ^^^ lwb m)), v3] ∧ Same H H' ∧ H' l = some (.lst (ds.map vN)) ∧ ds ++ ons (m ^^^ lwb m) = ons n ∧ (m ^^^ lwb m) < 2 ^ k, fun σ' H' hN => ⟨_, xor_lwb_lt z0, hN⟩, ?_⟩
      refine ⟨_, rfl, _, rfl, _, rfl, m, rfl, rfl, ?_⟩
      have bl : blen (lwb m) = low m + 1 := by rw [lwb_eq z0, ← Nat.one_shiftLeft]; exact blen_unit _
      refine ⟨_, rfl, .inl ⟨rfl, _, SqL.of h2⟩, _, rfl, lwb m, rfl, Builtin.Int.intBits (lwb m : Int), 1, rfl, rfl, (by rw [blen_bits]; omega), l, _, _, rfl, rfl, h2, (by rw [List.length_map, sizeLine_eq]; omega), ?_⟩
      refine ⟨_, rfl, _, rfl, m, lwb m, rfl, rfl, _, ds ++ [low m], rfl, same_put s2 hl, ?_, ?_, lwb_lt z0 hm⟩
      · rw [upd_same, List.map_append, blen_bits, bl, Nat.add_sub_cancel]; rfl
      · rw [List.append_assoc, ← e, ons_pos z0]; rfl
    · have z0 : m = 0 := by
        have := of_decide_eq_false z
        omega
      subst z0
      rw [ons_zero, List.append_nil] at e
      subst e
      exact ⟨_, rfl, l, _, rfl, h2, fun q' hq' => q _ _ (same_new s2 hq') (same_free s2 hq') upd_same⟩
theorem ok_image_of (F : FnP K "image_of" "image_of" s_image_of f fd) (D_ones : Dn P w K mg base 3 "ones" ["word"] sp_ones) : FnOk P w K mg base CX0 4 f fd ["columns", "word"] sp_image_of := by
  have nd := sc_image_of.nd
  refine fnok F sc_image_of (fun vs H Q E h => ?_) (fun cdv A outer s H vs Q E hr h => ?_)
  · obtain ⟨a, cs, n, rfl, _⟩ := h
    rfl
  · obtain ⟨a, cs, n, rfl, hS, hl, hn, k⟩ := h
    refine ⟨_, (pss_cons (ps_set (i := 2) nd rfl (Or.inl rfl) pe_int)
  (pss_cons (ps_for PassesOwn.never rfl (pi_seq (pe_d D_ones hr (pa_cons (pv 1) pa_nil))) (pg_name (i := 3) nd rfl (Or.inl rfl))
    (pss_one (ps_set (i := 2) nd rfl (Or.inl rfl) (pe_op on_xor (pv 2) (pe_ix ix_q (pv 0) (pv 3) (fun _ _ => rfl))))))
  (pss_one (ps_ret (pv 2))))), ?_⟩
    refine ⟨_, rfl, n, cs.length, rfl, hn, hl, fun H1 q s1 hq h1 => ?_⟩
    refine for_sq2 (K := K) (.inr h1) (fun i σ H2 => ∃ v3, σ = [some (.ref a), some (vN n), some (vN (ims cs ((ons n).take i))), v3] ∧ H2 = H1) ⟨none, rfl, rfl⟩ (fun i σ H2 hp o ho => by obtain ⟨_, _, rfl⟩ := hp; exact ho) ?_ ?_
    · rintro i y σ H2 hy ⟨v3, rfl, rfl⟩
      obtain ⟨d, hd, rfl⟩ := map_get hy
      have dl := ons_lt hn d (List.mem_of_getElem? hd)
      have hg : (cs.map vN)[d]? = some (vN (cs.getD d 0)) := by
        rw [List.getElem?_map, List.getElem?_eq_getElem dl, List.getD_eq_getElem?_getD, List.getElem?_eq_getElem dl]
        rfl
      refine ⟨_, rfl, _, rfl, _, rfl, a, _, d, _, rfl, rfl, same_tq s1 hS, hg, _, _, rfl, rfl, some (vN d), ?_, rfl⟩
      rw [take_succ hd]
      unfold ims
      rw [List.foldl_append]
      rfl
    · rintro σ H2 ⟨v3, rfl, rfl⟩
      rw [List.length_map, List.take_length, ims_ons cs hn]
      exact ⟨_, rfl, k _ s1⟩
end
end LaneX
set_option Elab.async false
set_option linter.all false
set_option maxRecDepth 100000
set_option maxHeartbeats 4000000
namespace LaneX
open PySem PySem.Spec PyProof.Rows L2
/-! ### two spreads that fit -/
def tps (rows : List Nat) : List Nat := rows.map fun r => blen r - 1
def sp_tops_of : Sp := fun vs H Q _ => ∃ (a : Addr) (rows : List Nat), vs = [.ref a] ∧ Tq H a (rows.map vN) ∧ (∀ r ∈ rows, r ≠ 0) ∧ rows.length ≤ 1000000 ∧ ∀ H' q, Same H H' → H q = none → H' q = some (.lst ((tps rows).map vN)) → Q (.ref q) H'
def sp_missing : Sp := fun vs H Q _ => ∃ (a : Addr) (rows : List Nat), vs = [.ref a] ∧ Tq H a (rows.map vN) ∧ (∀ r ∈ rows, r ≠ 0) ∧ rows.length ≤ 1000000 ∧ ∀ H' j, Same H H' → Mis rows j → Q (vN (1 <<< j)) H'
/-- two spreads -/
def spTwo (CR : Addr) (k : Nat → List Nat → List Nat → List Nat → List Nat → Hp → VK → Prop) : Sp := fun vs H Q _ => ∃ (p q : Addr) (b : Nat) (ss ls os ps : List Nat), vs = [.ref p, .ref q] ∧ SpreadAt CR H p b ss ls ∧ SpreadAt CR H q b os ps ∧ WfR b ss ls ∧ WfR b os ps ∧ ls.length = ps.length ∧ k b ss ls os ps H Q
def sp_need_fit (CR : Addr) : Sp := spTwo CR fun b ss ls os ps H Q => Q .non H
def sp_lane_sums (CR : Addr) : Sp := spTwo CR fun b ss ls os ps H Q => ∀ H' t, Same H H' → H t = none → H' t = some (.lst ((lsm ls ps).map vN)) → Q (.ref t) H'
def sp_both_rows (CR : Addr) : Sp := spTwo CR fun b ss ls os ps H Q => ∀ H' t t1 t2 t3 t4, Same H H' → H' t = some (.tup [.ref t1, .ref t2, .ref t3, .ref t4]) → H' t1 = some (.lst ((spn ss).map vN)) → H' t2 = some (.lst ((spn os).map vN)) → H' t3 = some (.lst ((spn (spn ss ++ spn os)).map vN)) → H' t4 = some (.lst ((mtd b (spn ss) (spn os)).map vN)) → Q (.ref t) H'
open Classical in
noncomputable def ahd (ss ls os ps : List Nat) : Bool := decide (∀ w ∈ lsm ls ps, Spn (ss ++ os) w)
def sp_all_hold (CR : Addr) : Sp := spTwo CR fun b ss ls os ps H Q => ∀ H', Same H H' → Q (.bl (ahd ss ls os ps)) H'
def sp_fewest_rounds (CR : Addr) : Sp := spTwo CR fun b ss ls os ps H Q => ∀ H', Same H H' → Q (vN (fwr ss ls os ps)) H'
def sp_short_lane (CR : Addr) : Sp := spTwo CR fun b ss ls os ps H Q => ∀ H' L, Same H H' → L < 2 ^ ls.length → due ss ls os ps L = fwr ss ls os ps → (∀ i, i < L → due ss ls os ps i ≠ fwr ss ls os ps) → Q (vN L) H'
def sp_lacks (CR : Addr) : Sp := fun vs H Q _ => ∃ (p q : Addr) (b : Nat) (ss ls os ps : List Nat) (L : Nat), vs = [.ref p, .ref q, vN L] ∧ SpreadAt CR H p b ss ls ∧ SpreadAt CR H q b os ps ∧ WfR b ss ls ∧ WfR b os ps ∧ ls.length = ps.length ∧ L < 2 ^ ls.length ∧ ∀ H', Same H H' → Q (vN (due ss ls os ps L)) H'
theorem need_in {ws : List Nat} {x : Nat} : decide (vN (clr (spn ws) x) = .int 0) = true ↔ Spn ws x := by
  rw [decide_eq_true_iff, ← clr_spn_zero]
  constructor
  · intro h
    have := V.int.inj h
    omega
  · intro h
    rw [h]; rfl
theorem pe_fldK {X : Cx} {K : PySem.W.Frag} {e : Expr} {ta : TE} {f : Str} {pos : Pos} (he : PE X e ta) (hb : attributeBase e f X.env (eval e X.env) = eval e X.env) (hK : X.K = K := by rfl) : PE X (.Attribute e f pos) (tFld K ta f) := by
  subst hK
  exact pe_fld he hb
section
variable {P : Program} {w : World} {K : PySem.W.Frag} {mg : Str → Option Value} {base : Heap} {f : Addr} {fd : FuncData} {CR : Addr} (T : Bt mg) (TR : SpreadT K mg CR)
include T
include TR in
theorem ok_need_fit (F : FnP K "need_fit" "need_fit" s_need_fit f fd) (D_any_spread : Dn P w K mg base 1 "any_spread" ["value"] (sp_any_spread CR)) : FnOk P w K mg base CX0 2 f fd ["one", "other"] (sp_need_fit CR) := by
  have nd := sc_need_fit.nd
  refine fnok F sc_need_fit (fun vs H Q E h => ?_) (fun cdv A outer s H vs Q E hr h => ?_)
  · obtain ⟨p, q, b, ss, ls, os, ps, rfl, _⟩ := h
    rfl
  · obtain ⟨p, q, b, ss, ls, os, ps, rfl, hp, hq, wf, wf2, hl, k⟩ := h
    refine ⟨_, (pss_cons (ps_expr (pe_d D_any_spread hr (pa_cons (pv 0) pa_nil)))
  (pss_cons (ps_expr (pe_d D_any_spread hr (pa_cons (pv 1) pa_nil)))
  (pss_one (ps_if (PW.pt (pw_or (pt_cmpR op_ne (pe_fld (pv 0) rfl) (pe_fld (pv 1) rfl) (nomark _)) (pw_or1 (pt_cmpR op_ne (pe_callB call_lenQ (by rfl) T.len PySem.boot_len (pa_cons (pe_fld (pv 0) rfl) pa_nil)) (pe_callB call_lenQ (by rfl) T.len PySem.boot_len (pa_cons (pe_fld (pv 1) rfl) pa_nil)) (nomark _)))))
    (pss_one ps_never)
    pss_nil)))), ?_⟩
    refine ⟨_, rfl, p, b, ss, ls, rfl, hp, _, rfl, q, b, os, ps, rfl, hq, ?_⟩
    obtain ⟨dx, t, u, h1, h2, h3⟩ := hp
    obtain ⟨dy, t', u', g1, g2, g3⟩ := hq
    refine ⟨_, rfl, p, CR, dx, _, vN b, rfl, h1, TR.cl, TR.nb, rfl, _, rfl, q, CR, dy, _, vN b, rfl, g1, TR.cl, TR.nb, rfl, rfl, _, rfl, ?_⟩
    rw [show (!decide (vN b = vN b)) = false by simp]
    refine iteF ⟨_, rfl, p, CR, dx, _, .ref u, rfl, h1, TR.cl, TR.nl, rfl, u, _, rfl, .inr h3, _, rfl, q, CR, dy, _, .ref u', rfl, g1, TR.cl, TR.nl, rfl, u', _, rfl, .inr g3, rfl, _, rfl, ?_⟩
    rw [List.length_map, List.length_map, hl, show (!decide (vN ps.length = vN ps.length)) = false by simp]
    exact iteF k
include TR in
theorem ok_lane_sums (F : FnP K "lane_sums" "lane_sums" s_lane_sums f fd) : FnOk P w K mg base CX0 1 f fd ["one", "other"] (sp_lane_sums CR) := by
  have nd := sc_lane_sums.nd
  refine fnok F sc_lane_sums (fun vs H Q E h => ?_) (fun cdv A outer s H vs Q E hr h => ?_)
  · obtain ⟨p, q, b, ss, ls, os, ps, rfl, _⟩ := h
    rfl
  · obtain ⟨p, q, b, ss, ls, os, ps, rfl, hp, hq, wf, wf2, hl, k⟩ := h
    refine ⟨_, (pss_one (ps_ret (pe_lc (own := [("at", 2), ("word", 3)]) (g := gTup K 2 (gCons (gName 2) (gCons (gName 3) gNil))) (by rfl) nd (pi_enumT (by rfl) T.enumerate (pa_cons (pe_fld (pv 0) rfl) pa_nil)) (blkOk_by (own := [("at", 2), ("word", 3)]) (N := ["one", "other", "at", "word"]) (sc := defScope s_lane_sums) (by decide +kernel)) (fun _ _ _ _ _ => (pg_tup (by rfl) (pgs_cons (pg_name (i := 2) nd rfl (Or.inl rfl)) (pgs_cons (pg_name (i := 3) nd rfl (Or.inl rfl)) pgs_nil)))) (fun _ _ _ _ _ => pts_nil) (fun _ _ _ _ _ => (pe_op on_xor (pv 3) (pe_ix ix_q (pe_fldK (K := K) (pv 1) rfl) (pv 2) (fun _ _ => rfl))))))), ?_⟩
    obtain ⟨dx, t, u, h1, h2, h3⟩ := hp
    obtain ⟨dy, t', u', g1, g2, g3⟩ := hq
    have wl := wf.ll
    refine ⟨_, rfl, p, CR, dx, _, .ref u, rfl, h1, TR.cl, TR.nl, rfl, u, _, rfl, SqT.of h3, lc_pureE (fun i => vN (ls.getD i 0 ^^^ ps.getD i 0)) h3 (by rw [List.length_map]; omega) (fun i x H' T' hx s hT => ?_) (fun D H' hD s h' => ?_)⟩
    · intro Z Nx z1 z2
      obtain ⟨y, hy, rfl⟩ := map_get hx
      have il := (List.getElem?_eq_some_iff.mp hy).1
      refine ⟨T', _, rfl, SqT.of hT, rfl, _, _, rfl, _, _, rfl, rfl, rfl, _, rfl, _, rfl, q, CR, dy, _, .ref u', rfl, s _ _ g1, TR.cl, TR.nl, rfl, _, rfl, u', _, i, vN (ps.getD i 0), rfl, rfl, .inr (s _ _ g3), ?_, _, ps.getD i 0, rfl, rfl, ?_⟩
      · rw [List.getElem?_map, List.getElem?_eq_getElem (by omega), List.getD_eq_getElem?_getD, List.getElem?_eq_getElem (by omega)]; rfl
      · have e : y = ls.getD i 0 := by rw [List.getD_eq_getElem?_getD, hy]; rfl
        rw [e]
        exact z1 rfl _ (Same.refl _)
    · rw [List.length_map] at h'
      exact k _ _ s hD (by rw [h']; simp [lsm])
include TR in
theorem ok_both_rows (F : FnP K "both_rows" "both_rows" s_both_rows f fd) (D_spanned : Dn P w K mg base 3 "spanned" ["words"] sp_spanned) (D_met : Dn P w K mg base 4 "met" ["bits", "rows", "others"] sp_met) : FnOk P w K mg base CX0 5 f fd ["one", "other"] (sp_both_rows CR) := by
  have nd := sc_both_rows.nd
  refine fnok F sc_both_rows (fun vs H Q E h => ?_) (fun cdv A outer s H vs Q E hr h => ?_)
  · obtain ⟨p, q, b, ss, ls, os, ps, rfl, _⟩ := h
    rfl
  · obtain ⟨p, q, b, ss, ls, os, ps, rfl, hp, hq, wf, wf2, hl, k⟩ := h
    refine ⟨_, (pss_cons (ps_par (i := 2) (j := 3) (by rfl) nd rfl rfl (by decide) rfl rfl (pa_cons (pe_d D_spanned hr (pa_cons (pe_fld (pv 0) rfl) pa_nil)) (pa_cons (pe_d D_spanned hr (pa_cons (pe_fld (pv 1) rfl) pa_nil)) pa_nil)) (by rfl))
  (pss_one (ps_ret (pe_tup (pa_cons (pv 2) (pa_cons (pv 3) (pa_cons (pe_d D_spanned hr (pa_cons (pe_op op_cat (pv 2) (pv 3)) pa_nil)) (pa_cons (pe_d D_met hr (pa_cons (pe_fld (pv 0) rfl) (pa_cons (pv 2) (pa_cons (pv 3) pa_nil)))) pa_nil)))))))), ?_⟩
    obtain ⟨dx, t, u, h1, h2, h3⟩ := hp
    obtain ⟨dy, t', u', g1, g2, g3⟩ := hq
    have wsl := wf.sl
    have wsl2 := wf2.sl
    have wb := wf.bb
    refine ⟨_, rfl, p, CR, dx, _, .ref t, rfl, h1, TR.cl, TR.ns, rfl, t, ss, rfl, .inr h2, (by omega), fun H1 r1 s1 hr1 e1 => ?_⟩
    refine ⟨_, rfl, q, CR, dy, _, .ref t', rfl, s1 _ _ g1, TR.cl, TR.ns, rfl, t', os, rfl, .inr (s1 _ _ g2), (by omega), fun H2 r2 s2 hr2 e2 => ⟨_, _, rfl, ?_⟩⟩
    have s02 := s1.trans s2
    have l1 := spn_len ss
    have l2 := spn_len os
    refine ⟨_, rfl, _, rfl, _, rfl, _, rfl, r1, r2, _, _, rfl, rfl, s2 _ _ e1, e2, (by rw [List.length_map, List.length_map, sizeLine_eq]; omega), fun x hx => ?_⟩
    have s3 := same_new0 (o := .lst ((spn ss).map vN ++ (spn os).map vN)) hx
    refine ⟨x, spn ss ++ spn os, rfl, .inl (by rw [upd_same, List.map_append]), (by rw [List.length_append]; omega), fun H4 r3 s4 hr3 e3 => ?_⟩
    have s24 := s3.trans s4
    have bl : ∀ r ∈ spn ss, blen r ≤ 1000000 := fun r hr => Nat.le_trans (spn_blen wf.s r hr) (by omega)
    have bl2 : ∀ r ∈ spn os, blen r ≤ 1000000 := fun r hr => Nat.le_trans (spn_blen wf2.s r hr) (by omega)
    refine ⟨_, rfl, p, CR, dx, _, vN b, rfl, s24 _ _ (s02 _ _ h1), TR.cl, TR.nb, rfl, _, rfl, _, rfl, b, r1, r2, spn ss, spn os, rfl, .inl (s24 _ _ (s2 _ _ e1)), .inl (s24 _ _ e2), (by omega), (by omega), (by omega), bl, bl2, fun H5 r4 s5 hr4 e4 => ?_⟩
    refine ⟨(by show 4 ≤ sizeLine; decide), fun y hy => ?_⟩
    have s6 := same_new0 (o := .tup [.ref r1, .ref r2, .ref r3, .ref r4]) hy
    have s25 := s24.trans s5
    exact k _ _ r1 r2 r3 r4 ((s02.trans s25).trans s6) upd_same (s6 _ _ (s25 _ _ (s2 _ _ e1))) (s6 _ _ (s25 _ _ e2)) (s6 _ _ (s5 _ _ e3)) (s6 _ _ e4)
end
end LaneX
set_option Elab.async false
set_option linter.all false
set_option maxRecDepth 100000
set_option maxHeartbeats 4000000
namespace LaneX
open PySem PySem.Spec PyProof.Rows L2
theorem both_span (ss os : List Nat) (x : Nat) : Spn (spn ss ++ spn os) x ↔ Spn (ss ++ os) x := span_app2 (spn_span ss) (spn_span os)
open Classical in
theorem ahd_all (ss ls os ps : List Nat) : ((lsm ls ps).map fun w => decide (vN (clr (spn (ss ++ os)) w) = .int 0)).all id = ahd ss ls os ps := by
  unfold ahd
  rw [Bool.eq_iff_iff, List.all_eq_true, decide_eq_true_iff]
  constructor
  · intro h w hw
    exact need_in.mp (h _ (List.mem_map.mpr ⟨w, hw, rfl⟩))
  · intro h b hb
    obtain ⟨w, hw, rfl⟩ := List.mem_map.mp hb
    exact need_in.mpr (h w hw)
open Classical in
theorem ahd_true {ss ls os ps : List Nat} : ahd ss ls os ps = true ↔ ∀ w ∈ lsm ls ps, Spn (ss ++ os) w := by
  unfold ahd
  exact decide_eq_true_iff
theorem lsm_blen {b : Nat} {ss ls os ps : List Nat} (wf : WfR b ss ls) (wf2 : WfR b os ps) (hl : ls.length = ps.length) : ∀ x ∈ lsm ls ps, blen x ≤ b := fun x hx => by
  obtain ⟨i, hi, rfl⟩ := List.mem_map.mp hx
  have hi := List.mem_range.mp hi
  exact blen_le.mpr (Nat.xor_lt_two_pow (blen_le.mp (wf.l _ (getD_mem hi))) (blen_le.mp (wf2.l _ (getD_mem (by omega)))))
theorem wf_lt {b : Nat} {ss ls : List Nat} (wf : WfR b ss ls) : ∀ x ∈ ss, x < 2 ^ b := fun x hx => blen_le.mp (wf.s x hx)
open Classical in
theorem fwr_ahd (ss ls os ps : List Nat) : fwr ss ls os ps = if ahd ss ls os ps = true then 2 ^ rk os - 2 ^ shr ss os else 2 ^ rk os := by
  unfold fwr ahd
  simp only [decide_eq_true_iff]
theorem shr_le (ss os : List Nat) : shr ss os ≤ rk os := by
  have := rk_left ss os
  unfold shr
  omega
section
variable {P : Program} {w : World} {K : PySem.W.Frag} {mg : Str → Option Value} {base : Heap} {f : Addr} {fd : FuncData} {CR : Addr} (T : Bt mg) (TR : SpreadT K mg CR)
include T TR
theorem ok_all_hold (F : FnP K "all_hold" "all_hold" s_all_hold f fd) (D_lane_sums : Dn P w K mg base 1 "lane_sums" ["one", "other"] (sp_lane_sums CR)) (D_spanned : Dn P w K mg base 3 "spanned" ["words"] sp_spanned) (D_cleared : Dn P w K mg base 1 "cleared" ["rows", "word"] sp_cleared) : FnOk P w K mg base CX0 4 f fd ["one", "other"] (sp_all_hold CR) := by
  have nd := sc_all_hold.nd
  refine fnok F sc_all_hold (fun vs H Q E h => ?_) (fun cdv A outer s H vs Q E hr h => ?_)
  · obtain ⟨p, q, b, ss, ls, os, ps, rfl, _⟩ := h
    rfl
  · obtain ⟨p, q, b, ss, ls, os, ps, rfl, hp, hq, wf, wf2, hl, k⟩ := h
    refine ⟨_, (pss_cons (ps_asg (pe_tup (pa_cons (pe_d D_lane_sums hr (pa_cons (pv 0) (pa_cons (pv 1) pa_nil))) (pa_cons (pe_d D_spanned hr (pa_cons (pe_op op_cat (pe_callTy call_listQ (by rfl) T.list (by decide +kernel) (pa_cons (pe_fld (pv 0) rfl) pa_nil)) (pe_callTy call_listQ (by rfl) T.list (by decide +kernel) (pa_cons (pe_fld (pv 1) rfl) pa_nil))) pa_nil)) pa_nil))) (pg_tup (by rfl) (pgs_cons (pg_name (i := 2) nd rfl (Or.inl rfl)) (pgs_cons (pg_name (i := 3) nd rfl (Or.inr rfl)) pgs_nil))))
  (pss_one (ps_ret (pe_callB (cr_all rfl) (by rfl) T.all (by decide +kernel) (pa_cons (pe_lc (own := [("word", 4)]) (g := gName 4) (by rfl) nd (pi_seq (pv 2)) (blkOk_by (own := [("word", 4)]) (N := ["one", "other", "sums", "both", "word"]) (sc := defScope s_all_hold) (by decide +kernel)) (fun _ _ _ _ _ => (pg_name (i := 4) nd rfl (Or.inl rfl))) (fun _ _ _ _ _ => pts_nil) (fun _ _ _ _ _ => (pe_cmpR op_eq (pe_d D_cleared hr (pa_cons (pv 3) (pa_cons (pv 4) pa_nil))) pe_int (nomark _)))) pa_nil))))), ?_⟩
    refine ⟨_, rfl, _, rfl, p, q, b, ss, ls, os, ps, rfl, hp, hq, wf, wf2, hl, fun H1 t s1 ht h1 => ?_⟩
    obtain ⟨dx, t1, u, h1', h2, h3⟩ := hp.same s1
    have wsl := wf.sl
    have wsl2 := wf2.sl
    refine ⟨_, rfl, p, CR, dx, _, .ref t1, rfl, h1', TR.cl, TR.ns, rfl, t1, _, rfl, .inr h2, fun x1 hx1 => ?_⟩
    have s2 := same_new0 (o := .lst (ss.map vN)) hx1
    obtain ⟨dy, t2, u', g1, g2, g3⟩ := (hq.same s1).same s2
    refine ⟨_, rfl, q, CR, dy, _, .ref t2, rfl, g1, TR.cl, TR.ns, rfl, t2, _, rfl, .inr g2, fun x2 hx2 => ?_⟩
    refine ⟨_, _, _, _, rfl, rfl, upd_new hx2 upd_same, upd_same, (by rw [List.length_map, List.length_map, sizeLine_eq]; omega), fun x3 hx3 => ?_⟩
    have s4 := same_new (o := .lst (ss.map vN ++ os.map vN)) (same_new (o := .lst (os.map vN)) s2 hx2) hx3
    refine ⟨x3, ss ++ os, rfl, .inl (by rw [upd_same, List.map_append]), (by rw [List.length_append]; omega), fun H5 r s5 hr5 e5 => ?_⟩
    have s15 := s4.trans s5
    refine ⟨(by show 2 ≤ sizeLine; decide), fun x4 hx4 => ⟨x4, _, rfl, SqT.of upd_same, rfl, _, _, rfl, _, _, rfl, rfl, ?_⟩⟩
    have s6 := same_new0 (o := .tup [.ref t, .ref r]) hx4
    have l1 := lsm_len ls ps
    have wll := wf.ll
    refine ⟨_, rfl, lc_pure (lsm ls ps) vN (fun _ => true) (fun w => .bl (decide (vN (clr (spn (ss ++ os)) w) = .int 0))) (.inl (s6 _ _ (s15 _ _ h1))) (by omega) (fun w H' hw s => ?_) (fun D H' hD s h' => ?_)⟩
    · intro Z Nx z1 z2
      exact ⟨rfl, _, rfl, _, rfl, r, _, w, rfl, .inl (s _ _ (s6 _ _ e5)), (spn_rws _).nz, rfl, z1 rfl _ (Same.refl _)⟩
    · rw [filt_true] at h'
      refine ⟨D, (lsm ls ps).map (fun w => decide (vN (clr (spn (ss ++ os)) w) = .int 0)), rfl, SqL.of (by rw [h', List.map_map]; rfl), ?_⟩
      rw [ahd_all]
      exact k _ (((s1.trans s15).trans s6).trans s)
theorem ok_fewest_rounds (F : FnP K "fewest_rounds" "fewest_rounds" s_fewest_rounds f fd) (D_need_fit : Dn P w K mg base 2 "need_fit" ["one", "other"] (sp_need_fit CR)) (D_both_rows : Dn P w K mg base 5 "both_rows" ["one", "other"] (sp_both_rows CR)) (D_all_hold : Dn P w K mg base 4 "all_hold" ["one", "other"] (sp_all_hold CR)) : FnOk P w K mg base CX0 6 f fd ["one", "other"] (sp_fewest_rounds CR) := by
  have nd := sc_fewest_rounds.nd
  refine fnok F sc_fewest_rounds (fun vs H Q E h => ?_) (fun cdv A outer s H vs Q E hr h => ?_)
  · obtain ⟨p, q, b, ss, ls, os, ps, rfl, _⟩ := h
    rfl
  · obtain ⟨p, q, b, ss, ls, os, ps, rfl, hp, hq, wf, wf2, hl, k⟩ := h
    refine ⟨_, (pss_cons (ps_expr (pe_d D_need_fit hr (pa_cons (pv 0) (pa_cons (pv 1) pa_nil))))
  (pss_cons (ps_asg (pe_d D_both_rows hr (pa_cons (pv 0) (pa_cons (pv 1) pa_nil))) (pg_tup (by rfl) (pgs_cons (pg_name (i := 2) nd rfl (Or.inl rfl)) (pgs_cons (pg_name (i := 3) nd rfl (Or.inl rfl)) (pgs_cons (pg_name (i := 4) nd rfl (Or.inl rfl)) (pgs_cons (pg_name (i := 5) nd rfl (Or.inl rfl)) pgs_nil))))))
  (pss_cons (ps_if (pt_val (pe_d D_all_hold hr (pa_cons (pv 0) (pa_cons (pv 1) pa_nil))))
    (pss_one (ps_ret (pe_op on_sub (pe_op on_shl pe_int (pe_callB call_lenQ (by rfl) T.len PySem.boot_len (pa_cons (pv 3) pa_nil))) (pe_op on_shl pe_int (pe_callB call_lenQ (by rfl) T.len PySem.boot_len (pa_cons (pv 5) pa_nil))))))
    pss_nil)
  (pss_one (ps_ret (pe_op on_shl pe_int (pe_callB call_lenQ (by rfl) T.len PySem.boot_len (pa_cons (pv 3) pa_nil)))))))), ?_⟩
    refine ⟨_, rfl, _, rfl, p, q, b, ss, ls, os, ps, rfl, hp, hq, wf, wf2, hl, ?_⟩
    refine ⟨_, rfl, _, rfl, p, q, b, ss, ls, os, ps, rfl, hp, hq, wf, wf2, hl, fun H1 t t1 t2 t3 t4 s1 e e1 e2 e3 e4 => ?_⟩
    refine ⟨t, _, rfl, SqT.of e, rfl, _, _, rfl, _, _, rfl, _, _, rfl, _, _, rfl, rfl, ?_⟩
    refine ⟨_, rfl, _, rfl, p, q, b, ss, ls, os, ps, rfl, hp.same s1, hq.same s1, wf, wf2, hl, fun H2 s2 => ?_⟩
    have o1 : blen 1 ≤ 1000000 := by rw [blen_one]; decide
    have wsl := wf2.sl
    have l1 : (spn os).length = rk os := rfl
    have l2 := rk_len os
    have l3 : (mtd b (spn ss) (spn os)).length = shr ss os := mtd_shr (wf_lt wf)
    have l4 := shr_le ss os
    have pw : 1 <<< shr ss os ≤ 1 <<< rk os := by rw [Nat.one_shiftLeft, Nat.one_shiftLeft]; exact Nat.pow_le_pow_right (by decide) l4
    have fe := fwr_ahd ss ls os ps
    refine ⟨_, rfl, br (fun z => ?_) (fun z => ?_)⟩
    · rw [if_pos z] at fe
      refine ⟨_, rfl, t2, _, rfl, .inl (s2 _ _ e2), 1, (spn os).length, rfl, (by rw [List.length_map]), shl_ok1 o1 (by omega), ?_⟩
      refine ⟨_, rfl, t4, _, rfl, .inl (s2 _ _ e4), 1, shr ss os, rfl, (by rw [List.length_map, l3]), shl_ok1 o1 (by omega), _, _, rfl, rfl, pw, ?_⟩
      rw [l1, Nat.one_shiftLeft, Nat.one_shiftLeft, ← fe]
      exact k _ (s1.trans s2)
    · rw [if_neg (by rw [z]; decide)] at fe
      refine ⟨_, rfl, t2, _, rfl, .inl (s2 _ _ e2), 1, (spn os).length, rfl, (by rw [List.length_map]), shl_ok1 o1 (by omega), ?_⟩
      rw [l1, Nat.one_shiftLeft, ← fe]
      exact k _ (s1.trans s2)
theorem ok_lacks (F : FnP K "lacks" "lacks" s_lacks f fd) (D_any_spread : Dn P w K mg base 1 "any_spread" ["value"] (sp_any_spread CR)) (D_need_word : Dn P w K mg base 2 "need_word" ["value", "bits"] sp_need_word) (D_need_fit : Dn P w K mg base 2 "need_fit" ["one", "other"] (sp_need_fit CR)) (D_both_rows : Dn P w K mg base 5 "both_rows" ["one", "other"] (sp_both_rows CR)) (D_cleared : Dn P w K mg base 1 "cleared" ["rows", "word"] sp_cleared) (D_image_of : Dn P w K mg base 4 "image_of" ["columns", "word"] sp_image_of) (D_lane_sums : Dn P w K mg base 1 "lane_sums" ["one", "other"] (sp_lane_sums CR)) : FnOk P w K mg base CX0 6 f fd ["one", "other", "lane"] (sp_lacks CR) := by
  have nd := sc_lacks.nd
  refine fnok F sc_lacks (fun vs H Q E h => ?_) (fun cdv A outer s H vs Q E hr h => ?_)
  · obtain ⟨p, q, b, ss, ls, os, ps, L, rfl, _⟩ := h
    rfl
  · obtain ⟨p, q, b, ss, ls, os, ps, L, rfl, hp, hq, wf, wf2, hl, hL, k⟩ := h
    refine ⟨_, (pss_cons (ps_expr (pe_d D_any_spread hr (pa_cons (pv 0) pa_nil)))
  (pss_cons (ps_expr (pe_d D_any_spread hr (pa_cons (pv 1) pa_nil)))
  (pss_cons (ps_expr (pe_d D_need_word hr (pa_cons (pv 2) (pa_cons (pe_callB call_lenQ (by rfl) T.len PySem.boot_len (pa_cons (pe_fld (pv 0) rfl) pa_nil)) pa_nil))))
  (pss_cons (ps_expr (pe_d D_need_fit hr (pa_cons (pv 0) (pa_cons (pv 1) pa_nil))))
  (pss_cons (ps_asg (pe_d D_both_rows hr (pa_cons (pv 0) (pa_cons (pv 1) pa_nil))) (pg_tup (by rfl) (pgs_cons (pg_name (i := 3) nd rfl (Or.inl rfl)) (pgs_cons (pg_name (i := 4) nd rfl (Or.inl rfl)) (pgs_cons (pg_name (i := 5) nd rfl (Or.inl rfl)) (pgs_cons (pg_name (i := 6) nd rfl (Or.inl rfl)) pgs_nil))))))
  (pss_cons (ps_if (pt_cmpR op_eq (pe_d D_cleared hr (pa_cons (pv 5) (pa_cons (pe_d D_image_of hr (pa_cons (pe_d D_lane_sums hr (pa_cons (pv 0) (pa_cons (pv 1) pa_nil))) (pa_cons (pv 2) pa_nil))) pa_nil))) pe_int (nomark _))
    (pss_one (ps_ret (pe_op on_sub (pe_op on_shl pe_int (pe_callB call_lenQ (by rfl) T.len PySem.boot_len (pa_cons (pv 4) pa_nil))) (pe_op on_shl pe_int (pe_callB call_lenQ (by rfl) T.len PySem.boot_len (pa_cons (pv 6) pa_nil))))))
    pss_nil)
  (pss_one (ps_ret (pe_op on_shl pe_int (pe_callB call_lenQ (by rfl) T.len PySem.boot_len (pa_cons (pv 4) pa_nil))))))))))), ?_⟩
    refine ⟨_, rfl, p, b, ss, ls, rfl, hp, _, rfl, q, b, os, ps, rfl, hq, ?_⟩
    obtain ⟨dx, t0, u, h1, h2, h3⟩ := id hp
    refine ⟨_, rfl, _, rfl, p, CR, dx, _, .ref u, rfl, h1, TR.cl, TR.nl, rfl, u, _, rfl, .inr h3, L, (ls.map vN).length, rfl, (by rw [List.length_map]; exact blen_le.mpr hL), ?_⟩
    refine ⟨_, rfl, _, rfl, p, q, b, ss, ls, os, ps, rfl, hp, hq, wf, wf2, hl, ?_⟩
    refine ⟨_, rfl, _, rfl, p, q, b, ss, ls, os, ps, rfl, hp, hq, wf, wf2, hl, fun H1 t t1 t2 t3 t4 s1 e e1 e2 e3 e4 => ?_⟩
    refine ⟨t, _, rfl, SqT.of e, rfl, _, _, rfl, _, _, rfl, _, _, rfl, _, _, rfl, rfl, ?_⟩
    refine ⟨_, rfl, _, rfl, _, rfl, p, q, b, ss, ls, os, ps, rfl, hp.same s1, hq.same s1, wf, wf2, hl, fun H2 a2 s2 ha2 g2 => ?_⟩
    have ll := lsm_len ls ps
    have wll := wf.ll
    refine ⟨_, rfl, a2, lsm ls ps, L, rfl, .inl g2, (by omega), (by rw [ll]; exact hL), fun H3 s3 => ?_⟩
    have s13 := s2.trans s3
    refine ⟨t3, _, _, rfl, .inl (s13 _ _ e3), (spn_rws _).nz, rfl, _, rfl, ?_⟩
    have o1 : blen 1 ≤ 1000000 := by rw [blen_one]; decide
    have wsl := wf2.sl
    have l1 : (spn os).length = rk os := rfl
    have l2 := rk_len os
    have l3 : (mtd b (spn ss) (spn os)).length = shr ss os := mtd_shr (wf_lt wf)
    have l4 := shr_le ss os
    have pw : 1 <<< shr ss os ≤ 1 <<< rk os := by rw [Nat.one_shiftLeft, Nat.one_shiftLeft]; exact Nat.pow_le_pow_right (by decide) l4
    have de := due_eq (os := os) (wf_lt wf) hl L
    refine br (fun z => ?_) (fun z => ?_)
    · rw [if_pos ((both_span ss os _).mp (need_in.mp z))] at de
      refine ⟨_, rfl, t2, _, rfl, .inl (s13 _ _ e2), 1, (spn os).length, rfl, (by rw [List.length_map]), shl_ok1 o1 (by omega), ?_⟩
      refine ⟨_, rfl, t4, _, rfl, .inl (s13 _ _ e4), 1, shr ss os, rfl, (by rw [List.length_map, l3]), shl_ok1 o1 (by omega), _, _, rfl, rfl, pw, ?_⟩
      rw [l1, Nat.one_shiftLeft, Nat.one_shiftLeft, ← de]
      exact k _ (s1.trans s13)
    · rw [if_neg (fun y => by rw [need_in.mpr ((both_span ss os _).mpr y)] at z; cases z)] at de
      refine ⟨_, rfl, t2, _, rfl, .inl (s13 _ _ e2), 1, (spn os).length, rfl, (by rw [List.length_map]), shl_ok1 o1 (by omega), ?_⟩
      rw [l1, Nat.one_shiftLeft, ← de]
      exact k _ (s1.trans s13)
end
end LaneX
set_option Elab.async false
set_option linter.all false
set_option maxRecDepth 100000
set_option maxHeartbeats 4000000
namespace LaneX
open PySem PySem.Spec PyProof.Rows L2
/-! ### maps -/
structure MapT (K : PySem.W.Frag) (mg : Str → Option Value) (C : Addr) : Prop extends ObjT K C where
  gl : mg "Map" = some (.ref C)
  ng : NoAttr K C "goal"
  nc : NoAttr K C "columns"
  ns : NoAttr K C "source"
def mpf (b : Nat) (t : Addr) (d : Nat) : List (Str × V) := [("goal", vN b), ("columns", .ref t), ("source", vN d)]
def MapAt (C : Addr) (H : Hp) (p : Addr) (b : Nat) (cs : List Nat) : Prop := ∃ dx t, H p = some (.ins C dx (mpf b t cs.length)) ∧ H t = some (.tup (cs.map vN))
theorem MapAt.same {C : Addr} {H H' : Hp} {p : Addr} {b : Nat} {cs : List Nat} (h : MapAt C H p b cs) (s : Same H H') : MapAt C H' p b cs := by
  obtain ⟨dx, t, h1, h2⟩ := h
  exact ⟨dx, t, s _ _ h1, s _ _ h2⟩
def sp_Map (C : Addr) : Sp := fun vs H Q _ => ∃ (p dx : Addr) (b : Nat) (a : Addr) (cs : List Nat), vs = [.ref p, vN b, .ref a] ∧ H p = some (.ins C dx []) ∧ Tq H a (cs.map vN) ∧ (∀ x ∈ cs, blen x ≤ b) ∧
  ∀ H', MapAt C H' p b cs → (∀ c o, H c = some o → c ≠ p → H' c = some o) → Q .non H'
def sp_kernel (CS CM : Addr) : Sp := fun vs H Q _ => ∃ (p : Addr) (b : Nat) (cs : List Nat), vs = [.ref p] ∧ MapAt CM H p b cs ∧ b ≤ 1000000 ∧ (∀ x ∈ cs, blen x ≤ b) ∧ cs.length ≤ 1000000 ∧ spNewSpace CS cs.length (spn (ker cs)) H Q
def sp_placing (CM CR : Addr) : Sp := fun vs H Q _ => ∃ (p : Addr) (b : Nat) (ss ls : List Nat), vs = [.ref p] ∧ SpreadAt CR H p b ss ls ∧ WfR b ss ls ∧ ∀ H' q, Same H H' → H q = none → MapAt CM H' q b (ss ++ ls) → Q (.ref q) H'
def sp_copies (CS CR : Addr) : Sp := fun vs H Q _ => ∃ (p : Addr) (b : Nat) (ss ls : List Nat), vs = [.ref p] ∧ SpreadAt CR H p b ss ls ∧ WfR b ss ls ∧ spNewSpace CS (ss ++ ls).length (spn (ker (ss ++ ls))) H Q
def sp_entry (CR : Addr) : Sp := fun vs H Q _ => ∃ (p : Addr) (b x y : Nat) (ss ls : List Nat), vs = [.ref p, vN x, vN y] ∧ SpreadAt CR H p b ss ls ∧ WfR b ss ls ∧ x < 2 ^ ss.length ∧ y < 2 ^ ls.length ∧ ∀ H', Same H H' → Q (vN (img ss x ^^^ img ls y)) H'
def sp_or (CR : Addr) : Sp := fun vs H Q _ => ∃ (p q : Addr) (b c : Nat) (s1 l1 s2 l2 : List Nat), vs = [.ref p, .ref q] ∧ SpreadAt CR H p b s1 l1 ∧ SpreadAt CR H q c s2 l2 ∧ WfR b s1 l1 ∧ WfR c s2 l2 ∧ b ≤ rk (s1 ++ l1) ∧ c ≤ rk (s2 ++ l2) ∧ b + c ≤ 100000 ∧ s1.length + s2.length ≤ 100000 ∧ l1.length + l2.length ≤ 100000 ∧
  ∀ H' r, Same H H' → H r = none → SpreadAt CR H' r (b + c) (jn b s1 s2) (jn b l1 l2) → Q (.ref r) H'
def sp_left_over : Sp := fun vs H Q _ => ∃ (a c : Addr) (b : Nat) (fs B : List Nat), vs = [.ref a, .ref c, vN b] ∧ H a = some (.tup ((jn b fs B).map vN)) ∧ H c = some (.tup (fs.map vN)) ∧ b ≤ 100000 ∧ fs.length + B.length ≤ 100000 ∧ ∀ H' q, Same H H' → H q = none → H' q = some (.lst (B.map vN)) → Q (.ref q) H'
def sp_floordiv (CR : Addr) : Sp := fun vs H Q _ => ∃ (p q : Addr) (b c : Nat) (s1 l1 s2 l2 : List Nat), vs = [.ref p, .ref q] ∧ SpreadAt CR H p (b + c) (jn b s1 s2) (jn b l1 l2) ∧ SpreadAt CR H q b s1 l1 ∧ WfR b s1 l1 ∧ WfR c s2 l2 ∧ c ≤ rk (s2 ++ l2) ∧ b + c ≤ 100000 ∧ s1.length + s2.length ≤ 100000 ∧ l1.length + l2.length ≤ 100000 ∧
  ∀ H' r, Same H H' → H r = none → SpreadAt CR H' r c s2 l2 → Q (.ref r) H'
theorem mk_Map {C : Addr} {H1 : Hp} {b : Nat} {a : Addr} {cs : List Nat} {Q : VK} {E : XK} (hS : Tq H1 a (cs.map vN)) (hb : ∀ x ∈ cs, blen x ≤ b) (k : ∀ H' p, Same H1 H' → H1 p = none → MapAt C H' p b cs → Q (.ref p) H') :
    ∀ x dx, H1 x = none → H1 dx = none → dx ≠ x → sp_Map C (.ref x :: ([vN b, .ref a] ++ [])) (upd (upd H1 dx (.own x)) x (.ins C dx [])) (fun v H2 => v = .non ∧ Q (.ref x) H2) E := by
  intro x dx nx ndx ne
  have nx' : upd H1 dx (.own x) x = none := (upd_ne ne.symm).trans nx
  refine ⟨x, dx, b, a, cs, rfl, upd_same, (hS.new ndx).new nx', hb, fun H' hA kp => ⟨rfl, k _ _ (made_same nx ndx kp) nx hA⟩⟩
theorem wf_join {b c : Nat} {s1 l1 s2 l2 : List Nat} (w1 : WfR b s1 l1) (w2 : WfR c s2 l2) (h0 : b + c ≤ 100000) (h1 : s1.length + s2.length ≤ 100000) (h2 : l1.length + l2.length ≤ 100000) : WfR (b + c) (jn b s1 s2) (jn b l1 l2) := by
  refine ⟨by omega, fun x hx => blen_le.mpr ?_, fun x hx => blen_le.mpr ?_, by rw [jn_len]; omega, by rw [jn_len]; omega⟩
  · exact jn_lt (fun x hx => blen_le.mp (w1.s x hx)) (fun x hx => blen_le.mp (w2.s x hx)) x hx
  · exact jn_lt (fun x hx => blen_le.mp (w1.l x hx)) (fun x hx => blen_le.mp (w2.l x hx)) x hx
section
variable {P : Program} {w : World} {K : PySem.W.Frag} {mg : Str → Option Value} {base : Heap} {f : Addr} {fd : FuncData} {CS CR CM : Addr} (T : Bt mg) (TS : SpaceT K mg CS) (TR : SpreadT K mg CR) (TM : MapT K mg CM)
include T
include TM in
theorem ok_Map (F : FnP K "__init__" "Map.__init__" s_Map_init f fd) (D_need_whole : Dn P w K mg base 2 "need_whole" ["value"] sp_need_whole) (D_need_words : Dn P w K mg base 3 "need_words" ["values", "bits"] sp_need_words) :
    FnOk P w K mg base CX0 4 f fd ["self", "goal", "columns"] (sp_Map CM) := by
  have nd := sc_Map_init.nd
  refine fnok F sc_Map_init (fun vs H Q E h => ?_) (fun cdv A outer s H vs Q E hr h => ?_)
  · obtain ⟨p, dx, b, a, cs, rfl, _⟩ := h
    rfl
  · obtain ⟨p, dx, b, a, cs, rfl, hp, hS, hb, k⟩ := h
    refine ⟨_, (pss_cons (ps_expr (pe_d D_need_whole hr (pa_cons (pv 1) pa_nil)))
  (pss_cons (ps_fld (pv 0) (pv 1) rfl)
  (pss_cons (ps_fld (pv 0) (pe_callTy call_tupleQ (by rfl) T.tuple (by decide +kernel) (pa_cons (pe_d D_need_words hr (pa_cons (pv 2) (pa_cons (pv 1) pa_nil))) pa_nil)) rfl)
  (pss_one (ps_fld (pv 0) (pe_callB call_lenQ (by rfl) T.len PySem.boot_len (pa_cons (pe_fld (pv 0) rfl) pa_nil)) rfl))))), ?_⟩
    have nap : a ≠ p := by
      rcases hS with h | h
      · exact ne_of h hp (by intro z; cases z)
      · exact ne_of h hp (by intro z; cases z)
    have hS1 : Tq (upd H p (.ins CM dx (putF "goal" (vN b) []))) a (cs.map vN) := hS.elim (fun h => .inl (upd_put h nap)) fun h => .inr (upd_put h nap)
    refine ⟨_, rfl, b, rfl, _, rfl, _, rfl, p, CM, dx, [], rfl, hp, TM.cl, TM.ng, (by decide), ?_⟩
    refine ⟨_, rfl, _, rfl, a, cs, b, rfl, hS1, hb, fun H1 q1 s1 hq1 h1 => ?_⟩
    refine ⟨q1, _, rfl, h1, fun t ht => ?_⟩
    have hpt : p ≠ t := ne_of_none (s1 _ _ upd_same) ht
    have hp3 : upd H1 t (.tup (cs.map vN)) p = some (.ins CM dx (putF "goal" (vN b) [])) := upd_put (s1 _ _ upd_same) hpt
    refine ⟨_, rfl, p, CM, dx, _, rfl, hp3, TM.cl, TM.nc, (by show 1 < 1000; decide), ?_⟩
    refine ⟨_, rfl, p, CM, dx, _, .ref t, rfl, upd_same, TM.cl, TM.nc, rfl, t, _, rfl, .inr (upd_put upd_same hpt.symm), ?_⟩
    refine ⟨_, rfl, p, CM, dx, _, rfl, upd_same, TM.cl, TM.ns, (by show 2 < 1000; decide), ?_⟩
    refine k _ ⟨dx, t, ?_, upd_put (upd_put upd_same hpt.symm) hpt.symm⟩ fun c o hc hcp => ?_
    · rw [upd_same, List.length_map]
      rfl
    · have e1 : upd H p (.ins CM dx (putF "goal" (vN b) [])) c = some o := upd_put hc hcp
      have e2 := s1 _ _ e1
      exact upd_put (upd_put (upd_put e2 (ne_of_none e2 ht)) hcp) hcp
include TM in
theorem ok_kernel (F : FnP K "kernel" "Map.kernel" s_Map_kernel f fd) (D_kernel_rows : Dn P w K mg base 5 "kernel_rows" ["columns"] sp_kernel_rows) (K_Space : Kn P w K mg base 4 CS "Space" ["self", "bits", "words"] (sp_Space CS)) : FnOk P w K mg base CX0 6 f fd ["self"] (sp_kernel CS CM) := by
  have nd := sc_Map_kernel.nd
  refine fnok F sc_Map_kernel (fun vs H Q E h => ?_) (fun cdv A outer s H vs Q E hr h => ?_)
  · obtain ⟨p, b, cs, rfl, _⟩ := h
    rfl
  · obtain ⟨p, b, cs, rfl, ⟨dx, t, h1, h2⟩, hb, hw, hl, k⟩ := h
    refine ⟨_, (pss_one (ps_ret (pe_k K_Space hr (pa_cons (pe_fld (pv 0) rfl) (pa_cons (pe_d D_kernel_rows hr (pa_cons (pe_fld (pv 0) rfl) pa_nil)) pa_nil))))), ?_⟩
    refine ⟨_, rfl, p, CM, dx, _, vN cs.length, rfl, h1, TM.cl, TM.ns, rfl, ?_⟩
    refine ⟨_, rfl, p, CM, dx, _, .ref t, rfl, h1, TM.cl, TM.nc, rfl, t, cs, rfl, .inr h2, hl, fun c hc => Nat.le_trans (hw c hc) hb, fun H1 q1 s1 hq1 g1 => ?_⟩
    refine mk_Space (.inl g1) (ker_blen cs) (Nat.le_trans (ker_len cs) hl) (fun H' p s2 hp hA => k _ _ (s1.trans s2) (same_free s1 hp) hA)
include TR in
theorem ok_placing (F : FnP K "placing" "Spread.placing" s_Spread_placing f fd) (K_Map : Kn P w K mg base 4 CM "Map" ["self", "goal", "columns"] (sp_Map CM)) : FnOk P w K mg base CX0 6 f fd ["self"] (sp_placing CM CR) := by
  have nd := sc_Spread_placing.nd
  refine fnok F sc_Spread_placing (fun vs H Q E h => ?_) (fun cdv A outer s H vs Q E hr h => ?_)
  · obtain ⟨p, b, ss, ls, rfl, _⟩ := h
    rfl
  · obtain ⟨p, b, ss, ls, rfl, ⟨dx, t, u, h1, h2, h3⟩, wf, k⟩ := h
    refine ⟨_, (pss_one (ps_ret (pe_k K_Map hr (pa_cons (pe_fld (pv 0) rfl) (pa_cons (pe_op op_cat (pe_callTy call_listQ (by rfl) T.list (by decide +kernel) (pa_cons (pe_fld (pv 0) rfl) pa_nil)) (pe_callTy call_listQ (by rfl) T.list (by decide +kernel) (pa_cons (pe_fld (pv 0) rfl) pa_nil))) pa_nil))))), ?_⟩
    have wsl := wf.sl
    have wll := wf.ll
    refine ⟨_, rfl, p, CR, dx, _, vN b, rfl, h1, TR.cl, TR.nb, rfl, ?_⟩
    refine ⟨_, rfl, p, CR, dx, _, .ref t, rfl, h1, TR.cl, TR.ns, rfl, t, _, rfl, .inr h2, fun a1 ha1 => ?_⟩
    have s1 : Same H (upd H a1 (.lst (ss.map vN))) := same_new0 ha1
    refine ⟨_, rfl, p, CR, dx, _, .ref u, rfl, s1 _ _ h1, TR.cl, TR.nl, rfl, u, _, rfl, .inr (s1 _ _ h3), fun a2 ha2 => ?_⟩
    have s2 := same_new (o := .lst (ls.map vN)) s1 ha2
    refine ⟨_, _, _, _, rfl, rfl, upd_new ha2 upd_same, upd_same, (by rw [List.length_map, List.length_map, sizeLine_eq]; omega), fun a3 ha3 => ?_⟩
    have s3 := same_new (o := .lst (ss.map vN ++ ls.map vN)) s2 ha3
    refine mk_Map (cs := ss ++ ls) (.inl (by rw [upd_same, List.map_append])) (fun x hx => ?_) (fun H' p s4 hp hA => k _ _ (s3.trans s4) (same_free s3 hp) hA)
    rcases List.mem_append.mp hx with hx | hx
    · exact wf.s x hx
    · exact wf.l x hx
omit T in
theorem ok_copies (F : FnP K "copies" "Spread.copies" s_Spread_copies f fd) (M_Spread_placing : Mn P w K mg base 6 CR "placing" ["self"] (sp_placing CM CR)) (M_Map_kernel : Mn P w K mg base 6 CM "kernel" ["self"] (sp_kernel CS CM)) : FnOk P w K mg base CX0 7 f fd ["self"] (sp_copies CS CR) := by
  have nd := sc_Spread_copies.nd
  refine fnok F sc_Spread_copies (fun vs H Q E h => ?_) (fun cdv A outer s H vs Q E hr h => ?_)
  · obtain ⟨p, b, ss, ls, rfl, _⟩ := h
    rfl
  · obtain ⟨p, b, ss, ls, rfl, hp, wf, k⟩ := h
    refine ⟨_, (pss_one (ps_ret (pe_m0 (pe_m0 (pv 0) M_Spread_placing hr) M_Map_kernel hr))), ?_⟩
    obtain ⟨dx, t, u, h1, h2, h3⟩ := id hp
    refine ⟨_, rfl, p, dx, _, rfl, h1, rfl, p, b, ss, ls, rfl, hp, wf, fun H1 x1 s1 hx1 g1 => ?_⟩
    obtain ⟨dz, z, g2, g3⟩ := id g1
    have wb := wf.bb
    have wsl := wf.sl
    have wll := wf.ll
    refine ⟨x1, dz, _, rfl, g2, rfl, x1, b, ss ++ ls, rfl, g1, (by omega), fun x hx => ?_, (by rw [List.length_append]; omega), fun H' q s2 hq hA => k _ _ (s1.trans s2) (same_free s1 hq) hA⟩
    rcases List.mem_append.mp hx with hx | hx
    · exact wf.s x hx
    · exact wf.l x hx
include TR in
theorem ok_entry (F : FnP K "entry" "Spread.entry" s_Spread_entry f fd) (D_need_word : Dn P w K mg base 2 "need_word" ["value", "bits"] sp_need_word) (D_image_of : Dn P w K mg base 4 "image_of" ["columns", "word"] sp_image_of) : FnOk P w K mg base CX0 5 f fd ["self", "slot", "lane"] (sp_entry CR) := by
  have nd := sc_Spread_entry.nd
  refine fnok F sc_Spread_entry (fun vs H Q E h => ?_) (fun cdv A outer s H vs Q E hr h => ?_)
  · obtain ⟨p, b, x, y, ss, ls, rfl, _⟩ := h
    rfl
  · obtain ⟨p, b, x, y, ss, ls, rfl, hp, wf, hx, hy, k⟩ := h
    refine ⟨_, (pss_cons (ps_expr (pe_d D_need_word hr (pa_cons (pv 1) (pa_cons (pe_callB call_lenQ (by rfl) T.len PySem.boot_len (pa_cons (pe_fld (pv 0) rfl) pa_nil)) pa_nil))))
  (pss_cons (ps_expr (pe_d D_need_word hr (pa_cons (pv 2) (pa_cons (pe_callB call_lenQ (by rfl) T.len PySem.boot_len (pa_cons (pe_fld (pv 0) rfl) pa_nil)) pa_nil))))
  (pss_one (ps_ret (pe_op on_xor (pe_d D_image_of hr (pa_cons (pe_fld (pv 0) rfl) (pa_cons (pv 1) pa_nil))) (pe_d D_image_of hr (pa_cons (pe_fld (pv 0) rfl) (pa_cons (pv 2) pa_nil)))))))), ?_⟩
    obtain ⟨dx, t, u, h1, h2, h3⟩ := hp
    have wsl := wf.sl
    have wll := wf.ll
    refine ⟨_, rfl, _, rfl, p, CR, dx, _, .ref t, rfl, h1, TR.cl, TR.ns, rfl, t, _, rfl, .inr h2, x, (ss.map vN).length, rfl, (by rw [List.length_map]; exact blen_le.mpr hx), ?_⟩
    refine ⟨_, rfl, _, rfl, p, CR, dx, _, .ref u, rfl, h1, TR.cl, TR.nl, rfl, u, _, rfl, .inr h3, y, (ls.map vN).length, rfl, (by rw [List.length_map]; exact blen_le.mpr hy), ?_⟩
    refine ⟨_, rfl, p, CR, dx, _, .ref t, rfl, h1, TR.cl, TR.ns, rfl, _, rfl, t, ss, x, rfl, .inr h2, (by omega), hx, fun H1 s1 => ?_⟩
    refine ⟨_, rfl, p, CR, dx, _, .ref u, rfl, s1 _ _ h1, TR.cl, TR.nl, rfl, _, rfl, u, ls, y, rfl, .inr (s1 _ _ h3), (by omega), hy, fun H2 s2 => ?_⟩
    exact ⟨_, _, rfl, rfl, k _ (s1.trans s2)⟩
end
end LaneX
set_option Elab.async false
set_option linter.all false
set_option maxRecDepth 100000
set_option maxHeartbeats 4000000
namespace LaneX
open PySem PySem.Spec PyProof.Rows L2
/-! ### one beside another -/
def sp_spread_eq (CR : Addr) : Sp := fun vs H Q _ => ∃ (a c : Addr) (b : Nat) (ss ls : List Nat), vs = [.ref a, .ref c] ∧ SpreadAt CR H a b ss ls ∧ SpreadAt CR H c b ss ls ∧ ∀ H', Same H H' → Q (.bl true) H'
def sprD (b : Nat) (ss ls : List Nat) : PyData := .tuple [.int (b : Int), .tuple ((ss.map Int.ofNat).map .int), .tuple ((ls.map Int.ofNat).map .int)]
theorem lay_ints : ∀ ns : List Int, PyData.canLayAll0 (ns.map PyData.int) = true
  | [] => by simp [PyData.canLayAll0]
  | n :: r => by simp [PyData.canLayAll0, PyData.canLay0, lay_ints r]
theorem depth_ints : ∀ ns : List Int, PyData.depthAll (ns.map PyData.int) = 0
  | [] => by simp [PyData.depthAll]
  | n :: r => by simp [PyData.depthAll, PyData.depth, depth_ints r]
theorem sprD_lay (b : Nat) (ss ls : List Nat) : (sprD b ss ls).canLay0 = true := by
  simp only [sprD, PyData.canLay0, PyData.canLayAll0, lay_ints, Bool.and_self]
theorem sprD_shaped (b : Nat) (ss ls : List Nat) : SeqAt.shaped (sprD b ss ls) = true := by
  have h : (sprD b ss ls).depth ≤ 64 := by simp only [sprD, PyData.depth, PyData.depthAll, depth_ints]; decide
  show ((sprD b ss ls).canLay0 && decide ((sprD b ss ls).depth ≤ 64)) = true
  rw [sprD_lay, decide_eq_true h]; rfl
theorem sprD_eqv (b : Nat) (ss ls : List Nat) : PyData.eqv (sprD b ss ls) (sprD b ss ls) = true := by
  unfold sprD
  simp only [PyData.eqv, PyData.eqvAll]
  rw [eqvAll_ints, eqvAll_ints]
  simp
theorem sprD_dp {K : PySem.W.Frag} {H : Hp} {x s l : Addr} {b : Nat} {ss ls : List Nat} (hx : H x = some (.tup [vN b, .ref s, .ref l])) (hs : H s = some (.tup (ss.map vN))) (hl : H l = some (.tup (ls.map vN))) : Dp K H (.ref x) (sprD b ss ls) := by
  rw [vN_ints] at hs hl
  exact .tup (SqT.of hx) (.cons (.int _) (.cons (.tup (SqT.of hs) (dpAll_ints _)) (.cons (.tup (SqT.of hl) (dpAll_ints _)) .nil)))
theorem op_neT {X : Cx} (hu : X.A.units + 64 < cLine) : OpR X (compareOp .NotEq) (fun x y H Q => ∃ (a b : Addr) (ns ms : List Nat), x = .ref a ∧ y = .ref b ∧ H a = some (.tup (ns.map vN)) ∧ H b = some (.tup (ms.map vN)) ∧ Q (.bl (!decide (ns = ms))) H) := by
  intro pins s σ H x y v u Q I rx ry h
  obtain ⟨a, b, ns, ms, rfl, rfl, ha, hb, q⟩ := h
  rw [vN_ints] at ha hb
  refine op_neD hu pins s σ H _ _ v u Q I rx ry ⟨.tuple ((ns.map Int.ofNat).map .int), .tuple ((ms.map Int.ofNat).map .int), .tup (SqT.of ha) (dpAll_ints _), .tup (SqT.of hb) (dpAll_ints _), shaped_tints _, shaped_tints _, ?_⟩
  show Q (.bl (!PyData.eqvAll ((ns.map Int.ofNat).map .int) ((ms.map Int.ofNat).map .int))) H
  rw [eqvAll_ints]
  have e : decide (ns.map Int.ofNat = ms.map Int.ofNat) = decide (ns = ms) := by
    by_cases h : ns = ms
    · subst h; simp
    · have : ¬ ns.map Int.ofNat = ms.map Int.ofNat := fun z => h (List.map_inj_right (fun x y h => Int.ofNat.inj h) |>.mp z)
      rw [decide_eq_false h, decide_eq_false this]
  rw [e]
  exact q
theorem cut_drop (xs : List Nat) {k : Nat} (h : k ≤ xs.length) : cutV (xs.map vN) (some (k : Int)) none = (xs.drop k).map vN := by
  unfold cutV
  rw [HT.sIx_nat, HT.sIx_none, List.length_map, Nat.min_eq_left h, List.map_drop]
  exact List.take_of_length_le (by rw [List.length_drop, List.length_map]; omega)
theorem cut_take (xs : List Nat) {k : Nat} (h : k ≤ xs.length) : cutV (xs.map vN) none (some (k : Int)) = (xs.take k).map vN := by
  unfold cutV
  rw [HT.sIx_nat, HT.sIx_none, List.length_map, Nat.min_eq_left h, List.map_take]
  rfl

/-- a slice of a tuple -/
theorem sla {K : PySem.W.Frag} {H : Hp} {a : Addr} {xs : List V} {lo hi : Option Int} {Q : VK} (h : H a = some (.tup xs)) (k : ∀ H' q, Same H H' → H' q = some (.tup (cutV xs lo hi)) → Q (.ref q) H') : rSlA K (.ref a) lo hi H Q := by
  refine ⟨a, xs, rfl, SqT.of h, fun e => k H a (Same.refl _) ?_, fun _ p hp => k _ p (same_new0 hp) upd_same⟩
  unfold cutV
  rw [e.1, e.2, h]
  simp
theorem jn_take (n : Nat) (A B : List Nat) : (jn n A B).take A.length = A := by
  unfold jn
  simp
theorem jn_drop (n : Nat) (A B : List Nat) : (jn n A B).drop A.length = B.map fun x => x <<< n := by
  unfold jn
  simp
section
variable {P : Program} {w : World} {K : PySem.W.Frag} {mg : Str → Option Value} {base : Heap} {f : Addr} {fd : FuncData} {CS CR CM : Addr} (T : Bt mg) (TS : SpaceT K mg CS) (TR : SpreadT K mg CR)
include T
include TR in
theorem ok_spread_eq (F : FnP K "__eq__" "Spread.__eq__" s_Spread_eq f fd) : FnOk P w K mg base CX0 1 f fd ["self", "other"] (sp_spread_eq CR) := by
  have nd := sc_Spread_eq.nd
  refine fnok F sc_Spread_eq (fun vs H Q E h => ?_) (fun cdv A outer s H vs Q E hr h => ?_)
  · obtain ⟨a, c, b, ss, ls, rfl, _⟩ := h
    rfl
  · obtain ⟨a, c, b, ss, ls, rfl, hA, hC, k⟩ := h
    refine ⟨_, (pss_cons (ps_if (pt_not (pt_val (pe_callB call_isi (by rfl) T.isinstance (by decide +kernel) (pa_cons (pv 1) (pa_cons (pe_glob (v := .ref CR) (by rfl) TR.gl rfl) pa_nil)))))
    (pss_one (ps_ret pe_bl))
    pss_nil)
  (pss_one (ps_ret (pe_cmpR (op_eqD hr.units) (pe_tup (pa_cons (pe_fld (pv 0) rfl) (pa_cons (pe_fld (pv 0) rfl) (pa_cons (pe_fld (pv 0) rfl) pa_nil)))) (pe_tup (pa_cons (pe_fld (pv 1) rfl) (pa_cons (pe_fld (pv 1) rfl) (pa_cons (pe_fld (pv 1) rfl) pa_nil)))) (nomark _))))), ?_⟩
    obtain ⟨dx, sa, la, a1, a2, a3⟩ := hA
    obtain ⟨dy, sc, lc, c1, c2, c3⟩ := hC
    refine ⟨_, rfl, _, _, _, _, _, rfl, .own _, TR.ty c1, TR.me, _, rfl, iteF ?_⟩
    refine ⟨_, rfl, a, CR, dx, _, vN b, rfl, a1, TR.cl, TR.nb, rfl, _, rfl, a, CR, dx, _, .ref sa, rfl, a1, TR.cl, TR.ns, rfl, _, rfl, a, CR, dx, _, .ref la, rfl, a1, TR.cl, TR.nl, rfl, (by show 3 ≤ sizeLine; decide), fun x hx => ?_⟩
    have s1 : Same H (upd H x (.tup [vN b, .ref sa, .ref la])) := same_new0 hx
    refine ⟨_, rfl, c, CR, dy, _, vN b, rfl, s1 _ _ c1, TR.cl, TR.nb, rfl, _, rfl, c, CR, dy, _, .ref sc, rfl, s1 _ _ c1, TR.cl, TR.ns, rfl, _, rfl, c, CR, dy, _, .ref lc, rfl, s1 _ _ c1, TR.cl, TR.nl, rfl, (by show 3 ≤ sizeLine; decide), fun y hy => ?_⟩
    have s2 := same_new (o := .tup [vN b, .ref sc, .ref lc]) s1 hy
    refine ⟨sprD b ss ls, sprD b ss ls, sprD_dp (upd_new hy upd_same) (s2 _ _ a2) (s2 _ _ a3), sprD_dp upd_same (s2 _ _ c2) (s2 _ _ c3), sprD_shaped _ _ _, sprD_shaped _ _ _, ?_⟩
    rw [sprD_eqv]
    exact k _ s2
include TR in
theorem ok_or (F : FnP K "__or__" "Spread.__or__" s_Spread_or f fd) (D_any_spread : Dn P w K mg base 1 "any_spread" ["value"] (sp_any_spread CR)) (K_Spread : Kn P w K mg base 4 CR "Spread" ["self", "bits", "slots", "lanes"] (sp_Spread CR)) : FnOk P w K mg base CX0 6 f fd ["self", "other"] (sp_or CR) := by
  have nd := sc_Spread_or.nd
  refine fnok F sc_Spread_or (fun vs H Q E h => ?_) (fun cdv A outer s H vs Q E hr h => ?_)
  · obtain ⟨p, q, b, c, s1, l1, s2, l2, rfl, _⟩ := h
    rfl
  · obtain ⟨p, q, b, c, s1, l1, s2, l2, rfl, hp, hq, w1, w2, r1, r2, h0, hs, hl, k⟩ := h
    refine ⟨_, (pss_cons (ps_expr (pe_d D_any_spread hr (pa_cons (pv 1) pa_nil)))
  (pss_cons (ps_set (i := 2) nd rfl (Or.inl rfl) (pe_op op_cat (pe_callTy call_listQ (by rfl) T.list (by decide +kernel) (pa_cons (pe_fld (pv 0) rfl) pa_nil)) (pe_lc (own := [("word", 4)]) (g := gName 4) (by rfl) nd (pi_seq (pe_fld (pv 1) rfl)) (blkOk_by (own := [("word", 4)]) (N := ["self", "other", "slots", "lanes", "word"]) (sc := defScope s_Spread_or) (by decide +kernel)) (fun _ _ _ _ _ => (pg_name (i := 4) nd rfl (Or.inl rfl))) (fun _ _ _ _ _ => pts_nil) (fun _ _ _ _ _ => (pe_op on_shl (pv 4) (pe_fldK (K := K) (pv 0) rfl))))))
  (pss_cons (ps_setLc (i := 3) (own := [("word", 4)]) (g := gName 4) (by rfl) nd rfl rfl (sw_true rfl rfl rfl (by decide +kernel)) (pi_seq (pe_fld (pv 1) rfl)) (blkOk_by (own := [("word", 4)]) (N := ["self", "other", "slots", "lanes", "word"]) (sc := defScope s_Spread_or) (by decide +kernel)) (fun _ _ _ _ _ => (pg_name (i := 4) nd rfl (Or.inl rfl))) (fun _ _ _ _ _ => pts_nil) (fun _ _ _ _ _ => (pe_op on_shl (pv 4) (pe_fldK (K := K) (pv 0) rfl))))
  (pss_one (ps_ret (pe_k K_Spread hr (pa_cons (pe_op on_add (pe_fld (pv 0) rfl) (pe_fld (pv 1) rfl)) (pa_cons (pv 2) (pa_cons (pe_op op_cat (pe_callTy call_listQ (by rfl) T.list (by decide +kernel) (pa_cons (pe_fld (pv 0) rfl) pa_nil)) (pv 3)) pa_nil))))))))), ?_⟩
    refine ⟨_, rfl, q, c, s2, l2, rfl, hq, ?_⟩
    have bb := w1.bb
    have sh : ∀ x, blen x ≤ c → CShN x b := fun x hx => shl_ok1 (by omega) (by omega)
    obtain ⟨dx, t, u, h1, h2, h3⟩ := id hp
    refine ⟨_, rfl, p, CR, dx, _, .ref t, rfl, h1, TR.cl, TR.ns, rfl, t, _, rfl, .inr h2, fun a1 ha1 => ?_⟩
    have z1 := same_new0 (o := .lst (s1.map vN)) ha1
    have ea1 : upd H a1 (.lst (s1.map vN)) a1 = some (.lst (s1.map vN)) := upd_same
    generalize upd H a1 (.lst (s1.map vN)) = H1 at *
    obtain ⟨dy, t', u', g1, g2, g3⟩ := hq.same z1
    refine ⟨_, rfl, q, CR, dy, _, .ref t', rfl, g1, TR.cl, TR.ns, rfl, lc_pure s2 vN (fun _ => true) (fun x => vN (x <<< b)) (.inr g2) (by omega) (fun x H' hx s => ?_) (fun D H2 hD z2 e2 => ?_)⟩
    · intro Z Nx y1 y2
      exact ⟨rfl, _, rfl, _, rfl, p, CR, dx, _, vN b, rfl, s _ _ (z1 _ _ h1), TR.cl, TR.nb, rfl, x, b, rfl, rfl, sh x (w2.s x hx), y1 rfl _ (Same.refl _)⟩
    rw [filt_true] at e2
    refine ⟨a1, D, _, _, rfl, rfl, z2 _ _ ea1, e2, (by rw [List.length_map, List.length_map, sizeLine_eq]; omega), fun a3 ha3 => ?_⟩
    have z3 := same_new (o := .lst (s1.map vN ++ s2.map fun x => vN (x <<< b))) (z1.trans z2) ha3
    have ea3 : upd H2 a3 (.lst (s1.map vN ++ s2.map fun x => vN (x <<< b))) a3 = some (.lst ((jn b s1 s2).map vN)) := by
      rw [upd_same]
      unfold jn
      rw [List.map_append, List.map_map]
      rfl
    generalize upd H2 a3 (.lst (s1.map vN ++ s2.map fun x => vN (x <<< b))) = H3 at *
    obtain ⟨dy, t', u', g1, g2, g3⟩ := hq.same z3
    refine ⟨_, rfl, q, CR, dy, _, .ref u', rfl, g1, TR.cl, TR.nl, rfl, lc_pure l2 vN (fun _ => true) (fun x => vN (x <<< b)) (.inr g3) (by omega) (fun x H' hx s => ?_) (fun D2 H4 hD2 z4 e4 => ?_)⟩
    · intro Z Nx y1 y2
      exact ⟨rfl, _, rfl, _, rfl, p, CR, dx, _, vN b, rfl, s _ _ (z3 _ _ h1), TR.cl, TR.nb, rfl, x, b, rfl, rfl, sh x (w2.l x hx), y1 rfl _ (Same.refl _)⟩
    rw [filt_true] at e4
    have z04 := z3.trans z4
    obtain ⟨dx, t, u, h1, h2, h3⟩ := hp.same z04
    refine ⟨_, rfl, p, CR, dx, _, vN b, rfl, h1, TR.cl, TR.nb, rfl, _, rfl, q, CR, dy, _, vN c, rfl, z4 _ _ g1, TR.cl, TR.nb, rfl, b, c, rfl, rfl, _, rfl, ?_⟩
    refine ⟨_, rfl, p, CR, dx, _, .ref u, rfl, h1, TR.cl, TR.nl, rfl, u, _, rfl, .inr h3, fun a5 ha5 => ?_⟩
    have z5 := same_new (o := .lst (l1.map vN)) z04 ha5
    have e3' := upd_new (o := .lst (l1.map vN)) ha5 (z4 _ _ ea3)
    have e4' := upd_new (o := .lst (l1.map vN)) ha5 e4
    refine ⟨_, rfl, a5, D2, _, _, rfl, rfl, upd_same, e4', (by rw [List.length_map, List.length_map, sizeLine_eq]; omega), fun a6 ha6 => ?_⟩
    have z6 := same_new (o := .lst (l1.map vN ++ l2.map fun x => vN (x <<< b))) z5 ha6
    refine mk_Spread (ss := jn b s1 s2) (ls := jn b l1 l2) (.inl (upd_new ha6 e3')) (.inl ?_) (wf_join w1 w2 h0 hs hl) (jn_full (fun x hx => blen_le.mp (w1.s x hx)) (fun x hx => blen_le.mp (w1.l x hx)) r1 r2) (fun H' r z7 hr7 hA => k _ _ (z6.trans z7) (same_free z6 hr7) hA)
    rw [upd_same]
    unfold jn
    rw [List.map_append, List.map_map]
    rfl
theorem ok_left_over (F : FnP K "left_over" "left_over" s_left_over f fd) : FnOk P w K mg base CX0 1 f fd ["words", "first", "bits"] sp_left_over := by
  have nd := sc_left_over.nd
  refine fnok F sc_left_over (fun vs H Q E h => ?_) (fun cdv A outer s H vs Q E hr h => ?_)
  · obtain ⟨a, c, b, fs, B, rfl, _⟩ := h
    rfl
  · obtain ⟨a, c, b, fs, B, rfl, ha, hc, hb, hl, k⟩ := h
    refine ⟨_, (pss_cons (ps_set (i := 3) nd rfl (Or.inl rfl) (pe_callB call_lenQ (by rfl) T.len PySem.boot_len (pa_cons (pv 1) pa_nil)))
  (pss_cons (ps_if (pt_cmpR (op_neT hr.units) (pe_slice sl_tupA (pv 0) po_none (po_some (pv 3))) (pv 1) (nomark _))
    (pss_one (ps_ret pe_non))
    pss_nil)
  (pss_cons (ps_if (pt_val (pe_callB (cr_any rfl) (by rfl) T.any (by decide +kernel) (pa_cons (pe_lc (own := [("word", 4)]) (g := gName 4) (by rfl) nd (pi_seq (pe_slice sl_tupA (pv 0) (po_some (pv 3)) po_none)) (blkOk_by (own := [("word", 4)]) (N := ["words", "first", "bits", "many", "word"]) (sc := defScope s_left_over) (by decide +kernel)) (fun _ _ _ _ _ => (pg_name (i := 4) nd rfl (Or.inl rfl))) (fun _ _ _ _ _ => pts_nil) (fun _ _ _ _ _ => (pe_cmpR op_ne (pe_op on_and (pv 4) (pe_op on_sub (pe_op on_shl pe_int (pv 2)) pe_int)) pe_int (nomark _)))) pa_nil)))
    (pss_one (ps_ret pe_non))
    pss_nil)
  (pss_one (ps_ret (pe_lc (own := [("word", 4)]) (g := gName 4) (by rfl) nd (pi_seq (pe_slice sl_tupA (pv 0) (po_some (pv 3)) po_none)) (blkOk_by (own := [("word", 4)]) (N := ["words", "first", "bits", "many", "word"]) (sc := defScope s_left_over) (by decide +kernel)) (fun _ _ _ _ _ => (pg_name (i := 4) nd rfl (Or.inl rfl))) (fun _ _ _ _ _ => pts_nil) (fun _ _ _ _ _ => (pe_op on_shr (pv 4) (pv 2))))))))), ?_⟩
    refine ⟨_, rfl, c, _, rfl, .inr hc, ?_⟩
    rw [List.length_map]
    have jl := jn_len b fs B
    have o1 : blen 1 ≤ 1000000 := by rw [blen_one]; decide
    refine ⟨_, rfl, _, rfl, _, rfl, sla ha fun H1 q1 z1 e1 => ?_⟩
    rw [cut_take _ (by omega), jn_take] at e1
    refine ⟨_, rfl, q1, c, fs, fs, rfl, rfl, e1, z1 _ _ hc, _, rfl, ?_⟩
    rw [show (!decide (fs = fs)) = false by simp]
    refine iteF ?_
    refine ⟨_, rfl, _, rfl, _, rfl, ?_⟩
    delta tNoPart
    refine sla (z1 _ _ ha) fun H2 q2 z2 e2 => ?_
    rw [cut_drop _ (by omega), jn_drop] at e2
    have z02 := z1.trans z2
    have sm : ∀ y : Nat, (y <<< b) &&& (1 <<< b - 1) = 0 := fun y => by
      rw [Nat.one_shiftLeft, Nat.and_two_pow_sub_one_eq_mod, Nat.shiftLeft_eq, Nat.mul_mod_left]
    refine lc_pure (B.map fun x => x <<< b) vN (fun _ => true) (fun _ => .bl false) (.inr e2) (by rw [List.length_map]; omega) (fun x H' hx s => ?_) (fun D H3 hD z3 e3 => ?_)
    · intro Z Nx y1 y2
      obtain ⟨y, hy, rfl⟩ := List.mem_map.mp hx
      refine ⟨rfl, _, rfl, _, rfl, 1, b, rfl, rfl, shl_ok1 o1 (by omega), _, 1, rfl, rfl, (by rw [Nat.one_shiftLeft]; exact Nat.two_pow_pos b), y <<< b, _, rfl, rfl, rfl, ?_⟩
      rw [sm]
      exact y1 rfl _ (Same.refl _)
    rw [filt_true] at e3
    refine ⟨D, (B.map fun x => x <<< b).map (fun _ => false), rfl, SqL.of (by rw [e3]; simp), ?_⟩
    have ef : ((B.map fun x => x <<< b).map (fun _ => false)).any id = false := by simp
    rw [ef]
    refine ⟨_, rfl, iteF ?_⟩
    have z03 := z02.trans z3
    refine ⟨_, rfl, _, rfl, _, rfl, ?_⟩
    try delta tNoPart
    refine sla (z03 _ _ ha) fun H4 q4 z4 e4 => ?_
    rw [cut_drop _ (by omega), jn_drop] at e4
    refine lc_pure (B.map fun x => x <<< b) vN (fun _ => true) (fun x => vN (x >>> b)) (.inr e4) (by rw [List.length_map]; omega) (fun x H' hx s => ?_) (fun D5 H5 hD5 z5 e5 => ?_)
    · intro Z Nx y1 y2
      exact ⟨rfl, _, rfl, _, rfl, x, b, rfl, rfl, y1 rfl _ (Same.refl _)⟩
    rw [filt_true] at e5
    refine k _ _ ((z03.trans z4).trans z5) (same_free (z03.trans z4) hD5) ?_
    rw [e5, List.map_map]
    congr 2
    exact List.map_congr_left fun x _ => by
      show vN (x <<< b >>> b) = vN x
      rw [Nat.shiftLeft_shiftRight]
include TR in
theorem ok_floordiv (F : FnP K "__floordiv__" "Spread.__floordiv__" s_Spread_floordiv f fd) (D_any_spread : Dn P w K mg base 1 "any_spread" ["value"] (sp_any_spread CR)) (D_left_over : Dn P w K mg base 1 "left_over" ["words", "first", "bits"] sp_left_over) (K_Spread : Kn P w K mg base 4 CR "Spread" ["self", "bits", "slots", "lanes"] (sp_Spread CR)) : FnOk P w K mg base CX0 6 f fd ["self", "one"] (sp_floordiv CR) := by
  have nd := sc_Spread_floordiv.nd
  refine fnok F sc_Spread_floordiv (fun vs H Q E h => ?_) (fun cdv A outer s H vs Q E hr h => ?_)
  · obtain ⟨p, q, b, c, s1, l1, s2, l2, rfl, _⟩ := h
    rfl
  · obtain ⟨p, q, b, c, s1, l1, s2, l2, rfl, hp, hq, w1, w2, r2, h0, hs, hl, k⟩ := h
    refine ⟨_, (pss_cons (ps_expr (pe_d D_any_spread hr (pa_cons (pv 1) pa_nil)))
  (pss_cons (ps_if (pt_cmpR op_gt (pe_fld (pv 1) rfl) (pe_fld (pv 0) rfl) (nomark _))
    (pss_one ps_never)
    pss_nil)
  (pss_cons (ps_set (i := 2) nd rfl (Or.inl rfl) (pe_d D_left_over hr (pa_cons (pe_fld (pv 0) rfl) (pa_cons (pe_fld (pv 1) rfl) (pa_cons (pe_fld (pv 1) rfl) pa_nil)))))
  (pss_cons (ps_set (i := 3) nd rfl (Or.inl rfl) (pe_d D_left_over hr (pa_cons (pe_fld (pv 0) rfl) (pa_cons (pe_fld (pv 1) rfl) (pa_cons (pe_fld (pv 1) rfl) pa_nil)))))
  (pss_cons (ps_if (PW.pt (pw_or (pt_cmpR op_isN (pv 2) pe_non (nomark _)) (pw_or1 (pt_cmpR op_isN (pv 3) pe_non (nomark _)))))
    (pss_one ps_never)
    pss_nil)
  (pss_one (ps_ret (pe_k K_Spread hr (pa_cons (pe_op on_sub (pe_fld (pv 0) rfl) (pe_fld (pv 1) rfl)) (pa_cons (pv 2) (pa_cons (pv 3) pa_nil))))))))))), ?_⟩
    refine ⟨_, rfl, q, b, s1, l1, rfl, hq, ?_⟩
    obtain ⟨dx, t, u, h1, h2, h3⟩ := id hp
    obtain ⟨dy, t', u', g1, g2, g3⟩ := id hq
    refine ⟨_, rfl, q, CR, dy, _, vN b, rfl, g1, TR.cl, TR.nb, rfl, _, rfl, p, CR, dx, _, vN (b + c), rfl, h1, TR.cl, TR.nb, rfl, _, _, rfl, rfl, _, rfl, br (fun z => ?_) (fun _ => ?_)⟩
    · have := of_decide_eq_true z
      omega
    refine ⟨_, rfl, p, CR, dx, _, .ref t, rfl, h1, TR.cl, TR.ns, rfl, _, rfl, q, CR, dy, _, .ref t', rfl, g1, TR.cl, TR.ns, rfl, _, rfl, q, CR, dy, _, vN b, rfl, g1, TR.cl, TR.nb, rfl, t, t', b, s1, s2, rfl, h2, g2, (by omega), hs, fun H1 q1 z1 hq1 e1 => ?_⟩
    refine ⟨_, rfl, p, CR, dx, _, .ref u, rfl, z1 _ _ h1, TR.cl, TR.nl, rfl, _, rfl, q, CR, dy, _, .ref u', rfl, z1 _ _ g1, TR.cl, TR.nl, rfl, _, rfl, q, CR, dy, _, vN b, rfl, z1 _ _ g1, TR.cl, TR.nb, rfl, u, u', b, l1, l2, rfl, z1 _ _ h3, z1 _ _ g3, (by omega), hl, fun H2 q2 z2 hq2 e2 => ?_⟩
    have z02 := z1.trans z2
    refine ⟨_, rfl, rfl, _, rfl, iteF ?_⟩
    refine ⟨_, rfl, rfl, _, rfl, iteF ?_⟩
    refine ⟨_, rfl, p, CR, dx, _, vN (b + c), rfl, z02 _ _ h1, TR.cl, TR.nb, rfl, _, rfl, q, CR, dy, _, vN b, rfl, z02 _ _ g1, TR.cl, TR.nb, rfl, _, _, rfl, rfl, (by omega), _, rfl, _, rfl, ?_⟩
    rw [Nat.add_sub_cancel_left]
    exact mk_Spread (.inl (z2 _ _ e1)) (.inl e2) w2 r2 (fun H' r z7 hr7 hA => k _ _ (z02.trans z7) (same_free z02 hr7) hA)
end
end LaneX
set_option Elab.async false
set_option linter.all false
set_option maxRecDepth 100000
set_option maxHeartbeats 4000000
namespace LaneX
open PySem PySem.Spec PyProof.Rows L2
/-! ### draws -/
abbrev ka : Str := "cells"
abbrev kb : Str := "stop"
abbrev kc : Str := "rest"
theorem kN : PenN ka kb kc := ⟨by decide +kernel, by decide +kernel, by decide +kernel⟩
abbrev Pn (H : Hp) (p lc : Addr) (N : Nat) : Prop := PenAt ka kb kc H p lc N
/-- the most draws -/
abbrev TOP : Nat := 1099511627776
theorem md_lt {i : Int} {m : Nat} (h : 0 < m) (hm : m ≤ 2 ^ 64) : (i % (m : Int)).toNat < 2 ^ 64 := by
  have := Int.emod_lt_of_pos i (b := (m : Int)) (by omega)
  have h2 := Int.emod_nonneg i (b := (m : Int)) (by omega)
  have h3 : m ≤ 18446744073709551616 := hm
  show _ < 18446744073709551616
  omega
theorem mn_lt {i m : Nat} (h : 0 < m) (hm : m ≤ 2 ^ 64) : i % m < 2 ^ 64 := Nat.lt_of_lt_of_le (Nat.mod_lt _ h) hm
def sp_draw : Sp := fun vs H Q _ => ∃ (p lc : Addr) (N sp : Nat), vs = [.ref p, vN sp] ∧ Pn H p lc N ∧ 0 < sp ∧ sp < 1073741824 ∧ N + 1 ≤ TOP ∧ ∀ H' r, r < sp → Pn H' p lc (N + 1) → Kp H H' → Q (vN r) H'
def sp_begin (K : PySem.W.Frag) : Sp := fun vs H Q _ => ∃ (a : Addr) (ns : List Int), vs = [.ref a] ∧ SqL K H a (ns.map V.int) ∧ ∀ H' p lc, Same H H' → H p = none → Pn H' p lc 0 → Q (.ref p) H'
def cutI (xs : List Int) (lo hi : Option Int) : List Int := (xs.drop (HT.sIx xs.length 0 lo)).take (HT.sIx xs.length xs.length hi - HT.sIx xs.length 0 lo)
theorem cut_map (xs : List Int) (lo hi : Option Int) : cutV (xs.map V.int) lo hi = (cutI xs lo hi).map V.int := by
  unfold cutV cutI
  rw [List.length_map, List.map_take, List.map_drop]
theorem seq_nat {r n : Nat} (h : r < n) : seqIndex? (r : Int) n = some r := by
  unfold seqIndex?
  have h1 : ¬ (r : Int) < 0 := by omega
  simp only [h1, if_false]
  have h2 : (decide (0 ≤ (r : Int)) && decide ((r : Int) < (n : Int))) = true := by
    rw [decide_eq_true (by omega), decide_eq_true (by omega)]
    rfl
  rw [if_pos h2]
  simp
theorem eraseIdx_map {α β : Type} (g : α → β) : ∀ (l : List α) (r : Nat), (l.map g).eraseIdx r = (l.eraseIdx r).map g
  | [], _ => rfl
  | _ :: _, 0 => rfl
  | a :: l, r + 1 => by
    show g a :: (l.map g).eraseIdx r = g a :: (l.eraseIdx r).map g
    rw [eraseIdx_map g l r]
theorem perm_erase {α : Type} : ∀ {l : List α} {r : Nat} (h : r < l.length), (l[r] :: l.eraseIdx r).Perm l
  | [], r, h => by cases h
  | a :: l, 0, _ => .refl _
  | a :: l, r + 1, h => by
    have := perm_erase (l := l) (r := r) (by simpa using h)
    exact (List.Perm.swap _ _ _).trans (this.cons a)
section
variable {P : Program} {w : World} {K : PySem.W.Frag} {mg : Str → Option Value} {base : Heap} {f : Addr} {fd : FuncData} (T : Bt mg)
include T
theorem ok_draw (F : FnP K "_law_draw" "_law_draw" s_drawL f fd) : FnOk P w K mg base CX0 1 f fd ["_law_pen_here", "_law_many"] sp_draw := by
  have nd := sc_drawL.nd
  refine fnok F sc_drawL (fun vs H Q E h => ?_) (fun cdv A outer s H vs Q E hr h => ?_)
  · obtain ⟨p, lc, N, sp, rfl, _⟩ := h
    rfl
  · obtain ⟨p, lc, N, sp, rfl, ⟨cs, n, m, hp, hlc, hn⟩, hs0, hs1, hN, k⟩ := h
    have hu := hu_of hr
    refine ⟨_, (pss_cons (ps_if (pt_cmpR op_ge (pe_dget hu (pv 0) pe_str (fun _ _ => rfl)) (pv 1) (nomark _))
    (pss_cons (ps_set (i := 2) nd rfl (Or.inl rfl) (pe_op on_mod (pe_callTy call_intQ (by rfl) T.int (by decide +kernel) (pa_cons (pe_dget hu (pv 0) pe_str (fun _ _ => rfl)) pa_nil)) (pv 1)))
    (pss_cons (ps_dput hu (pv 0) pe_str (pe_op on_fdiv (pe_dget hu (pv 0) pe_str (fun _ _ => rfl)) (pv 1)) rfl)
    (pss_one (ps_ret (pv 2)))))
    pss_nil)
  (pss_cons (ps_set (i := 3) nd rfl (Or.inl rfl) (pe_dget hu (pv 0) pe_str (fun _ _ => rfl)))
  (pss_cons (ps_dput hu (pv 0) pe_str (pe_op on_add (pv 3) pe_int) rfl)
  (pss_cons (ps_set (i := 4) nd rfl (Or.inl rfl) (pe_op on_add (pe_op on_mul pe_int (pv 3)) pe_int))
  (pss_cons (ps_if (pt_cmpR (op_neL hr.units) (pe_dget hu (pv 0) pe_str (fun _ _ => rfl)) (pe_lst pa_nil) (nomark _))
    (pss_one (ps_set (i := 4) nd rfl (Or.inl rfl) (pe_ix ix_q (pe_dget hu (pv 0) pe_str (fun _ _ => rfl)) (pe_op on_mod (pe_callTy call_intQ (by rfl) T.int (by decide +kernel) (pa_cons (pv 3) pa_nil)) (pe_callB call_lenQ (by rfl) T.len PySem.boot_len (pa_cons (pe_dget hu (pv 0) pe_str (fun _ _ => rfl)) pa_nil))) (fun _ _ => rfl))))
    pss_nil)
  (pss_cons (ps_if (PW.pt (pw_and (pt_cmpR op_lt (pv 3) (pe_callB call_lenQ (by rfl) T.len PySem.boot_len (pa_cons (pe_dget hu (pv 0) pe_str (fun _ _ => rfl)) pa_nil)) (nomark _)) (pw_and1 (pt_cmpR op_ge (pv 4) (pe_op on_pow pe_int pe_int) (nomark _)))))
    (pss_cons (ps_dput hu (pv 0) pe_str (pe_op on_fdiv (pe_op on_subD (pv 4) (pe_op on_pow pe_int pe_int)) (pv 1)) rfl)
    (pss_one (ps_ret (pe_op on_mod (pe_callTy call_intQ (by rfl) T.int (by decide +kernel) (pa_cons (pe_op on_subD (pv 4) (pe_op on_pow pe_int pe_int)) pa_nil)) (pv 1)))))
    pss_nil)
  (pss_cons (ps_set (i := 5) nd rfl (Or.inl rfl) (pe_op on_mul (pe_op on_modI (pe_callTy call_intQ (by rfl) T.int (by decide +kernel) (pa_cons (pv 4) pa_nil)) pe_int) pe_int))
  (pss_cons (ps_set (i := 5) nd rfl (Or.inl rfl) (pe_op on_mod (pe_callTy call_intQ (by rfl) T.int (by decide +kernel) (pa_cons (pe_op on_add (pe_op on_add (pe_op on_add (pv 5) (pe_op on_mul (pe_op on_mul pe_int (pv 3)) (pv 3))) (pe_op on_mul pe_int (pv 3))) pe_int) pa_nil)) pe_int))
  (pss_cons (ps_set (i := 5) nd rfl (Or.inl rfl) (pe_op on_mod (pe_callTy call_intQ (by rfl) T.int (by decide +kernel) (pa_cons (pe_op on_mul (pv 5) (pe_op on_add (pv 5) pe_int)) pa_nil)) pe_int))
  (pss_one (ps_ret (pe_op on_mod (pe_callTy call_intQ (by rfl) T.int (by decide +kernel) (pa_cons (pe_op on_fdiv (pe_op on_mod (pe_callTy call_intQ (by rfl) T.int (by decide +kernel) (pa_cons (pe_op on_add (pe_op on_mul (pv 5) (pv 5)) (pe_op on_mul pe_int (pv 5))) pa_nil)) pe_int) pe_int) pa_nil)) (pv 1))))))))))))), ?_⟩
    have gA : ∀ (H0 : Hp) (n0 m0 : Nat), H0 p = some (.dK (pen ka kb kc lc n0 m0)) → DGet H0 p (.str ka) (some (.ref lc)) := fun H0 n0 m0 h => by have z := DGet.k (k := .inr ka) h; rw [pen_a] at z; exact z
    have gB : ∀ (H0 : Hp) (n0 m0 : Nat), H0 p = some (.dK (pen ka kb kc lc n0 m0)) → DGet H0 p (.str kb) (some (vN n0)) := fun H0 n0 m0 h => by have z := DGet.k (k := .inr kb) h; rw [pen_b kN] at z; exact z
    have gC : ∀ (H0 : Hp) (n0 m0 : Nat), H0 p = some (.dK (pen ka kb kc lc n0 m0)) → DGet H0 p (.str kc) (some (vN m0)) := fun H0 n0 m0 h => by have z := DGet.k (k := .inr kc) h; rw [pen_c kN] at z; exact z
    have pB : ∀ (H0 : Hp) (n0 m0 k0 : Nat), H0 p = some (.dK (pen ka kb kc lc n0 m0)) → DPut H0 p (.str kb) (vN k0) (upd H0 p (.dK (pen ka kb kc lc k0 m0))) := fun H0 n0 m0 k0 h => by have z := DPut.k (k := .inr kb) (v := vN k0) h (pen_len n0 m0); rw [pen_pb kN] at z; exact z
    have pC : ∀ (H0 : Hp) (n0 m0 k0 : Nat), H0 p = some (.dK (pen ka kb kc lc n0 m0)) → DPut H0 p (.str kc) (vN k0) (upd H0 p (.dK (pen ka kb kc lc n0 k0))) := fun H0 n0 m0 k0 h => by have z := DPut.k (k := .inr kc) (v := vN k0) h (pen_len n0 m0); rw [pen_pc kN] at z; exact z
    have hlp : lc ≠ p := ne_of hlc hp (by intro z; cases z)
    have kpU : ∀ (H0 : Hp) (n0 m0 n1 m1 : Nat), H0 p = some (.dK (pen ka kb kc lc n0 m0)) → Kp H0 (upd H0 p (.dK (pen ka kb kc lc n1 m1))) := fun H0 n0 m0 n1 m1 h => by
      refine ⟨fun b o hb ho => ?_, fun b hb => upd_free hb⟩
      refine (upd_ne fun z => ?_).trans hb
      rw [z, h] at hb
      cases hb
      cases ho
    refine ⟨_, rfl, p, vN m, rfl, gC _ _ _ hp, _, rfl, _, _, rfl, rfl, _, rfl, br (fun e => ?_) (fun e => ?_)⟩
    · -- a digit is left
      refine ⟨_, rfl, p, vN m, rfl, gC _ _ _ hp, _, rfl, _, rfl, m, sp, rfl, rfl, hs0, ?_⟩
      refine ⟨_, rfl, p, vN m, rfl, gC _ _ _ hp, _, rfl, m, sp, rfl, rfl, ⟨hs0, hs1⟩, _, rfl, p, _, rfl, pC _ _ _ _ hp, ?_⟩
      exact ⟨_, rfl, k _ _ (Nat.mod_lt _ hs0) ⟨cs, n, m / sp, upd_same, (upd_ne hlp).trans hlc, by omega⟩ (kpU _ _ _ _ _ hp)⟩
    · have hN' : N + 1 ≤ 1099511627776 := hN
      refine ⟨_, rfl, p, vN n, rfl, gB _ _ _ hp, ?_⟩
      refine ⟨_, rfl, n, 1, rfl, rfl, _, rfl, p, _, rfl, pB _ _ _ _ hp, ?_⟩
      refine ⟨_, rfl, 73, n, rfl, rfl, (by decide), 73 * n, 41, rfl, rfl, ?_⟩
      generalize hH1 : upd H p (.dK (pen ka kb kc lc (n + 1) m)) = H1
      have kp1 : Kp H H1 := by rw [← hH1]; exact kpU _ _ _ _ _ hp
      have hp1 : H1 p = some (.dK (pen ka kb kc lc (n + 1) m)) := by rw [← hH1]; exact upd_same
      have hl1 : H1 lc = some (.lst (cs.map V.int)) := kp1 _ _ hlc rfl
      refine ⟨_, rfl, p, .ref lc, rfl, gA _ _ _ hp1, (by decide), fun q hq => ?_⟩
      have hp2 : upd H1 q (.lst []) p = some (.dK (pen ka kb kc lc (n + 1) m)) := upd_new hq hp1
      have hl2 : upd H1 q (.lst []) lc = some (.lst (cs.map V.int)) := upd_new hq hl1
      have kp2 : Kp H (upd H1 q (.lst [])) := kp_new kp1 hq
      refine ⟨lc, q, cs, [], rfl, rfl, hl2, upd_same, _, rfl, br (fun e1 => ?_) (fun e1 => ?_)⟩
      · have hne : 0 < cs.length := List.length_pos_iff.mpr (by simpa using e1)
        have hix : n % cs.length < cs.length := Nat.mod_lt _ hne
        refine ⟨_, rfl, p, .ref lc, rfl, gA _ _ _ hp2, _, rfl, _, rfl, _, rfl, p, .ref lc, rfl, gA _ _ _ hp2, lc, _, rfl, .inl hl2, n, (cs.map V.int).length, rfl, rfl, (by rw [List.length_map]; exact hne), lc, _, n % (cs.map V.int).length, .int cs[n % cs.length], rfl, rfl, .inl hl2, ?_, ?_⟩
        · rw [List.length_map, List.getElem?_map, List.getElem?_eq_getElem hix]
          rfl
        generalize cs[n % cs.length] = ce
        refine ⟨_, rfl, _, rfl, p, .ref lc, rfl, gA _ _ _ hp2, lc, _, rfl, .inl hl2, _, _, rfl, rfl, _, rfl, br (fun e2 => ?_) (fun e2 => ?_)⟩
        · refine ⟨_, rfl, 10, 18, rfl, rfl, ⟨by decide, by decide⟩, _, _, rfl, rfl, _, rfl, br (fun e3 => ?_) (fun e3 => ?_)⟩
          · have e4 := of_decide_eq_true e3
            obtain ⟨d, hd⟩ : ∃ d : Nat, ce - ((10 ^ 18 : Nat) : Int) = (d : Int) := ⟨(ce - ((10 ^ 18 : Nat) : Int)).toNat, by
              have : ((10 ^ 18 : Nat) : Int) ≤ ce := e4
              omega⟩
            refine ⟨_, rfl, 10, 18, rfl, rfl, ⟨by decide, by decide⟩, _, _, d, rfl, rfl, hd, _, rfl, d, sp, rfl, rfl, ⟨hs0, hs1⟩, _, rfl, p, _, rfl, pC _ _ _ _ hp2, ?_⟩
            refine ⟨_, rfl, 10, 18, rfl, rfl, ⟨by decide, by decide⟩, _, _, d, rfl, rfl, hd, _, rfl, _, rfl, d, sp, rfl, rfl, hs0, ?_⟩
            exact k _ _ (Nat.mod_lt _ hs0) ⟨cs, _, _, upd_same, (upd_ne hlp).trans hl2, by omega⟩ (kp2.trans (kpU _ _ _ _ _ hp2))
          · refine ⟨_, rfl, _, rfl, _, 2147483269, rfl, rfl, (by decide), _, 40177, rfl, rfl, md_lt (by decide) (by decide), ?_⟩
            refine ⟨_, rfl, _, rfl, 52489, n, rfl, rfl, (by decide), _, rfl, _, n, rfl, rfl, (by show 52489 * n < 18446744073709551616; omega), _, _, rfl, rfl, _, rfl, 103, n, rfl, rfl, (by decide), _, _, rfl, rfl, _, 37, rfl, rfl, _, rfl, _, 2147483323, rfl, rfl, (by decide), ?_⟩
            refine ⟨_, rfl, _, rfl, _, 70019, rfl, rfl, _, _, rfl, rfl, mn_lt (by decide) (by decide), _, rfl, _, 2147483353, rfl, rfl, (by decide), ?_⟩
            refine ⟨_, rfl, _, rfl, _, _, rfl, rfl, mn_lt (by decide) (by decide), _, rfl, 19, _, rfl, rfl, (by decide), _, _, rfl, rfl, _, rfl, _, 2147483399, rfl, rfl, (by decide), _, 16, rfl, rfl, ⟨by decide, by decide⟩, _, rfl, _, rfl, _, sp, rfl, rfl, hs0, ?_⟩
            exact k _ _ (Nat.mod_lt _ hs0) ⟨cs, n + 1, m, hp2, hl2, by omega⟩ kp2
        · refine ⟨_, rfl, _, rfl, _, 2147483269, rfl, rfl, (by decide), _, 40177, rfl, rfl, md_lt (by decide) (by decide), ?_⟩
          refine ⟨_, rfl, _, rfl, 52489, n, rfl, rfl, (by decide), _, rfl, _, n, rfl, rfl, (by show 52489 * n < 18446744073709551616; omega), _, _, rfl, rfl, _, rfl, 103, n, rfl, rfl, (by decide), _, _, rfl, rfl, _, 37, rfl, rfl, _, rfl, _, 2147483323, rfl, rfl, (by decide), ?_⟩
          refine ⟨_, rfl, _, rfl, _, 70019, rfl, rfl, _, _, rfl, rfl, mn_lt (by decide) (by decide), _, rfl, _, 2147483353, rfl, rfl, (by decide), ?_⟩
          refine ⟨_, rfl, _, rfl, _, _, rfl, rfl, mn_lt (by decide) (by decide), _, rfl, 19, _, rfl, rfl, (by decide), _, _, rfl, rfl, _, rfl, _, 2147483399, rfl, rfl, (by decide), _, 16, rfl, rfl, ⟨by decide, by decide⟩, _, rfl, _, rfl, _, sp, rfl, rfl, hs0, ?_⟩
          exact k _ _ (Nat.mod_lt _ hs0) ⟨cs, n + 1, m, hp2, hl2, by omega⟩ kp2
      · generalize ((73 * n + 41 : Nat) : Int) = ce
        refine ⟨_, rfl, _, rfl, p, .ref lc, rfl, gA _ _ _ hp2, lc, _, rfl, .inl hl2, _, _, rfl, rfl, _, rfl, br (fun e2 => ?_) (fun e2 => ?_)⟩
        · refine ⟨_, rfl, 10, 18, rfl, rfl, ⟨by decide, by decide⟩, _, _, rfl, rfl, _, rfl, br (fun e3 => ?_) (fun e3 => ?_)⟩
          · have e4 := of_decide_eq_true e3
            obtain ⟨d, hd⟩ : ∃ d : Nat, ce - ((10 ^ 18 : Nat) : Int) = (d : Int) := ⟨(ce - ((10 ^ 18 : Nat) : Int)).toNat, by
              have : ((10 ^ 18 : Nat) : Int) ≤ ce := e4
              omega⟩
            refine ⟨_, rfl, 10, 18, rfl, rfl, ⟨by decide, by decide⟩, _, _, d, rfl, rfl, hd, _, rfl, d, sp, rfl, rfl, ⟨hs0, hs1⟩, _, rfl, p, _, rfl, pC _ _ _ _ hp2, ?_⟩
            refine ⟨_, rfl, 10, 18, rfl, rfl, ⟨by decide, by decide⟩, _, _, d, rfl, rfl, hd, _, rfl, _, rfl, d, sp, rfl, rfl, hs0, ?_⟩
            exact k _ _ (Nat.mod_lt _ hs0) ⟨cs, _, _, upd_same, (upd_ne hlp).trans hl2, by omega⟩ (kp2.trans (kpU _ _ _ _ _ hp2))
          · refine ⟨_, rfl, _, rfl, _, 2147483269, rfl, rfl, (by decide), _, 40177, rfl, rfl, md_lt (by decide) (by decide), ?_⟩
            refine ⟨_, rfl, _, rfl, 52489, n, rfl, rfl, (by decide), _, rfl, _, n, rfl, rfl, (by show 52489 * n < 18446744073709551616; omega), _, _, rfl, rfl, _, rfl, 103, n, rfl, rfl, (by decide), _, _, rfl, rfl, _, 37, rfl, rfl, _, rfl, _, 2147483323, rfl, rfl, (by decide), ?_⟩
            refine ⟨_, rfl, _, rfl, _, 70019, rfl, rfl, _, _, rfl, rfl, mn_lt (by decide) (by decide), _, rfl, _, 2147483353, rfl, rfl, (by decide), ?_⟩
            refine ⟨_, rfl, _, rfl, _, _, rfl, rfl, mn_lt (by decide) (by decide), _, rfl, 19, _, rfl, rfl, (by decide), _, _, rfl, rfl, _, rfl, _, 2147483399, rfl, rfl, (by decide), _, 16, rfl, rfl, ⟨by decide, by decide⟩, _, rfl, _, rfl, _, sp, rfl, rfl, hs0, ?_⟩
            exact k _ _ (Nat.mod_lt _ hs0) ⟨cs, n + 1, m, hp2, hl2, by omega⟩ kp2
        · refine ⟨_, rfl, _, rfl, _, 2147483269, rfl, rfl, (by decide), _, 40177, rfl, rfl, md_lt (by decide) (by decide), ?_⟩
          refine ⟨_, rfl, _, rfl, 52489, n, rfl, rfl, (by decide), _, rfl, _, n, rfl, rfl, (by show 52489 * n < 18446744073709551616; omega), _, _, rfl, rfl, _, rfl, 103, n, rfl, rfl, (by decide), _, _, rfl, rfl, _, 37, rfl, rfl, _, rfl, _, 2147483323, rfl, rfl, (by decide), ?_⟩
          refine ⟨_, rfl, _, rfl, _, 70019, rfl, rfl, _, _, rfl, rfl, mn_lt (by decide) (by decide), _, rfl, _, 2147483353, rfl, rfl, (by decide), ?_⟩
          refine ⟨_, rfl, _, rfl, _, _, rfl, rfl, mn_lt (by decide) (by decide), _, rfl, 19, _, rfl, rfl, (by decide), _, _, rfl, rfl, _, rfl, _, 2147483399, rfl, rfl, (by decide), _, 16, rfl, rfl, ⟨by decide, by decide⟩, _, rfl, _, rfl, _, sp, rfl, rfl, hs0, ?_⟩
          exact k _ _ (Nat.mod_lt _ hs0) ⟨cs, n + 1, m, hp2, hl2, by omega⟩ kp2
theorem ok_begin (F : FnP K "_law_pen" "_law_pen" s_penL f fd) : FnOk P w K mg base CX0 1 f fd ["_law_script"] (sp_begin K) := by
  have nd := sc_penL.nd
  refine fnok F sc_penL (fun vs H Q E h => ?_) (fun cdv A outer s H vs Q E hr h => ?_)
  · obtain ⟨a, ns, rfl, _⟩ := h
    rfl
  · obtain ⟨a, ns, rfl, hS, k⟩ := h
    refine ⟨_, (pss_one (ps_ret (pe_disp (pps_cons pe_str (pe_callTy call_listQ (by rfl) T.list (by decide +kernel) (pa_cons (pe_slice sl_list (pv 0) po_none (po_some pe_int)) pa_nil)) (pps_cons pe_str pe_int (pps_cons pe_str pe_int pps_nil))) (by rfl) (by rfl) (fun z => by cases z) (by decide)))), ?_⟩
    intro p hp
    refine ⟨_, rfl, _, rfl, a, _, rfl, Same.seq (same_new0 hp) hS, fun l1 hl1 => ?_⟩
    refine ⟨l1, _, rfl, .inl upd_same, fun l2 hl2 => ?_⟩
    have np1 : p ≠ l1 := ne_of_none upd_same hl1
    have np2 : p ≠ l2 := ne_of_none (upd_put upd_same np1) hl2
    refine ⟨upd_put (upd_put upd_same np1) np2, [(.inr ka, .ref l2), (.inr kb, .int 0), (.inr kc, .int 0)], rfl, (by show 3 ≤ 15; decide), ?_⟩
    have em : mergeK [] [((.inr ka : Key), V.ref l2), (.inr kb, .int 0), (.inr kc, .int 0)] = pen ka kb kc l2 0 0 := by
      unfold mergeK pen putK
      simp [kN.ab, kN.ac, kN.bc]
    rw [em]
    refine k _ _ l2 (fun b o hb => ?_) hp ⟨cutI ns none (some 63), 0, 0, upd_same, ?_, Nat.le_refl _⟩
    · have hb1 := upd_new (o := .dK []) hp hb
      have hb2 := upd_new (o := .lst (cutV (ns.map V.int) none (some 63))) hl1 hb1
      have hb3 := upd_new (o := .lst (cutV (ns.map V.int) none (some 63))) hl2 hb2
      exact upd_put hb3 (ne_of_none hb hp)
    · rw [← cut_map]
      exact upd_put upd_same np2.symm
end
end LaneX
set_option Elab.async false
set_option linter.all false
set_option maxRecDepth 100000
set_option maxHeartbeats 4000000
namespace LaneX
open PySem PySem.Spec PyProof.Rows L2
/-! ### drawn spreads -/
def sp_unit : Sp := fun vs H Q _ => ∃ k : Nat, vs = [vN k] ∧ k ≤ 60 ∧ Q (vN (2 ^ k)) H
def sp_word : Sp := fun vs H Q _ => ∃ (p lc : Addr) (N b : Nat), vs = [.ref p, vN b] ∧ Pn H p lc N ∧ b ≤ 60 ∧ N + 100 ≤ TOP ∧ ∀ H' x, x < 2 ^ b → Pn H' p lc (N + 100) → Kp H H' → Q (vN x) H'
def sp_base : Sp := fun vs H Q _ => ∃ (p lc : Addr) (N b : Nat), vs = [.ref p, vN b] ∧ Pn H p lc N ∧ 0 < b ∧ b ≤ 60 ∧ N + 1000 ≤ TOP ∧ ∀ (H' : Hp) (q : Addr) (M : List Nat), Mix b M → H q = none → H' q = some (.lst (M.map vN)) → Pn H' p lc (N + 1000) → Kp H H' → Q (.ref q) H'
def sp_joined : Sp := fun vs H Q _ => ∃ x y n : Nat, vs = [vN x, vN y, vN n] ∧ n ≤ 60 ∧ x < 2 ^ n ∧ y < 2 ^ 60 ∧ Q (vN (x ^^^ y <<< n)) H
/-- what is told of a drawn spread -/
structure Drn (b l : Nat) (ss ls : List Nat) : Prop where
  b0 : 0 < b
  b9 : b ≤ 9
  hs : ∀ x ∈ ss, x < 2 ^ b
  hl : ∀ x ∈ ls, x < 2 ^ b
  sl : ss.length ≤ 12
  ll : ls.length = l
  l5 : l ≤ 5
  hk : b ≤ rk (ss ++ ls)
theorem Drn.wf {b l : Nat} {ss ls : List Nat} (h : Drn b l ss ls) : WfR b ss ls := by
  have := h.b9
  have := h.sl
  have := h.ll
  have := h.l5
  exact ⟨by omega, fun x hx => blen_le.mpr (h.hs x hx), fun x hx => blen_le.mpr (h.hl x hx), by omega, by omega⟩
def sp_spreadL (CR : Addr) : Sp := fun vs H Q _ => ∃ (p lc : Addr) (N b l : Nat), vs = [.ref p, vN b, vN l] ∧ Pn H p lc N ∧ 0 < b ∧ b ≤ 9 ∧ l ≤ b ∧ l ≤ 5 ∧ N + 10000 ≤ TOP ∧ ∀ (H' : Hp) (q : Addr) (ss ls : List Nat), Drn b l ss ls → H q = none → SpreadAt CR H' q b ss ls → Pn H' p lc (N + 10000) → Kp H H' → Q (.ref q) H'
def sp_pair (CR : Addr) : Sp := fun vs H Q _ => ∃ (p lc : Addr) (N b : Nat), vs = [.ref p, vN b] ∧ Pn H p lc N ∧ 0 < b ∧ b ≤ 9 ∧ N + 30000 ≤ TOP ∧ ∀ (H' : Hp) (t q r : Addr) (l : Nat) (ss ls os ps : List Nat), Drn b l ss ls → Drn b l os ps → H' t = some (.tup [.ref q, .ref r]) → SpreadAt CR H' q b ss ls → SpreadAt CR H' r b os ps → Pn H' p lc (N + 30000) → Kp H H' → Q (.ref t) H'
def sp_sizes (CR : Addr) : Sp := fun vs H Q _ => ∃ (p q : Addr) (b l L : Nat) (ss ls os ps : List Nat), vs = [.ref p, .ref q, vN L] ∧ SpreadAt CR H p b ss ls ∧ SpreadAt CR H q b os ps ∧ Drn b l ss ls ∧ Drn b l os ps ∧ L < 2 ^ l ∧ ∀ H' t, Same H H' → H t = none → H' t = some (.tup [vN (2 ^ rk os), vN (hld ss ls os ps L)]) → Q (.ref t) H'
theorem ix_okN {n i : Nat} (h : i < n) : ixN n (i : Int) = some i := by
  unfold ixN
  simp [h]
theorem getN {l : List Nat} {i : Nat} (h : i < l.length) : (l.map vN)[i]? = some (vN (l.getD i 0)) := by
  rw [List.getElem?_map, List.getElem?_eq_getElem h, List.getD_eq_getElem?_getD, List.getElem?_eq_getElem h]; rfl
theorem set_map (l : List Nat) (i x : Nat) : (l.map vN).set i (vN x) = (l.set i x).map vN := by
  rw [List.map_set]
section
variable {P : Program} {w : World} {K : PySem.W.Frag} {mg : Str → Option Value} {base : Heap} {f : Addr} {fd : FuncData} {CS CR CM : Addr} (T : Bt mg) (TS : SpaceT K mg CS) (TR : SpreadT K mg CR)
include T
theorem ok_unit (F : FnP K "_law_unit" "_law_unit" s_unitL f fd) : FnOk P w K mg base CX0 1 f fd ["_law_k"] sp_unit := by
  have nd := sc_unitL.nd
  refine fnok F sc_unitL (fun vs H Q E h => ?_) (fun cdv A outer s H vs Q E hr h => ?_)
  · obtain ⟨n, rfl, _⟩ := h
    rfl
  · obtain ⟨n, rfl, hn, k⟩ := h
    refine ⟨_, (pss_cons (ps_set (i := 1) nd rfl (Or.inl rfl) pe_int)
  (pss_cons (ps_for PassesOwn.never rfl (pi_range1 (by rfl) T.range (pa_cons (pv 0) pa_nil)) (pg_name (i := 2) nd rfl (Or.inl rfl))
    (pss_one (ps_set (i := 1) nd rfl (Or.inl rfl) (pe_op on_mul (pv 1) pe_int))))
  (pss_one (ps_ret (pv 1))))), ?_⟩
    refine ⟨_, rfl, _, rfl, (by omega), (by omega), for_range (n := n) (fun i σ H2 => ∃ v, σ = [some (vN n), some (vN (2 ^ i)), v] ∧ H2 = H) ⟨none, rfl, rfl⟩ ?_ ?_⟩
    · rintro i σ H2 hi ⟨v, rfl, rfl⟩
      refine ⟨_, rfl, 2 ^ i, 2, rfl, rfl, Nat.pow_lt_pow_right (by decide) (by omega), some (vN i), ?_, rfl⟩
      rw [Nat.pow_succ, show (0 : Int) + (i : Int) = (i : Int) by omega]
      rfl
    · rintro σ H2 ⟨v, rfl, rfl⟩
      exact ⟨_, rfl, k⟩
theorem ok_word (F : FnP K "_law_word" "_law_word" s_wordL f fd) (D_drawL : Dn P w K mg base 1 "_law_draw" ["_law_pen_here", "_law_many"] sp_draw) : FnOk P w K mg base CX0 2 f fd ["_law_pen_here", "_law_bits"] sp_word := by
  have nd := sc_wordL.nd
  refine fnok F sc_wordL (fun vs H Q E h => ?_) (fun cdv A outer s H vs Q E hr h => ?_)
  · obtain ⟨p, lc, N, b, rfl, _⟩ := h
    rfl
  · obtain ⟨p, lc, N, b, rfl, hp, hb, hN, k⟩ := h
    refine ⟨_, (pss_cons (ps_set (i := 2) nd rfl (Or.inl rfl) pe_int)
  (pss_cons (ps_for PassesOwn.never rfl (pi_range1 (by rfl) T.range (pa_cons (pv 1) pa_nil)) (pg_name (i := 3) nd rfl (Or.inl rfl))
    (pss_one (ps_set (i := 2) nd rfl (Or.inl rfl) (pe_op on_add (pe_op on_mul (pv 2) pe_int) (pe_d D_drawL hr (pa_cons (pv 0) (pa_cons pe_int pa_nil)))))))
  (pss_one (ps_ret (pv 2))))), ?_⟩
    have hN' : N + 100 ≤ 1099511627776 := hN
    refine ⟨_, rfl, _, rfl, (by omega), (by omega), for_range (n := b) (fun i σ H2 => ∃ x v, σ = [some (.ref p), some (vN b), some (vN x), v] ∧ x < 2 ^ i ∧ Pn H2 p lc (N + i) ∧ Kp H H2) ⟨0, none, rfl, by decide, hp, Kp.refl H⟩ ?_ ?_⟩
    · rintro i σ H2 hi ⟨x, v, rfl, hx, hp2, kp2⟩
      have hx2 : x < 2 ^ 64 := Nat.lt_of_lt_of_le hx (Nat.pow_le_pow_right (by decide) (by omega))
      refine ⟨_, rfl, x, 2, rfl, rfl, hx2, _, rfl, p, lc, N + i, 2, rfl, hp2, (by decide), (by decide), (by show N + i + 1 ≤ 1099511627776; omega), fun H3 r hr3 hp3 kp3 => ?_⟩
      refine ⟨_, _, rfl, rfl, x * 2 + r, _, rfl, ?_, hp3, kp2.trans kp3⟩
      rw [Nat.pow_succ]
      omega
    · rintro σ H2 ⟨x, v, rfl, hx, hp2, kp2⟩
      exact ⟨_, rfl, k _ _ hx (hp2.mono (by omega)) kp2⟩
theorem ok_base (F : FnP K "_law_base" "_law_base" s_baseL f fd) (D_drawL : Dn P w K mg base 1 "_law_draw" ["_law_pen_here", "_law_many"] sp_draw) (D_unitL : Dn P w K mg base 1 "_law_unit" ["_law_k"] sp_unit) : FnOk P w K mg base CX0 2 f fd ["_law_pen_here", "_law_bits"] sp_base := by
  have nd := sc_baseL.nd
  refine fnok F sc_baseL (fun vs H Q E h => ?_) (fun cdv A outer s H vs Q E hr h => ?_)
  · obtain ⟨p, lc, N, b, rfl, _⟩ := h
    rfl
  · obtain ⟨p, lc, N, b, rfl, hp, hb0, hb, hN, k⟩ := h
    refine ⟨_, (pss_cons (ps_setLc (i := 2) (own := [("_law_k", 3)]) (g := gName 3) (by rfl) nd rfl rfl (sw_true rfl rfl rfl (by decide +kernel)) (pi_range1 (by rfl) T.range (pa_cons (pv 1) pa_nil)) (blkOk_by (own := [("_law_k", 3)]) (N := ["_law_pen_here", "_law_bits", "_law_words", "_law_k", "_law_at", "_law_to"]) (sc := defScope s_baseL) (by decide +kernel)) (fun _ _ _ _ _ => (pg_name (i := 3) nd rfl (Or.inl rfl))) (fun _ _ _ _ _ => pts_nil) (fun _ _ _ _ _ => (pe_d D_unitL hr (pa_cons (pv 3) pa_nil))))
  (pss_cons (ps_for PassesOwn.never rfl (pi_range1 (by rfl) T.range (pa_cons (pe_op on_mul pe_int (pv 1)) pa_nil)) (pg_name (i := 3) nd rfl (Or.inl rfl))
    (pss_cons (ps_par (i := 4) (j := 5) (by rfl) nd rfl rfl (by decide) rfl rfl (pa_cons (pe_d D_drawL hr (pa_cons (pv 0) (pa_cons (pv 1) pa_nil))) (pa_cons (pe_d D_drawL hr (pa_cons (pv 0) (pa_cons (pv 1) pa_nil))) pa_nil)) (by rfl))
    (pss_one (ps_if (pt_cmpR op_ne (pv 4) (pv 5) (nomark _))
      (pss_one (ps_asg (pe_op on_xor (pe_ix ix_q (pv 2) (pv 5) (fun _ _ => rfl)) (pe_ix ix_q (pv 2) (pv 4) (fun _ _ => rfl))) (pg_sub (pv 2) (pv 5) set_list)))
      pss_nil))))
  (pss_one (ps_ret (pv 2))))), ?_⟩
    have hN' : N + 1000 ≤ 1099511627776 := hN
    refine ⟨_, rfl, _, rfl, (by omega), (by omega), lc_pureR (n := b) (fun _ => true) (fun i => vN (2 ^ i)) (by omega) (fun i H' hi s => ?_) (fun D H1 hD s1 h1 => ?_)⟩
    · intro Z Nx z1 z2
      exact ⟨rfl, _, rfl, i, rfl, (by omega), z1 rfl _ (Same.refl _)⟩
    rw [filt_true] at h1
    have np := hp.ne hD
    have e0 : H1 D = some (.lst ((units b).map vN)) := by
      rw [h1]
      unfold units
      rw [List.map_map]
      congr 2
      exact List.map_congr_left fun i _ => by
        show vN (2 ^ i) = vN (1 <<< i)
        rw [Nat.one_shiftLeft]
    refine ⟨_, rfl, 3, b, rfl, rfl, (by decide), _, rfl, (by omega), (by omega), for_range (n := 3 * b) (fun i σ H2 => ∃ v3 v4 v5 M, σ = [some (.ref p), some (vN b), some (.ref D), v3, v4, v5] ∧ Mix b M ∧ H2 D = some (.lst (M.map vN)) ∧ Pn H2 p lc (N + 2 * i) ∧ Kp H H2) ⟨_, _, _, units b, rfl, mix_units b, e0, hp.same s1, Kp.of s1⟩ ?_ ?_⟩
    · rintro i σ H2 hi ⟨v3, v4, v5, M, rfl, mM, e2, hp2, kp2⟩
      have lM := mM.len
      refine ⟨_, rfl, _, rfl, p, lc, N + 2 * i, b, rfl, hp2, hb0, (by omega), (by show N + 2 * i + 1 ≤ 1099511627776; omega), fun H3 x hx hp3 kp3 => ?_⟩
      refine ⟨_, rfl, _, rfl, p, lc, N + 2 * i + 1, b, rfl, hp3, hb0, (by omega), (by show N + 2 * i + 1 + 1 ≤ 1099511627776; omega), fun H4 y hy hp4 kp4 => ⟨_, _, rfl, ?_⟩⟩
      have kp24 := kp3.trans kp4
      have e4 := kp24 _ _ e2 rfl
      refine ⟨_, rfl, _, rfl, rfl, _, rfl, ?_⟩
      rw [dec_nat]
      refine br (fun z => ?_) (fun z => ?_)
      · have ne : x ≠ y := by simpa using z
        refine ⟨_, rfl, _, rfl, D, _, y, _, rfl, rfl, .inl e4, getN (by omega), _, rfl, _, rfl, D, _, x, _, rfl, rfl, .inl e4, getN (by omega), _, _, rfl, rfl, _, rfl, _, rfl, D, _, _, y, rfl, rfl, e4, ?_, ?_⟩
        · exact ix_okN (by rw [List.length_map]; omega)
        · refine ⟨_, _, _, M.set y (M.getD y 0 ^^^ M.getD x 0), rfl, mix_step mM (by omega) (by omega) ne, ?_, (hp4.put np).mono (by omega), kp_put (kp2.trans kp24) hD⟩
          rw [upd_same, set_map]
      · exact ⟨_, _, _, M, rfl, mM, e4, hp4.mono (by omega), kp2.trans kp24⟩
    · rintro σ H2 ⟨v3, v4, v5, M, rfl, mM, e2, hp2, kp2⟩
      exact ⟨_, rfl, k _ _ M mM hD e2 (hp2.mono (by omega)) kp2⟩
omit T in
theorem ok_joined (F : FnP K "_law_joined" "_law_joined" s_joinedL f fd) (D_unitL : Dn P w K mg base 1 "_law_unit" ["_law_k"] sp_unit) : FnOk P w K mg base CX0 2 f fd ["_law_low", "_law_high", "_law_shift"] sp_joined := by
  have nd := sc_joinedL.nd
  refine fnok F sc_joinedL (fun vs H Q E h => ?_) (fun cdv A outer s H vs Q E hr h => ?_)
  · obtain ⟨x, y, n, rfl, _⟩ := h
    rfl
  · obtain ⟨x, y, n, rfl, hn, hx, hy, k⟩ := h
    refine ⟨_, (pss_one (ps_ret (pe_op on_add (pv 0) (pe_op on_mul (pv 1) (pe_d D_unitL hr (pa_cons (pv 2) pa_nil)))))), ?_⟩
    refine ⟨_, rfl, _, rfl, _, rfl, n, rfl, hn, y, _, rfl, rfl, Nat.lt_of_lt_of_le hy (Nat.pow_le_pow_right (by decide) (by decide)), x, _, rfl, rfl, ?_⟩
    rw [add_beside hx]
    exact k
end
end LaneX
set_option Elab.async false
set_option linter.all false
set_option maxRecDepth 100000
set_option maxHeartbeats 4000000
namespace LaneX
open PySem PySem.Spec PyProof.Rows L2
theorem drn_of {b l : Nat} {M E O : List Nat} (mM : Mix b M) (hE : ∀ x ∈ E, x < 2 ^ b) (el : E.length ≤ 3) (p : O.Perm (M ++ E)) (b0 : 0 < b) (b9 : b ≤ 9) (lb : l ≤ b) (l5 : l ≤ 5) : Drn b l (O.drop l) (O.take l) := by
  have len := p.length_eq
  rw [List.length_append, mM.len] at len
  have lt : ∀ x ∈ O, x < 2 ^ b := fun x hx => by
    rcases List.mem_append.mp (p.mem_iff.mp hx) with h | h
    · exact mM.lt x h
    · exact hE x h
  refine ⟨b0, b9, fun x hx => lt x (List.mem_of_mem_drop hx), fun x hx => lt x (List.mem_of_mem_take hx), by rw [List.length_drop]; omega, by rw [List.length_take]; omega, l5, ?_⟩
  have e : rk (O.drop l ++ O.take l) = rk (M ++ E) := by
    refine rk_perm (List.Perm.trans List.perm_append_comm ?_)
    rw [List.take_append_drop]
    exact p
  rw [e]
  have := rk_left M E
  rw [mM.rk] at this
  exact this
section
variable {P : Program} {w : World} {K : PySem.W.Frag} {mg : Str → Option Value} {base : Heap} {f : Addr} {fd : FuncData} {CS CR CM : Addr} (T : Bt mg) (TS : SpaceT K mg CS) (TR : SpreadT K mg CR)
include T
theorem spread_tail {cdv : Value} {A : Around} {outer : List Env} {s : Shared} {H0 : Hp} {Q : VK} {E : XK} (D_drawL : Dn P w K mg base 1 "_law_draw" ["_law_pen_here", "_law_many"] sp_draw) (K_Spread : Kn P w K mg base 4 CR "Spread" ["self", "bits", "slots", "lanes"] (sp_Spread CR))
    (hr : Room 5 (A.deeper (envOfC "_law_spread" (defScope s_spreadL) s.heap.objs.size f cdv))) :
    ∃ t, PSs (cxOf CX0 P w K mg base ["_law_pen_here", "_law_bits", "_law_lanes", "_law_words", "_law_order"] "_law_spread" (defScope s_spreadL) f cdv A outer s H0 E).nox ((defBody s_spreadL).drop 2) t ∧
      ∀ (H H1 : Hp) (p lc q : Addr) (N b l : Nat) (M X : List Nat), N + 10000 ≤ TOP → Mix b M → (∀ x ∈ X, x < 2 ^ b) → X.length ≤ 3 → 0 < b → b ≤ 9 → l ≤ b → l ≤ 5 → lc ≠ q ∧ p ≠ q → H q = none → Kp H H1 → H1 q = some (.lst ((M ++ X).map vN)) → Pn H1 p lc (N + 2000) →
        (∀ (H' : Hp) (q : Addr) (ss ls : List Nat), Drn b l ss ls → H q = none → SpreadAt CR H' q b ss ls → Pn H' p lc (N + 10000) → Kp H H' → Q (.ref q) H') →
        t { nx := fun _ H' => Q .non H', rt := Q } [some (.ref p), some (vN b), some (vN l), some (.ref q), none] H1 := by
  have nd := sc_spreadL.nd
  refine ⟨_, (pss_cons (ps_set (i := 4) nd rfl (Or.inl rfl) (pe_lst pa_nil))
  (pss_cons (ps_while PassesOwn.never (pt_cmpR (op_neE hr.units) (pv 3) (pe_lst pa_nil) (nomark _))
    (pss_one (ps_expr (pe_bm PySem.F.plainAttrs_list PySem.F.slot_list_append PySem.F.type_list_append mt_append (pv 4) (pa_cons (pe_bm PySem.F.plainAttrs_list PySem.F.slot_list_pop PySem.F.type_list_pop mt_popAt (pv 3) (pa_cons (pe_d D_drawL hr (pa_cons (pv 0) (pa_cons (pe_callB call_lenQ (by rfl) T.len PySem.boot_len (pa_cons (pv 3) pa_nil)) pa_nil))) pa_nil)) pa_nil)))))
  (pss_one (ps_ret (pe_k K_Spread hr (pa_cons (pv 1) (pa_cons (pe_slice sl_list (pv 4) (po_some (pv 2)) po_none) (pa_cons (pe_slice sl_list (pv 4) po_none (po_some (pv 2))) pa_nil)))))))), ?_⟩
  intro H H1 p lc q N b l M X hN mM hX lX hb0 hb9 hlb hl5 np hq kp1 e1 hp1 k
  have hN' : N + 10000 ≤ 1099511627776 := hN
  have lM := mM.len
  refine ⟨(by decide), fun o ho => ?_⟩
  have ho0 : H o = none := kp1.free _ ho
  have nqo : q ≠ o := ne_of_none e1 ho
  have no := hp1.ne ho
  refine ⟨fun m σ H2 => ∃ Y O, m = Y.length ∧ σ = [some (.ref p), some (vN b), some (vN l), some (.ref q), some (.ref o)] ∧ (Y ++ O).Perm (M ++ X) ∧ H2 q = some (.lst (Y.map vN)) ∧ H2 o = some (.lst (O.map vN)) ∧ Pn H2 p lc (N + 2000 + O.length) ∧ Kp H H2,
    ⟨_, M ++ X, [], rfl, rfl, (by rw [List.append_nil]), upd_new ho e1, upd_same, hp1.put no, kp_new kp1 ho⟩, ?_⟩
  rintro m σ H2 ⟨Y, O, rfl, rfl, pm, eq, eo, hp2, kp2⟩
  have len := pm.length_eq
  rw [List.length_append, List.length_append, lM] at len
  refine ⟨_, rfl, (by decide), fun z hz => ?_⟩
  have nz := hp2.ne hz
  refine ⟨q, z, Y, rfl, rfl, upd_new hz eq, upd_same, _, rfl, br (fun e => ?_) (fun e => ?_)⟩
  · have hy : 0 < Y.length := by
      cases Y with
      | nil => cases e
      | cons y r => exact Nat.succ_pos _
    refine ⟨fun σ' H' => ∃ (Y' O' : List Nat), Y'.length < Y.length ∧ σ' = [some (.ref p), some (vN b), some (vN l), some (.ref q), some (.ref o)] ∧ (Y' ++ O').Perm (M ++ X) ∧ H' q = some (.lst (Y'.map vN)) ∧ H' o = some (.lst (O'.map vN)) ∧ Pn H' p lc (N + 2000 + O'.length) ∧ Kp H H', fun σ' H' hI => ?_, ?_⟩
    · obtain ⟨Y', O', h1, h2⟩ := hI
      exact ⟨_, h1, Y', O', rfl, h2⟩
    have eq' := upd_new (o := .lst []) hz eq
    have eo' := upd_new (o := .lst []) hz eo
    have hp2' := hp2.put (o := .lst []) nz
    have kp2' := kp_new (o := .lst []) kp2 hz
    generalize upd H2 z (.lst []) = H3 at *
    refine ⟨_, rfl, .inl ⟨rfl, _, SqL.of eo'⟩, _, rfl, .inl ⟨rfl, _, SqL.of eq'⟩, _, rfl, _, rfl, q, _, rfl, .inl eq', p, lc, _, (Y.map vN).length, rfl, hp2', (by rw [List.length_map]; exact hy), (by rw [List.length_map]; omega), (by show N + 2000 + O.length + 1 ≤ 1099511627776; omega), fun H4 r hr4 hp4 kp4 => ?_⟩
    rw [List.length_map] at hr4
    have g1 := kp4 _ _ eq' rfl
    have g2 := kp4 _ _ eo' rfl
    refine ⟨q, _, (r : Int), r, vN Y[r], rfl, rfl, g1, (by omega), (by omega), ?_, ?_, ?_⟩
    · rw [List.length_map]
      exact seq_nat hr4
    · rw [List.getElem?_map, List.getElem?_eq_getElem hr4]
      rfl
    · refine ⟨o, _, _, rfl, rfl, upd_put g2 nqo.symm, (by rw [List.length_map]; exact size6 (by omega)), ?_⟩
      refine ⟨Y.eraseIdx r, O ++ [Y[r]], ?_, rfl, ?_, ?_, ?_, ?_, ?_⟩
      · rw [List.length_eraseIdx, if_pos hr4]
        omega
      · refine List.Perm.trans ?_ pm
        have e1 : (Y[r] :: Y.eraseIdx r).Perm Y := perm_erase hr4
        have e2 : (Y.eraseIdx r ++ (O ++ [Y[r]])).Perm (Y[r] :: (Y.eraseIdx r ++ O)) := by
          rw [← List.append_assoc]
          exact List.perm_append_comm
        exact e2.trans (e1.append_right O)
      · rw [upd_ne nqo, upd_same, eraseIdx_map]
      · rw [upd_same, List.map_append]
        rfl
      · rw [List.length_append]
        exact (hp4.put np).put no
      · exact kp_put (kp_put (kp2'.trans kp4) hq) ho0
  · have ey : Y = [] := by
      cases Y with
      | nil => rfl
      | cons y r => cases e
    subst ey
    rw [List.nil_append] at pm
    have eo' := upd_new (o := .lst []) hz eo
    have hp2' := hp2.put (o := .lst []) nz
    have kp2' := kp_new (o := .lst []) kp2 hz
    generalize upd H2 z (.lst []) = H3 at *
    have D := drn_of (l := l) mM hX lX pm hb0 hb9 hlb hl5
    have lO : O.length = b + X.length := by
      rw [List.length_nil] at len
      omega
    refine ⟨_, rfl, _, rfl, _, rfl, _, rfl, o, _, rfl, SqL.of eo', fun a ha => ?_⟩
    rw [cut_drop _ (by omega)]
    refine ⟨_, rfl, _, rfl, _, rfl, o, _, rfl, SqL.of (upd_new ha eo'), fun c hc => ?_⟩
    rw [cut_take _ (by omega)]
    have z5 := same_new (o := .lst ((O.take l).map vN)) (same_new0 (o := .lst ((O.drop l).map vN)) ha) hc
    refine mk_Spread (.inl (upd_new hc upd_same)) (.inl upd_same) D.wf D.hk (fun H' r z7 hr7 hA => ?_)
    have z := z5.trans z7
    exact k _ _ _ _ D (kp2'.free _ (same_free z5 hr7)) hA ((hp2'.same z).mono (by omega)) (kp2'.trans (Kp.of z))
theorem ok_spreadL (F : FnP K "_law_spread" "_law_spread" s_spreadL f fd) (D_drawL : Dn P w K mg base 1 "_law_draw" ["_law_pen_here", "_law_many"] sp_draw) (D_wordL : Dn P w K mg base 2 "_law_word" ["_law_pen_here", "_law_bits"] sp_word) (D_baseL : Dn P w K mg base 2 "_law_base" ["_law_pen_here", "_law_bits"] sp_base)
    (K_Spread : Kn P w K mg base 4 CR "Spread" ["self", "bits", "slots", "lanes"] (sp_Spread CR)) : FnOk P w K mg base CX0 6 f fd ["_law_pen_here", "_law_bits", "_law_lanes"] (sp_spreadL CR) := by
  have nd := sc_spreadL.nd
  refine fnok F sc_spreadL (fun vs H Q E h => ?_) (fun cdv A outer s H vs Q E hr h => ?_)
  · obtain ⟨p, lc, N, b, l, rfl, _⟩ := h
    rfl
  · obtain ⟨p, lc, N, b, l, rfl, hp, hb0, hb9, hlb, hl5, hN, k⟩ := h
    obtain ⟨tt, hP, hT⟩ := spread_tail (H0 := H) (Q := Q) (E := E) T D_drawL K_Spread hr
    refine ⟨_, (pss_cons (ps_set (i := 3) nd rfl (Or.inl rfl) (pe_d D_baseL hr (pa_cons (pv 0) (pa_cons (pv 1) pa_nil))))
  (pss_cons (ps_while PassesOwn.never (PW.pt (pw_or (pt_cmpR op_lt (pe_callB call_lenQ (by rfl) T.len PySem.boot_len (pa_cons (pv 3) pa_nil)) (pv 2) (nomark _)) (pw_or1 (PW.pt (pw_and (pt_cmpR op_eq (pe_d D_drawL hr (pa_cons (pv 0) (pa_cons pe_int pa_nil))) pe_int (nomark _)) (pw_and1 (pt_cmpR op_lt (pe_callB call_lenQ (by rfl) T.len PySem.boot_len (pa_cons (pv 3) pa_nil)) (pe_op on_add (pv 1) pe_int) (nomark _))))))))
    (pss_one (ps_expr (pe_bm PySem.F.plainAttrs_list PySem.F.slot_list_append PySem.F.type_list_append mt_append (pv 3) (pa_cons (pe_d D_wordL hr (pa_cons (pv 0) (pa_cons (pv 1) pa_nil))) pa_nil)))))
  hP)), ?_⟩
    have hN' : N + 10000 ≤ 1099511627776 := hN
    refine ⟨_, rfl, _, rfl, p, lc, N, b, rfl, hp, hb0, (by omega), (by show N + 1000 ≤ 1099511627776; omega), fun H1 q M mM hq e1 hp1 kp1 => ?_⟩
    have lM := mM.len
    have np := hp.ne hq
    refine ⟨fun m σ H2 => ∃ X, m + X.length = 3 ∧ σ = [some (.ref p), some (vN b), some (vN l), some (.ref q), none] ∧ (∀ x ∈ X, x < 2 ^ b) ∧ H2 q = some (.lst ((M ++ X).map vN)) ∧ Pn H2 p lc (N + 1000 + 101 * X.length) ∧ Kp H H2, ⟨3, [], rfl, rfl, (fun x hx => by cases hx), (by rw [List.append_nil]; exact e1), hp1, kp1⟩, ?_⟩
    rintro m σ H2 ⟨X, hm, rfl, hX, e2, hp2, kp2⟩
    have fin : ∀ H3, H3 q = some (.lst ((M ++ X).map vN)) → Pn H3 p lc (N + 1000 + 101 * X.length + 1) → Kp H H3 → tt { nx := fun _ H' => Q .non H', rt := Q } [some (.ref p), some (vN b), some (vN l), some (.ref q), none] H3 := fun H3 e3 hp3 kp3 =>
      hT H H3 p lc q N b l M X hN mM hX (by omega) hb0 hb9 hlb hl5 np hq kp3 e3 (hp3.mono (by omega)) k
    refine ⟨_, rfl, q, _, rfl, .inl e2, _, rfl, _, _, rfl, rfl, _, rfl, br (fun z => ?_) (fun _ => ?_)⟩
    · have := of_decide_eq_true z
      rw [List.length_map, List.length_append] at this
      omega
    refine ⟨_, rfl, p, lc, _, 3, rfl, hp2, (by decide), (by decide), (by show N + 1000 + 101 * X.length + 1 ≤ 1099511627776; omega), fun H3 r hr3 hp3 kp3 => ?_⟩
    have e3 := kp3 _ _ e2 rfl
    refine ⟨rfl, _, rfl, br (fun _ => ?_) (fun _ => fin _ e3 hp3 (kp2.trans kp3))⟩
    refine ⟨_, rfl, q, _, rfl, .inl e3, _, rfl, b, 3, rfl, rfl, _, _, rfl, rfl, _, rfl, br (fun z => ?_) (fun _ => fin _ e3 hp3 (kp2.trans kp3))⟩
    have lt : X.length < 3 := by
      have := of_decide_eq_true z
      rw [List.length_map, List.length_append] at this
      omega
    refine ⟨fun σ' H' => ∃ x, x < 2 ^ b ∧ σ' = [some (.ref p), some (vN b), some (vN l), some (.ref q), none] ∧ H' q = some (.lst ((M ++ (X ++ [x])).map vN)) ∧ Pn H' p lc (N + 1000 + 101 * (X.length + 1)) ∧ Kp H H', fun σ' H' hI => ?_, ?_⟩
    · obtain ⟨x, hx, h1, h2, h3, h4⟩ := hI
      refine ⟨m - 1, by omega, X ++ [x], by rw [List.length_append, List.length_singleton]; omega, h1, fun y hy => ?_, h2, by rw [List.length_append, List.length_singleton]; exact h3, h4⟩
      rcases List.mem_append.mp hy with hy | hy
      · exact hX y hy
      · rcases List.mem_singleton.mp hy with rfl
        exact hx
    refine ⟨_, rfl, .inl ⟨rfl, _, SqL.of e3⟩, _, rfl, _, rfl, p, lc, _, b, rfl, hp3, (by omega), (by show N + 1000 + 101 * X.length + 1 + 100 ≤ 1099511627776; omega), fun H4 x hx hp4 kp4 => ?_⟩
    have e4 := kp4 _ _ e3 rfl
    refine ⟨q, _, _, rfl, rfl, e4, (by rw [List.length_map, List.length_append]; exact size6 (by omega)), x, hx, rfl, ?_, (hp4.put np).mono (by omega), kp_put ((kp2.trans kp3).trans kp4) hq⟩
    rw [upd_same, ← List.append_assoc, List.map_append (l₁ := M ++ X)]
    rfl
theorem ok_pair (F : FnP K "_law_pair" "_law_pair" s_pairL f fd) (D_drawL : Dn P w K mg base 1 "_law_draw" ["_law_pen_here", "_law_many"] sp_draw) (D_spreadL : Dn P w K mg base 6 "_law_spread" ["_law_pen_here", "_law_bits", "_law_lanes"] (sp_spreadL CR)) : FnOk P w K mg base CX0 7 f fd ["_law_pen_here", "_law_bits"] (sp_pair CR) := by
  have nd := sc_pairL.nd
  refine fnok F sc_pairL (fun vs H Q E h => ?_) (fun cdv A outer s H vs Q E hr h => ?_)
  · obtain ⟨p, lc, N, b, rfl, _⟩ := h
    rfl
  · obtain ⟨p, lc, N, b, rfl, hp, hb0, hb9, hN, k⟩ := h
    refine ⟨_, (pss_cons (ps_set (i := 2) nd rfl (Or.inl rfl) (pe_d D_drawL hr (pa_cons (pv 0) (pa_cons (pe_op on_add (pe_callB (call_min2 rfl) (by rfl) T.min (by decide +kernel) (pa_cons (pv 1) (pa_cons pe_int pa_nil))) pe_int) pa_nil))))
  (pss_one (ps_ret (pe_tup (pa_cons (pe_d D_spreadL hr (pa_cons (pv 0) (pa_cons (pv 1) (pa_cons (pv 2) pa_nil)))) (pa_cons (pe_d D_spreadL hr (pa_cons (pv 0) (pa_cons (pv 1) (pa_cons (pv 2) pa_nil)))) pa_nil)))))), ?_⟩
    have hN' : N + 30000 ≤ 1099511627776 := hN
    have em : (if (5 : Int) < (b : Int) then (5 : Int) else (b : Int)) = ((min b 5 : Nat) : Int) := by split <;> omega
    refine ⟨_, rfl, _, rfl, _, _, rfl, ?_⟩
    rw [em]
    refine ⟨_, 1, rfl, rfl, p, lc, N, min b 5 + 1, rfl, hp, (by omega), (by omega), (by show N + 1 ≤ 1099511627776; omega), fun H1 l hl hp1 kp1 => ?_⟩
    refine ⟨_, rfl, _, rfl, _, rfl, p, lc, _, b, l, rfl, hp1, hb0, hb9, (by omega), (by omega), (by show N + 1 + 10000 ≤ 1099511627776; omega), fun H2 q ss ls D1 hq h2 hp2 kp2 => ?_⟩
    refine ⟨_, rfl, _, rfl, _, rfl, p, lc, _, b, l, rfl, hp2, hb0, hb9, (by omega), (by omega), (by show N + 1 + 10000 + 10000 ≤ 1099511627776; omega), fun H3 r os ps D2 hr2 h3 hp3 kp3 => ?_⟩
    refine ⟨(by show 2 ≤ sizeLine; decide), fun t ht => ?_⟩
    have s4 := same_new0 (o := .tup [.ref q, .ref r]) ht
    exact k _ t q r l ss ls os ps D1 D2 upd_same ((h2.kp kp3).same s4) (h3.same s4) ((hp3.same s4).mono (by omega)) (((kp1.trans kp2).trans kp3).trans (Kp.of s4))
include TS in
theorem ok_sizes (F : FnP K "_law_sizes" "_law_sizes" s_sizesL f fd) (D_unitL : Dn P w K mg base 1 "_law_unit" ["_law_k"] sp_unit) (M_Spread_slot_space : Mn P w K mg base 6 CR "slot_space" ["self"] (sp_slot_space CS CR)) (D_lacks : Dn P w K mg base 6 "lacks" ["one", "other", "lane"] (sp_lacks CR)) : FnOk P w K mg base CX0 7 f fd ["_law_one", "_law_other", "_law_lane"] (sp_sizes CR) := by
  have nd := sc_sizesL.nd
  refine fnok F sc_sizesL (fun vs H Q E h => ?_) (fun cdv A outer s H vs Q E hr h => ?_)
  · obtain ⟨p, q, b, l, L, ss, ls, os, ps, rfl, _⟩ := h
    rfl
  · obtain ⟨p, q, b, l, L, ss, ls, os, ps, rfl, hp, hq, D1, D2, hL, k⟩ := h
    refine ⟨_, (pss_cons (ps_set (i := 3) nd rfl (Or.inl rfl) (pe_d D_unitL hr (pa_cons (pe_fld (pe_m0 (pv 1) M_Spread_slot_space hr) rfl) pa_nil)))
  (pss_one (ps_ret (pe_tup (pa_cons (pv 3) (pa_cons (pe_op on_sub (pv 3) (pe_d D_lacks hr (pa_cons (pv 0) (pa_cons (pv 1) (pa_cons (pv 2) pa_nil))))) pa_nil)))))), ?_⟩
    obtain ⟨dx, t, u, h1, h2, h3⟩ := id hq
    refine ⟨_, rfl, q, dx, _, rfl, h1, rfl, q, b, os, ps, rfl, hq, D2.wf, fun H1 x1 s1 hx1 g1 => ?_⟩
    obtain ⟨dz, z, g2, g3⟩ := g1
    have l1 : (spn os).length = rk os := rfl
    have l2 := rk_len os
    have l3 := D2.sl
    refine ⟨x1, CS, dz, _, vN (spn os).length, rfl, g2, TS.cl, TS.nd, rfl, (spn os).length, rfl, (by omega), ?_⟩
    have dl : due ss ls os ps L ≤ 2 ^ rk os := by
      have := due_le (os := os) D1.hs (D1.ll.trans D2.ll.symm) L
      exact Nat.le_trans this (fwr_le ss ls os ps)
    refine ⟨_, rfl, _, rfl, _, rfl, _, rfl, _, rfl, p, q, b, ss, ls, os, ps, L, rfl, hp.same s1, hq.same s1, D1.wf, D2.wf, D1.ll.trans D2.ll.symm, (by rw [D1.ll]; exact hL), fun H2 s2 => ?_⟩
    refine ⟨_, _, rfl, rfl, dl, (by show 2 ≤ sizeLine; decide), fun t ht => ?_⟩
    exact k _ t (same_new (s1.trans s2) ht) (same_free (s1.trans s2) ht) upd_same
end
end LaneX
set_option Elab.async false
set_option linter.all false
set_option maxRecDepth 100000
set_option maxHeartbeats 4000000
namespace LaneX
open PySem PySem.Spec PyProof.Rows L2
theorem mk_SpaceR {C : Addr} {H1 : Hp} {b : Nat} {a : Addr} {ws : List Nat} {R : Addr → VK} {E : XK} (hS : Tq H1 a (ws.map vN)) (hb : ∀ x ∈ ws, blen x ≤ b) (hl : ws.length ≤ 1000000) (k : ∀ H' p, Same H1 H' → H1 p = none → SpaceAt C H' p b (spn ws) → R p .non H') :
    ∀ x dx, H1 x = none → H1 dx = none → dx ≠ x → sp_Space C (.ref x :: ([vN b, .ref a] ++ [])) (upd (upd H1 dx (.own x)) x (.ins C dx [])) (R x) E := by
  intro x dx nx ndx ne
  have nx' : upd H1 dx (.own x) x = none := (upd_ne ne.symm).trans nx
  refine ⟨x, dx, b, a, ws, rfl, upd_same, (hS.new ndx).new nx', hb, hl, fun H' hA kp => k _ _ (made_same nx ndx kp) nx hA⟩
/-- the body of a for loop -/
def forBody : Stmt → List Stmt
  | .For _ _ b _ _ => b
  | _ => []
abbrev lapB : List Stmt := forBody ((defBody s_law).getD 1 (.Pass ⟨0, 0, 0, 0⟩))
abbrev inB : List Stmt := forBody (lapB.getD 4 (.Pass ⟨0, 0, 0, 0⟩))
structure Lap (CR : Addr) (H : Hp) (one other low high start goal : Addr) (n m t u : Nat) (s1 l1 o1 p1 s2 l2 o2 p2 : List Nat) : Prop where
  d1 : Drn n t s1 l1
  d2 : Drn n t o1 p1
  d3 : Drn m u s2 l2
  d4 : Drn m u o2 p2
  a1 : SpreadAt CR H one n s1 l1
  a2 : SpreadAt CR H other n o1 p1
  a3 : SpreadAt CR H low m s2 l2
  a4 : SpreadAt CR H high m o2 p2
  a5 : SpreadAt CR H start (n + m) (jn n s1 s2) (jn n l1 l2)
  a6 : SpreadAt CR H goal (n + m) (jn n o1 o2) (jn n p1 p2)
theorem Lap.kp {CR : Addr} {H H' : Hp} {one other low high start goal : Addr} {n m t u : Nat} {s1 l1 o1 p1 s2 l2 o2 p2 : List Nat} (h : Lap CR H one other low high start goal n m t u s1 l1 o1 p1 s2 l2 o2 p2) (k : Kp H H') : Lap CR H' one other low high start goal n m t u s1 l1 o1 p1 s2 l2 o2 p2 :=
  ⟨h.d1, h.d2, h.d3, h.d4, h.a1.kp k, h.a2.kp k, h.a3.kp k, h.a4.kp k, h.a5.kp k, h.a6.kp k⟩
section
variable {CR : Addr} {H : Hp} {one other low high start goal : Addr} {n m t u : Nat} {s1 l1 o1 p1 s2 l2 o2 p2 : List Nat} (h : Lap CR H one other low high start goal n m t u s1 l1 o1 p1 s2 l2 o2 p2)
include h
theorem Lap.w5 : WfR (n + m) (jn n s1 s2) (jn n l1 l2) := by
  have := h.d1.b9; have := h.d3.b9; have := h.d1.sl; have := h.d3.sl; have := h.d1.ll; have := h.d3.ll; have := h.d1.l5; have := h.d3.l5
  exact wf_join h.d1.wf h.d3.wf (by omega) (by omega) (by omega)
theorem Lap.w6 : WfR (n + m) (jn n o1 o2) (jn n p1 p2) := by
  have := h.d1.b9; have := h.d3.b9; have := h.d2.sl; have := h.d4.sl; have := h.d2.ll; have := h.d4.ll; have := h.d1.l5; have := h.d3.l5
  exact wf_join h.d2.wf h.d4.wf (by omega) (by omega) (by omega)
theorem Lap.e1 : l1.length = p1.length := h.d1.ll.trans h.d2.ll.symm
theorem Lap.e2 : l2.length = p2.length := h.d3.ll.trans h.d4.ll.symm
theorem Lap.e5 : (jn n l1 l2).length = (jn n p1 p2).length := by rw [jn_len, jn_len, h.e1, h.e2]
theorem Lap.full : n + m ≤ rk (jn n s1 s2 ++ jn n l1 l2) := jn_full h.d1.hs h.d1.hl h.d1.hk h.d3.hk
end
theorem neF {a b : Nat} (h : a = b) : (!decide (vN a = vN b)) = false := by
  subst h
  simp
theorem spn_ker_len (cs : List Nat) : (spn (ker cs)).length = (ker cs).length := spn_id (ker_rws cs)
theorem hld_le {ss ls os ps : List Nat} {L : Nat} : hld ss ls os ps L ≤ 2 ^ rk os := Nat.sub_le _ _
section
variable {P : Program} {w : World} {K : PySem.W.Frag} {mg : Str → Option Value} {base : Heap} {f : Addr} {fd : FuncData} {CS CR CM : Addr} (T : Bt mg) (TS : SpaceT K mg CS) (TR : SpreadT K mg CR)
include T
include TR in
theorem law_in {cdv : Value} {A : Around} {outer : List Env} {s : Shared} {H0 : Hp} {E : XK} (D_wordL : Dn P w K mg base 2 "_law_word" ["_law_pen_here", "_law_bits"] sp_word) (D_joinedL : Dn P w K mg base 2 "_law_joined" ["_law_low", "_law_high", "_law_shift"] sp_joined) (D_sizesL : Dn P w K mg base 7 "_law_sizes" ["_law_one", "_law_other", "_law_lane"] (sp_sizes CR)) (D_lacks : Dn P w K mg base 6 "lacks" ["one", "other", "lane"] (sp_lacks CR)) (M_Spread_entry : Mn P w K mg base 5 CR "entry" ["self", "slot", "lane"] (sp_entry CR))
    (hr : Room 9 (A.deeper (envOfC "law" (defScope s_law) s.heap.objs.size f cdv))) :
    ∃ tt, PSs (cxOf CX0 P w K mg base ["_law_script", "_law_pen_here", "_law_lap", "_law_one", "_law_other", "_law_low", "_law_high", "_law_start", "_law_goal", "_law_n", "_law_t", "_law_r", "_law_k", "_law_here", "_law_there", "_law_lane", "_law_first", "_law_second", "_law_slot", "_law_more", "_law_due", "_law_space", "_law_wide"] "law" (defScope s_law) f cdv A outer s H0 E).nox inB tt ∧
      ∀ (D : Ends) (H : Hp) (p lc one other low high start goal : Addr) (N n m t u : Nat) (s1 l1 o1 p1 s2 l2 o2 p2 : List Nat) (v0 v2 v12 v13 v14 v15 v16 v17 v18 v19 v20 v21 v22 : Option V), Lap CR H one other low high start goal n m t u s1 l1 o1 p1 s2 l2 o2 p2 → N + 1000 ≤ TOP → Pn H p lc N →
        (∀ (H' : Hp) (v13 v14 v15 v16 v17 v18 v19 v20 : Option V), Pn H' p lc (N + 1000) → Kp H H' → D.nx [v0, some (.ref p), v2, some (.ref one), some (.ref other), some (.ref low), some (.ref high), some (.ref start), some (.ref goal), some (vN n), some (vN l1.length), some (vN s1.length), v12, v13, v14, v15, v16, v17, v18, v19, v20, v21, v22] H') →
        tt D [v0, some (.ref p), v2, some (.ref one), some (.ref other), some (.ref low), some (.ref high), some (.ref start), some (.ref goal), some (vN n), some (vN l1.length), some (vN s1.length), v12, v13, v14, v15, v16, v17, v18, v19, v20, v21, v22] H := by
  have nd := sc_law.nd
  refine ⟨_, (pss_cons (ps_par (i := 13) (j := 14) (by rfl) nd rfl rfl (by decide) rfl rfl (pa_cons (pe_d D_wordL hr (pa_cons (pv 1) (pa_cons (pv 10) pa_nil))) (pa_cons (pe_d D_wordL hr (pa_cons (pv 1) (pa_cons (pe_callB call_lenQ (by rfl) T.len PySem.boot_len (pa_cons (pe_fld (pv 5) rfl) pa_nil)) pa_nil))) pa_nil)) (by rfl))
      (pss_cons (ps_set (i := 15) nd rfl (Or.inl rfl) (pe_d D_joinedL hr (pa_cons (pv 13) (pa_cons (pv 14) (pa_cons (pv 10) pa_nil)))))
      (pss_cons (ps_par (i := 16) (j := 17) (by rfl) nd rfl rfl (by decide) rfl rfl (pa_cons (pe_d D_sizesL hr (pa_cons (pv 3) (pa_cons (pv 4) (pa_cons (pv 13) pa_nil)))) (pa_cons (pe_d D_sizesL hr (pa_cons (pv 5) (pa_cons (pv 6) (pa_cons (pv 14) pa_nil)))) pa_nil)) (by rfl))
      (pss_cons (ps_if (pt_cmpR op_ne (pe_d D_lacks hr (pa_cons (pv 7) (pa_cons (pv 8) (pa_cons (pv 15) pa_nil)))) (pe_op on_sub (pe_op on_mul (pe_ix ix_q (pv 16) pe_int (fun _ _ => rfl)) (pe_ix ix_q (pv 17) pe_int (fun _ _ => rfl))) (pe_op on_mul (pe_ix ix_q (pv 16) pe_int (fun _ _ => rfl)) (pe_ix ix_q (pv 17) pe_int (fun _ _ => rfl)))) (nomark _))
        (pss_one (ps_ret pe_bl))
        pss_nil)
      (pss_cons (ps_set (i := 18) nd rfl (Or.inl rfl) (pe_d D_joinedL hr (pa_cons (pe_d D_wordL hr (pa_cons (pv 1) (pa_cons (pv 11) pa_nil))) (pa_cons pe_int (pa_cons (pv 11) pa_nil)))))
      (pss_cons (ps_set (i := 19) nd rfl (Or.inl rfl) (pe_d D_wordL hr (pa_cons (pv 1) (pa_cons (pe_callB call_lenQ (by rfl) T.len PySem.boot_len (pa_cons (pe_fld (pv 5) rfl) pa_nil)) pa_nil))))
      (pss_cons (ps_set (i := 20) nd rfl (Or.inl rfl) (pe_d D_joinedL hr (pa_cons (pe_m (pv 3) M_Spread_entry hr (pa_cons (pv 18) (pa_cons (pv 13) pa_nil))) (pa_cons (pe_m (pv 5) M_Spread_entry hr (pa_cons (pv 19) (pa_cons (pv 14) pa_nil))) (pa_cons (pv 9) pa_nil)))))
      (pss_one (ps_if (pt_cmpR op_ne (pe_m (pv 7) M_Spread_entry hr (pa_cons (pe_d D_joinedL hr (pa_cons (pv 18) (pa_cons (pv 19) (pa_cons (pv 11) pa_nil)))) (pa_cons (pv 15) pa_nil))) (pv 20) (nomark _))
        (pss_one (ps_ret pe_bl))
        pss_nil))))))))), ?_⟩
  intro D H p lc one other low high start goal N n m t u s1 l1 o1 p1 s2 l2 o2 p2 v0 v2 v12 v13 v14 v15 v16 v17 v18 v19 v20 v21 v22 L hN hp k
  have hN' : N + 1000 ≤ 1099511627776 := hN
  have f1 := L.d1.b9; have f2 := L.d3.b9; have f3 := L.d1.sl; have f4 := L.d3.sl; have f5 := L.d1.ll; have f6 := L.d3.ll; have f7 := L.d1.l5; have f8 := L.d3.l5
  have up : ∀ {x b : Nat}, x < 2 ^ b → b ≤ 60 → x < 2 ^ 60 := fun h hb => Nat.lt_of_lt_of_le h (Nat.pow_le_pow_right (by decide) hb)
  -- lanes
  refine ⟨_, rfl, _, rfl, p, lc, N, l1.length, rfl, hp, (by omega), (by show N + 100 ≤ 1099511627776; omega), fun H1 x hx hp1 kp1 => ?_⟩
  have L1 := L.kp kp1
  obtain ⟨dl, sl, ll, g1, g2, g3⟩ := id L1.a3
  refine ⟨_, rfl, _, rfl, low, CR, dl, _, .ref ll, rfl, g1, TR.cl, TR.nl, rfl, ll, _, rfl, .inr g3, p, lc, N + 100, (l2.map vN).length, rfl, hp1, (by rw [List.length_map]; omega), (by show N + 100 + 100 ≤ 1099511627776; omega), fun H2 y hy hp2 kp2 => ⟨_, _, rfl, ?_⟩⟩
  rw [List.length_map] at hy
  have L2 := L1.kp kp2
  refine ⟨_, rfl, _, rfl, _, rfl, x, y, l1.length, rfl, (by omega), hx, up hy (by omega), ?_⟩
  -- sizes
  refine ⟨_, rfl, _, rfl, _, rfl, one, other, n, t, x, s1, l1, o1, p1, rfl, L2.a1, L2.a2, L.d1, L.d2, (by rw [← f5]; exact hx), fun H3 w1 s3 hw1 e1 => ?_⟩
  have L3 := L2.kp (Kp.of s3)
  refine ⟨_, rfl, _, rfl, _, rfl, low, high, m, u, y, s2, l2, o2, p2, rfl, L3.a3, L3.a4, L.d3, L.d4, (by rw [← f6]; exact hy), fun H4 w2 s4 hw2 e2 => ⟨_, _, rfl, ?_⟩⟩
  have L4 := L3.kp (Kp.of s4)
  have lt : x ^^^ y <<< l1.length < 2 ^ (jn n l1 l2).length := by rw [jn_len]; exact beside_lt hx hy
  have jd := jn_due (n := n) (m := m) (s1 := s1) (l1 := l1) (o1 := o1) (p1 := p1) (s2 := s2) (l2 := l2) (o2 := o2) (p2 := p2) L.d1.hs L.d1.hl L.d2.hs L.d2.hl L.d3.hs L.e1 L.e2 (y := y) hx
  refine ⟨_, rfl, _, rfl, _, rfl, start, goal, n + m, jn n s1 s2, jn n l1 l2, jn n o1 o2, jn n p1 p2, _, rfl, L4.a5, L4.a6, L.w5, L.w6, L.e5, lt, fun H5 s5 => ?_⟩
  have e1' := s5 _ _ (s4 _ _ e1)
  have e2' := s5 _ _ e2
  have L5 := L4.kp (Kp.of s5)
  have r1 : rk o1 ≤ 12 := Nat.le_trans (rk_len o1) L.d2.sl
  have big : 2 ^ rk o1 < 2 ^ 64 := Nat.pow_lt_pow_right (by decide) (by omega)
  have h1 := hld_le (ss := s1) (ls := l1) (os := o1) (ps := p1) (L := x)
  have h2 := hld_le (ss := s2) (ls := l2) (os := o2) (ps := p2) (L := y)
  refine ⟨_, rfl, w1, _, 0, vN (2 ^ rk o1), rfl, rfl, .inr e1', rfl, _, rfl, w2, _, 0, vN (2 ^ rk o2), rfl, rfl, .inr e2', rfl, _, _, rfl, rfl, big, ?_⟩
  refine ⟨_, rfl, w1, _, 1, vN (hld s1 l1 o1 p1 x), rfl, rfl, .inr e1', rfl, _, rfl, w2, _, 1, vN (hld s2 l2 o2 p2 y), rfl, rfl, .inr e2', rfl, _, _, rfl, rfl, Nat.lt_of_le_of_lt h1 big, _, _, rfl, rfl, Nat.mul_le_mul h1 h2, rfl, _, rfl, ?_⟩
  rw [neF jd]
  refine iteF ?_
  have hp5 := ((hp2.same s3).same s4).same s5
  have kp5 := ((kp1.trans kp2).trans (Kp.of s3)).trans ((Kp.of s4).trans (Kp.of s5))
  -- slots
  refine ⟨_, rfl, _, rfl, p, lc, N + 100 + 100, s1.length, rfl, hp5, (by omega), (by show N + 100 + 100 + 100 ≤ 1099511627776; omega), fun H6 z hz hp6 kp6 => ?_⟩
  refine ⟨_, rfl, z, 0, s1.length, rfl, (by omega), hz, (by decide), ?_⟩
  rw [Nat.zero_shiftLeft, Nat.xor_zero]
  have L6 := L5.kp kp6
  obtain ⟨dl, sl, ll, g1, g2, g3⟩ := id L6.a3
  refine ⟨_, rfl, _, rfl, low, CR, dl, _, .ref sl, rfl, g1, TR.cl, TR.ns, rfl, sl, _, rfl, .inr g2, p, lc, _, (s2.map vN).length, rfl, hp6, (by rw [List.length_map]; omega), (by show N + 100 + 100 + 100 + 100 ≤ 1099511627776; omega), fun H7 q hq hp7 kp7 => ?_⟩
  rw [List.length_map] at hq
  have L7 := L6.kp kp7
  obtain ⟨do_, so, lo, i1, i2, i3⟩ := id L7.a1
  refine ⟨_, rfl, one, do_, _, rfl, i1, rfl, _, rfl, _, rfl, one, n, z, x, s1, l1, rfl, L7.a1, L.d1.wf, hz, hx, fun H8 s8 => ?_⟩
  have L8 := L7.kp (Kp.of s8)
  obtain ⟨dl, sl, ll, g1, g2, g3⟩ := id L8.a3
  refine ⟨_, rfl, low, dl, _, rfl, g1, rfl, _, rfl, _, rfl, low, m, q, y, s2, l2, rfl, L8.a3, L.d3.wf, hq, hy, fun H9 s9 => ?_⟩
  have L9 := L8.kp (Kp.of s9)
  have q1 : img s1 z ^^^ img l1 x < 2 ^ n := Nat.xor_lt_two_pow (imf_lt L.d1.hs _ _) (imf_lt L.d1.hl _ _)
  have q2 : img s2 q ^^^ img l2 y < 2 ^ m := Nat.xor_lt_two_pow (imf_lt L.d3.hs _ _) (imf_lt L.d3.hl _ _)
  refine ⟨_, rfl, _, _, n, rfl, (by omega), q1, up q2 (by omega), ?_⟩
  obtain ⟨ds, ss, ls, j1, j2, j3⟩ := id L9.a5
  refine ⟨_, rfl, start, ds, _, rfl, j1, rfl, _, rfl, _, rfl, _, rfl, z, q, s1.length, rfl, (by omega), hz, up hq (by omega), ?_⟩
  have lt2 : z ^^^ q <<< s1.length < 2 ^ (jn n s1 s2).length := by rw [jn_len]; exact beside_lt hz hq
  refine ⟨_, rfl, start, n + m, _, _, jn n s1 s2, jn n l1 l2, rfl, L9.a5, L.w5, lt2, lt, fun H10 s10 => ?_⟩
  have fe : img (jn n s1 s2) (z ^^^ q <<< s1.length) ^^^ img (jn n l1 l2) (x ^^^ y <<< l1.length) = img s1 z ^^^ img l1 x ^^^ (img s2 q ^^^ img l2 y) <<< n := by
    rw [jn_img hz, jn_img hx, xor4, ← Nat.shiftLeft_xor_distrib]
  refine ⟨_, rfl, rfl, _, rfl, ?_⟩
  rw [neF fe]
  refine iteF ?_
  refine k _ _ _ _ _ _ _ _ _ ((((hp7.same s8).same s9).same s10).mono (by omega)) ((kp5.trans kp6).trans (kp7.trans ((Kp.of s8).trans ((Kp.of s9).trans (Kp.of s10)))))
end
end LaneX
set_option Elab.async false
set_option linter.all false
set_option maxRecDepth 100000
set_option maxHeartbeats 4000000
namespace LaneX
open PySem PySem.Spec PyProof.Rows L2
section
variable {P : Program} {w : World} {K : PySem.W.Frag} {mg : Str → Option Value} {base : Heap} {f : Addr} {fd : FuncData} {CS CR CM : Addr} (T : Bt mg) (TS : SpaceT K mg CS) (TR : SpreadT K mg CR)
include T
include TS TR in
theorem law_end {cdv : Value} {A : Around} {outer : List Env} {s : Shared} {H0 : Hp} {E : XK} (D_drawL : Dn P w K mg base 1 "_law_draw" ["_law_pen_here", "_law_many"] sp_draw) (D_wordL : Dn P w K mg base 2 "_law_word" ["_law_pen_here", "_law_bits"] sp_word) (M_Spread_copies : Mn P w K mg base 7 CR "copies" ["self"] (sp_copies CS CR)) (M_Spread_floordiv : Mn P w K mg base 6 CR "__floordiv__" ["self", "one"] (sp_floordiv CR)) (M_Spread_eq : Mn P w K mg base 1 CR "__eq__" ["self", "other"] (sp_spread_eq CR)) (D_fewest_rounds : Dn P w K mg base 6 "fewest_rounds" ["one", "other"] (sp_fewest_rounds CR)) (K_Space : Kn P w K mg base 4 CS "Space" ["self", "bits", "words"] (sp_Space CS)) (D_partners : Dn P w K mg base 7 "partners" ["spread", "space"] (sp_partners CS CR)) (M_Spread_twins : Mn P w K mg base 6 CR "twins" ["self"] (sp_twins CS CR)) (D_sum_rounds : Dn P w K mg base 9 "sum_rounds" ["spread", "space"] (sp_sum_rounds CS CR)) (hsfR : PySem.W.selfFirst K CR = true) (hneR : PySem.W.findIn K (.ref CR) "__ne__" = some (some (.builtin "object.__ne__")))
    (hr : Room 9 (A.deeper (envOfC "law" (defScope s_law) s.heap.objs.size f cdv))) :
    ∃ tt, PSs (cxOf CX0 P w K mg base ["_law_script", "_law_pen_here", "_law_lap", "_law_one", "_law_other", "_law_low", "_law_high", "_law_start", "_law_goal", "_law_n", "_law_t", "_law_r", "_law_k", "_law_here", "_law_there", "_law_lane", "_law_first", "_law_second", "_law_slot", "_law_more", "_law_due", "_law_space", "_law_wide"] "law" (defScope s_law) f cdv A outer s H0 E).nox (lapB.drop 5) tt ∧
      ∀ (D : Ends) (H : Hp) (p lc one other low high start goal : Addr) (N n m t u : Nat) (s1 l1 o1 p1 s2 l2 o2 p2 : List Nat) (v0 v2 v12 v13 v14 v15 v16 v17 v18 v19 v20 v21 v22 : Option V), Lap CR H one other low high start goal n m t u s1 l1 o1 p1 s2 l2 o2 p2 → N + 1000 ≤ TOP → Pn H p lc N →
        (∀ (H' : Hp) (v21 v22 : Option V), Pn H' p lc (N + 1000) → Kp H H' → D.nx [v0, some (.ref p), v2, some (.ref one), some (.ref other), some (.ref low), some (.ref high), some (.ref start), some (.ref goal), some (vN n), some (vN l1.length), some (vN s1.length), v12, v13, v14, v15, v16, v17, v18, v19, v20, v21, v22] H') →
        tt D [v0, some (.ref p), v2, some (.ref one), some (.ref other), some (.ref low), some (.ref high), some (.ref start), some (.ref goal), some (vN n), some (vN l1.length), some (vN s1.length), v12, v13, v14, v15, v16, v17, v18, v19, v20, v21, v22] H := by
  have nd := sc_law.nd
  refine ⟨_, (pss_cons (ps_if (pt_cmpR op_ne (pe_fld (pe_m0 (pv 7) M_Spread_copies hr) rfl) (pe_op on_add (pe_fld (pe_m0 (pv 3) M_Spread_copies hr) rfl) (pe_fld (pe_m0 (pv 5) M_Spread_copies hr) rfl)) (nomark _))
      (pss_one (ps_ret pe_bl))
      pss_nil)
    (pss_cons (ps_if (PW.pt (pw_or (pt_cmpR (op_neO M_Spread_eq hneR TR.hm hr) (pe_op (op_own (by rfl) M_Spread_floordiv hsfR hr) (pv 7) (pv 3)) (pv 5) (nomark _)) (pw_or1 (pt_cmpR op_ne (pe_d D_fewest_rounds hr (pa_cons (pv 7) (pa_cons (pv 7) pa_nil))) pe_int (nomark _)))))
      (pss_one (ps_ret pe_bl))
      pss_nil)
    (pss_cons (ps_if (pt_cmpR op_lt (pe_d D_fewest_rounds hr (pa_cons (pv 7) (pa_cons (pv 8) pa_nil))) (pe_callB (call_max2 rfl) (by rfl) T.max (by decide +kernel) (pa_cons (pe_d D_fewest_rounds hr (pa_cons (pv 3) (pa_cons (pv 4) pa_nil))) (pa_cons (pe_d D_fewest_rounds hr (pa_cons (pv 5) (pa_cons (pv 6) pa_nil))) pa_nil))) (nomark _))
      (pss_one (ps_ret pe_bl))
      pss_nil)
    (pss_cons (ps_set (i := 21) nd rfl (Or.inl rfl) (pe_k K_Space hr (pa_cons (pv 9) (pa_cons (pe_lc (own := [("_law_k", 12)]) (g := gName 12) (by rfl) nd (pi_range1 (by rfl) T.range (pa_cons (pe_d D_drawL hr (pa_cons (pv 1) (pa_cons pe_int pa_nil))) pa_nil)) (blkOk_by (own := [("_law_k", 12)]) (N := ["_law_script", "_law_pen_here", "_law_lap", "_law_one", "_law_other", "_law_low", "_law_high", "_law_start", "_law_goal", "_law_n", "_law_t", "_law_r", "_law_k", "_law_here", "_law_there", "_law_lane", "_law_first", "_law_second", "_law_slot", "_law_more", "_law_due", "_law_space", "_law_wide"]) (sc := defScope s_law) (by decide +kernel)) (fun _ _ _ _ _ => (pg_name (i := 12) nd rfl (Or.inl rfl))) (fun _ _ _ _ _ => pts_nil) (fun _ _ _ _ _ => (pe_d D_wordL hr (pa_cons (pv 1) (pa_cons (pv 9) pa_nil))))) pa_nil))))
    (pss_cons (ps_set (i := 22) nd rfl (Or.inl rfl) (pe_k K_Space hr (pa_cons (pe_fld (pv 7) rfl) (pa_cons (pe_callTy call_listQ (by rfl) T.list (by decide +kernel) (pa_cons (pe_fld (pv 21) rfl) pa_nil)) pa_nil))))
    (pss_cons (ps_if (pt_cmpR op_ne (pe_fld (pe_d D_partners hr (pa_cons (pv 7) (pa_cons (pv 22) pa_nil))) rfl) (pe_op on_add (pe_fld (pe_d D_partners hr (pa_cons (pv 3) (pa_cons (pv 21) pa_nil))) rfl) (pe_fld (pe_m0 (pv 5) M_Spread_twins hr) rfl)) (nomark _))
      (pss_one (ps_ret pe_bl))
      pss_nil)
    (pss_one (ps_if (PW.pt (pw_or (pt_cmpR op_ne (pe_d D_sum_rounds hr (pa_cons (pv 7) (pa_cons (pe_k K_Space hr (pa_cons (pe_fld (pv 7) rfl) (pa_cons (pe_lst pa_nil) pa_nil))) pa_nil))) pe_int (nomark _)) (pw_or1 (pt_cmpR op_ne (pe_d D_sum_rounds hr (pa_cons (pv 3) (pa_cons (pe_k K_Space hr (pa_cons (pv 9) (pa_cons (pe_lst pa_nil) pa_nil))) pa_nil))) pe_int (nomark _)))))
      (pss_one (ps_ret pe_bl))
      pss_nil)))))))), ?_⟩
  intro D H p lc one other low high start goal N n m t u s1 l1 o1 p1 s2 l2 o2 p2 v0 v2 v12 v13 v14 v15 v16 v17 v18 v19 v20 v21 v22 L hN hp k
  have hN' : N + 1000 ≤ 1099511627776 := hN
  have f1 := L.d1.b9; have f2 := L.d3.b9; have f3 := L.d1.sl; have f4 := L.d3.sl; have f5 := L.d1.ll; have f6 := L.d3.ll; have f7 := L.d1.l5; have f8 := L.d3.l5
  -- copies
  obtain ⟨ds, sa, la, j1, j2, j3⟩ := id L.a5
  refine ⟨_, rfl, start, ds, _, rfl, j1, rfl, start, n + m, _, _, rfl, L.a5, L.w5, fun H1 x1 z1 hx1 g1 => ?_⟩
  obtain ⟨dx1, tx1, g1, _⟩ := g1
  have L1 := L.kp (Kp.of z1)
  obtain ⟨do1, so1, lo1, i1, i2, i3⟩ := id L1.a1
  refine ⟨x1, CS, dx1, _, vN _, rfl, g1, TS.cl, TS.nd, rfl, _, rfl, one, do1, _, rfl, i1, rfl, one, n, s1, l1, rfl, L1.a1, L.d1.wf, fun H2 x2 z2 hx2 g2 => ?_⟩
  obtain ⟨dx2, tx2, g2, _⟩ := g2
  have L2 := L1.kp (Kp.of z2)
  obtain ⟨dw, sw, lw, k1, k2, k3⟩ := id L2.a3
  refine ⟨x2, CS, dx2, _, vN _, rfl, g2, TS.cl, TS.nd, rfl, _, rfl, low, dw, _, rfl, k1, rfl, low, m, s2, l2, rfl, L2.a3, L.d3.wf, fun H3 x3 z3 hx3 g3 => ?_⟩
  obtain ⟨dx3, tx3, g3, _⟩ := g3
  refine ⟨x3, CS, dx3, _, vN _, rfl, g3, TS.cl, TS.nd, rfl, _, _, rfl, rfl, rfl, _, rfl, ?_⟩
  have jc : (spn (ker (jn n s1 s2 ++ jn n l1 l2))).length = (spn (ker (s1 ++ l1))).length + (spn (ker (s2 ++ l2))).length := by
    rw [spn_ker_len, spn_ker_len, spn_ker_len]
    exact jn_copies L.d1.hs L.d1.hl L.d3.hs L.d3.hl L.d1.hk L.d3.hk
  rw [neF jc]
  refine iteF ?_
  have z03 := (z1.trans z2).trans z3
  have L3 := L.kp (Kp.of z03)
  clear g1 g2 g3 i1 i2 i3 j1 j2 j3 k1 k2 k3
  -- one taken off
  obtain ⟨ds, sa, la, j1, j2, j3⟩ := id L3.a5
  obtain ⟨do1, so1, lo1, i1, i2, i3⟩ := id L3.a1
  have e4 := L.d2.sl; have e5 := L.d4.sl
  refine ⟨_, rfl, _, rfl, start, one, ds, do1, _, _, rfl, rfl, j1, i1, start, one, n, m, s1, l1, s2, l2, rfl, L3.a5, L3.a1, L.d1.wf, L.d3.wf, L.d3.hk, (by omega), (by omega), (by omega), fun H4 r4 z4 hr4 hA4 => ?_⟩
  have L4 := L3.kp (Kp.of z4)
  obtain ⟨dq, sq, lq, q1, q2, q3⟩ := id hA4
  obtain ⟨dw, sw, lw, k1, k2, k3⟩ := id L4.a3
  refine ⟨_, rfl, r4, low, dq, dw, _, _, rfl, rfl, q1, k1, r4, low, m, s2, l2, rfl, hA4, L4.a3, fun H5 z5 => ⟨true, rfl, _, rfl, iteF ?_⟩⟩
  have L5 := L4.kp (Kp.of z5)
  refine ⟨_, rfl, _, rfl, start, start, n + m, _, _, _, _, rfl, L5.a5, L5.a5, L.w5, L.w5, rfl, fun H6 z6 => ?_⟩
  refine ⟨rfl, _, rfl, ?_⟩
  rw [fwr_self]
  refine iteF ?_
  have L6 := L5.kp (Kp.of z6)
  -- fewest rounds
  refine ⟨_, rfl, _, rfl, start, goal, n + m, _, _, _, _, rfl, L6.a5, L6.a6, L.w5, L.w6, L.e5, fun H7 z7 => ?_⟩
  have L7 := L6.kp (Kp.of z7)
  refine ⟨_, rfl, _, rfl, one, other, n, _, _, _, _, rfl, L7.a1, L7.a2, L.d1.wf, L.d2.wf, L.e1, fun H8 z8 => ?_⟩
  have L8 := L7.kp (Kp.of z8)
  refine ⟨_, rfl, _, rfl, low, high, m, _, _, _, _, rfl, L8.a3, L8.a4, L.d3.wf, L.d4.wf, L.e2, fun H9 z9 => ?_⟩
  have L9 := L8.kp (Kp.of z9)
  obtain ⟨y1, y2⟩ := jn_fwr (n := n) (s1 := s1) (l1 := l1) (o1 := o1) (p1 := p1) (s2 := s2) (l2 := l2) (o2 := o2) (p2 := p2) L.d1.hs L.d1.hl L.d2.hs L.d2.hl L.e1 L.e2
  refine ⟨_, _, rfl, _, _, rfl, rfl, _, rfl, br (fun z => ?_) (fun _ => ?_)⟩
  · have z := of_decide_eq_true z
    split at z <;> omega
  have z09 := (z03.trans (z4.trans z5)).trans ((z6.trans z7).trans (z8.trans z9))
  have hp9 := hp.same z09
  have kp9 := Kp.of z09
  -- a space
  refine ⟨_, rfl, _, rfl, p, lc, N, 3, rfl, hp9, (by decide), (by decide), (by show N + 1 ≤ 1099511627776; omega), fun H10 r hr10 hp10 kp10 => ?_⟩
  refine ⟨r, rfl, (by omega), (by omega), fun B hB => lc_range (fun i H1 => Pn H1 p lc (N + 1 + 100 * i) ∧ Kp H10 H1 ∧ ∃ g : List Nat, H1 B = some (.lst (g.map vN)) ∧ g.length = i ∧ ∀ x ∈ g, x < 2 ^ n) ⟨hp10.put (hp10.ne hB), kp_new (Kp.refl H10) hB, [], upd_same, rfl, fun x hx => by cases hx⟩ (fun i H1 hi hP => ?_) (fun H1 hP => ?_)⟩
  · obtain ⟨hp1, kp1, g, h1, lg, ag⟩ := hP
    refine ⟨rfl, ?_⟩
    refine ⟨_, rfl, _, rfl, p, lc, _, n, rfl, hp1, (by omega), (by show N + 1 + 100 * i + 100 ≤ 1099511627776; omega), fun H2 x hx hp2 kp2 => ?_⟩
    refine ⟨_, kp2 _ _ h1 rfl, (by rw [List.length_map, sizeLine_eq]; omega), (hp2.put (hp10.ne hB)).mono (by omega), kp_put (kp1.trans kp2) hB, g ++ [x], ?_, ?_, fun y hy => ?_⟩
    · rw [upd_same, List.map_append]; rfl
    · rw [List.length_append, lg]; rfl
    · rcases List.mem_append.mp hy with hy | hy
      · exact ag y hy
      · rw [List.mem_singleton.mp hy]; exact hx
  obtain ⟨hp11, kp11, ws, h11, lw', aw⟩ := hP
  refine mk_SpaceR (ws := ws) (.inl h11) (fun x hx => blen_le.mpr (aw x hx)) (by omega) (fun H12 sp z12 hsp S12 => ⟨rfl, ?_⟩)
  have kp12 := (kp10.trans kp11).trans (Kp.of z12)
  have L12 := L9.kp kp12
  obtain ⟨ds, sa, la, j1, j2, j3⟩ := id L12.a5
  obtain ⟨dp, tp, c1, c2⟩ := id S12
  refine ⟨_, rfl, start, CR, ds, _, vN (n + m), rfl, j1, TR.cl, TR.nb, rfl, _, rfl, sp, CS, dp, _, .ref tp, rfl, c1, TS.cl, TS.nr, rfl, tp, _, rfl, .inr c2, fun a13 ha13 => ?_⟩
  have z13 := same_new0 (o := .lst ((spn ws).map vN)) ha13
  have bw : ∀ x ∈ ws, blen x ≤ n := fun x hx => blen_le.mpr (aw x hx)
  have lsw := spn_len ws
  refine mk_SpaceR (ws := spn ws) (.inl upd_same) (fun x hx => Nat.le_trans (spn_blen bw x hx) (Nat.le_add_right _ _)) (by omega) (fun H14 sw z14 hsw S14 => ⟨rfl, ?_⟩)
  have L14 := L12.kp (Kp.of (z13.trans z14))
  have S12' := S12.same (z13.trans z14)
  have bw2 : ∀ x ∈ spn ws, blen x ≤ n + m := fun x hx => Nat.le_trans (spn_blen bw x hx) (Nat.le_add_right _ _)
  -- partners
  refine ⟨_, rfl, _, rfl, start, sw, n + m, _, _, spn (spn ws), rfl, L14.a5, S14, L.w5, WfS.of (by omega) bw2, fun H15 x15 z15 hx15 g15 => ?_⟩
  obtain ⟨d15, t15, g15, _⟩ := g15
  have L15 := L14.kp (Kp.of z15)
  refine ⟨x15, CS, d15, _, vN _, rfl, g15, TS.cl, TS.nd, rfl, _, rfl, _, rfl, one, sp, n, s1, l1, spn ws, rfl, L15.a1, S12'.same z15, L.d1.wf, WfS.of (by omega) bw, fun H16 x16 z16 hx16 g16 => ?_⟩
  obtain ⟨d16, t16, g16, _⟩ := g16
  have L16 := L15.kp (Kp.of z16)
  obtain ⟨dw, sw', lw, k1, k2, k3⟩ := id L16.a3
  refine ⟨x16, CS, d16, _, vN _, rfl, g16, TS.cl, TS.nd, rfl, _, rfl, low, dw, _, rfl, k1, rfl, low, m, s2, l2, rfl, L16.a3, L.d3.wf, fun H17 x17 z17 hx17 g17 => ?_⟩
  obtain ⟨d17, t17, g17, _⟩ := g17
  refine ⟨x17, CS, d17, _, vN _, rfl, g17, TS.cl, TS.nd, rfl, _, _, rfl, rfl, rfl, _, rfl, ?_⟩
  have jp : (prt (jn n s1 s2) (jn n l1 l2) (spn (spn ws))).length = (prt s1 l1 (spn ws)).length + (twn s2 l2).length := by
    rw [prt_twice]
    exact jn_partners L.d1.hs L.d1.hl L.d3.hs L.d3.hl L.d1.hk L.d3.hk aw
  rw [neF jp]
  refine iteF ?_
  have L17 := L16.kp (Kp.of z17)
  obtain ⟨ds, sa, la, j1, j2, j3⟩ := id L17.a5
  -- no sums
  refine ⟨_, rfl, _, rfl, start, CR, ds, _, vN (n + m), rfl, j1, TR.cl, TR.nb, rfl, (by decide), fun a18 ha18 => ?_⟩
  have z18 := same_new0 (o := .lst []) ha18
  refine mk_SpaceR (ws := []) (.inl upd_same) (fun x hx => by cases hx) (by decide) (fun H19 s19 z19 hs19 S19 => ⟨rfl, ?_⟩)
  have L19 := L17.kp (Kp.of (z18.trans z19))
  refine ⟨start, s19, n + m, _, _, spn [], rfl, L19.a5, S19, L.w5, WfS.of (by omega) (fun x hx => by cases hx), fun H20 z20 => ?_⟩
  refine ⟨rfl, _, rfl, ?_⟩
  rw [smr_nil (fun x hx => blen_le.mp (L.w5.s x hx)) (fun x hx => blen_le.mp (L.w5.l x hx)) L.full]
  refine iteF ?_
  have L20 := L19.kp (Kp.of z20)
  refine ⟨_, rfl, _, rfl, (by decide), fun a21 ha21 => ?_⟩
  have z21 := same_new0 (o := .lst []) ha21
  refine mk_SpaceR (ws := []) (.inl upd_same) (fun x hx => by cases hx) (by decide) (fun H22 s22 z22 hs22 S22 => ⟨rfl, ?_⟩)
  have L22 := L20.kp (Kp.of (z21.trans z22))
  refine ⟨one, s22, n, _, _, spn [], rfl, L22.a1, S22, L.d1.wf, WfS.of (by omega) (fun x hx => by cases hx), fun H23 z23 => ?_⟩
  refine ⟨rfl, _, rfl, ?_⟩
  rw [smr_nil L.d1.hs L.d1.hl L.d1.hk]
  refine iteF ?_
  have zz := (((z12.trans z13).trans (z14.trans z15)).trans (z16.trans z17)).trans (((z18.trans z19).trans (z20.trans z21)).trans (z22.trans z23))
  refine k _ _ _ ((hp11.same zz).mono (by omega)) ((kp9.trans kp10).trans (kp11.trans (Kp.of zz)))
end
end LaneX
set_option Elab.async false
set_option linter.all false
set_option maxRecDepth 100000
set_option maxHeartbeats 4000000
namespace LaneX
open PySem PySem.Spec PyProof.Rows L2
def sp_lawK (K : PySem.W.Frag) : Sp := fun vs H Q _ => ∃ (a : Addr) (ns : List Int), vs = [.ref a] ∧ SqL K H a (ns.map V.int) ∧ ns.length ≤ 63 ∧ ∀ H', Q (.bl true) H'
section
variable {P : Program} {w : World} {K : PySem.W.Frag} {mg : Str → Option Value} {base : Heap} {f : Addr} {fd : FuncData} {CS CR CM : Addr} (T : Bt mg) (TS : SpaceT K mg CS) (TR : SpreadT K mg CR)
include T
include TS TR in
theorem ok_law (F : FnP K "law" "law" s_law f fd) (D_penL : Dn P w K mg base 1 "_law_pen" ["_law_script"] (sp_begin K)) (D_drawL : Dn P w K mg base 1 "_law_draw" ["_law_pen_here", "_law_many"] sp_draw) (D_wordL : Dn P w K mg base 2 "_law_word" ["_law_pen_here", "_law_bits"] sp_word) (D_joinedL : Dn P w K mg base 2 "_law_joined" ["_law_low", "_law_high", "_law_shift"] sp_joined) (D_sizesL : Dn P w K mg base 7 "_law_sizes" ["_law_one", "_law_other", "_law_lane"] (sp_sizes CR)) (D_pairL : Dn P w K mg base 7 "_law_pair" ["_law_pen_here", "_law_bits"] (sp_pair CR)) (D_lacks : Dn P w K mg base 6 "lacks" ["one", "other", "lane"] (sp_lacks CR)) (M_Spread_entry : Mn P w K mg base 5 CR "entry" ["self", "slot", "lane"] (sp_entry CR)) (M_Spread_copies : Mn P w K mg base 7 CR "copies" ["self"] (sp_copies CS CR)) (M_Spread_or : Mn P w K mg base 6 CR "__or__" ["self", "other"] (sp_or CR)) (M_Spread_floordiv : Mn P w K mg base 6 CR "__floordiv__" ["self", "one"] (sp_floordiv CR)) (M_Spread_eq : Mn P w K mg base 1 CR "__eq__" ["self", "other"] (sp_spread_eq CR)) (D_fewest_rounds : Dn P w K mg base 6 "fewest_rounds" ["one", "other"] (sp_fewest_rounds CR)) (K_Space : Kn P w K mg base 4 CS "Space" ["self", "bits", "words"] (sp_Space CS)) (D_partners : Dn P w K mg base 7 "partners" ["spread", "space"] (sp_partners CS CR)) (M_Spread_twins : Mn P w K mg base 6 CR "twins" ["self"] (sp_twins CS CR)) (D_sum_rounds : Dn P w K mg base 9 "sum_rounds" ["spread", "space"] (sp_sum_rounds CS CR)) (hsfR : PySem.W.selfFirst K CR = true) (hneR : PySem.W.findIn K (.ref CR) "__ne__" = some (some (.builtin "object.__ne__"))) : FnOk P w K mg base CX0 10 f fd ["_law_script"] (sp_lawK K) := by
  have nd := sc_law.nd
  refine fnok F sc_law (fun vs H Q E h => ?_) (fun cdv A outer s H vs Q E hr h => ?_)
  · obtain ⟨a, ns, rfl, _⟩ := h
    rfl
  · obtain ⟨a, ns, rfl, hS, hl, k⟩ := h
    obtain ⟨ti, hI, tI⟩ := law_in (H0 := H) (E := E) T TR D_wordL D_joinedL D_sizesL D_lacks M_Spread_entry hr
    obtain ⟨te, hE, tE⟩ := law_end (H0 := H) (E := E) T TS TR D_drawL D_wordL M_Spread_copies M_Spread_floordiv M_Spread_eq D_fewest_rounds K_Space D_partners M_Spread_twins D_sum_rounds hsfR hneR hr
    refine ⟨_, (pss_cons (ps_set (i := 1) nd rfl (Or.inr rfl) (pe_d D_penL hr (pa_cons (pv 0) pa_nil)))
  (pss_cons (ps_for PassesOwn.never rfl (pi_range1 (by rfl) T.range (pa_cons (pe_op on_add pe_int (pe_callB (call_min2 rfl) (by rfl) T.min (by decide +kernel) (pa_cons pe_int (pa_cons (pe_callB call_len_seq (by rfl) T.len PySem.boot_len (pa_cons (pv 0) pa_nil)) pa_nil)))) pa_nil)) (pg_name (i := 2) nd rfl (Or.inl rfl))
    (pss_cons (ps_asg (pe_d D_pairL hr (pa_cons (pv 1) (pa_cons (pe_op on_add pe_int (pe_d D_drawL hr (pa_cons (pv 1) (pa_cons pe_int pa_nil)))) pa_nil))) (pg_tup (by rfl) (pgs_cons (pg_name (i := 3) nd rfl (Or.inl rfl)) (pgs_cons (pg_name (i := 4) nd rfl (Or.inl rfl)) pgs_nil))))
    (pss_cons (ps_asg (pe_d D_pairL hr (pa_cons (pv 1) (pa_cons (pe_op on_add pe_int (pe_d D_drawL hr (pa_cons (pv 1) (pa_cons pe_int pa_nil)))) pa_nil))) (pg_tup (by rfl) (pgs_cons (pg_name (i := 5) nd rfl (Or.inl rfl)) (pgs_cons (pg_name (i := 6) nd rfl (Or.inl rfl)) pgs_nil))))
    (pss_cons (ps_par (i := 7) (j := 8) (by rfl) nd rfl rfl (by decide) rfl rfl (pa_cons (pe_op (op_own (by rfl) M_Spread_or hsfR hr) (pv 3) (pv 5)) (pa_cons (pe_op (op_own (by rfl) M_Spread_or hsfR hr) (pv 4) (pv 6)) pa_nil)) (by rfl))
    (pss_cons (ps_asg (pe_tup (pa_cons (pe_fld (pv 3) rfl) (pa_cons (pe_callB call_lenQ (by rfl) T.len PySem.boot_len (pa_cons (pe_fld (pv 3) rfl) pa_nil)) (pa_cons (pe_callB call_lenQ (by rfl) T.len PySem.boot_len (pa_cons (pe_fld (pv 3) rfl) pa_nil)) pa_nil)))) (pg_tup (by rfl) (pgs_cons (pg_name (i := 9) nd rfl (Or.inr rfl)) (pgs_cons (pg_name (i := 10) nd rfl (Or.inl rfl)) (pgs_cons (pg_name (i := 11) nd rfl (Or.inl rfl)) pgs_nil)))))
    (pss_cons (ps_for PassesOwn.never rfl (pi_range1 (by rfl) T.range (pa_cons pe_int pa_nil)) (pg_name (i := 12) nd rfl (Or.inl rfl)) hI)
    hE))))))
  (pss_one (ps_ret pe_bl)))), ?_⟩
    refine ⟨_, rfl, a, ns, rfl, hS, fun H1 p lc z1 hpn hp1 => ?_⟩
    have em : (if ((ns.map V.int).length : Int) < 4 then ((ns.map V.int).length : Int) else 4) = ((min 4 ns.length : Nat) : Int) := by rw [List.length_map]; split <;> omega
    refine ⟨_, rfl, a, _, rfl, .inl (Same.seq z1 hS), _, _, rfl, ?_⟩
    rw [em]
    refine ⟨2, _, rfl, rfl, _, rfl, (by omega), (by omega), for_range (n := 2 + min 4 ns.length) (fun i σ H2 => ∃ v2 v3 v4 v5 v6 v7 v8 v9 v10 v11 v12 v13 v14 v15 v16 v17 v18 v19 v20 v21 v22, σ = [some (.ref a), some (.ref p), v2, v3, v4, v5, v6, v7, v8, v9, v10, v11, v12, v13, v14, v15, v16, v17, v18, v19, v20, v21, v22] ∧ Pn H2 p lc (100000 * i)) ⟨none, none, none, none, none, none, none, none, none, none, none, none, none, none, none, none, none, none, none, none, none, rfl, hp1⟩ ?_ ?_⟩
    · rintro i σ H2 hi ⟨v2, v3, v4, v5, v6, v7, v8, v9, v10, v11, v12, v13, v14, v15, v16, v17, v18, v19, v20, v21, v22, rfl, hp2⟩
      have il : i ≤ 6 := by omega
      refine ⟨_, rfl, _, rfl, p, lc, _, 9, rfl, hp2, (by decide), (by decide), (by show 100000 * i + 1 ≤ 1099511627776; omega), fun H3 r3 hr3 hp3 kp3 => ?_⟩
      refine ⟨1, r3, rfl, rfl, p, lc, _, 1 + r3, rfl, hp3, (by omega), (by omega), (by show 100000 * i + 1 + 30000 ≤ 1099511627776; omega), fun H4 t4 one other t s1 l1 o1 p1 D1 D2 e4 a1 a2 hp4 kp4 => ?_⟩
      refine ⟨t4, _, rfl, SqT.of e4, rfl, _, _, rfl, _, _, rfl, rfl, ?_⟩
      refine ⟨_, rfl, _, rfl, p, lc, _, 9, rfl, hp4, (by decide), (by decide), (by show 100000 * i + 1 + 30000 + 1 ≤ 1099511627776; omega), fun H5 r5 hr5 hp5 kp5 => ?_⟩
      refine ⟨1, r5, rfl, rfl, p, lc, _, 1 + r5, rfl, hp5, (by omega), (by omega), (by show 100000 * i + 1 + 30000 + 1 + 30000 ≤ 1099511627776; omega), fun H6 t6 low high u s2 l2 o2 p2 D3 D4 e6 a3 a4 hp6 kp6 => ?_⟩
      refine ⟨t6, _, rfl, SqT.of e6, rfl, _, _, rfl, _, _, rfl, rfl, ?_⟩
      have a1 := (a1.kp kp5).kp kp6
      have a2 := (a2.kp kp5).kp kp6
      have f1 := D1.b9; have f2 := D3.b9; have f3 := D1.sl; have f4 := D3.sl; have f5 := D1.ll; have f6 := D3.ll; have f7 := D1.l5; have f8 := D3.l5
      have f9 := D2.sl; have f10 := D4.sl; have f11 := D2.ll; have f12 := D4.ll
      obtain ⟨d1, x1, y1, b1, _, _⟩ := id a1
      obtain ⟨d3, x3, y3, b3, _, _⟩ := id a3
      refine ⟨_, rfl, _, rfl, one, low, d1, d3, _, _, rfl, rfl, b1, b3, one, low, _, _, s1, l1, s2, l2, rfl, a1, a3, D1.wf, D3.wf, D1.hk, D3.hk, (by omega), (by omega), (by omega), fun H7 start z7 hs7 a5 => ?_⟩
      obtain ⟨d2, x2, y2, b2, _, _⟩ := id (a2.same z7)
      obtain ⟨d4, x4, y4, b4, _, _⟩ := id (a4.same z7)
      refine ⟨_, rfl, _, rfl, other, high, d2, d4, _, _, rfl, rfl, b2, b4, other, high, _, _, o1, p1, o2, p2, rfl, a2.same z7, a4.same z7, D2.wf, D4.wf, D2.hk, D4.hk, (by omega), (by omega), (by omega), fun H8 goal z8 hs8 a6 => ⟨_, _, rfl, ?_⟩⟩
      have z68 := z7.trans z8
      have L : Lap CR H8 one other low high start goal (1 + r3) (1 + r5) t u s1 l1 o1 p1 s2 l2 o2 p2 := ⟨D1, D2, D3, D4, a1.same z68, a2.same z68, a3.same z68, a4.same z68, a5.same z8, a6⟩
      obtain ⟨d1, x1, y1, b1, b1s, b1l⟩ := id L.a1
      refine ⟨_, rfl, one, CR, d1, _, vN (1 + r3), rfl, b1, TR.cl, TR.nb, rfl, _, rfl, one, CR, d1, _, .ref y1, rfl, b1, TR.cl, TR.nl, rfl, y1, _, rfl, .inr b1l, _, rfl, one, CR, d1, _, .ref x1, rfl, b1, TR.cl, TR.ns, rfl, x1, _, rfl, .inr b1s, (by show 3 ≤ sizeLine; decide), fun x9 hx9 => ⟨x9, _, rfl, SqT.of upd_same, rfl, _, _, rfl, _, _, rfl, _, _, rfl, rfl, ?_⟩⟩
      rw [List.length_map, List.length_map]
      have z9 := same_new0 (o := .tup [vN (1 + r3), V.int (l1.length : Int), V.int (s1.length : Int)]) hx9
      have L9 := L.kp (Kp.of z9)
      have hp9 := ((hp6.same z68).same z9)
      generalize upd H8 x9 _ = H9 at *
      refine ⟨3, rfl, (by decide), (by decide), for_range (n := 3) (fun j σ H10 => ∃ v12 v13 v14 v15 v16 v17 v18 v19 v20, σ = [some (.ref a), some (.ref p), some (vN i), some (.ref one), some (.ref other), some (.ref low), some (.ref high), some (.ref start), some (.ref goal), some (vN (1 + r3)), some (vN l1.length), some (vN s1.length), v12, v13, v14, v15, v16, v17, v18, v19, v20, v21, v22] ∧ Pn H10 p lc (100000 * i + 1 + 30000 + 1 + 30000 + 1000 * j) ∧ Lap CR H10 one other low high start goal (1 + r3) (1 + r5) t u s1 l1 o1 p1 s2 l2 o2 p2)
        ⟨_, _, _, _, _, _, _, _, _, (by rw [show (0 : Int) + (i : Int) = (i : Int) by omega]; rfl), hp9, L9⟩ ?_ ?_⟩
      · rintro j σ H10 hj ⟨v12, v13, v14, v15, v16, v17, v18, v19, v20, rfl, hp10, L10⟩
        exact tI _ H10 p lc one other low high start goal _ _ _ _ _ s1 l1 o1 p1 s2 l2 o2 p2 _ _ _ _ _ _ _ _ _ _ _ _ _ L10 (by show 100000 * i + 1 + 30000 + 1 + 30000 + 1000 * j + 1000 ≤ 1099511627776; omega) hp10 fun H11 w13 w14 w15 w16 w17 w18 w19 w20 hp11 kp11 => ⟨_, _, _, _, _, _, _, _, _, rfl, hp11.mono (by omega), L10.kp kp11⟩
      · rintro σ H10 ⟨v12, v13, v14, v15, v16, v17, v18, v19, v20, rfl, hp10, L10⟩
        exact tE _ H10 p lc one other low high start goal _ _ _ _ _ s1 l1 o1 p1 s2 l2 o2 p2 _ _ _ _ _ _ _ _ _ _ _ _ _ L10 (by show 100000 * i + 1 + 30000 + 1 + 30000 + 1000 * 3 + 1000 ≤ 1099511627776; omega) hp10 fun H11 w21 w22 hp11 kp11 => ⟨_, _, _, _, _, _, _, _, _, _, _, _, _, _, _, _, _, _, _, _, _, rfl, hp11.mono (by omega)⟩
    · rintro σ H2 ⟨v2, v3, v4, v5, v6, v7, v8, v9, v10, v11, v12, v13, v14, v15, v16, v17, v18, v19, v20, v21, v22, rfl, hp2⟩
      exact k _
end
end LaneX
set_option Elab.async false
set_option linter.all false
set_option maxRecDepth 100000
set_option maxHeartbeats 0
namespace LaneX
open PySem PySem.Spec PyProof.Rows L2
def fa : List He.Fa := ([.free "all", .free "any", .free "bool", .free "enumerate", .free "int", .free "isinstance", .free "len", .free "list", .free "max", .free "min", .free "range", .free "sorted", .free "tuple", .free "zip", .glo "Space", .cls "Space", .mkr "Space", .noat "Space" "bits", .noat "Space" "rows", .noat "Space" "dimension"] : List He.Fa) ++ ([.glo "Spread", .cls "Spread", .mkr "Spread", .noat "Spread" "bits", .noat "Spread" "slots", .noat "Spread" "lanes", .glo "Map", .cls "Map", .mkr "Map", .noat "Map" "goal", .noat "Map" "columns", .noat "Map" "source", .glo "is_whole", .glo "need_whole", .glo "need_items", .glo "need_word", .glo "need_words", .glo "cleared", .glo "grown", .glo "spanned"] : List He.Fa) ++ ([.glo "paired", .glo "kernel_rows", .glo "met", .glo "need_space", .glo "any_spread", .meth "Space" "__and__", .meth "Space" "completing", .meth "Spread" "slot_space", .meth "Spread" "twins", .glo "need_pair", .glo "partner_rows", .glo "partners", .glo "leaders", .glo "kept_bits", .glo "rounds_for", .glo "sum_rounds", .glo "ones", .glo "image_of", .glo "need_fit", .glo "lane_sums"] : List He.Fa) ++ ([.glo "both_rows", .glo "all_hold", .glo "fewest_rounds", .glo "lacks", .meth "Map" "kernel", .meth "Spread" "placing", .meth "Spread" "copies", .meth "Spread" "entry", .meth "Spread" "__eq__", .meth "Spread" "__or__", .glo "left_over", .meth "Spread" "__floordiv__", .glo "_law_draw", .glo "_law_pen", .glo "_law_unit", .glo "_law_word", .glo "_law_base", .glo "_law_joined", .glo "_law_spread", .glo "_law_pair"] : List He.Fa) ++ ([.glo "_law_sizes", .glo "law"] : List He.Fa)
def d_is_whole : He.DefD := ⟨("is_whole", none), "is_whole", "is_whole", defArgs s_is_whole, defBody s_is_whole, defScope s_is_whole, [], []⟩
def d_need_whole : He.DefD := ⟨("need_whole", none), "need_whole", "need_whole", defArgs s_need_whole, defBody s_need_whole, defScope s_need_whole, [], []⟩
def d_need_items : He.DefD := ⟨("need_items", none), "need_items", "need_items", defArgs s_need_items, defBody s_need_items, defScope s_need_items, [], []⟩
def d_need_word : He.DefD := ⟨("need_word", none), "need_word", "need_word", defArgs s_need_word, defBody s_need_word, defScope s_need_word, [], []⟩
def d_need_words : He.DefD := ⟨("need_words", none), "need_words", "need_words", defArgs s_need_words, defBody s_need_words, defScope s_need_words, [], []⟩
def d_cleared : He.DefD := ⟨("cleared", none), "cleared", "cleared", defArgs s_cleared, defBody s_cleared, defScope s_cleared, [], []⟩
def d_grown : He.DefD := ⟨("grown", none), "grown", "grown", defArgs s_grown, defBody s_grown, defScope s_grown, [], []⟩
def d_spanned : He.DefD := ⟨("spanned", none), "spanned", "spanned", defArgs s_spanned, defBody s_spanned, defScope s_spanned, [], []⟩
def d_paired : He.DefD := ⟨("paired", none), "paired", "paired", defArgs s_paired, defBody s_paired, defScope s_paired, [], []⟩
def d_kernel_rows : He.DefD := ⟨("kernel_rows", none), "kernel_rows", "kernel_rows", defArgs s_kernel_rows, defBody s_kernel_rows, defScope s_kernel_rows, [], []⟩
def d_met : He.DefD := ⟨("met", none), "met", "met", defArgs s_met, defBody s_met, defScope s_met, [], []⟩
def d_Space_init : He.DefD := ⟨("Space", some "__init__"), "__init__", "Space.__init__", defArgs s_Space_init, defBody s_Space_init, defScope s_Space_init, [], []⟩
def d_Spread_init : He.DefD := ⟨("Spread", some "__init__"), "__init__", "Spread.__init__", defArgs s_Spread_init, defBody s_Spread_init, defScope s_Spread_init, [], []⟩
def d_need_space : He.DefD := ⟨("need_space", none), "need_space", "need_space", defArgs s_need_space, defBody s_need_space, defScope s_need_space, [], []⟩
def d_any_spread : He.DefD := ⟨("any_spread", none), "any_spread", "any_spread", defArgs s_any_spread, defBody s_any_spread, defScope s_any_spread, [], []⟩
def d_Space_and : He.DefD := ⟨("Space", some "__and__"), "__and__", "Space.__and__", defArgs s_Space_and, defBody s_Space_and, defScope s_Space_and, [], []⟩
def d_Space_completing : He.DefD := ⟨("Space", some "completing"), "completing", "Space.completing", defArgs s_Space_completing, defBody s_Space_completing, defScope s_Space_completing, [], []⟩
def d_Spread_slot_space : He.DefD := ⟨("Spread", some "slot_space"), "slot_space", "Spread.slot_space", defArgs s_Spread_slot_space, defBody s_Spread_slot_space, defScope s_Spread_slot_space, [], []⟩
def d_Spread_twins : He.DefD := ⟨("Spread", some "twins"), "twins", "Spread.twins", defArgs s_Spread_twins, defBody s_Spread_twins, defScope s_Spread_twins, [], []⟩
def d_need_pair : He.DefD := ⟨("need_pair", none), "need_pair", "need_pair", defArgs s_need_pair, defBody s_need_pair, defScope s_need_pair, [], []⟩
def d_partner_rows : He.DefD := ⟨("partner_rows", none), "partner_rows", "partner_rows", defArgs s_partner_rows, defBody s_partner_rows, defScope s_partner_rows, [], []⟩
def d_partners : He.DefD := ⟨("partners", none), "partners", "partners", defArgs s_partners, defBody s_partners, defScope s_partners, [], []⟩
def d_leaders : He.DefD := ⟨("leaders", none), "leaders", "leaders", defArgs s_leaders, defBody s_leaders, defScope s_leaders, [], []⟩
def d_kept_bits : He.DefD := ⟨("kept_bits", none), "kept_bits", "kept_bits", defArgs s_kept_bits, defBody s_kept_bits, defScope s_kept_bits, [], []⟩
def d_rounds_for : He.DefD := ⟨("rounds_for", none), "rounds_for", "rounds_for", defArgs s_rounds_for, defBody s_rounds_for, defScope s_rounds_for, [], []⟩
def d_sum_rounds : He.DefD := ⟨("sum_rounds", none), "sum_rounds", "sum_rounds", defArgs s_sum_rounds, defBody s_sum_rounds, defScope s_sum_rounds, [], []⟩
def d_ones : He.DefD := ⟨("ones", none), "ones", "ones", defArgs s_ones, defBody s_ones, defScope s_ones, [], []⟩
def d_image_of : He.DefD := ⟨("image_of", none), "image_of", "image_of", defArgs s_image_of, defBody s_image_of, defScope s_image_of, [], []⟩
def d_need_fit : He.DefD := ⟨("need_fit", none), "need_fit", "need_fit", defArgs s_need_fit, defBody s_need_fit, defScope s_need_fit, [], []⟩
def d_lane_sums : He.DefD := ⟨("lane_sums", none), "lane_sums", "lane_sums", defArgs s_lane_sums, defBody s_lane_sums, defScope s_lane_sums, [], []⟩
def d_both_rows : He.DefD := ⟨("both_rows", none), "both_rows", "both_rows", defArgs s_both_rows, defBody s_both_rows, defScope s_both_rows, [], []⟩
def d_all_hold : He.DefD := ⟨("all_hold", none), "all_hold", "all_hold", defArgs s_all_hold, defBody s_all_hold, defScope s_all_hold, [], []⟩
def d_fewest_rounds : He.DefD := ⟨("fewest_rounds", none), "fewest_rounds", "fewest_rounds", defArgs s_fewest_rounds, defBody s_fewest_rounds, defScope s_fewest_rounds, [], []⟩
def d_lacks : He.DefD := ⟨("lacks", none), "lacks", "lacks", defArgs s_lacks, defBody s_lacks, defScope s_lacks, [], []⟩
def d_Map_init : He.DefD := ⟨("Map", some "__init__"), "__init__", "Map.__init__", defArgs s_Map_init, defBody s_Map_init, defScope s_Map_init, [], []⟩
def d_Map_kernel : He.DefD := ⟨("Map", some "kernel"), "kernel", "Map.kernel", defArgs s_Map_kernel, defBody s_Map_kernel, defScope s_Map_kernel, [], []⟩
def d_Spread_placing : He.DefD := ⟨("Spread", some "placing"), "placing", "Spread.placing", defArgs s_Spread_placing, defBody s_Spread_placing, defScope s_Spread_placing, [], []⟩
def d_Spread_copies : He.DefD := ⟨("Spread", some "copies"), "copies", "Spread.copies", defArgs s_Spread_copies, defBody s_Spread_copies, defScope s_Spread_copies, [], []⟩
def d_Spread_entry : He.DefD := ⟨("Spread", some "entry"), "entry", "Spread.entry", defArgs s_Spread_entry, defBody s_Spread_entry, defScope s_Spread_entry, [], []⟩
def d_Spread_eq : He.DefD := ⟨("Spread", some "__eq__"), "__eq__", "Spread.__eq__", defArgs s_Spread_eq, defBody s_Spread_eq, defScope s_Spread_eq, [], []⟩
def d_Spread_or : He.DefD := ⟨("Spread", some "__or__"), "__or__", "Spread.__or__", defArgs s_Spread_or, defBody s_Spread_or, defScope s_Spread_or, [], []⟩
def d_left_over : He.DefD := ⟨("left_over", none), "left_over", "left_over", defArgs s_left_over, defBody s_left_over, defScope s_left_over, [], []⟩
def d_Spread_floordiv : He.DefD := ⟨("Spread", some "__floordiv__"), "__floordiv__", "Spread.__floordiv__", defArgs s_Spread_floordiv, defBody s_Spread_floordiv, defScope s_Spread_floordiv, [], []⟩
def d_drawL : He.DefD := ⟨("_law_draw", none), "_law_draw", "_law_draw", defArgs s_drawL, defBody s_drawL, defScope s_drawL, [], []⟩
def d_penL : He.DefD := ⟨("_law_pen", none), "_law_pen", "_law_pen", defArgs s_penL, defBody s_penL, defScope s_penL, [], []⟩
def d_unitL : He.DefD := ⟨("_law_unit", none), "_law_unit", "_law_unit", defArgs s_unitL, defBody s_unitL, defScope s_unitL, [], []⟩
def d_wordL : He.DefD := ⟨("_law_word", none), "_law_word", "_law_word", defArgs s_wordL, defBody s_wordL, defScope s_wordL, [], []⟩
def d_baseL : He.DefD := ⟨("_law_base", none), "_law_base", "_law_base", defArgs s_baseL, defBody s_baseL, defScope s_baseL, [], []⟩
def d_joinedL : He.DefD := ⟨("_law_joined", none), "_law_joined", "_law_joined", defArgs s_joinedL, defBody s_joinedL, defScope s_joinedL, [], []⟩
def d_spreadL : He.DefD := ⟨("_law_spread", none), "_law_spread", "_law_spread", defArgs s_spreadL, defBody s_spreadL, defScope s_spreadL, [], []⟩
def d_pairL : He.DefD := ⟨("_law_pair", none), "_law_pair", "_law_pair", defArgs s_pairL, defBody s_pairL, defScope s_pairL, [], []⟩
def d_sizesL : He.DefD := ⟨("_law_sizes", none), "_law_sizes", "_law_sizes", defArgs s_sizesL, defBody s_sizesL, defScope s_sizesL, [], []⟩
def d_law : He.DefD := ⟨("law", none), "law", "law", defArgs s_law, defBody s_law, defScope s_law, [], []⟩
def fn : List He.DefD := ([d_is_whole, d_need_whole, d_need_items, d_need_word, d_need_words, d_cleared, d_grown, d_spanned, d_paired, d_kernel_rows, d_met, d_Space_init, d_Spread_init, d_need_space, d_any_spread, d_Space_and, d_Space_completing, d_Spread_slot_space, d_Spread_twins, d_need_pair] : List He.DefD) ++ ([d_partner_rows, d_partners, d_leaders, d_kept_bits, d_rounds_for, d_sum_rounds, d_ones, d_image_of, d_need_fit, d_lane_sums, d_both_rows, d_all_hold, d_fewest_rounds, d_lacks, d_Map_init, d_Map_kernel, d_Spread_placing, d_Spread_copies, d_Spread_entry, d_Spread_eq] : List He.DefD) ++ ([d_Spread_or, d_left_over, d_Spread_floordiv, d_drawL, d_penL, d_unitL, d_wordL, d_baseL, d_joinedL, d_spreadL, d_pairL, d_sizesL, d_law] : List He.DefD)
def exC (K : PySem.W.Frag) (C : Addr) : Bool := He.eqO (PySem.W.findIn K (.ref C) "__class__") (some (some (.builtin "object.__class__"))) && (decide (PySem.W.takesIn K (.builtin "object.__class__") = some true) && (decide (PySem.W.mroIn K C (.type "object") = some true) && (decide (PySem.W.kitOne K (.ref C) (.ref C) = some true) && (He.eqO (PySem.W.specialIn K (.builtin "object.__class__") "__get__") (some (some (.builtin "getset_descriptor.__get__"))) && PySem.W.selfFirst K C))))
theorem exC_ok {K : PySem.W.Frag} {C : Addr} (c : Cls K C) (h : exC K C = true) : ObjT K C ∧ PySem.W.selfFirst K C = true := by
  obtain ⟨h1, h⟩ := He.ba h
  obtain ⟨h2, h⟩ := He.ba h
  obtain ⟨h3, h⟩ := He.ba h
  obtain ⟨h4, h⟩ := He.ba h
  obtain ⟨h5, h6⟩ := He.ba h
  exact ⟨⟨c, He.eqO_ok h1, He.eqO_ok h5, of_decide_eq_true h2, of_decide_eq_true h3, of_decide_eq_true h4⟩, h6⟩
def exB (K : PySem.W.Frag) : Bool := exC K (He.ga K "Space") && exC K (He.ga K "Spread") && exC K (He.ga K "Map") && He.eqO (PySem.W.findIn K (.ref (He.ga K "Spread")) "__ne__") (some (some (.builtin "object.__ne__")))
abbrev R : PySem.W.OpenRow := PySem.W.OpenLaw.row PySem.Challenge.rw_laneswap_k62_whole_side_by_side
abbrev hk : PySem.W.Hook := He.hookX 4 fa fn [] [] exB
def ob (s : PySem.W.SharedT) : He.AlX := He.obsX 4 fa fn [] [] exB (HandSHeadRun.getT s)
theorem ob_eq (s : PySem.W.SharedT) : ob s = hk.obs s.abs := He.obsX_eq (HandSHeadRun.getT_eq s)
def names : List Str := (["_wall", "__name__", "LaneError", "BadValue", "NotOneToOne", "NotOnto", "NotDivisible", "NotApart", "NotFitting", "is_whole", "need_whole", "need_items", "need_word", "need_words", "ones", "cleared", "grown", "spanned", "tops_of", "missing"] : List Str) ++ (["image_of", "paired", "kernel_rows", "solved", "met", "Space", "need_space", "Map", "need_map", "need_one_to_one", "need_onto", "Spread", "any_spread", "left_over", "need_fit", "lane_sums", "both_rows", "all_hold", "fewest_rounds", "lacks"] : List Str) ++ (["need_pair", "partner_rows", "partners", "leaders", "kept_bits", "rounds_for", "sum_rounds", "_law_pen", "_law_draw", "_law_pick", "_law_base", "_law_unit", "_law_word", "_law_spread", "_law_sizes", "_law_joined", "_law_pair"] : List Str)
theorem run (w : World) : HandSHeadRun.RunEq R (PySem.W.view R.prog [66]) hk ob 6000 names w := by
  intro os
  kernel_rfl
end LaneX
set_option Elab.async false
set_option linter.all false
set_option maxRecDepth 100000
set_option maxHeartbeats 0
namespace LaneX
open PySem PySem.Spec PyProof.Rows L2
theorem facts {P : Program} {w : World} {K : PySem.W.Frag} {h : Heap} {mg : Str → Option Value} {f : Addr} (X : K.In h) (G : h.Ns mainGlobals mg) (hfa : mg ("law" : Str) = some (.ref f)) (c : He.SaysD fa fn K) (ex : exB K = true) :
    ∃ fd : FuncData, (∀ (s : Shared) (v : Value), BindsTo s fd ⟨[v], []⟩ [("_law_script", v)]) ∧ ∀ base : Heap, K.In base → base.Ns mainGlobals mg → FnOk P w K mg base CX0 10 f fd ["_law_script"] (sp_lawK K) := by
  obtain ⟨fd_is_whole, F_is_whole⟩ := c.def_ 0 (d := d_is_whole) rfl
  obtain ⟨fd_need_whole, F_need_whole⟩ := c.def_ 1 (d := d_need_whole) rfl
  obtain ⟨fd_need_items, F_need_items⟩ := c.def_ 2 (d := d_need_items) rfl
  obtain ⟨fd_need_word, F_need_word⟩ := c.def_ 3 (d := d_need_word) rfl
  obtain ⟨fd_need_words, F_need_words⟩ := c.def_ 4 (d := d_need_words) rfl
  obtain ⟨fd_cleared, F_cleared⟩ := c.def_ 5 (d := d_cleared) rfl
  obtain ⟨fd_grown, F_grown⟩ := c.def_ 6 (d := d_grown) rfl
  obtain ⟨fd_spanned, F_spanned⟩ := c.def_ 7 (d := d_spanned) rfl
  obtain ⟨fd_paired, F_paired⟩ := c.def_ 8 (d := d_paired) rfl
  obtain ⟨fd_kernel_rows, F_kernel_rows⟩ := c.def_ 9 (d := d_kernel_rows) rfl
  obtain ⟨fd_met, F_met⟩ := c.def_ 10 (d := d_met) rfl
  obtain ⟨fd_Space_init, F_Space_init⟩ := c.def_ 11 (d := d_Space_init) rfl
  obtain ⟨fd_Spread_init, F_Spread_init⟩ := c.def_ 12 (d := d_Spread_init) rfl
  obtain ⟨fd_need_space, F_need_space⟩ := c.def_ 13 (d := d_need_space) rfl
  obtain ⟨fd_any_spread, F_any_spread⟩ := c.def_ 14 (d := d_any_spread) rfl
  obtain ⟨fd_Space_and, F_Space_and⟩ := c.def_ 15 (d := d_Space_and) rfl
  obtain ⟨fd_Space_completing, F_Space_completing⟩ := c.def_ 16 (d := d_Space_completing) rfl
  obtain ⟨fd_Spread_slot_space, F_Spread_slot_space⟩ := c.def_ 17 (d := d_Spread_slot_space) rfl
  obtain ⟨fd_Spread_twins, F_Spread_twins⟩ := c.def_ 18 (d := d_Spread_twins) rfl
  obtain ⟨fd_need_pair, F_need_pair⟩ := c.def_ 19 (d := d_need_pair) rfl
  obtain ⟨fd_partner_rows, F_partner_rows⟩ := c.def_ 20 (d := d_partner_rows) rfl
  obtain ⟨fd_partners, F_partners⟩ := c.def_ 21 (d := d_partners) rfl
  obtain ⟨fd_leaders, F_leaders⟩ := c.def_ 22 (d := d_leaders) rfl
  obtain ⟨fd_kept_bits, F_kept_bits⟩ := c.def_ 23 (d := d_kept_bits) rfl
  obtain ⟨fd_rounds_for, F_rounds_for⟩ := c.def_ 24 (d := d_rounds_for) rfl
  obtain ⟨fd_sum_rounds, F_sum_rounds⟩ := c.def_ 25 (d := d_sum_rounds) rfl
  obtain ⟨fd_ones, F_ones⟩ := c.def_ 26 (d := d_ones) rfl
  obtain ⟨fd_image_of, F_image_of⟩ := c.def_ 27 (d := d_image_of) rfl
  obtain ⟨fd_need_fit, F_need_fit⟩ := c.def_ 28 (d := d_need_fit) rfl
  obtain ⟨fd_lane_sums, F_lane_sums⟩ := c.def_ 29 (d := d_lane_sums) rfl
  obtain ⟨fd_both_rows, F_both_rows⟩ := c.def_ 30 (d := d_both_rows) rfl
  obtain ⟨fd_all_hold, F_all_hold⟩ := c.def_ 31 (d := d_all_hold) rfl
  obtain ⟨fd_fewest_rounds, F_fewest_rounds⟩ := c.def_ 32 (d := d_fewest_rounds) rfl
  obtain ⟨fd_lacks, F_lacks⟩ := c.def_ 33 (d := d_lacks) rfl
  obtain ⟨fd_Map_init, F_Map_init⟩ := c.def_ 34 (d := d_Map_init) rfl
  obtain ⟨fd_Map_kernel, F_Map_kernel⟩ := c.def_ 35 (d := d_Map_kernel) rfl
  obtain ⟨fd_Spread_placing, F_Spread_placing⟩ := c.def_ 36 (d := d_Spread_placing) rfl
  obtain ⟨fd_Spread_copies, F_Spread_copies⟩ := c.def_ 37 (d := d_Spread_copies) rfl
  obtain ⟨fd_Spread_entry, F_Spread_entry⟩ := c.def_ 38 (d := d_Spread_entry) rfl
  obtain ⟨fd_Spread_eq, F_Spread_eq⟩ := c.def_ 39 (d := d_Spread_eq) rfl
  obtain ⟨fd_Spread_or, F_Spread_or⟩ := c.def_ 40 (d := d_Spread_or) rfl
  obtain ⟨fd_left_over, F_left_over⟩ := c.def_ 41 (d := d_left_over) rfl
  obtain ⟨fd_Spread_floordiv, F_Spread_floordiv⟩ := c.def_ 42 (d := d_Spread_floordiv) rfl
  obtain ⟨fd_drawL, F_drawL⟩ := c.def_ 43 (d := d_drawL) rfl
  obtain ⟨fd_penL, F_penL⟩ := c.def_ 44 (d := d_penL) rfl
  obtain ⟨fd_unitL, F_unitL⟩ := c.def_ 45 (d := d_unitL) rfl
  obtain ⟨fd_wordL, F_wordL⟩ := c.def_ 46 (d := d_wordL) rfl
  obtain ⟨fd_baseL, F_baseL⟩ := c.def_ 47 (d := d_baseL) rfl
  obtain ⟨fd_joinedL, F_joinedL⟩ := c.def_ 48 (d := d_joinedL) rfl
  obtain ⟨fd_spreadL, F_spreadL⟩ := c.def_ 49 (d := d_spreadL) rfl
  obtain ⟨fd_pairL, F_pairL⟩ := c.def_ 50 (d := d_pairL) rfl
  obtain ⟨fd_sizesL, F_sizesL⟩ := c.def_ 51 (d := d_sizesL) rfl
  obtain ⟨fd_law, F_law⟩ := c.def_ 52 (d := d_law) rfl
  have T : Bt mg := ⟨He.free_ok X G (c.fact 0 (f := .free "all") rfl), He.free_ok X G (c.fact 1 (f := .free "any") rfl), He.free_ok X G (c.fact 2 (f := .free "bool") rfl), He.free_ok X G (c.fact 3 (f := .free "enumerate") rfl), He.free_ok X G (c.fact 4 (f := .free "int") rfl), He.free_ok X G (c.fact 5 (f := .free "isinstance") rfl), He.free_ok X G (c.fact 6 (f := .free "len") rfl), He.free_ok X G (c.fact 7 (f := .free "list") rfl), He.free_ok X G (c.fact 8 (f := .free "max") rfl), He.free_ok X G (c.fact 9 (f := .free "min") rfl), He.free_ok X G (c.fact 10 (f := .free "range") rfl), He.free_ok X G (c.fact 11 (f := .free "sorted") rfl), He.free_ok X G (c.fact 12 (f := .free "tuple") rfl), He.free_ok X G (c.fact 13 (f := .free "zip") rfl)⟩
  have hneR := He.eqO_ok ((He.ba ex).2)
  have TSo := exC_ok (He.cls_ok (c.fact 15 (f := .cls "Space") rfl)) ((He.ba (He.ba (He.ba ex).1).1).1)
  have TS : SpaceT K mg (He.ga K "Space") := { TSo.1 with gl := He.glo_ok X G (c.fact 14 (f := .glo "Space") rfl), nb := He.noat_ok (c.fact 17 (f := .noat "Space" "bits") rfl), nr := He.noat_ok (c.fact 18 (f := .noat "Space" "rows") rfl), nd := He.noat_ok (c.fact 19 (f := .noat "Space" "dimension") rfl) }
  have TRo := exC_ok (He.cls_ok (c.fact 21 (f := .cls "Spread") rfl)) ((He.ba (He.ba (He.ba ex).1).1).2)
  have TR : SpreadT K mg (He.ga K "Spread") := { TRo.1 with gl := He.glo_ok X G (c.fact 20 (f := .glo "Spread") rfl), nb := He.noat_ok (c.fact 23 (f := .noat "Spread" "bits") rfl), ns := He.noat_ok (c.fact 24 (f := .noat "Spread" "slots") rfl), nl := He.noat_ok (c.fact 25 (f := .noat "Spread" "lanes") rfl) }
  have TMo := exC_ok (He.cls_ok (c.fact 27 (f := .cls "Map") rfl)) ((He.ba (He.ba ex).1).2)
  have TM : MapT K mg (He.ga K "Map") := { TMo.1 with gl := He.glo_ok X G (c.fact 26 (f := .glo "Map") rfl), ng := He.noat_ok (c.fact 29 (f := .noat "Map" "goal") rfl), nc := He.noat_ok (c.fact 30 (f := .noat "Map" "columns") rfl), ns := He.noat_ok (c.fact 31 (f := .noat "Map" "source") rfl) }
  have e := hfa.symm.trans (He.glo_ok X G (c.fact 81 (f := .glo "law") rfl))
  cases e
  have b := FunD.bindsA (ps := ["_law_script"]) F_law fun _ _ _ _ _ _ us hl => match us, hl with | [_], _ => rfl
  refine ⟨fd_law, fun s v => b s [v] rfl, fun base _ _ => ?_⟩
  have D_is_whole : Dn P w K mg base 1 "is_whole" ["value"] sp_is_whole := ⟨_, fd_is_whole, He.glo_ok X G (c.fact 32 (f := .glo "is_whole") rfl), F_is_whole.kp, (F_is_whole.bindsN fun _ _ _ _ _ _ us hl => match us, hl with | [_], _ => rfl), ok_is_whole T F_is_whole⟩
  have D_need_whole : Dn P w K mg base 2 "need_whole" ["value"] sp_need_whole := ⟨_, fd_need_whole, He.glo_ok X G (c.fact 33 (f := .glo "need_whole") rfl), F_need_whole.kp, (F_need_whole.bindsN fun _ _ _ _ _ _ us hl => match us, hl with | [_], _ => rfl), ok_need_whole T F_need_whole D_is_whole⟩
  have D_need_items : Dn P w K mg base 1 "need_items" ["value"] sp_need_items := ⟨_, fd_need_items, He.glo_ok X G (c.fact 34 (f := .glo "need_items") rfl), F_need_items.kp, (F_need_items.bindsN fun _ _ _ _ _ _ us hl => match us, hl with | [_], _ => rfl), ok_need_items T F_need_items⟩
  have D_need_word : Dn P w K mg base 2 "need_word" ["value", "bits"] sp_need_word := ⟨_, fd_need_word, He.glo_ok X G (c.fact 35 (f := .glo "need_word") rfl), F_need_word.kp, (F_need_word.bindsN fun _ _ _ _ _ _ us hl => match us, hl with | [_, _], _ => rfl), ok_need_word T F_need_word D_is_whole⟩
  have D_need_words : Dn P w K mg base 3 "need_words" ["values", "bits"] sp_need_words := ⟨_, fd_need_words, He.glo_ok X G (c.fact 36 (f := .glo "need_words") rfl), F_need_words.kp, (F_need_words.bindsN fun _ _ _ _ _ _ us hl => match us, hl with | [_, _], _ => rfl), ok_need_words T F_need_words D_need_items D_need_word⟩
  have D_cleared : Dn P w K mg base 1 "cleared" ["rows", "word"] sp_cleared := ⟨_, fd_cleared, He.glo_ok X G (c.fact 37 (f := .glo "cleared") rfl), F_cleared.kp, (F_cleared.bindsN fun _ _ _ _ _ _ us hl => match us, hl with | [_, _], _ => rfl), ok_cleared T F_cleared⟩
  have D_grown : Dn P w K mg base 2 "grown" ["rows", "word"] sp_grown := ⟨_, fd_grown, He.glo_ok X G (c.fact 38 (f := .glo "grown") rfl), F_grown.kp, (F_grown.bindsN fun _ _ _ _ _ _ us hl => match us, hl with | [_, _], _ => rfl), ok_grown T F_grown D_cleared⟩
  have D_spanned : Dn P w K mg base 3 "spanned" ["words"] sp_spanned := ⟨_, fd_spanned, He.glo_ok X G (c.fact 39 (f := .glo "spanned") rfl), F_spanned.kp, (F_spanned.bindsN fun _ _ _ _ _ _ us hl => match us, hl with | [_], _ => rfl), ok_spanned T F_spanned D_grown⟩
  have D_paired : Dn P w K mg base 4 "paired" ["columns"] sp_paired := ⟨_, fd_paired, He.glo_ok X G (c.fact 40 (f := .glo "paired") rfl), F_paired.kp, (F_paired.bindsN fun _ _ _ _ _ _ us hl => match us, hl with | [_], _ => rfl), ok_paired T F_paired D_spanned⟩
  have D_kernel_rows : Dn P w K mg base 5 "kernel_rows" ["columns"] sp_kernel_rows := ⟨_, fd_kernel_rows, He.glo_ok X G (c.fact 41 (f := .glo "kernel_rows") rfl), F_kernel_rows.kp, (F_kernel_rows.bindsN fun _ _ _ _ _ _ us hl => match us, hl with | [_], _ => rfl), ok_kernel_rows T F_kernel_rows D_paired⟩
  have D_met : Dn P w K mg base 4 "met" ["bits", "rows", "others"] sp_met := ⟨_, fd_met, He.glo_ok X G (c.fact 42 (f := .glo "met") rfl), F_met.kp, (F_met.bindsN fun _ _ _ _ _ _ us hl => match us, hl with | [_, _, _], _ => rfl), ok_met T F_met D_spanned⟩
  have K_Space : Kn P w K mg base 4 (He.ga K "Space") "Space" ["self", "bits", "words"] (sp_Space (He.ga K "Space")) := ⟨He.glo_ok X G (c.fact 14 (f := .glo "Space") rfl), _, fd_Space_init, He.mkr_ok (c.fact 16 (f := .mkr "Space") rfl), (F_Space_init.bindsN fun _ _ _ _ _ _ us hl => match us, hl with | [_, _, _], _ => rfl), ok_Space T TS F_Space_init D_need_whole D_need_words D_spanned⟩
  have K_Spread : Kn P w K mg base 4 (He.ga K "Spread") "Spread" ["self", "bits", "slots", "lanes"] (sp_Spread (He.ga K "Spread")) := ⟨He.glo_ok X G (c.fact 20 (f := .glo "Spread") rfl), _, fd_Spread_init, He.mkr_ok (c.fact 22 (f := .mkr "Spread") rfl), (F_Spread_init.bindsN fun _ _ _ _ _ _ us hl => match us, hl with | [_, _, _, _], _ => rfl), ok_Spread T TR F_Spread_init D_need_whole D_need_words D_spanned⟩
  have D_need_space : Dn P w K mg base 1 "need_space" ["value", "bits"] (sp_need_space (He.ga K "Space")) := ⟨_, fd_need_space, He.glo_ok X G (c.fact 43 (f := .glo "need_space") rfl), F_need_space.kp, (F_need_space.bindsN fun _ _ _ _ _ _ us hl => match us, hl with | [_, _], _ => rfl), ok_need_space T TS F_need_space⟩
  have D_any_spread : Dn P w K mg base 1 "any_spread" ["value"] (sp_any_spread (He.ga K "Spread")) := ⟨_, fd_any_spread, He.glo_ok X G (c.fact 44 (f := .glo "any_spread") rfl), F_any_spread.kp, (F_any_spread.bindsN fun _ _ _ _ _ _ us hl => match us, hl with | [_], _ => rfl), ok_any_spread T TR F_any_spread⟩
  have M_Space_and : Mn P w K mg base 6 (He.ga K "Space") "__and__" ["self", "other"] (sp_and (He.ga K "Space")) := ⟨TS.cl, _, fd_Space_and, He.meth_ok (c.fact 45 (f := .meth "Space" "__and__") rfl), (F_Space_and.bindsN fun _ _ _ _ _ _ us hl => match us, hl with | [_, _], _ => rfl), ok_and T TS F_Space_and D_need_space D_met K_Space⟩
  have M_Space_completing : Mn P w K mg base 3 (He.ga K "Space") "completing" ["self", "other"] (sp_completing (He.ga K "Space")) := ⟨TS.cl, _, fd_Space_completing, He.meth_ok (c.fact 46 (f := .meth "Space" "completing") rfl), (F_Space_completing.bindsN fun _ _ _ _ _ _ us hl => match us, hl with | [_, _], _ => rfl), ok_completing T TS F_Space_completing D_need_space D_cleared D_grown⟩
  have M_Spread_slot_space : Mn P w K mg base 6 (He.ga K "Spread") "slot_space" ["self"] (sp_slot_space (He.ga K "Space") (He.ga K "Spread")) := ⟨TR.cl, _, fd_Spread_slot_space, He.meth_ok (c.fact 47 (f := .meth "Spread" "slot_space") rfl), (F_Spread_slot_space.bindsN fun _ _ _ _ _ _ us hl => match us, hl with | [_], _ => rfl), ok_slot_space T TR F_Spread_slot_space K_Space⟩
  have M_Spread_twins : Mn P w K mg base 6 (He.ga K "Spread") "twins" ["self"] (sp_twins (He.ga K "Space") (He.ga K "Spread")) := ⟨TR.cl, _, fd_Spread_twins, He.meth_ok (c.fact 48 (f := .meth "Spread" "twins") rfl), (F_Spread_twins.bindsN fun _ _ _ _ _ _ us hl => match us, hl with | [_], _ => rfl), ok_twins T TR F_Spread_twins D_spanned D_cleared D_kernel_rows K_Space⟩
  have D_need_pair : Dn P w K mg base 2 "need_pair" ["spread", "space"] (sp_need_pair (He.ga K "Space") (He.ga K "Spread")) := ⟨_, fd_need_pair, He.glo_ok X G (c.fact 49 (f := .glo "need_pair") rfl), F_need_pair.kp, (F_need_pair.bindsN fun _ _ _ _ _ _ us hl => match us, hl with | [_, _], _ => rfl), ok_need_pair T TR F_need_pair D_any_spread D_need_space⟩
  have D_partner_rows : Dn P w K mg base 6 "partner_rows" ["spread", "space"] (sp_partner_rows (He.ga K "Space") (He.ga K "Spread")) := ⟨_, fd_partner_rows, He.glo_ok X G (c.fact 50 (f := .glo "partner_rows") rfl), F_partner_rows.kp, (F_partner_rows.bindsN fun _ _ _ _ _ _ us hl => match us, hl with | [_, _], _ => rfl), ok_partner_rows T TS TR F_partner_rows D_spanned D_cleared D_kernel_rows⟩
  have D_partners : Dn P w K mg base 7 "partners" ["spread", "space"] (sp_partners (He.ga K "Space") (He.ga K "Spread")) := ⟨_, fd_partners, He.glo_ok X G (c.fact 51 (f := .glo "partners") rfl), F_partners.kp, (F_partners.bindsN fun _ _ _ _ _ _ us hl => match us, hl with | [_, _], _ => rfl), ok_partners T TR F_partners D_need_pair D_partner_rows K_Space⟩
  have D_leaders : Dn P w K mg base 8 "leaders" ["spread", "space"] (sp_leaders (He.ga K "Space") (He.ga K "Spread")) := ⟨_, fd_leaders, He.glo_ok X G (c.fact 52 (f := .glo "leaders") rfl), F_leaders.kp, (F_leaders.bindsN fun _ _ _ _ _ _ us hl => match us, hl with | [_, _], _ => rfl), ok_leaders T F_leaders D_partners M_Spread_twins M_Space_completing⟩
  have D_kept_bits : Dn P w K mg base 7 "kept_bits" ["spread", "space"] (sp_kept_bits (He.ga K "Space") (He.ga K "Spread")) := ⟨_, fd_kept_bits, He.glo_ok X G (c.fact 53 (f := .glo "kept_bits") rfl), F_kept_bits.kp, (F_kept_bits.bindsN fun _ _ _ _ _ _ us hl => match us, hl with | [_, _], _ => rfl), ok_kept_bits T TS F_kept_bits M_Spread_slot_space M_Space_and TSo.2⟩
  have D_rounds_for : Dn P w K mg base 1 "rounds_for" ["bits", "apart"] sp_rounds_for := ⟨_, fd_rounds_for, He.glo_ok X G (c.fact 54 (f := .glo "rounds_for") rfl), F_rounds_for.kp, (F_rounds_for.bindsN fun _ _ _ _ _ _ us hl => match us, hl with | [_, _], _ => rfl), ok_rounds_for T F_rounds_for⟩
  have D_sum_rounds : Dn P w K mg base 9 "sum_rounds" ["spread", "space"] (sp_sum_rounds (He.ga K "Space") (He.ga K "Spread")) := ⟨_, fd_sum_rounds, He.glo_ok X G (c.fact 55 (f := .glo "sum_rounds") rfl), F_sum_rounds.kp, (F_sum_rounds.bindsN fun _ _ _ _ _ _ us hl => match us, hl with | [_, _], _ => rfl), ok_sum_rounds T TS F_sum_rounds D_need_pair D_kept_bits M_Spread_twins D_leaders D_rounds_for⟩
  have D_ones : Dn P w K mg base 3 "ones" ["word"] sp_ones := ⟨_, fd_ones, He.glo_ok X G (c.fact 56 (f := .glo "ones") rfl), F_ones.kp, (F_ones.bindsN fun _ _ _ _ _ _ us hl => match us, hl with | [_], _ => rfl), ok_ones T F_ones D_need_whole⟩
  have D_image_of : Dn P w K mg base 4 "image_of" ["columns", "word"] sp_image_of := ⟨_, fd_image_of, He.glo_ok X G (c.fact 57 (f := .glo "image_of") rfl), F_image_of.kp, (F_image_of.bindsN fun _ _ _ _ _ _ us hl => match us, hl with | [_, _], _ => rfl), ok_image_of T F_image_of D_ones⟩
  have D_need_fit : Dn P w K mg base 2 "need_fit" ["one", "other"] (sp_need_fit (He.ga K "Spread")) := ⟨_, fd_need_fit, He.glo_ok X G (c.fact 58 (f := .glo "need_fit") rfl), F_need_fit.kp, (F_need_fit.bindsN fun _ _ _ _ _ _ us hl => match us, hl with | [_, _], _ => rfl), ok_need_fit T TR F_need_fit D_any_spread⟩
  have D_lane_sums : Dn P w K mg base 1 "lane_sums" ["one", "other"] (sp_lane_sums (He.ga K "Spread")) := ⟨_, fd_lane_sums, He.glo_ok X G (c.fact 59 (f := .glo "lane_sums") rfl), F_lane_sums.kp, (F_lane_sums.bindsN fun _ _ _ _ _ _ us hl => match us, hl with | [_, _], _ => rfl), ok_lane_sums T TR F_lane_sums⟩
  have D_both_rows : Dn P w K mg base 5 "both_rows" ["one", "other"] (sp_both_rows (He.ga K "Spread")) := ⟨_, fd_both_rows, He.glo_ok X G (c.fact 60 (f := .glo "both_rows") rfl), F_both_rows.kp, (F_both_rows.bindsN fun _ _ _ _ _ _ us hl => match us, hl with | [_, _], _ => rfl), ok_both_rows T TR F_both_rows D_spanned D_met⟩
  have D_all_hold : Dn P w K mg base 4 "all_hold" ["one", "other"] (sp_all_hold (He.ga K "Spread")) := ⟨_, fd_all_hold, He.glo_ok X G (c.fact 61 (f := .glo "all_hold") rfl), F_all_hold.kp, (F_all_hold.bindsN fun _ _ _ _ _ _ us hl => match us, hl with | [_, _], _ => rfl), ok_all_hold T TR F_all_hold D_lane_sums D_spanned D_cleared⟩
  have D_fewest_rounds : Dn P w K mg base 6 "fewest_rounds" ["one", "other"] (sp_fewest_rounds (He.ga K "Spread")) := ⟨_, fd_fewest_rounds, He.glo_ok X G (c.fact 62 (f := .glo "fewest_rounds") rfl), F_fewest_rounds.kp, (F_fewest_rounds.bindsN fun _ _ _ _ _ _ us hl => match us, hl with | [_, _], _ => rfl), ok_fewest_rounds T TR F_fewest_rounds D_need_fit D_both_rows D_all_hold⟩
  have D_lacks : Dn P w K mg base 6 "lacks" ["one", "other", "lane"] (sp_lacks (He.ga K "Spread")) := ⟨_, fd_lacks, He.glo_ok X G (c.fact 63 (f := .glo "lacks") rfl), F_lacks.kp, (F_lacks.bindsN fun _ _ _ _ _ _ us hl => match us, hl with | [_, _, _], _ => rfl), ok_lacks T TR F_lacks D_any_spread D_need_word D_need_fit D_both_rows D_cleared D_image_of D_lane_sums⟩
  have K_Map : Kn P w K mg base 4 (He.ga K "Map") "Map" ["self", "goal", "columns"] (sp_Map (He.ga K "Map")) := ⟨He.glo_ok X G (c.fact 26 (f := .glo "Map") rfl), _, fd_Map_init, He.mkr_ok (c.fact 28 (f := .mkr "Map") rfl), (F_Map_init.bindsN fun _ _ _ _ _ _ us hl => match us, hl with | [_, _, _], _ => rfl), ok_Map T TM F_Map_init D_need_whole D_need_words⟩
  have M_Map_kernel : Mn P w K mg base 6 (He.ga K "Map") "kernel" ["self"] (sp_kernel (He.ga K "Space") (He.ga K "Map")) := ⟨TM.cl, _, fd_Map_kernel, He.meth_ok (c.fact 64 (f := .meth "Map" "kernel") rfl), (F_Map_kernel.bindsN fun _ _ _ _ _ _ us hl => match us, hl with | [_], _ => rfl), ok_kernel T TM F_Map_kernel D_kernel_rows K_Space⟩
  have M_Spread_placing : Mn P w K mg base 6 (He.ga K "Spread") "placing" ["self"] (sp_placing (He.ga K "Map") (He.ga K "Spread")) := ⟨TR.cl, _, fd_Spread_placing, He.meth_ok (c.fact 65 (f := .meth "Spread" "placing") rfl), (F_Spread_placing.bindsN fun _ _ _ _ _ _ us hl => match us, hl with | [_], _ => rfl), ok_placing T TR F_Spread_placing K_Map⟩
  have M_Spread_copies : Mn P w K mg base 7 (He.ga K "Spread") "copies" ["self"] (sp_copies (He.ga K "Space") (He.ga K "Spread")) := ⟨TR.cl, _, fd_Spread_copies, He.meth_ok (c.fact 66 (f := .meth "Spread" "copies") rfl), (F_Spread_copies.bindsN fun _ _ _ _ _ _ us hl => match us, hl with | [_], _ => rfl), ok_copies F_Spread_copies M_Spread_placing M_Map_kernel⟩
  have M_Spread_entry : Mn P w K mg base 5 (He.ga K "Spread") "entry" ["self", "slot", "lane"] (sp_entry (He.ga K "Spread")) := ⟨TR.cl, _, fd_Spread_entry, He.meth_ok (c.fact 67 (f := .meth "Spread" "entry") rfl), (F_Spread_entry.bindsN fun _ _ _ _ _ _ us hl => match us, hl with | [_, _, _], _ => rfl), ok_entry T TR F_Spread_entry D_need_word D_image_of⟩
  have M_Spread_eq : Mn P w K mg base 1 (He.ga K "Spread") "__eq__" ["self", "other"] (sp_spread_eq (He.ga K "Spread")) := ⟨TR.cl, _, fd_Spread_eq, He.meth_ok (c.fact 68 (f := .meth "Spread" "__eq__") rfl), (F_Spread_eq.bindsN fun _ _ _ _ _ _ us hl => match us, hl with | [_, _], _ => rfl), ok_spread_eq T TR F_Spread_eq⟩
  have M_Spread_or : Mn P w K mg base 6 (He.ga K "Spread") "__or__" ["self", "other"] (sp_or (He.ga K "Spread")) := ⟨TR.cl, _, fd_Spread_or, He.meth_ok (c.fact 69 (f := .meth "Spread" "__or__") rfl), (F_Spread_or.bindsN fun _ _ _ _ _ _ us hl => match us, hl with | [_, _], _ => rfl), ok_or T TR F_Spread_or D_any_spread K_Spread⟩
  have D_left_over : Dn P w K mg base 1 "left_over" ["words", "first", "bits"] sp_left_over := ⟨_, fd_left_over, He.glo_ok X G (c.fact 70 (f := .glo "left_over") rfl), F_left_over.kp, (F_left_over.bindsN fun _ _ _ _ _ _ us hl => match us, hl with | [_, _, _], _ => rfl), ok_left_over T F_left_over⟩
  have M_Spread_floordiv : Mn P w K mg base 6 (He.ga K "Spread") "__floordiv__" ["self", "one"] (sp_floordiv (He.ga K "Spread")) := ⟨TR.cl, _, fd_Spread_floordiv, He.meth_ok (c.fact 71 (f := .meth "Spread" "__floordiv__") rfl), (F_Spread_floordiv.bindsN fun _ _ _ _ _ _ us hl => match us, hl with | [_, _], _ => rfl), ok_floordiv T TR F_Spread_floordiv D_any_spread D_left_over K_Spread⟩
  have D_drawL : Dn P w K mg base 1 "_law_draw" ["_law_pen_here", "_law_many"] sp_draw := ⟨_, fd_drawL, He.glo_ok X G (c.fact 72 (f := .glo "_law_draw") rfl), F_drawL.kp, (F_drawL.bindsN fun _ _ _ _ _ _ us hl => match us, hl with | [_, _], _ => rfl), ok_draw T F_drawL⟩
  have D_penL : Dn P w K mg base 1 "_law_pen" ["_law_script"] (sp_begin K) := ⟨_, fd_penL, He.glo_ok X G (c.fact 73 (f := .glo "_law_pen") rfl), F_penL.kp, (F_penL.bindsN fun _ _ _ _ _ _ us hl => match us, hl with | [_], _ => rfl), ok_begin T F_penL⟩
  have D_unitL : Dn P w K mg base 1 "_law_unit" ["_law_k"] sp_unit := ⟨_, fd_unitL, He.glo_ok X G (c.fact 74 (f := .glo "_law_unit") rfl), F_unitL.kp, (F_unitL.bindsN fun _ _ _ _ _ _ us hl => match us, hl with | [_], _ => rfl), ok_unit T F_unitL⟩
  have D_wordL : Dn P w K mg base 2 "_law_word" ["_law_pen_here", "_law_bits"] sp_word := ⟨_, fd_wordL, He.glo_ok X G (c.fact 75 (f := .glo "_law_word") rfl), F_wordL.kp, (F_wordL.bindsN fun _ _ _ _ _ _ us hl => match us, hl with | [_, _], _ => rfl), ok_word T F_wordL D_drawL⟩
  have D_baseL : Dn P w K mg base 2 "_law_base" ["_law_pen_here", "_law_bits"] sp_base := ⟨_, fd_baseL, He.glo_ok X G (c.fact 76 (f := .glo "_law_base") rfl), F_baseL.kp, (F_baseL.bindsN fun _ _ _ _ _ _ us hl => match us, hl with | [_, _], _ => rfl), ok_base T F_baseL D_drawL D_unitL⟩
  have D_joinedL : Dn P w K mg base 2 "_law_joined" ["_law_low", "_law_high", "_law_shift"] sp_joined := ⟨_, fd_joinedL, He.glo_ok X G (c.fact 77 (f := .glo "_law_joined") rfl), F_joinedL.kp, (F_joinedL.bindsN fun _ _ _ _ _ _ us hl => match us, hl with | [_, _, _], _ => rfl), ok_joined F_joinedL D_unitL⟩
  have D_spreadL : Dn P w K mg base 6 "_law_spread" ["_law_pen_here", "_law_bits", "_law_lanes"] (sp_spreadL (He.ga K "Spread")) := ⟨_, fd_spreadL, He.glo_ok X G (c.fact 78 (f := .glo "_law_spread") rfl), F_spreadL.kp, (F_spreadL.bindsN fun _ _ _ _ _ _ us hl => match us, hl with | [_, _, _], _ => rfl), ok_spreadL T F_spreadL D_drawL D_wordL D_baseL K_Spread⟩
  have D_pairL : Dn P w K mg base 7 "_law_pair" ["_law_pen_here", "_law_bits"] (sp_pair (He.ga K "Spread")) := ⟨_, fd_pairL, He.glo_ok X G (c.fact 79 (f := .glo "_law_pair") rfl), F_pairL.kp, (F_pairL.bindsN fun _ _ _ _ _ _ us hl => match us, hl with | [_, _], _ => rfl), ok_pair T F_pairL D_drawL D_spreadL⟩
  have D_sizesL : Dn P w K mg base 7 "_law_sizes" ["_law_one", "_law_other", "_law_lane"] (sp_sizes (He.ga K "Spread")) := ⟨_, fd_sizesL, He.glo_ok X G (c.fact 80 (f := .glo "_law_sizes") rfl), F_sizesL.kp, (F_sizesL.bindsN fun _ _ _ _ _ _ us hl => match us, hl with | [_, _, _], _ => rfl), ok_sizes T TS F_sizesL D_unitL M_Spread_slot_space D_lacks⟩
  exact ok_law T TS TR F_law D_penL D_drawL D_wordL D_joinedL D_sizesL D_pairL D_lacks M_Spread_entry M_Spread_copies M_Spread_or M_Spread_floordiv M_Spread_eq D_fewest_rounds K_Space D_partners M_Spread_twins D_sum_rounds TRo.2 hneR
end LaneX
open PySem PySem.W PySem.Calls PyProof.Rows
theorem PySem.Challenge.cw_laneswap_k62_whole_side_by_side_holds : PySem.Challenge.rw_laneswap_k62_whole_side_by_side.Holds := by
  w_on; o_law
  refine HandSHeadRun.head_any (r := OpenLaw.row PySem.Challenge.rw_laneswap_k62_whole_side_by_side) (q := view (OpenLaw.row PySem.Challenge.rw_laneswap_k62_whole_side_by_side).prog [66]) (H := LaneX.hk) (ob := LaneX.ob) (M := 6000) (loose := LaneX.names) (d := HandSHeadRun.topDef (OpenLaw.row PySem.Challenge.rw_laneswap_k62_whole_side_by_side).prog 66) (kwd := []) LaneX.ob_eq
    (by kernel_rfl) (fun s => by kernel_rfl) LaneX.run (by kernel_rfl) (by kernel_rfl) (by kernel_rfl) (by rfl) (by first | assumption | decide +kernel) (by decide +kernel) ⟨rfl, rfl, rfl, rfl, rfl, by decide +kernel⟩ ?hw ?hc
  case hw => w_witness2
  case hc =>
    refine L2.walk_ofE (l := PySem.Challenge.rw_laneswap_k62_whole_side_by_side) (n := 63) (k := 10) (x := "_law_script") (CX := L2.CX0) rfl (by decide) (by kernel_rfl) ⟨rfl, by decide, by decide⟩ ?F (fun _ _ _ _ z => z)
    intro w mg fa h Y G hmg0
    obtain ⟨K, KX, c⟩ := Y
    have hmg : mg ("law" : PySem.Str) = some (.ref fa) := by
      have e : (HandSHeadRun.topDef (OpenLaw.row PySem.Challenge.rw_laneswap_k62_whole_side_by_side).prog 66).name = ("law" : PySem.Str) := by kernel_rfl
      rw [← e]
      exact hmg0
    obtain ⟨fd, hb, hF⟩ := LaneX.facts (P := (PySem.Challenge.rw_laneswap_k62_whole_side_by_side).prog) (w := w) KX G hmg c.t.d c.more
    exact ⟨K, fd, LaneX.sp_lawK K, KX, hb, fun H a ns hl _ hS => ⟨a, ns, rfl, hS, hl, fun _ => rfl⟩, hF⟩
