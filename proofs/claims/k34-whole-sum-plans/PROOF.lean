import PyProof.Rows.All
import Wide.All
import OpenK.AllK
import Wide.FinOn
import KE.KStateDown
import KE.BitLaws
import HandS.ForMost
import HandS.Flow
import HandS.Wide
import HandS.WideBits
import HandS.IsInst
import HandS.SortInts
import HandS.Conv
import HandS.Zip
import HandS.More
import HandS.WordsExc
import HandS.Defaults
import HandS.Walk
import PySem.Challenge.RW_laneswap_k34_whole_sum_plans
import KE.KEqSeq
import HandS.Star
import HandS.TupLe
import KE.KOpsOwn
import HandS.Base
import HandS.Call
import HandS.Ends
import HandS.Words
import HandS.Head0
import HandS.Head1
import HandS.Head2
import HandS.HeadEnd
import HandS.HeadHook1
import HandS.HeadHook2
import HandS.HeadHook3
import HandS.HeadHook4
import HandS.OwnEq
import PyProof.InstEq
import HandS.Iter
import KE.GoesMore
import HandS.SetFor
import HandS.Style
import HandS.Strs
import HandS.SetKeys
import HandS.Small
import HandS.WordsDict
set_option linter.all false
namespace LaneX
/-! ### plain mathematics: words, rows -/
/-- the number of bits -/
def blen (n : Nat) : Nat := if n = 0 then 0 else n.log2 + 1
theorem blen_zero : blen 0 = 0 := rfl
theorem blen_pos {n : Nat} (h : n ≠ 0) : 1 ≤ blen n := by unfold blen; rw [if_neg h]; omega
theorem lt_blen (n : Nat) : n < 2 ^ blen n := by
  unfold blen
  split
  · subst_vars; decide
  · exact Nat.lt_log2_self
theorem blen_le {n k : Nat} : blen n ≤ k ↔ n < 2 ^ k := by
  constructor
  · intro h; exact Nat.lt_of_lt_of_le (lt_blen n) (Nat.pow_le_pow_right (by decide) h)
  · intro h
    unfold blen
    split
    · omega
    · rename_i h0
      have := (Nat.log2_lt h0).mpr h
      omega
theorem testBit_top {n : Nat} (h : n ≠ 0) : n.testBit (blen n - 1) = true := by
  unfold blen
  rw [if_neg h, Nat.add_sub_cancel]
  exact Nat.testBit_log2 h
theorem testBit_ge {n i : Nat} (h : blen n ≤ i) : n.testBit i = false :=
  Nat.testBit_lt_two_pow (blen_le.mp h)
theorem shr_and_one (n i : Nat) : ((n >>> i) &&& 1 = 1) ↔ n.testBit i = true := by
  rw [Nat.testBit_eq_decide_div_mod_eq, Nat.shiftRight_eq_div_pow, Nat.and_one_is_mod, decide_eq_true_iff]
/-- a word cleared by rows -/
def clr (rows : List Nat) (w : Nat) : Nat := rows.foldl (fun l r => if l.testBit (blen r - 1) = true then l ^^^ r else l) w
/-- sorting by insertion -/
def ins (x : Nat) : List Nat → List Nat
  | [] => [x]
  | y :: r => if x ≤ y then x :: y :: r else y :: ins x r
def srt : List Nat → List Nat
  | [] => []
  | x :: r => ins x (srt r)
theorem ins_perm (x : Nat) : ∀ l, (ins x l).Perm (x :: l)
  | [] => .refl _
  | y :: r => by
    unfold ins
    split
    · exact .refl _
    · exact ((ins_perm x r).cons y).trans (.swap _ _ _)
theorem srt_perm : ∀ l, (srt l).Perm l
  | [] => .refl _
  | x :: r => (ins_perm x (srt r)).trans ((srt_perm r).cons x)
theorem ins_sorted {x : Nat} : ∀ {l : List Nat}, l.Pairwise (· ≤ ·) → (ins x l).Pairwise (· ≤ ·)
  | [], _ => by simp [ins]
  | y :: r, h => by
    unfold ins
    have h' := List.pairwise_cons.mp h
    split
    · rename_i hxy
      refine List.pairwise_cons.mpr ⟨fun z hz => ?_, h⟩
      rcases List.mem_cons.mp hz with rfl | hz
      · exact hxy
      · exact Nat.le_trans hxy (h'.1 z hz)
    · rename_i hxy
      refine List.pairwise_cons.mpr ⟨fun z hz => ?_, ins_sorted h'.2⟩
      rcases List.mem_cons.mp ((ins_perm x r).mem_iff.mp hz) with rfl | hz
      · omega
      · exact h'.1 z hz
theorem srt_sorted : ∀ l, (srt l).Pairwise (· ≤ ·)
  | [] => .nil
  | x :: r => ins_sorted (srt_sorted r)
theorem sorted_unique : ∀ {l m : List Nat}, l.Perm m → l.Pairwise (· ≤ ·) → m.Pairwise (· ≤ ·) → l = m
  | [], m, p, _, _ => by simpa using p.symm.eq_nil
  | x :: l, [], p, _, _ => by simpa using p.eq_nil
  | x :: l, y :: m, p, h1, h2 => by
    have a := List.pairwise_cons.mp h1
    have b := List.pairwise_cons.mp h2
    have e : x = y := by
      have hx : x ∈ y :: m := p.mem_iff.mp List.mem_cons_self
      have hy : y ∈ x :: l := p.mem_iff.mpr List.mem_cons_self
      rcases List.mem_cons.mp hx with rfl | hx
      · rfl
      · rcases List.mem_cons.mp hy with rfl | hy
        · rfl
        · exact Nat.le_antisymm (a.1 y hy) (b.1 x hx)
    subst e
    rw [sorted_unique ((List.perm_cons x).mp p) a.2 b.2]
theorem srt_of {l m : List Nat} (p : m.Perm l) (h : m.Pairwise (· ≤ ·)) : m = srt l := sorted_unique (p.trans (srt_perm l).symm) h (srt_sorted l)
/-- rows with one more word -/
def grw (rows : List Nat) (w : Nat) : List Nat := if clr rows w = 0 then rows else
  srt ((rows.map fun r => if r.testBit (blen (clr rows w) - 1) = true then r ^^^ clr rows w else r) ++ [clr rows w])
def spn (ws : List Nat) : List Nat := ws.foldl grw []
theorem clr_append (a b : List Nat) (w : Nat) : clr (a ++ b) w = clr b (clr a w) := List.foldl_append ..
theorem spn_append (a b : List Nat) : spn (a ++ b) = b.foldl grw (spn a) := List.foldl_append ..
theorem clr_lt {k : Nat} : ∀ {rows : List Nat} {w : Nat}, (∀ r ∈ rows, r < 2 ^ k) → w < 2 ^ k → clr rows w < 2 ^ k
  | [], w, _, h => h
  | r :: rs, w, hr, h => by
    show clr rs _ < 2 ^ k
    refine clr_lt (fun x hx => hr x (.tail _ hx)) ?_
    dsimp only
    split
    · exact Nat.xor_lt_two_pow h (hr r (.head _))
    · exact h
theorem grw_len (rows : List Nat) (w : Nat) : (grw rows w).length ≤ rows.length + 1 := by
  unfold grw
  split
  · omega
  · rw [(srt_perm _).length_eq]
    simp
theorem xor_eq_zero {a b : Nat} (e : a ^^^ b = 0) : a = b := by
  have h : a ^^^ b ^^^ b = 0 ^^^ b := by rw [e]
  rw [Nat.xor_assoc, Nat.xor_self, Nat.xor_zero, Nat.zero_xor] at h
  exact h
theorem xor_ne {a b : Nat} (h : a ≠ b) : a ^^^ b ≠ 0 := fun e => h (xor_eq_zero e)
/-- what rows are at least: no 0, and cleared words have 0 at their tops -/
structure Rws (rows : List Nat) : Prop where
  nz : ∀ r ∈ rows, r ≠ 0
  /-- the top of each is 0 in all others -/
  red : rows.Pairwise fun r s => r.testBit (blen s - 1) = false ∧ s.testBit (blen r - 1) = false
theorem Rws.nil : Rws [] := ⟨fun _ h => (by cases h), .nil⟩
end LaneX
set_option linter.all false
namespace LaneX
/-! ### clearing is linear -/
def bx (b : Bool) (r : Nat) : Nat := if b = true then r else 0
theorem bx_xor (a b : Bool) (r : Nat) : bx (a ^^ b) r = bx a r ^^^ bx b r := by
  cases a <;> cases b <;> simp [bx]
theorem stp_eq (l r : Nat) : (if l.testBit (blen r - 1) = true then l ^^^ r else l) = l ^^^ bx (l.testBit (blen r - 1)) r := by
  cases l.testBit (blen r - 1) <;> simp [bx]
theorem clr_cons (r : Nat) (rs : List Nat) (x : Nat) : clr (r :: rs) x = clr rs (x ^^^ bx (x.testBit (blen r - 1)) r) := by
  show clr rs _ = _
  dsimp only
  rw [stp_eq]
theorem xor4 (a b c d : Nat) : (a ^^^ b) ^^^ (c ^^^ d) = (a ^^^ c) ^^^ (b ^^^ d) := by
  rw [Nat.xor_assoc, Nat.xor_assoc]
  congr 1
  rw [← Nat.xor_assoc, Nat.xor_comm b c, Nat.xor_assoc]
theorem clr_xor : ∀ (rows : List Nat) (x y : Nat), clr rows (x ^^^ y) = clr rows x ^^^ clr rows y
  | [], _, _ => rfl
  | r :: rs, x, y => by
    rw [clr_cons, clr_cons, clr_cons, Nat.testBit_xor, bx_xor, xor4, clr_xor rs]
theorem clr_zero : ∀ rows : List Nat, clr rows 0 = 0
  | [] => rfl
  | r :: rs => by rw [clr_cons]; simp [bx, clr_zero rs]
/-- rows that do not speak of a bit leave it -/
theorem clr_bit {b : Nat} : ∀ {rows : List Nat} {x : Nat}, (∀ r ∈ rows, r.testBit b = false) → (clr rows x).testBit b = x.testBit b
  | [], x, _ => rfl
  | r :: rs, x, h => by
    rw [clr_cons, clr_bit fun s hs => h s (.tail _ hs), Nat.testBit_xor]
    have := h r (.head _)
    cases x.testBit (blen r - 1) <;> simp [bx, this]
theorem clr_of_none : ∀ {rows : List Nat} {x : Nat}, (∀ r ∈ rows, x.testBit (blen r - 1) = false) → clr rows x = x
  | [], x, _ => rfl
  | r :: rs, x, h => by
    rw [clr_cons, h r (.head _)]
    simp only [bx, Bool.false_eq_true, if_false, Nat.xor_zero]
    exact clr_of_none fun s hs => h s (.tail _ hs)
theorem clr_tops : ∀ {rows : List Nat} {x : Nat}, Rws rows → ∀ r ∈ rows, (clr rows x).testBit (blen r - 1) = false
  | [], x, _, r, h => by cases h
  | s :: rs, x, R, r, h => by
    have hp := List.pairwise_cons.mp R.red
    have R' : Rws rs := ⟨fun t ht => R.nz t (.tail _ ht), hp.2⟩
    rw [clr_cons]
    rcases List.mem_cons.mp h with rfl | h
    · rw [clr_bit fun t ht => (hp.1 t ht).2, Nat.testBit_xor]
      have := testBit_top (R.nz r (.head _))
      cases q : x.testBit (blen r - 1) <;> simp [bx, this]
    · exact clr_tops R' r h
theorem clr_self : ∀ {rows : List Nat}, Rws rows → ∀ r ∈ rows, clr rows r = 0
  | [], _, r, h => by cases h
  | s :: rs, R, r, h => by
    have hp := List.pairwise_cons.mp R.red
    have R' : Rws rs := ⟨fun t ht => R.nz t (.tail _ ht), hp.2⟩
    rw [clr_cons]
    rcases List.mem_cons.mp h with rfl | h
    · rw [testBit_top (R.nz r (.head _))]
      simp only [bx, if_true, Nat.xor_self]
      exact clr_zero rs
    · rw [(hp.1 r h).2]
      simp only [bx, Bool.false_eq_true, if_false, Nat.xor_zero]
      exact clr_self R' r h
/-! ### spans -/
inductive Spn (ws : List Nat) : Nat → Prop where
  | zero : Spn ws 0
  | add {x w : Nat} : w ∈ ws → Spn ws x → Spn ws (x ^^^ w)
theorem Spn.of {ws : List Nat} {w : Nat} (h : w ∈ ws) : Spn ws w := by
  have := Spn.add h Spn.zero
  rwa [Nat.zero_xor] at this
theorem Spn.xor {ws : List Nat} {x y : Nat} (hx : Spn ws x) (hy : Spn ws y) : Spn ws (x ^^^ y) := by
  induction hy with
  | zero => rwa [Nat.xor_zero]
  | add hw _ ih => rw [← Nat.xor_assoc]; exact .add hw ih
theorem Spn.mono {ws vs : List Nat} {x : Nat} (hx : Spn ws x) (h : ∀ w ∈ ws, Spn vs w) : Spn vs x := by
  induction hx with
  | zero => exact .zero
  | add hw _ ih => exact ih.xor (h _ hw)
theorem Spn.nil {x : Nat} (h : Spn [] x) : x = 0 := by
  cases h with
  | zero => rfl
  | add hw _ => cases hw
theorem Spn.lt {ws : List Nat} {k x : Nat} (hx : Spn ws x) (h : ∀ w ∈ ws, w < 2 ^ k) : x < 2 ^ k := by
  induction hx with
  | zero => exact Nat.two_pow_pos k
  | add hw _ ih => exact Nat.xor_lt_two_pow ih (h _ hw)
theorem Spn.sub {ws vs : List Nat} {x : Nat} (hx : Spn ws x) (h : ∀ w ∈ ws, w ∈ vs) : Spn vs x := hx.mono fun w hw => .of (h w hw)
theorem spn_clr : ∀ (rows : List Nat) (x : Nat), Spn rows (x ^^^ clr rows x)
  | [], x => by show Spn [] (x ^^^ x); rw [Nat.xor_self]; exact .zero
  | r :: rs, x => by
    rw [clr_cons]
    have ih := (spn_clr rs (x ^^^ bx (x.testBit (blen r - 1)) r)).sub (vs := r :: rs) fun w hw => .tail _ hw
    have hb : Spn (r :: rs) (bx (x.testBit (blen r - 1)) r) := by
      cases x.testBit (blen r - 1)
      · exact .zero
      · exact .of (.head _)
    have := ih.xor hb
    have e : x ^^^ bx (x.testBit (blen r - 1)) r ^^^ clr rs (x ^^^ bx (x.testBit (blen r - 1)) r) ^^^ bx (x.testBit (blen r - 1)) r = x ^^^ clr rs (x ^^^ bx (x.testBit (blen r - 1)) r) := by
      rw [Nat.xor_assoc, Nat.xor_comm (clr rs _) _, ← Nat.xor_assoc, Nat.xor_assoc x, Nat.xor_self, Nat.xor_zero]
    rw [e] at this
    exact this
theorem Rws.span {rows : List Nat} (R : Rws rows) {x : Nat} : Spn rows x ↔ clr rows x = 0 := by
  constructor
  · intro h
    induction h with
    | zero => exact clr_zero rows
    | add hw _ ih => rw [clr_xor, ih, clr_self R _ hw]; rfl
  · intro h
    have := spn_clr rows x
    rwa [h, Nat.xor_zero] at this
/-! ### one more word -/
theorem blen_xor {r l : Nat} (h : blen l < blen r) : blen (r ^^^ l) = blen r := by
  have hr : r ≠ 0 := fun e => by subst e; simp [blen] at h
  have h1 : r ^^^ l < 2 ^ blen r := Nat.xor_lt_two_pow (lt_blen r) (Nat.lt_of_lt_of_le (lt_blen l) (Nat.pow_le_pow_right (by decide) (by omega)))
  have h2 : (r ^^^ l).testBit (blen r - 1) = true := by
    rw [Nat.testBit_xor, testBit_top hr, testBit_ge (n := l) (by omega)]
    rfl
  have h3 : blen (r ^^^ l) ≤ blen r := blen_le.mpr h1
  have h4 : ¬ blen (r ^^^ l) ≤ blen r - 1 := fun q => by rw [testBit_ge q] at h2; cases h2
  omega
theorem blen_of_bits {r l : Nat} (h1 : r.testBit (blen l - 1) = true) (h2 : l.testBit (blen r - 1) = false) (hl : l ≠ 0) : blen l < blen r := by
  have hr : r ≠ 0 := fun e => by subst e; simp at h1
  have a := blen_pos hl
  have b := blen_pos hr
  have c : ¬ blen r ≤ blen l - 1 := fun q => by rw [testBit_ge q] at h1; cases h1
  have d : blen l ≠ blen r := fun q => by
    rw [← q, testBit_top hl] at h2
    cases h2
  omega
theorem Rws.perm {a b : List Nat} (R : Rws a) (p : a.Perm b) : Rws b :=
  ⟨fun r h => R.nz r (p.mem_iff.mpr h), (p.pairwise_iff (fun h => ⟨h.2, h.1⟩)).mp R.red⟩
section
variable {rows : List Nat} {l : Nat}
def chg (l r : Nat) : Nat := if r.testBit (blen l - 1) = true then r ^^^ l else r
theorem chg_blen {r : Nat} (h : l.testBit (blen r - 1) = false) (hl : l ≠ 0) : blen (chg l r) = blen r := by
  unfold chg
  split
  · rename_i q
    exact blen_xor (blen_of_bits q h hl)
  · rfl
theorem chg_bit {r b : Nat} (h : l.testBit b = false) : (chg l r).testBit b = r.testBit b := by
  unfold chg
  split
  · rw [Nat.testBit_xor, h, Bool.xor_false]
  · rfl
theorem chg_top {r : Nat} (hl : l ≠ 0) : (chg l r).testBit (blen l - 1) = false := by
  unfold chg
  split
  · rename_i q
    rw [Nat.testBit_xor, q, testBit_top hl]; rfl
  · rename_i q
    cases e : r.testBit (blen l - 1) <;> simp_all
theorem Rws.grow (R : Rws rows) (hl : l ≠ 0) (h : ∀ r ∈ rows, l.testBit (blen r - 1) = false) : Rws (rows.map (chg l) ++ [l]) := by
  have bl : ∀ r ∈ rows, blen (chg l r) = blen r := fun r hr => chg_blen (h r hr) hl
  refine ⟨fun x hx => ?_, ?_⟩
  · rcases List.mem_append.mp hx with hx | hx
    · obtain ⟨r, hr, rfl⟩ := List.mem_map.mp hx
      intro e
      have b := bl r hr
      rw [e] at b
      have := blen_pos (R.nz r hr)
      rw [← b] at this
      simp [blen] at this
    · rcases List.mem_singleton.mp hx with rfl
      exact hl
  · refine List.pairwise_append.mpr ⟨?_, by simp, ?_⟩
    · rw [List.pairwise_map]
      refine R.red.imp_of_mem fun {a b} ha hb hab => ?_
      rw [bl a ha, bl b hb, chg_bit (h b hb), chg_bit (h a ha)]
      exact hab
    · intro x hx y hy
      obtain ⟨r, hr, rfl⟩ := List.mem_map.mp hx
      rcases List.mem_singleton.mp hy with rfl
      exact ⟨chg_top hl, by rw [bl r hr]; exact h r hr⟩
end
theorem grw_eq (rows : List Nat) (w : Nat) : grw rows w = if clr rows w = 0 then rows else srt (rows.map (chg (clr rows w)) ++ [clr rows w]) := rfl
theorem grw_rws {rows : List Nat} (R : Rws rows) (w : Nat) : Rws (grw rows w) := by
  rw [grw_eq]
  split
  · exact R
  · rename_i h
    exact (R.grow h fun r hr => clr_tops R r hr).perm (srt_perm _).symm
theorem grw_span {rows : List Nat} (w x : Nat) : Spn (grw rows w) x ↔ Spn (rows ++ [w]) x := by
  rw [grw_eq]
  have hw := spn_clr rows w
  split
  · rename_i h
    rw [h, Nat.xor_zero] at hw
    constructor
    · exact fun hx => hx.sub fun y hy => List.mem_append_left _ hy
    · refine fun hx => hx.mono fun y hy => ?_
      rcases List.mem_append.mp hy with hy | hy
      · exact .of hy
      · rcases List.mem_singleton.mp hy with rfl
        exact hw
  · rename_i h
    generalize hl : clr rows w = l at *
    have e1 : ∀ y, Spn (rows ++ [w]) y ↔ Spn (rows ++ [l]) y := fun y => by
      have lw : Spn (rows ++ [w]) l := by
        have a := (hw.sub (vs := rows ++ [w]) fun z hz => List.mem_append_left _ hz).xor (Spn.of (List.mem_append_right rows (List.mem_singleton_self w)))
        rwa [Nat.xor_comm w l, Nat.xor_assoc, Nat.xor_self, Nat.xor_zero] at a
      have wl : Spn (rows ++ [l]) w := by
        have a := (hw.sub (vs := rows ++ [l]) fun z hz => List.mem_append_left _ hz).xor (Spn.of (List.mem_append_right rows (List.mem_singleton_self l)))
        rwa [Nat.xor_assoc, Nat.xor_self, Nat.xor_zero] at a
      constructor
      · refine fun hx => hx.mono fun z hz => ?_
        rcases List.mem_append.mp hz with hz | hz
        · exact .of (List.mem_append_left _ hz)
        · rcases List.mem_singleton.mp hz with rfl; exact wl
      · refine fun hx => hx.mono fun z hz => ?_
        rcases List.mem_append.mp hz with hz | hz
        · exact .of (List.mem_append_left _ hz)
        · rcases List.mem_singleton.mp hz with rfl; exact lw
    rw [e1]
    have sl : Spn (rows ++ [l]) l := .of (List.mem_append_right _ (List.mem_singleton_self l))
    constructor
    · refine fun hx => hx.mono fun z hz => ?_
      rcases List.mem_append.mp ((srt_perm _).mem_iff.mp hz) with hz | hz
      · obtain ⟨r, hr, rfl⟩ := List.mem_map.mp hz
        have : Spn (rows ++ [l]) r := .of (List.mem_append_left _ hr)
        unfold chg
        split
        · exact this.xor sl
        · exact this
      · exact .of (List.mem_append_right _ hz)
    · refine fun hx => hx.mono fun z hz => ?_
      have ml : Spn (srt (rows.map (chg l) ++ [l])) l := .of ((srt_perm _).mem_iff.mpr (List.mem_append_right _ (List.mem_singleton_self l)))
      rcases List.mem_append.mp hz with hz | hz
      · have mc : Spn (srt (rows.map (chg l) ++ [l])) (chg l z) := .of ((srt_perm _).mem_iff.mpr (List.mem_append_left _ (List.mem_map.mpr ⟨z, hz, rfl⟩)))
        unfold chg at mc
        split at mc
        · have := mc.xor ml
          rwa [Nat.xor_assoc, Nat.xor_self, Nat.xor_zero] at this
        · exact mc
      · rcases List.mem_singleton.mp hz with rfl; exact ml
theorem grw_length {rows : List Nat} (w : Nat) : (grw rows w).length = if clr rows w = 0 then rows.length else rows.length + 1 := by
  rw [grw_eq]
  split
  · rfl
  · rw [(srt_perm _).length_eq]; simp
/-! ### the rows of a list of words -/
theorem spn_rws_from : ∀ (ws : List Nat) {rows : List Nat}, Rws rows → Rws (ws.foldl grw rows)
  | [], _, R => R
  | w :: ws, _, R => spn_rws_from ws (grw_rws R w)
theorem spn_rws (ws : List Nat) : Rws (spn ws) := spn_rws_from ws Rws.nil
theorem spn_span_from : ∀ (ws : List Nat) (rows : List Nat) (x : Nat), Spn (ws.foldl grw rows) x ↔ Spn (rows ++ ws) x
  | [], rows, x => by simp
  | w :: ws, rows, x => by
    show Spn (ws.foldl grw (grw rows w)) x ↔ _
    rw [spn_span_from ws]
    have key : ∀ (a b c : List Nat) (y : Nat), (∀ z, Spn a z ↔ Spn b z) → (Spn (a ++ c) y ↔ Spn (b ++ c) y) := fun a b c y h => by
      constructor
      · refine fun hx => hx.mono fun z hz => ?_
        rcases List.mem_append.mp hz with hz | hz
        · exact ((h z).mp (.of hz)).sub fun u hu => List.mem_append_left _ hu
        · exact .of (List.mem_append_right _ hz)
      · refine fun hx => hx.mono fun z hz => ?_
        rcases List.mem_append.mp hz with hz | hz
        · exact ((h z).mpr (.of hz)).sub fun u hu => List.mem_append_left _ hu
        · exact .of (List.mem_append_right _ hz)
    rw [key _ _ ws x fun z => grw_span w z, List.append_assoc]
    rfl
theorem spn_span (ws : List Nat) (x : Nat) : Spn (spn ws) x ↔ Spn ws x := by
  have := spn_span_from ws [] x
  rwa [List.nil_append] at this
theorem spn_len_from : ∀ (ws rows : List Nat), (ws.foldl grw rows).length ≤ rows.length + ws.length
  | [], _ => by simp
  | w :: ws, rows => by
    have h1 := spn_len_from ws (grw rows w)
    have h2 := grw_len rows w
    simp only [List.foldl_cons, List.length_cons] at h1 ⊢
    omega
theorem spn_len (ws : List Nat) : (spn ws).length ≤ ws.length := by
  have := spn_len_from ws []
  rw [List.length_nil, Nat.zero_add] at this
  exact this
/-! ### tops tell the rank -/
theorem top_keep {t : Nat} : ∀ {rows : List Nat} {l : Nat}, (∀ r ∈ rows, r ≠ 0) → (∀ r ∈ rows, blen r ≠ t + 1) → l < 2 ^ (t + 1) → l.testBit t = true → (clr rows l).testBit t = true
  | [], l, _, _, _, h => h
  | r :: rs, l, nz, nt, hl, h => by
    rw [clr_cons]
    have a := nt r (.head _)
    have b := blen_pos (nz r (.head _))
    refine top_keep (fun s hs => nz s (.tail _ hs)) (fun s hs => nt s (.tail _ hs)) ?_ ?_
    · cases q : l.testBit (blen r - 1) with
      | false => simpa [bx] using hl
      | true =>
        have c : blen r ≤ t + 1 := by
          refine Nat.le_of_not_lt fun z => ?_
          have := testBit_ge (n := l) (i := blen r - 1) (Nat.le_trans (blen_le.mpr hl) (by omega))
          rw [this] at q; cases q
        simp only [bx, if_true]
        exact Nat.xor_lt_two_pow hl (blen_le.mp c)
    · cases q : l.testBit (blen r - 1) with
      | false => simpa [bx] using h
      | true =>
        have c : blen r ≤ t + 1 := by
          refine Nat.le_of_not_lt fun z => ?_
          have := testBit_ge (n := l) (i := blen r - 1) (Nat.le_trans (blen_le.mpr hl) (by omega))
          rw [this] at q; cases q
        simp only [bx, if_true]
        rw [Nat.testBit_xor, h, testBit_ge (n := r) (by omega)]
        rfl
theorem Rws.top_mem {rows : List Nat} (R : Rws rows) {x : Nat} (h : Spn rows x) (hx : x ≠ 0) : ∃ r ∈ rows, blen r = blen x := by
  refine Classical.byContradiction fun hn => ?_
  have h1 : ∀ r ∈ rows, blen r ≠ (blen x - 1) + 1 := fun r hr e => hn ⟨r, hr, by have := blen_pos hx; omega⟩
  have h2 := top_keep (t := blen x - 1) R.nz h1 (by have := blen_pos hx; rw [Nat.sub_add_cancel this]; exact lt_blen x) (testBit_top hx)
  rw [R.span.mp h] at h2
  simp at h2
theorem nodup_sub_len : ∀ {l m : List Nat}, l.Nodup → (∀ x ∈ l, x ∈ m) → l.length ≤ m.length
  | [], _, _, _ => Nat.zero_le _
  | x :: l, m, hn, hs => by
    have hn' := List.nodup_cons.mp hn
    have hx := hs x (.head _)
    have ih := nodup_sub_len (l := l) (m := m.erase x) hn'.2 fun y hy => by
      have : y ≠ x := fun e => hn'.1 (e ▸ hy)
      exact (List.mem_erase_of_ne this).mpr (hs y (.tail _ hy))
    have := List.length_erase_of_mem hx
    have hp : 0 < m.length := List.length_pos_of_mem hx
    simp only [List.length_cons]
    omega
theorem Rws.tops_nodup {rows : List Nat} (R : Rws rows) : (rows.map blen).Nodup := by
  unfold List.Nodup
  rw [List.pairwise_map]
  refine R.red.imp_of_mem fun {a b} ha hb hab e => ?_
  have := hab.1
  rw [← e, testBit_top (R.nz a ha)] at this
  cases this
theorem Rws.le {a b : List Nat} (A : Rws a) (B : Rws b) (h : ∀ x ∈ a, Spn b x) : a.length ≤ b.length := by
  have := nodup_sub_len A.tops_nodup (m := b.map blen) fun t ht => by
    obtain ⟨x, hx, rfl⟩ := List.mem_map.mp ht
    obtain ⟨r, hr, e⟩ := B.top_mem (h x hx) (A.nz x hx)
    exact List.mem_map.mpr ⟨r, hr, e⟩
  simpa using this
/-- the rank -/
def rk (ws : List Nat) : Nat := (spn ws).length
theorem rk_le {a b : List Nat} (h : ∀ x ∈ a, Spn b x) : rk a ≤ rk b := by
  refine (spn_rws a).le (spn_rws b) fun x hx => ?_
  rw [spn_span]
  exact ((spn_span a x).mp (.of hx)).mono h
theorem rk_eq {a b : List Nat} (h : ∀ x, Spn a x ↔ Spn b x) : rk a = rk b :=
  Nat.le_antisymm (rk_le fun x hx => (h x).mp (.of hx)) (rk_le fun x hx => (h x).mpr (.of hx))
theorem rk_spn (a : List Nat) : rk (spn a) = rk a := rk_eq fun x => spn_span a x
theorem rk_snoc (a : List Nat) (w : Nat) : rk (a ++ [w]) = if clr (spn a) w = 0 then rk a else rk a + 1 := by
  unfold rk
  rw [spn_append]
  exact grw_length w
theorem clr_spn_zero {a : List Nat} {w : Nat} : clr (spn a) w = 0 ↔ Spn a w := by rw [← (spn_rws a).span, spn_span]
theorem rk_snoc_in {a : List Nat} {w : Nat} (h : Spn a w) : rk (a ++ [w]) = rk a := by rw [rk_snoc, if_pos (clr_spn_zero.mpr h)]
theorem rk_snoc_out {a : List Nat} {w : Nat} (h : ¬ Spn a w) : rk (a ++ [w]) = rk a + 1 := by rw [rk_snoc, if_neg (fun z => h (clr_spn_zero.mp z))]
/-- words, none of which is a sum of those ahead -/
inductive Ind : List Nat → Prop where
  | nil : Ind []
  | snoc {a : List Nat} {w : Nat} : Ind a → ¬ Spn a w → Ind (a ++ [w])
theorem Ind.rk {a : List Nat} (h : Ind a) : rk a = a.length := by
  induction h with
  | nil => rfl
  | snoc _ hw ih => rw [rk_snoc_out hw, ih]; simp
theorem rk_len (a : List Nat) : rk a ≤ a.length := spn_len a
theorem spn_id {rows : List Nat} (R : Rws rows) : rk rows = rows.length := by
  have h1 := (spn_rws rows).le R (fun x hx => (spn_span rows x).mp (.of hx))
  have h2 := R.le (spn_rws rows) (fun x hx => (spn_span rows x).mpr (.of hx))
  exact Nat.le_antisymm h1 h2
end LaneX
namespace LaneX
/-! ### pairs, kernels, meets: what the program makes -/
def prs (cols : List Nat) : List Nat := (List.range cols.length).map fun i => (cols.getD i 0 <<< cols.length) + (1 <<< i)
def prd (cols : List Nat) : List Nat := spn (prs cols)
def ker (cols : List Nat) : List Nat := (prd cols).filter fun r => decide (blen r ≤ cols.length)
def mts (bits : Nat) (rows others : List Nat) : List Nat := (rows.map fun r => (r <<< bits) + r) ++ others.map fun r => r <<< bits
def mtd (bits : Nat) (rows others : List Nat) : List Nat := (spn (mts bits rows others)).filter fun r => decide (blen r ≤ bits)
end LaneX
namespace LaneX
theorem Rws.len_le {rows : List Nat} (R : Rws rows) {b : Nat} (h : ∀ r ∈ rows, blen r ≤ b) : rows.length ≤ b := by
  have := nodup_sub_len R.tops_nodup (m := List.range' 1 b) fun t ht => by
    obtain ⟨x, hx, rfl⟩ := List.mem_map.mp ht
    have h1 := blen_pos (R.nz x hx)
    have h2 := h x hx
    rw [List.mem_range']
    exact ⟨blen x - 1, by omega, by omega⟩
  simpa using this
theorem spn_lt {ws : List Nat} {k : Nat} (h : ∀ w ∈ ws, w < 2 ^ k) : ∀ r ∈ spn ws, r < 2 ^ k := fun r hr => ((spn_span ws r).mp (.of hr)).lt h
theorem spn_blen {ws : List Nat} {k : Nat} (h : ∀ w ∈ ws, blen w ≤ k) : ∀ r ∈ spn ws, blen r ≤ k := fun r hr => blen_le.mpr (spn_lt (fun w hw => blen_le.mp (h w hw)) r hr)
theorem clr_blen {rows : List Nat} {k w : Nat} (h : ∀ r ∈ rows, blen r ≤ k) (hw : blen w ≤ k) : blen (clr rows w) ≤ k := blen_le.mpr (clr_lt (fun r hr => blen_le.mp (h r hr)) (blen_le.mp hw))
theorem ker_blen (cols : List Nat) : ∀ r ∈ ker cols, blen r ≤ cols.length := fun r hr => by
  have := (List.mem_filter.mp hr).2
  simpa using this
theorem ker_rws (cols : List Nat) : Rws (ker cols) := by
  have R := spn_rws (prs cols)
  exact ⟨fun r hr => R.nz r (List.mem_filter.mp hr).1, R.red.sublist List.filter_sublist⟩
theorem ker_len (cols : List Nat) : (ker cols).length ≤ cols.length := (ker_rws cols).len_le (ker_blen cols)
theorem mtd_blen (b : Nat) (rs os : List Nat) : ∀ r ∈ mtd b rs os, blen r ≤ b := fun r hr => by
  have := (List.mem_filter.mp hr).2
  simpa using this
theorem mtd_rws (b : Nat) (rs os : List Nat) : Rws (mtd b rs os) := by
  have R := spn_rws (mts b rs os)
  exact ⟨fun r hr => R.nz r (List.mem_filter.mp hr).1, R.red.sublist List.filter_sublist⟩
/-- the rows of others that complete -/
def cms (rows others : List Nat) : List Nat × List Nat := others.foldl (fun st r => if clr st.1 r = 0 then st else (grw st.1 r, st.2 ++ [r])) (rows, [])
def cmpl (rows others : List Nat) : List Nat := (cms rows others).2
theorem cms_snoc (rows a : List Nat) (r : Nat) : cms rows (a ++ [r]) = if clr (cms rows a).1 r = 0 then cms rows a else (grw (cms rows a).1 r, (cms rows a).2 ++ [r]) := by
  unfold cms
  rw [List.foldl_append]
  rfl
/-- lists are told by their last item -/
theorem snoc_rec {p : List Nat → Prop} (h0 : p []) (hs : ∀ a x, p a → p (a ++ [x])) : ∀ l, p l := fun l => by
  have : ∀ n (l : List Nat), l.length = n → p l := by
    intro n
    induction n with
    | zero => intro l hl; rw [List.length_eq_zero_iff.mp hl]; exact h0
    | succ n ih =>
      intro l hl
      have hne : l ≠ [] := fun e => by rw [e] at hl; cases hl
      rw [← List.dropLast_concat_getLast hne]
      exact hs _ _ (ih _ (by rw [List.length_dropLast, hl]; rfl))
  exact this _ l rfl
theorem cms_rws {rows : List Nat} (R : Rws rows) (others : List Nat) : Rws (cms rows others).1 := by
  refine snoc_rec (p := fun l => Rws (cms rows l).1) R (fun a x ih => ?_) others
  rw [cms_snoc]
  split
  · exact ih
  · exact grw_rws ih x
theorem cms_len (rows others : List Nat) : (cms rows others).1.length ≤ rows.length + others.length ∧ (cms rows others).2.length ≤ others.length := by
  refine snoc_rec (p := fun l => (cms rows l).1.length ≤ rows.length + l.length ∧ (cms rows l).2.length ≤ l.length) ⟨by simp [cms], by simp [cms]⟩ (fun a x ih => ?_) others
  rw [cms_snoc]
  split
  · simp only [List.length_append, List.length_cons, List.length_nil]; omega
  · have := grw_len (cms rows a).1 x
    simp only [List.length_append, List.length_cons, List.length_nil]
    omega
/-- the twins, the partners of a spread -/
def twn (ss ls : List Nat) : List Nat := spn (ker (ls.map (clr (spn ss))))
def prw (ss ls rows : List Nat) : List Nat := ker (ls.map (clr (spn (ss ++ rows))))
def prt (ss ls rows : List Nat) : List Nat := spn (prw ss ls rows)
def ldr (ss ls rows : List Nat) : List Nat := cmpl (twn ss ls) (prt ss ls rows)
def kpt (b : Nat) (ss rows : List Nat) : Int := ((spn ss).length : Int) - ((spn (mtd b (spn ss) rows)).length : Int)
def rdf (bits apart : Nat) : Nat := if apart ≤ bits then 1 <<< bits - 1 <<< (bits - apart) else 1 <<< bits - 1 + apart - bits
def smr (b : Nat) (ss ls rows : List Nat) : Nat := rdf (kpt b ss rows - (twn ss ls).length).toNat (ldr ss ls rows).length
/-- a spread's words, a space's rows are as they must -/
structure WfR (b : Nat) (ss ls : List Nat) : Prop where
  bb : b ≤ 400000
  s : ∀ x ∈ ss, blen x ≤ b
  l : ∀ x ∈ ls, blen x ≤ b
  sl : ss.length ≤ 400000
  ll : ls.length ≤ 400000
structure WfS (b : Nat) (rows : List Nat) : Prop where
  bb : b ≤ 400000
  r : Rws rows
  b : ∀ x ∈ rows, blen x ≤ b
theorem WfS.len {b : Nat} {rows : List Nat} (h : WfS b rows) : rows.length ≤ 400000 := Nat.le_trans (h.r.len_le h.b) h.bb
theorem WfS.of {b : Nat} {ws : List Nat} (h : b ≤ 400000) (hw : ∀ x ∈ ws, blen x ≤ b) : WfS b (spn ws) := ⟨h, spn_rws ws, spn_blen hw⟩
theorem twn_wf {b : Nat} {ss ls : List Nat} (h : WfR b ss ls) : WfS ls.length (twn ss ls) := WfS.of h.ll fun x hx => by have := ker_blen _ x hx; simpa using this
theorem prt_wf {b : Nat} {ss ls : List Nat} (h : WfR b ss ls) (rows : List Nat) : WfS ls.length (prt ss ls rows) := WfS.of h.ll fun x hx => by have := ker_blen _ x hx; simpa using this
end LaneX
set_option linter.all false
namespace LaneX
/-! ### lowest bits; an elimination by them -/
def lwb (n : Nat) : Nat := n - (n &&& (n - 1))
def low (n : Nat) : Nat := if h : n = 0 then 0 else if n % 2 = 1 then 0 else low (n / 2) + 1
termination_by n
decreasing_by omega
theorem and_split (a b : Nat) : a &&& b = 2 * (a / 2 &&& b / 2) + (if a % 2 = 1 ∧ b % 2 = 1 then 1 else 0) := by
  have h1 : (a &&& b) / 2 = a / 2 &&& b / 2 := Nat.and_div_two
  have h2 : (a &&& b) % 2 = if a % 2 = 1 ∧ b % 2 = 1 then 1 else 0 := by
    have : (a &&& b).testBit 0 = (a.testBit 0 && b.testBit 0) := Nat.testBit_and ..
    simp only [Nat.testBit_zero] at this
    split
    · rename_i h
      simp only [h.1, h.2, decide_true, Bool.and_self] at this
      exact of_decide_eq_true this
    · rename_i h
      have h3 : (a &&& b) % 2 ≠ 1 := fun z => by
        rw [z] at this
        simp at this
        exact h this
      omega
  omega
theorem lwb_eq {n : Nat} (h : n ≠ 0) : lwb n = 2 ^ low n := by
  induction n using Nat.strongRecOn with
  | _ n ih =>
    unfold low lwb
    rw [dif_neg h]
    split
    · rename_i ho
      rw [and_split, if_neg (by omega), show (n - 1) / 2 = n / 2 by omega, Nat.and_self]
      simp
      omega
    · rename_i he
      have hm : n / 2 ≠ 0 := by omega
      have q := ih (n / 2) (by omega) hm
      unfold lwb at q
      have le : n / 2 &&& (n / 2 - 1) ≤ n / 2 := Nat.and_le_left
      rw [and_split, if_neg (by omega), show (n - 1) / 2 = n / 2 - 1 by omega, Nat.pow_succ, ← q]
      omega
theorem low_bit {n : Nat} (h : n ≠ 0) : n.testBit (low n) = true := by
  induction n using Nat.strongRecOn with
  | _ n ih =>
    unfold low
    rw [dif_neg h]
    split
    · rename_i ho
      rw [Nat.testBit_zero]
      exact decide_eq_true ho
    · rename_i he
      rw [Nat.testBit_succ]
      exact ih (n / 2) (by omega) (by omega)
theorem and_lwb {w r : Nat} (h : r ≠ 0) : (w &&& lwb r ≠ 0) ↔ w.testBit (low r) = true := by
  rw [lwb_eq h]
  constructor
  · intro hn
    refine Classical.byContradiction fun hb => hn ?_
    apply Nat.eq_of_testBit_eq
    intro i
    rw [Nat.testBit_and, Nat.testBit_two_pow, Nat.zero_testBit]
    by_cases e : low r = i
    · subst e
      cases q : w.testBit (low r)
      · rfl
      · exact absurd q hb
    · simp [e]
  · intro hb hz
    have : (w &&& 2 ^ low r).testBit (low r) = true := by
      rw [Nat.testBit_and, hb, Nat.testBit_two_pow]
      simp
    rw [hz] at this
    simp at this
def lft (rows : List Nat) (w : Nat) : Nat := rows.foldl (fun l r => if l.testBit (low r) = true then l ^^^ r else l) w
theorem lft_cons (r : Nat) (rs : List Nat) (x : Nat) : lft (r :: rs) x = lft rs (x ^^^ bx (x.testBit (low r)) r) := by
  show lft rs _ = _
  dsimp only
  cases x.testBit (low r) <;> simp [bx]
theorem lft_snoc (a : List Nat) (r w : Nat) : lft (a ++ [r]) w = if (lft a w).testBit (low r) = true then lft a w ^^^ r else lft a w := List.foldl_append ..
theorem lft_xor : ∀ (rows : List Nat) (x y : Nat), lft rows (x ^^^ y) = lft rows x ^^^ lft rows y
  | [], _, _ => rfl
  | r :: rs, x, y => by
    rw [lft_cons, lft_cons, lft_cons, Nat.testBit_xor, bx_xor, xor4, lft_xor rs]
theorem lft_zero : ∀ rows : List Nat, lft rows 0 = 0
  | [] => rfl
  | r :: rs => by rw [lft_cons]; simp [bx, lft_zero rs]
theorem spn_lft : ∀ (rows : List Nat) (x : Nat), Spn rows (x ^^^ lft rows x)
  | [], x => by show Spn [] (x ^^^ x); rw [Nat.xor_self]; exact .zero
  | r :: rs, x => by
    rw [lft_cons]
    generalize hb : bx (x.testBit (low r)) r = c
    have ih := (spn_lft rs (x ^^^ c)).sub (vs := r :: rs) fun w hw => .tail _ hw
    have hc : Spn (r :: rs) c := by
      rw [← hb]
      cases x.testBit (low r)
      · exact .zero
      · exact .of (.head _)
    have := ih.xor hc
    have e : x ^^^ c ^^^ lft rs (x ^^^ c) ^^^ c = x ^^^ lft rs (x ^^^ c) := by
      rw [Nat.xor_assoc, Nat.xor_comm (lft rs _) _, ← Nat.xor_assoc, Nat.xor_assoc x, Nat.xor_self, Nat.xor_zero]
    rw [e] at this
    exact this
/-- rows of the law's own: none is 0, later ones are 0 at the lowest bits of earlier ones -/
structure Lws (rows : List Nat) : Prop where
  nz : ∀ r ∈ rows, r ≠ 0
  red : rows.Pairwise fun r s => s.testBit (low r) = false
theorem lft_bit {b : Nat} : ∀ {rows : List Nat} {x : Nat}, (∀ r ∈ rows, r.testBit b = false) → (lft rows x).testBit b = x.testBit b
  | [], x, _ => rfl
  | r :: rs, x, h => by
    rw [lft_cons, lft_bit fun s hs => h s (.tail _ hs), Nat.testBit_xor]
    have := h r (.head _)
    cases x.testBit (low r) <;> simp [bx, this]
theorem lft_lows : ∀ {rows : List Nat} {x : Nat}, Lws rows → ∀ r ∈ rows, (lft rows x).testBit (low r) = false
  | [], x, _, r, h => by cases h
  | s :: rs, x, R, r, h => by
    have hp := List.pairwise_cons.mp R.red
    have R' : Lws rs := ⟨fun t ht => R.nz t (.tail _ ht), hp.2⟩
    rw [lft_cons]
    rcases List.mem_cons.mp h with rfl | h
    · rw [lft_bit fun t ht => hp.1 t ht, Nat.testBit_xor]
      have := low_bit (R.nz r (.head _))
      cases q : x.testBit (low r) <;> simp [bx, this]
    · exact lft_lows R' r h
theorem lft_of_none : ∀ {rows : List Nat} {x : Nat}, (∀ r ∈ rows, x.testBit (low r) = false) → lft rows x = x
  | [], x, _ => rfl
  | r :: rs, x, h => by
    rw [lft_cons, h r (.head _)]
    simp only [bx, Bool.false_eq_true, if_false, Nat.xor_zero]
    exact lft_of_none fun s hs => h s (.tail _ hs)
theorem lft_self : ∀ {rows : List Nat}, Lws rows → ∀ r ∈ rows, lft rows r = 0
  | [], _, r, h => by cases h
  | s :: rs, R, r, h => by
    have hp := List.pairwise_cons.mp R.red
    have R' : Lws rs := ⟨fun t ht => R.nz t (.tail _ ht), hp.2⟩
    rw [lft_cons]
    rcases List.mem_cons.mp h with rfl | h
    · rw [low_bit (R.nz r (.head _))]
      simp only [bx, if_true, Nat.xor_self]
      exact lft_zero rs
    · rw [hp.1 r h]
      simp only [bx, Bool.false_eq_true, if_false, Nat.xor_zero]
      exact lft_self R' r h
theorem Lws.span {rows : List Nat} (R : Lws rows) {x : Nat} : Spn rows x ↔ lft rows x = 0 := by
  constructor
  · intro h
    induction h with
    | zero => exact lft_zero rows
    | add hw _ ih => rw [lft_xor, ih, lft_self R _ hw]; rfl
  · intro h
    have := spn_lft rows x
    rwa [h, Nat.xor_zero] at this
def bstep (rows : List Nat) (w : Nat) : List Nat := if lft rows w = 0 then rows else rows ++ [lft rows w]
def bas (ws : List Nat) : List Nat := ws.foldl bstep []
theorem bas_snoc (a : List Nat) (w : Nat) : bas (a ++ [w]) = bstep (bas a) w := List.foldl_append ..
theorem Lws.nil : Lws [] := ⟨fun _ h => (by cases h), .nil⟩
theorem Lws.step {rows : List Nat} (R : Lws rows) (w : Nat) : Lws (bstep rows w) := by
  unfold bstep
  split
  · exact R
  · rename_i h
    refine ⟨fun r hr => ?_, List.pairwise_append.mpr ⟨R.red, by simp, fun r hr s hs => ?_⟩⟩
    · rcases List.mem_append.mp hr with hr | hr
      · exact R.nz r hr
      · rcases List.mem_singleton.mp hr with rfl; exact h
    · rcases List.mem_singleton.mp hs with rfl
      exact lft_lows R r hr
theorem Lws.ind {rows : List Nat} (R : Lws rows) : Ind rows := by
  have : ∀ n (l : List Nat), l.length = n → Lws l → Ind l := by
    intro n
    induction n with
    | zero => intro l hl _; rw [List.length_eq_zero_iff.mp hl]; exact .nil
    | succ n ih =>
      intro l hl L
      have hne : l ≠ [] := fun e => by rw [e] at hl; cases hl
      have e := List.dropLast_concat_getLast hne
      rw [← e] at L ⊢
      have hp := List.pairwise_append.mp L.red
      have L' : Lws l.dropLast := ⟨fun r hr => L.nz r (List.mem_append_left _ hr), hp.1⟩
      refine .snoc (ih _ (by rw [List.length_dropLast, hl]; rfl) L') fun hs => ?_
      have z := L'.span.mp hs
      rw [lft_of_none fun r hr => hp.2.2 r hr _ (List.mem_singleton_self _)] at z
      exact L.nz _ (List.mem_append_right _ (List.mem_singleton_self _)) z
  exact this _ rows rfl R
theorem Lws.rk {rows : List Nat} (R : Lws rows) : rk rows = rows.length := R.ind.rk
theorem bas_lws (ws : List Nat) : Lws (bas ws) := snoc_rec (p := fun l => Lws (bas l)) Lws.nil (fun a x ih => by rw [bas_snoc]; exact ih.step x) ws
theorem span_app {a b c : List Nat} {x : Nat} (h : ∀ z, Spn a z ↔ Spn b z) : Spn (a ++ c) x ↔ Spn (b ++ c) x := by
  constructor
  · refine fun hx => hx.mono fun z hz => ?_
    rcases List.mem_append.mp hz with hz | hz
    · exact ((h z).mp (.of hz)).sub fun u hu => List.mem_append_left _ hu
    · exact .of (List.mem_append_right _ hz)
  · refine fun hx => hx.mono fun z hz => ?_
    rcases List.mem_append.mp hz with hz | hz
    · exact ((h z).mpr (.of hz)).sub fun u hu => List.mem_append_left _ hu
    · exact .of (List.mem_append_right _ hz)
theorem span_swap (u v : List Nat) (y : Nat) : Spn (u ++ v) y ↔ Spn (v ++ u) y := by
  have key : ∀ u v : List Nat, Spn (u ++ v) y → Spn (v ++ u) y := fun u v h => h.sub fun w hw => by
    rcases List.mem_append.mp hw with h | h
    · exact List.mem_append_right _ h
    · exact List.mem_append_left _ h
  exact ⟨key u v, key v u⟩
theorem span_app2 {a b c d : List Nat} {x : Nat} (h : ∀ z, Spn a z ↔ Spn b z) (g : ∀ z, Spn c z ↔ Spn d z) : Spn (a ++ c) x ↔ Spn (b ++ d) x := by
  rw [span_app h]
  rw [span_swap, span_app g, span_swap]
theorem bstep_span (rows : List Nat) (w x : Nat) : Spn (bstep rows w) x ↔ Spn (rows ++ [w]) x := by
  have hw := spn_lft rows w
  unfold bstep
  split
  · rename_i h
    rw [h, Nat.xor_zero] at hw
    constructor
    · exact fun hx => hx.sub fun y hy => List.mem_append_left _ hy
    · refine fun hx => hx.mono fun y hy => ?_
      rcases List.mem_append.mp hy with hy | hy
      · exact .of hy
      · rcases List.mem_singleton.mp hy with rfl; exact hw
  · generalize lft rows w = l at *
    have lw : Spn (rows ++ [w]) l := by
      have a := (hw.sub (vs := rows ++ [w]) fun z hz => List.mem_append_left _ hz).xor (Spn.of (List.mem_append_right rows (List.mem_singleton_self w)))
      rwa [Nat.xor_comm w l, Nat.xor_assoc, Nat.xor_self, Nat.xor_zero] at a
    have wl : Spn (rows ++ [l]) w := by
      have a := (hw.sub (vs := rows ++ [l]) fun z hz => List.mem_append_left _ hz).xor (Spn.of (List.mem_append_right rows (List.mem_singleton_self l)))
      rwa [Nat.xor_assoc, Nat.xor_self, Nat.xor_zero] at a
    constructor
    · refine fun hx => hx.mono fun z hz => ?_
      rcases List.mem_append.mp hz with hz | hz
      · exact .of (List.mem_append_left _ hz)
      · rcases List.mem_singleton.mp hz with rfl; exact lw
    · refine fun hx => hx.mono fun z hz => ?_
      rcases List.mem_append.mp hz with hz | hz
      · exact .of (List.mem_append_left _ hz)
      · rcases List.mem_singleton.mp hz with rfl; exact wl
theorem bas_span (ws : List Nat) : ∀ x, Spn (bas ws) x ↔ Spn ws x := snoc_rec (p := fun l => ∀ x, Spn (bas l) x ↔ Spn l x) (fun x => Iff.rfl) (fun a w ih x => by rw [bas_snoc, bstep_span, span_app ih]) ws
theorem bas_len (ws : List Nat) : (bas ws).length = rk ws := by rw [← (bas_lws ws).rk]; exact rk_eq (bas_span ws)
theorem lft_bas {ws : List Nat} {x : Nat} : lft (bas ws) x = 0 ↔ Spn ws x := by rw [← (bas_lws ws).span, bas_span]
theorem bas_len_le (ws : List Nat) : (bas ws).length ≤ ws.length := by rw [bas_len]; exact rk_len ws
theorem lft_lt {k : Nat} {rows : List Nat} {w : Nat} (hr : ∀ r ∈ rows, r < 2 ^ k) (h : w < 2 ^ k) : lft rows w < 2 ^ k := by
  have := (spn_lft rows w).lt hr
  have e : lft rows w = w ^^^ (w ^^^ lft rows w) := by rw [← Nat.xor_assoc, Nat.xor_self, Nat.zero_xor]
  rw [e]
  exact Nat.xor_lt_two_pow h this
theorem bas_lt {k : Nat} {ws : List Nat} (h : ∀ w ∈ ws, w < 2 ^ k) : ∀ r ∈ bas ws, r < 2 ^ k := fun r hr => ((bas_span ws r).mp (.of hr)).lt h
/-- the sum of the columns of the bits of a word -/
def imf (cols : List Nat) (w : Nat) (n : Nat) : Nat := (List.range n).foldl (fun acc i => if w.testBit i = true then acc ^^^ cols.getD i 0 else acc) 0
def img (cols : List Nat) (w : Nat) : Nat := imf cols w cols.length
theorem imf_succ (cols : List Nat) (w n : Nat) : imf cols w (n + 1) = if w.testBit n = true then imf cols w n ^^^ cols.getD n 0 else imf cols w n := by
  unfold imf
  rw [List.range_succ, List.foldl_append]
  rfl
/-- rows with tags, and the tags of words that come to 0 -/
def tgl (rows : List (Nat × Nat)) (st : Nat × Nat) : Nat × Nat := rows.foldl (fun st r => if st.1.testBit (low r.1) = true then (st.1 ^^^ r.1, st.2 ^^^ r.2) else st) st
def tgs (cols : List Nat) (n : Nat) : List (Nat × Nat) × List Nat := (List.range n).foldl (fun st i =>
  if (tgl st.1 (cols.getD i 0, 1 <<< i)).1 = 0 then (st.1, st.2 ++ [(tgl st.1 (cols.getD i 0, 1 <<< i)).2]) else (st.1 ++ [tgl st.1 (cols.getD i 0, 1 <<< i)], st.2)) ([], [])
def tgd (cols : List Nat) : List (Nat × Nat) × List Nat := tgs cols cols.length
theorem tgs_succ (cols : List Nat) (n : Nat) : tgs cols (n + 1) = if (tgl (tgs cols n).1 (cols.getD n 0, 1 <<< n)).1 = 0 then ((tgs cols n).1, (tgs cols n).2 ++ [(tgl (tgs cols n).1 (cols.getD n 0, 1 <<< n)).2]) else ((tgs cols n).1 ++ [tgl (tgs cols n).1 (cols.getD n 0, 1 <<< n)], (tgs cols n).2) := by
  unfold tgs
  rw [List.range_succ, List.foldl_append]
  rfl
theorem tgs_len (cols : List Nat) : ∀ n, (tgs cols n).1.length + (tgs cols n).2.length = n
  | 0 => rfl
  | n + 1 => by
    have := tgs_len cols n
    rw [tgs_succ]
    split <;> simp <;> omega
theorem rk_app_len (a : List Nat) : ∀ b, rk (a ++ b) ≤ rk a + b.length := snoc_rec (p := fun b => rk (a ++ b) ≤ rk a + b.length) (by simp) (fun b x ih => by
  rw [← List.append_assoc, rk_snoc]
  split <;> simp <;> omega)
theorem rk_app (a b : List Nat) : rk (a ++ b) ≤ rk a + rk b := by
  have e : rk (a ++ b) = rk (a ++ spn b) := rk_eq fun x => (span_app2 (fun _ => Iff.rfl) (fun z => (spn_span b z).symm))
  rw [e]
  exact rk_app_len a (spn b)
theorem rk_left (a b : List Nat) : rk a ≤ rk (a ++ b) := rk_le fun x hx => .of (List.mem_append_left _ hx)
theorem rk_right (a b : List Nat) : rk b ≤ rk (a ++ b) := rk_le fun x hx => .of (List.mem_append_right _ hx)
theorem rk_perm {a b : List Nat} (p : a.Perm b) : rk a = rk b := rk_eq fun x => ⟨fun h => h.sub fun w hw => p.mem_iff.mp hw, fun h => h.sub fun w hw => p.mem_iff.mpr hw⟩
/-- units -/
def units (b : Nat) : List Nat := (List.range b).map fun i => 1 <<< i
theorem blen_unit (i : Nat) : blen (1 <<< i) = i + 1 := by
  have h : 1 <<< i ≠ 0 := by rw [Nat.one_shiftLeft]; exact Nat.ne_of_gt (Nat.two_pow_pos i)
  have h1 : blen (1 <<< i) ≤ i + 1 := by
    rw [blen_le, Nat.one_shiftLeft]
    exact Nat.pow_lt_pow_right (by decide) (Nat.lt_succ_self i)
  have h2 : ¬ blen (1 <<< i) ≤ i := by
    rw [blen_le, Nat.one_shiftLeft]
    exact Nat.lt_irrefl _
  omega
theorem unit_bit (i j : Nat) : (1 <<< i).testBit j = decide (i = j) := by
  rw [Nat.one_shiftLeft, Nat.testBit_two_pow]
theorem units_rws (b : Nat) : Rws (units b) := by
  refine ⟨fun r hr => ?_, ?_⟩
  · obtain ⟨i, _, rfl⟩ := List.mem_map.mp hr
    rw [Nat.one_shiftLeft]
    exact Nat.ne_of_gt (Nat.two_pow_pos i)
  · unfold units
    rw [List.pairwise_map]
    refine List.Pairwise.imp (R := fun a b => a ≠ b) (fun {i j} h => ?_) List.nodup_range
    rw [blen_unit, blen_unit, Nat.add_sub_cancel, Nat.add_sub_cancel, unit_bit, unit_bit]
    exact ⟨decide_eq_false h, decide_eq_false fun z => h z.symm⟩
theorem units_rk (b : Nat) : rk (units b) = b := by
  rw [spn_id (units_rws b)]
  simp [units]
theorem units_span {b x : Nat} (h : x < 2 ^ b) : Spn (units b) x := by
  have R := units_rws b
  rw [R.span]
  refine Classical.byContradiction fun hn => ?_
  have h1 : clr (units b) x < 2 ^ b := clr_lt (fun r hr => by
    obtain ⟨i, hi, rfl⟩ := List.mem_map.mp hr
    rw [Nat.one_shiftLeft]
    exact Nat.pow_lt_pow_right (by decide) (List.mem_range.mp hi)) h
  have h2 := testBit_top hn
  have h3 : blen (clr (units b) x) ≤ b := blen_le.mpr h1
  have h4 := blen_pos hn
  have h5 := clr_tops (x := x) R (1 <<< (blen (clr (units b) x) - 1)) (List.mem_map.mpr ⟨_, List.mem_range.mpr (by omega), rfl⟩)
  rw [blen_unit, Nat.add_sub_cancel] at h5
  rw [h5] at h2
  cases h2
/-- what is spanned by n bits has at most n dimensions; all of it has n -/
theorem rk_le_bits {ws : List Nat} {b : Nat} (h : ∀ w ∈ ws, w < 2 ^ b) : rk ws ≤ b := by
  rw [← units_rk b]
  exact rk_le fun x hx => units_span (h x hx)
theorem rk_full {ws : List Nat} {b : Nat} (h : ∀ u ∈ units b, Spn ws u) : b ≤ rk ws := by
  rw [← units_rk b]
  exact rk_le h
end LaneX
set_option Elab.async false
set_option linter.all false
set_option maxRecDepth 100000
set_option maxHeartbeats 4000000
namespace LaneX
open PySem PySem.Spec PyProof.Rows L2

/-! ### natural numbers as values -/
abbrev vN (n : Nat) : V := .int (n : Int)
theorem nnAnd (n m : Nat) : Builtin.bitAnd (n : Int) (m : Int) = ((n &&& m : Nat) : Int) := by
  unfold Builtin.bitAnd
  have h1 : decide (0 ≤ (n : Int)) = true := decide_eq_true (Int.natCast_nonneg _)
  have h2 : decide (0 ≤ (m : Int)) = true := decide_eq_true (Int.natCast_nonneg _)
  simp
theorem nnOr (n m : Nat) : Builtin.bitOr (n : Int) (m : Int) = ((n ||| m : Nat) : Int) := by
  rw [bitOr_nn (Int.natCast_nonneg _) (Int.natCast_nonneg _)]
  simp
theorem and_or_xor (n m : Nat) : (n ||| m) = (n ^^^ m) + (n &&& m) := by
  have h : (n ^^^ m) &&& (n &&& m) = 0 := by
    apply Nat.eq_of_testBit_eq
    intro i
    simp only [Nat.testBit_and, Nat.testBit_xor, Nat.zero_testBit]
    cases n.testBit i <;> cases m.testBit i <;> rfl
  have h2 : (n ^^^ m) ||| (n &&& m) = n ||| m := by
    apply Nat.eq_of_testBit_eq
    intro i
    simp only [Nat.testBit_and, Nat.testBit_xor, Nat.testBit_or]
    cases n.testBit i <;> cases m.testBit i <;> rfl
  have add : ∀ (k a b : Nat), a < 2 ^ k → a &&& b = 0 → a + b = a ||| b := by
    intro k
    induction k with
    | zero =>
      intro a b ha _
      have : a = 0 := by simpa using ha
      subst this
      simp
    | succ k ih =>
      intro a b ha hab
      have e1 : a / 2 &&& b / 2 = 0 := by
        rw [← Nat.and_div_two, hab]
      have e2 := ih (a / 2) (b / 2) (by rw [Nat.pow_succ] at ha; omega) e1
      have e3 : (a ||| b) / 2 = a / 2 ||| b / 2 := Nat.or_div_two
      have e8 : a / 2 + b / 2 = (a ||| b) / 2 := by rw [e3]; exact e2
      clear e1 e2 e3 ih
      have e5 : (a &&& b).testBit 0 = false := by rw [hab]; simp
      have e6 : (a ||| b).testBit 0 = (a.testBit 0 || b.testBit 0) := Nat.testBit_or ..
      have e7 : (a.testBit 0 && b.testBit 0) = false := by rw [← Nat.testBit_and]; exact e5
      have t : ∀ x : Nat, x % 2 = if x.testBit 0 = true then 1 else 0 := by
        intro x
        rw [Nat.testBit_zero]
        split <;> simp_all
      have ta := t a
      have tb := t b
      have to := t (a ||| b)
      rw [e6] at to
      cases h1 : a.testBit 0 <;> cases h2 : b.testBit 0 <;> rw [h1] at ta to e7 <;> rw [h2] at tb to e7
      · simp only [Bool.or_false, Bool.false_eq_true, if_false] at ta tb to; omega
      · simp only [Bool.or_true, Bool.false_eq_true, if_false, if_true] at ta tb to; omega
      · simp only [Bool.or_false, Bool.false_eq_true, if_false, if_true] at ta tb to; omega
      · cases e7
  have := add ((n ^^^ m) + 1) (n ^^^ m) (n &&& m) (Nat.lt_of_lt_of_le Nat.lt_two_pow_self (Nat.pow_le_pow_right (by decide) (Nat.le_succ _))) h
  rw [h2] at this
  exact this.symm
theorem nnXor (n m : Nat) : Builtin.bitXor (n : Int) (m : Int) = ((n ^^^ m : Nat) : Int) := by
  unfold Builtin.bitXor
  rw [nnOr, nnAnd, and_or_xor]
  omega
theorem blen_bits (n : Nat) : Builtin.Int.intBits (n : Int) = blen n := by
  unfold Builtin.Int.intBits blen
  by_cases h : n = 0
  · subst h; rfl
  · have : ((n : Int) == 0) = false := by simp [h]
    rw [this]
    simp [h]

section
variable {X : Cx}
/-- two naturals, a condition, a natural -/
def rN (C : Nat → Nat → Prop) (g : Nat → Nat → Nat) : R2 := fun x y H Q => ∃ n m : Nat, x = .int (n : Int) ∧ y = .int (m : Int) ∧ C n m ∧ Q (.int (g n m : Nat)) H
def rN0 (g : Nat → Nat → Nat) : R2 := fun x y H Q => ∃ n m : Nat, x = .int (n : Int) ∧ y = .int (m : Int) ∧ Q (.int (g n m : Nat)) H
theorem on_xor : OpR X (binaryOp .BitXor) (fun x y H Q => ∃ n m : Nat, x = .int (n : Int) ∧ y = .int (m : Int) ∧ Q (.int ((n ^^^ m : Nat) : Int)) H) := by
  intro pins s σ H x y v u Q I rx ry h
  obtain ⟨n, m, rfl, rfl, q⟩ := h
  rw [← nnXor] at q
  exact op_xor pins s σ H _ _ v u Q I rx ry ⟨_, _, rfl, rfl, q⟩
theorem on_and : OpR X (binaryOp .BitAnd) (fun x y H Q => ∃ n m : Nat, x = .int (n : Int) ∧ y = .int (m : Int) ∧ Q (.int ((n &&& m : Nat) : Int)) H) := by
  intro pins s σ H x y v u Q I rx ry h
  obtain ⟨n, m, rfl, rfl, q⟩ := h
  rw [← nnAnd] at q
  exact op_and pins s σ H _ _ v u Q I rx ry ⟨_, _, rfl, rfl, q⟩
theorem on_or : OpR X (binaryOp .BitOr) (fun x y H Q => ∃ n m : Nat, x = .int (n : Int) ∧ y = .int (m : Int) ∧ Q (.int ((n ||| m : Nat) : Int)) H) := by
  intro pins s σ H x y v u Q I rx ry h
  obtain ⟨n, m, rfl, rfl, q⟩ := h
  rw [← nnOr] at q
  exact op_or pins s σ H _ _ v u Q I rx ry ⟨_, _, rfl, rfl, q⟩
theorem on_add : OpR X (binaryOp .Add) (fun x y H Q => ∃ n m : Nat, x = .int (n : Int) ∧ y = .int (m : Int) ∧ Q (.int ((n + m : Nat) : Int)) H) := op_addN
theorem on_sub : OpR X (binaryOp .Sub) (fun x y H Q => ∃ n m : Nat, x = .int (n : Int) ∧ y = .int (m : Int) ∧ (m ≤ n) ∧ Q (.int ((n - m : Nat) : Int)) H) := op_subN
theorem on_shr : OpR X (binaryOp .RShift) (fun x y H Q => ∃ n m : Nat, x = .int (n : Int) ∧ y = .int (m : Int) ∧ Q (.int ((n >>> m : Nat) : Int)) H) := by
  intro pins s σ H x y v u Q I rx ry h
  obtain ⟨n, m, rfl, rfl, q⟩ := h
  refine op_shrN pins s σ H _ _ v u Q I rx ry ⟨_, _, rfl, rfl, ?_⟩
  have e : ((n >>> m : Nat) : Int) = (n : Int) / 2 ^ m := by
    rw [Nat.shiftRight_eq_div_pow, Int.natCast_ediv]
    simp
  rw [← e]
  exact q
/-- a shift to the left: few bits in all -/
def CShN (n m : Nat) : Prop := blen n + m ≤ 100000000
theorem on_shl : OpR X (binaryOp .LShift) (fun x y H Q => ∃ n m : Nat, x = .int (n : Int) ∧ y = .int (m : Int) ∧ CShN n m ∧ Q (.int ((n <<< m : Nat) : Int)) H) := by
  intro pins s σ H x y v u Q I rx ry h
  obtain ⟨n, m, rfl, rfl, hc, q⟩ := h
  refine op_shlN pins s σ H _ _ v u Q I rx ry ⟨_, _, rfl, rfl, ⟨by omega, ?_⟩, ?_⟩
  · rw [blen_bits]
    have : blen n + m ≤ 100000000 := hc
    omega
  · have e : ((n <<< m : Nat) : Int) = (n : Int) * 2 ^ m := by
      rw [Nat.shiftLeft_eq]
      simp
    rw [← e]
    exact q
theorem on_mul : OpR X (binaryOp .Mult) (fun x y H Q => ∃ n m : Nat, x = .int (n : Int) ∧ y = .int (m : Int) ∧ (n < 2 ^ 64) ∧ Q (.int ((n * m : Nat) : Int)) H) := by
  intro pins s σ H x y v u Q I rx ry h
  obtain ⟨n, m, rfl, rfl, c, q⟩ := h
  rw [Int.natCast_mul] at q
  exact op_mul pins s σ H _ _ v u Q I rx ry ⟨_, _, rfl, rfl, show CMul (n : Int) (m : Int) from Or.inl ⟨by omega, by have : n < 18446744073709551616 := c; omega⟩, q⟩
theorem on_fdiv : OpR X (binaryOp .FloorDiv) (fun x y H Q => ∃ n m : Nat, x = .int (n : Int) ∧ y = .int (m : Int) ∧ (0 < m ∧ m < 1073741824) ∧ Q (.int ((n / m : Nat) : Int)) H) := op_fdivNN
/-- the left one any size, the divisor below 2 ^ 9000 -/
theorem on_fdivW : OpR X (binaryOp .FloorDiv) (fun x y H Q => ∃ n m : Nat, x = .int (n : Int) ∧ y = .int (m : Int) ∧ (0 < m ∧ m < 2 ^ 8999) ∧ Q (.int ((n / m : Nat) : Int)) H) := by
  intro pins s σ H x y v u Q I rx ry h
  obtain ⟨n, m, rfl, rfl, ⟨c1, c2⟩, q⟩ := h
  rw [Int.natCast_ediv] at q
  refine op_fdivW pins s σ H _ _ v u Q I rx ry ⟨_, _, rfl, rfl, wide_div (b := 8999) (by omega) ?_ (by decide) (by decide), q⟩
  simpa using c2
theorem on_mod : OpR X (binaryOp .Mod) (fun x y H Q => ∃ n m : Nat, x = .int (n : Int) ∧ y = .int (m : Int) ∧ (0 < m) ∧ Q (.int ((n % m : Nat) : Int)) H) := by
  intro pins s σ H x y v u Q I rx ry h
  obtain ⟨n, m, rfl, rfl, c, q⟩ := h
  rw [Int.natCast_emod] at q
  exact op_mod pins s σ H _ _ v u Q I rx ry ⟨_, _, rfl, rfl, show (0 : Int) < (m : Int) by have : 0 < m := c; omega, q⟩
end
end LaneX
set_option Elab.async false
set_option linter.all false
set_option maxRecDepth 100000
set_option maxHeartbeats 4000000
namespace LaneX
open PySem PySem.Spec PyProof.Rows L2

/-! ### defs, methods, classes by their names -/
section
variable (P : Program) (w : World) (K : PySem.W.Frag) (mg : Str → Option Value) (base : Heap)
/-- the def x keeps the promise sp at level k -/
structure Dn (k : Nat) (x : Str) (ps : List Str) (sp : Sp) : Prop where
  ex : ∃ (f : Addr) (fd : FuncData), mg x = some (.ref f) ∧ PySem.W.keepIn K (.ref f) = true ∧ Binds K fd ps [] ∧ FnOk P w K mg base CX0 k f fd ps sp
/-- the method m of the class at C -/
structure Mn (k : Nat) (C : Addr) (m : Str) (ps : List Str) (sp : Sp) : Prop where
  cl : Cls K C
  ex : ∃ (f : Addr) (fd : FuncData), Meth K C m f ∧ Binds K fd ps [] ∧ FnOk P w K mg base CX0 k f fd ps sp
/-- the class x at C, made by its __init__ -/
structure Kn (k : Nat) (C : Addr) (x : Str) (ps : List Str) (sp : Sp) : Prop where
  gl : mg x = some (.ref C)
  ex : ∃ (f : Addr) (fd : FuncData), Mk K C f ∧ Binds K fd ps [] ∧ FnOk P w K mg base CX0 k f fd ps sp
end
section
variable {X : Cx} {k j : Nat} {x m : Str} {ps : List Str} {sp : Sp} {C : Addr} {p pos apos : Pos} {e o : Expr} {es : List Expr} {t : TA} {to : TE}
theorem pe_d (D : Dn X.prog X.w X.K X.mg X.base k x ps sp) (hr : Room j X.A) (ha : PA X (e :: es) t) (hk : k ≤ j := by decide) (hg : Gl X x := by rfl) (hdb : (x == ("__debug__" : Str)) = false := by decide)
    (he : starEach (e :: es) X.env = (false, eval e X.env) :: starEach es X.env := by rfl) (hpl : (backTo pos (starEach es X.env)).any (·.1) = false := by rfl) :
    PE X (.Call (.Name x p) (e :: es) [] pos) (tCall sp [] E0 t) := by
  obtain ⟨f, fd, h1, h2, h3, h4⟩ := D.ex
  exact pe_call h4 (hr.mono hk) hg h1 h2 h3 .nil pass0 ha hdb he hpl
theorem pe_k (D : Kn X.prog X.w X.K X.mg X.base k C x ps sp) (hr : Room j X.A) (ha : PA X (e :: es) t) (hk : k + 1 ≤ j := by decide) (hg : Gl X x := by rfl) (hdb : (x == ("__debug__" : Str)) = false := by decide)
    (he : starEach (e :: es) X.env = (false, eval e X.env) :: starEach es X.env := by rfl) (hpl : (backTo pos (starEach es X.env)).any (·.1) = false := by rfl) :
    PE X (.Call (.Name x p) (e :: es) [] pos) (tMake C sp [] E0 t) := by
  obtain ⟨f, fd, h1, h3, h4⟩ := D.ex
  exact pe_make h1 h4 (hr.mono hk) hg D.gl h3 .nil pass0 ha hdb he hpl
theorem pe_m {pl : Sem Bool} (ho : PE X o to) (D : Mn X.prog X.w X.K X.mg X.base k C m ps sp) (hr : Room j X.A) (ha : PA X (e :: es) t) (hk : k ≤ j := by decide)
    (hst : starEach (e :: es) X.env = (false, eval e X.env) :: starEach es X.env := by rfl) (hpl : (backTo pos (starEach es X.env)).any (·.1) = false := by rfl)
    (ht : eval (.Call (.Attribute o m apos) (e :: es) [] pos) X.env = (do
      let ov ← eval o X.env
      standAt apos.atName
      let (f, first) ← holding [ov] (getMethod ov m pl)
      callWith pos f first (backTo pos (starEach (e :: es) X.env)) (backToKw pos (keywordEach [] X.env))) := by rfl) :
    PE X (.Call (.Attribute o m apos) (e :: es) [] pos) (tMeth C m sp [] E0 to t) := by
  obtain ⟨f, fd, h1, h3, h4⟩ := D.ex
  exact pe_meth ho D.cl h1 h4 (hr.mono hk) h3 .nil pass0 ha hst hpl ht
theorem pe_m0 {pl : Sem Bool} (ho : PE X o to) (D : Mn X.prog X.w X.K X.mg X.base k C m ps sp) (hr : Room j X.A) (hk : k ≤ j := by decide)
    (ht : eval (.Call (.Attribute o m apos) [] [] pos) X.env = (do
      let ov ← eval o X.env
      standAt apos.atName
      let (f, first) ← holding [ov] (getMethod ov m pl)
      callWith pos f first (backTo pos (starEach [] X.env)) (backToKw pos (keywordEach [] X.env))) := by rfl) :
    PE X (.Call (.Attribute o m apos) [] [] pos) (tMeth C m sp [] E0 to tNil) := by
  obtain ⟨f, fd, h1, h3, h4⟩ := D.ex
  exact pe_meth0 ho D.cl h1 h4 (hr.mono hk) h3 .nil pass0 ht
end
/-- a def of the text (no defaults) -/
abbrev FnP (K : PySem.W.Frag) (x qual : Str) (st : Stmt) (f : Addr) (fd : FuncData) : Prop := FunD K x qual (defArgs st) (defBody st) (defScope st) [] [] f fd
section
variable {P : Program} {w : World} {K : PySem.W.Frag} {mg : Str → Option Value} {base : Heap}
theorem fnok {x qual : Str} {st : Stmt} {f : Addr} {fd : FuncData} {N ps : List Str} {k : Nat} {sp : Sp} (F : FnP K x qual st f fd) (S : FnScope N ps (defScope st)) (len : ∀ vs H Q E, sp vs H Q E → vs.length = ps.length)
    (hbody : ∀ (cdv : Value) (A : Around) (outer : List Env) (s : Shared) (H : Hp) (vs : List V) (Q : VK) (E : XK), Room k (A.deeper (envOfC qual (defScope st) s.heap.objs.size f cdv)) → sp vs H Q E →
      ∃ t, PSs (cxOf CX0 P w K mg base N qual (defScope st) f cdv A outer s H E).nox (defBody st) t ∧ t { nx := fun _ H' => Q .non H', rt := Q } (start N vs) H) : FnOk P w K mg base CX0 (k + 1) f fd ps sp := by
  refine F.ok S len (fun cdv A outer s H vs Q E hr h => ?_)
  obtain ⟨t, h1, h2⟩ := hbody cdv A outer s H vs Q E hr h
  exact ⟨t, PSs.nox h1, h2⟩
end

/-! ### lists and tuples alike -/
def Sq (K : PySem.W.Frag) (H : Hp) (a : Addr) (xs : List V) : Prop := SqL K H a xs ∨ SqT K H a xs
def iSeq (K : PySem.W.Frag) (tl : TE) : TI := fun σ H R => tl σ H fun x H1 => ∃ (a : Addr) (xs : List V), x = .ref a ∧ ((SqL K H1 a xs ∧ R (Itl K a) H1) ∨ (SqT K H1 a xs ∧ R (Itt K a) H1))
theorem pi_seq {X : Cx} {tg : Expr} {l : Expr} {tl : TE} (hl : PE X l tl) : PI X tg l (iSeq X.K tl) := by
  refine ⟨fun pins s σ H R I h => ?_⟩
  refine thn (hl.run pins s σ H _ I h) fun v s1 hh => ?_
  obtain ⟨x, H1, I1, r1, a, xs, e, q⟩ := hh
  subst e
  cases r1
  have fp : ∀ b ∈ [s1.heap.objs.size], FpOk X pins H1 b := fun b hb => by
    have e : b = s1.heap.objs.size := by simpa using hb
    subst e
    exact I1.fpOk (Nat.le_refl _) (I1.hok.fresh (Nat.le_refl _))
  rcases q with ⟨hq, q⟩ | ⟨hq, q⟩
  · obtain ⟨its, rv, p, hz⟩ := I1.list hq
    exact wpAny_pyIter_list p.isList ⟨_, _, _, _, H1, rfl, I1.kept (t' := s1.toks) fun b o e => Heap.get?_push_of_some _ e, turn_list a _, ⟨_, Heap.get?_push_size _ rfl, rfl, rfl⟩, fp, q⟩
  · obtain ⟨its, rv, p, hz⟩ := I1.tuple hq
    exact wpAny_pyIter_tuple (show s1.heap.IsTuple a its.toArray from p) ⟨_, _, _, _, H1, rfl, I1.kept (t' := s1.toks) fun b o e => Heap.get?_push_of_some _ e, turn_tuple a _, ⟨_, Heap.get?_push_size _ rfl, rfl, rfl⟩, fp, q⟩

/-! ### heaps: all is kept; all but dicts is kept -/
/-- all but a dict whose first key is a text (the pen) -/
def notD : HO → Bool
  | .dK ((.inr _, _) :: _) => false
  | _ => true
structure Kp (H H' : Hp) : Prop where
  keep : ∀ b o, H b = some o → notD o = true → H' b = some o
  free : ∀ b, H' b = none → H b = none
instance {H H' : Hp} : CoeFun (Kp H H') (fun _ => ∀ b o, H b = some o → notD o = true → H' b = some o) := ⟨Kp.keep⟩
theorem Kp.refl (H : Hp) : Kp H H := ⟨fun _ _ h _ => h, fun _ h => h⟩
theorem Kp.of {H H' : Hp} (s : Same H H') : Kp H H' := ⟨fun b o h _ => s b o h, fun b h => s.free h⟩
theorem Kp.trans {H H1 H2 : Hp} (a : Kp H H1) (b : Kp H1 H2) : Kp H H2 := ⟨fun c o h n => b.keep c o (a.keep c o h n) n, fun c h => a.free c (b.free c h)⟩
theorem upd_new {H : Hp} {p a : Addr} {o u : HO} (n : H p = none) (h : H a = some u) : upd H p o a = some u := (upd_ne (ne_of_none h n)).trans h
theorem same_new {H H' : Hp} {p : Addr} {o : HO} (s : Same H H') (n : H' p = none) : Same H (upd H' p o) := fun b u e => upd_new n (s b u e)
theorem same_new0 {H : Hp} {p : Addr} {o : HO} (n : H p = none) : Same H (upd H p o) := fun b u e => upd_new n e
/-- a list of one's own is written -/
theorem same_put {H H' : Hp} {p : Addr} {o : HO} (s : Same H H') (n : H p = none) : Same H (upd H' p o) := fun b u e => (upd_ne (ne_of_none e n)).trans (s b u e)
theorem upd_free {H : Hp} {p b : Addr} {o : HO} (h : upd H p o b = none) : H b = none := by
  by_cases e : b = p
  · subst e; rw [upd_same] at h; cases h
  · rw [upd_ne e] at h; exact h
theorem kp_new {H H' : Hp} {p : Addr} {o : HO} (s : Kp H H') (n : H' p = none) : Kp H (upd H' p o) := ⟨fun b u e q => upd_new n (s.keep b u e q), fun b h => s.free b (upd_free h)⟩
theorem kp_put {H H' : Hp} {p : Addr} {o : HO} (s : Kp H H') (n : H p = none) : Kp H (upd H' p o) := ⟨fun b u e q => (upd_ne (ne_of_none e n)).trans (s.keep b u e q), fun b h => s.free b (upd_free h)⟩
theorem same_l {H H' : Hp} (s : Same H H') {a : Addr} {xs : List V} (h : H a = some (.lst xs)) : H' a = some (.lst xs) := s _ _ h
theorem same_sq {K : PySem.W.Frag} {H H' : Hp} (s : Same H H') {a : Addr} {xs : List V} (h : Sq K H a xs) : Sq K H' a xs := by
  rcases h with h | h
  · exact .inl (s.seq h)
  · refine .inr ?_
    rcases h with (h | ⟨o, h⟩) | h
    · exact .inl (.inl (s _ _ h))
    · exact .inl (.inr ⟨o, s _ _ h⟩)
    · exact .inr h
theorem kp_sqL {K : PySem.W.Frag} {H H' : Hp} (s : Kp H H') {a : Addr} {xs : List V} (h : SqL K H a xs) : SqL K H' a xs := by
  rcases h with (h | ⟨o, h⟩) | h
  · exact .inl (.inl (s _ _ h rfl))
  · exact .inl (.inr ⟨o, s _ _ h rfl⟩)
  · exact .inr h
theorem kp_sqT {K : PySem.W.Frag} {H H' : Hp} (s : Kp H H') {a : Addr} {xs : List V} (h : SqT K H a xs) : SqT K H' a xs := by
  rcases h with (h | ⟨o, h⟩) | h
  · exact .inl (.inl (s _ _ h rfl))
  · exact .inl (.inr ⟨o, s _ _ h rfl⟩)
  · exact .inr h
theorem kp_sq {K : PySem.W.Frag} {H H' : Hp} (s : Kp H H') {a : Addr} {xs : List V} (h : Sq K H a xs) : Sq K H' a xs := h.elim (fun h => .inl (kp_sqL s h)) fun h => .inr (kp_sqT s h)
theorem Sq.l {K : PySem.W.Frag} {H : Hp} {a : Addr} {xs : List V} (h : H a = some (.lst xs)) : Sq K H a xs := .inl (SqL.of h)
theorem Sq.t {K : PySem.W.Frag} {H : Hp} {a : Addr} {xs : List V} (h : H a = some (.tup xs)) : Sq K H a xs := .inr (SqT.of h)

/-- a tracked list or tuple -/
def Tq (H : Hp) (a : Addr) (xs : List V) : Prop := H a = some (.lst xs) ∨ H a = some (.tup xs)
theorem Tq.sq {K : PySem.W.Frag} {H : Hp} {a : Addr} {xs : List V} (h : Tq H a xs) : Sq K H a xs := h.elim Sq.l Sq.t
theorem Tq.l {H : Hp} {a : Addr} {xs : List V} (h : H a = some (.lst xs)) : Tq H a xs := .inl h
theorem Tq.t {H : Hp} {a : Addr} {xs : List V} (h : H a = some (.tup xs)) : Tq H a xs := .inr h
theorem same_tq {H H' : Hp} (s : Same H H') {a : Addr} {xs : List V} (h : Tq H a xs) : Tq H' a xs := h.elim (fun h => .inl (s _ _ h)) fun h => .inr (s _ _ h)
theorem kp_tq {H H' : Hp} (s : Kp H H') {a : Addr} {xs : List V} (h : Tq H a xs) : Tq H' a xs := h.elim (fun h => .inl (s _ _ h rfl)) fun h => .inr (s _ _ h rfl)
theorem Tq.new {H : Hp} {a p : Addr} {o : HO} {xs : List V} (h : Tq H a xs) (n : H p = none) : Tq (upd H p o) a xs := h.elim (fun h => .inl (upd_new n h)) fun h => .inr (upd_new n h)
theorem Tq.sqlt {K : PySem.W.Frag} {H : Hp} {a : Addr} {xs : List V} (h : Tq H a xs) : SqL K H a xs ∨ SqT K H a xs := h.elim (fun h => .inl (SqL.of h)) fun h => .inr (SqT.of h)
theorem Tq.ty {K : PySem.W.Frag} {H : Hp} {a : Addr} {xs : List V} (h : Tq H a xs) : ∃ t, TyX K H (.ref a) t ∧ PySem.W.kitAny K t [.type "list", .type "tuple"] = some true := by
  rcases h with h | h
  · exact ⟨_, .base (.lst h), kitAny_cons (b := true) (kit_ty (by decide +kernel)) (fun z => by cases z) (fun _ => rfl)⟩
  · exact ⟨_, .base (.tup h), kitAny_cons (b := false) (kit_ty (by decide +kernel)) (fun _ => kitAny_cons (b := true) (kit_ty (by decide +kernel)) (fun z => by cases z) (fun _ => rfl)) (fun z => by cases z)⟩

theorem same_free {H H' : Hp} (e : Same H H') {l : Addr} (h : H' l = none) : H l = none := e.free h
theorem map_get {α : Type} {g : α → V} {l : List α} {i : Nat} {x : V} (h : (l.map g)[i]? = some x) : ∃ n, l[i]? = some n ∧ x = g n := by
  rw [List.getElem?_map] at h
  cases e : l[i]? with
  | none => rw [e] at h; cases h
  | some n => rw [e] at h; exact ⟨n, rfl, (Option.some.inj h).symm⟩
/-! ### a for, a comprehension over a list or tuple, over a range -/
def ForR (g : TG) (tb : TS) (D : Ends) (σ : L2.St) : It → Hp → Prop := fun J H => ∃ W : Nat → Nat → L2.St → Hp → Prop, (∃ m, W 0 m σ H) ∧ ∀ i m σ H, W i m σ H →
  (J.stop i H ∧ D.nx σ H) ∨ (J.go i H ∧ ∃ N : L2.St → Hp → Prop, (∀ σ' H', N σ' H' → ∃ m', m' < m ∧ W (i + 1) m' σ' H') ∧ ∀ x H', J.yld i H x H' → g x σ H' fun σ2 H2 => tb { D with nx := N, ct := N, bk := D.nx } σ2 H2)
def LcR (g : TG) (tt : TT) (te : TE) (vs : List Nat) (σ : L2.St) (Q : Addr → Hp → Prop) : It → Hp → Prop := fun J H1 => ∀ D, H1 D = none → ∃ W : Nat → Nat → Hp → Prop, (∃ m, W 0 m (upd H1 D (.lst []))) ∧ ∀ i m H, W i m H →
  (J.stop i H ∧ Q D H) ∨ (J.go i H ∧ ∃ Nx : Hp → Prop, (∀ H', Nx H' → ∃ m', m' < m ∧ W (i + 1) m' H') ∧ ∀ x H', J.yld i H x H' → g x (wipe σ vs) H' fun σ2 H2 => wipe σ2 vs = wipe σ vs ∧ tt σ2 H2 fun b H3 =>
    if b = true then te σ2 H3 fun y H4 => ∃ acc, H4 D = some (.lst acc) ∧ acc.length < sizeLine ∧ Nx (upd H4 D (.lst (acc ++ [y]))) else Nx H3)
theorem for_seq {K : PySem.W.Frag} {a : Addr} {xs : List V} {g : TG} {tb : TS} {D : Ends} {σ : L2.St} {H : Hp} (hS : Sq K H a xs) (Pv : Nat → L2.St → Hp → Prop) (h0 : Pv 0 σ H) (hk : ∀ i σ' H', Pv i σ' H' → Kp H H')
    (hs : ∀ i x σ H, xs[i]? = some x → Pv i σ H → g x σ H fun σ2 H2 => tb { D with nx := Pv (i + 1), ct := Pv (i + 1), bk := D.nx } σ2 H2) (hd : ∀ σ H, Pv xs.length σ H → D.nx σ H) :
    ∃ (a' : Addr) (xs' : List V), V.ref a = .ref a' ∧ ((SqL K H a' xs' ∧ ForR g tb D σ (Itl K a') H) ∨ (SqT K H a' xs' ∧ ForR g tb D σ (Itt K a') H)) := by
  refine ⟨a, xs, rfl, ?_⟩
  rcases hS with h | h
  · exact .inl ⟨h, for_it walk_list Pv h0 (fun i σ' H' hi p => kp_sqL (hk i σ' H' p) h) (fun i x σ' H' H'' _ p y => by obtain ⟨e, hx⟩ := y; subst e; exact hs i x σ' _ hx p) hd⟩
  · exact .inr ⟨h, for_it walk_tup Pv h0 (fun i σ' H' hi p => kp_sqT (hk i σ' H' p) h) (fun i x σ' H' H'' _ p y => by obtain ⟨e, hx⟩ := y; subst e; exact hs i x σ' _ hx p) hd⟩
/-- .. where what is walked alone must stay -/
theorem for_sq2 {K : PySem.W.Frag} {a : Addr} {xs : List V} {g : TG} {tb : TS} {D : Ends} {σ : L2.St} {H : Hp} (hS : Tq H a xs) (Pv : Nat → L2.St → Hp → Prop) (h0 : Pv 0 σ H) (hk : ∀ i σ' H', Pv i σ' H' → ∀ o, H a = some o → H' a = some o)
    (hs : ∀ i x σ H, xs[i]? = some x → Pv i σ H → g x σ H fun σ2 H2 => tb { D with nx := Pv (i + 1), ct := Pv (i + 1), bk := D.nx } σ2 H2) (hd : ∀ σ H, Pv xs.length σ H → D.nx σ H) :
    ∃ (a' : Addr) (xs' : List V), V.ref a = .ref a' ∧ ((SqL K H a' xs' ∧ ForR g tb D σ (Itl K a') H) ∨ (SqT K H a' xs' ∧ ForR g tb D σ (Itt K a') H)) := by
  refine ⟨a, xs, rfl, ?_⟩
  rcases hS with h | h
  · exact .inl ⟨SqL.of h, for_it walk_list Pv h0 (fun i σ' H' hi p => SqL.of (hk i σ' H' p _ h)) (fun i x σ' H' H'' _ p y => by obtain ⟨e, hx⟩ := y; subst e; exact hs i x σ' _ hx p) hd⟩
  · exact .inr ⟨SqT.of h, for_it walk_tup Pv h0 (fun i σ' H' hi p => SqT.of (hk i σ' H' p _ h)) (fun i x σ' H' H'' _ p y => by obtain ⟨e, hx⟩ := y; subst e; exact hs i x σ' _ hx p) hd⟩
/-- what stood under the loop stands, by what stood ahead -/
theorem stay_of {H HB H2 : Hp} {a : Addr} {u : HO} (h : H a = some u) (s0 : Same H HB) (s2 : ∀ c o, H c = some o → H2 c = some o) : ∀ o, HB a = some o → H2 a = some o := fun o ho => by
  rw [s0 _ _ h] at ho
  cases ho
  exact s2 _ _ h
/-- Pv speaks of the heap and the new list at D -/
theorem lc_seq {K : PySem.W.Frag} {a : Addr} {xs : List V} {g : TG} {tt : TT} {te : TE} {vs : List Nat} {σ : L2.St} {H : Hp} {Q : Addr → Hp → Prop} (hS : Sq K H a xs) (Pv : Addr → Nat → Hp → Prop) (h0 : ∀ D, H D = none → Pv D 0 (upd H D (.lst [])))
    (hk : ∀ D i H', H D = none → Pv D i H' → Kp H H')
    (hs : ∀ D i x H', H D = none → xs[i]? = some x → Pv D i H' → g x (wipe σ vs) H' fun σ2 H2 => wipe σ2 vs = wipe σ vs ∧ tt σ2 H2 fun b H3 =>
      if b = true then te σ2 H3 fun y H4 => ∃ acc, H4 D = some (.lst acc) ∧ acc.length < sizeLine ∧ Pv D (i + 1) (upd H4 D (.lst (acc ++ [y]))) else Pv D (i + 1) H3) (hd : ∀ D H', H D = none → Pv D xs.length H' → Q D H') :
    ∃ (a' : Addr) (xs' : List V), V.ref a = .ref a' ∧ ((SqL K H a' xs' ∧ LcR g tt te vs σ Q (Itl K a') H) ∨ (SqT K H a' xs' ∧ LcR g tt te vs σ Q (Itt K a') H)) := by
  refine ⟨a, xs, rfl, ?_⟩
  rcases hS with h | h
  · exact .inl ⟨h, fun D hD => lc_it walk_list (Pv D) (h0 D hD) (fun i H' _ p => kp_sqL (hk D i H' hD p) h) (fun i x H' H'' _ p y => by obtain ⟨e, hx⟩ := y; subst e; exact hs D i x _ hD hx p) fun H' p => hd D H' hD p⟩
  · exact .inr ⟨h, fun D hD => lc_it walk_tup (Pv D) (h0 D hD) (fun i H' _ p => kp_sqT (hk D i H' hD p) h) (fun i x H' H'' _ p y => by obtain ⟨e, hx⟩ := y; subst e; exact hs D i x _ hD hx p) fun H' p => hd D H' hD p⟩
/-! ### pure comprehensions -/
theorem br {b : Bool} {A B : Prop} (h1 : b = true → A) (h2 : b = false → B) : if b = true then A else B := by
  cases b with
  | true => exact iteT (h1 rfl)
  | false => exact iteF (h2 rfl)
theorem take_succ {α : Type} {l : List α} {i : Nat} {x : α} (h : l[i]? = some x) : l.take (i + 1) = l.take i ++ [x] := by
  rw [List.take_succ, h]
  rfl
theorem size6 {n : Nat} (h : n ≤ 1000000) : n < sizeLine := by rw [sizeLine_eq]; omega
theorem size6' {n : Nat} (h : n ≤ 1000000) : n ≤ sizeLine := Nat.le_of_lt (size6 h)
section
variable {α : Type} {K : PySem.W.Frag} {g : TG} {tt : TT} {te : TE} {vs : List Nat} {σ : L2.St} {H : Hp} {Q : Addr → Hp → Prop}
/-- one turn of a comprehension: all is kept, the item is v n if p n -/
def LcT (g : TG) (tt : TT) (te : TE) (vs : List Nat) (σ : L2.St) (x : V) (H' : Hp) (p : Bool) (v : V) : Prop :=
  ∀ (Z : VK) (Nx : Hp → Prop), (p = true → ∀ H4, Same H' H4 → Z v H4) → (p = false → ∀ H4, Same H' H4 → Nx H4) →
    g x (wipe σ vs) H' fun σ2 H2 => wipe σ2 vs = wipe σ vs ∧ tt σ2 H2 fun b H3 => if b = true then te σ2 H3 Z else Nx H3
theorem lc_turn {l : List α} {ι : α → V} {p : α → Bool} {v : α → V} (hlen : l.length ≤ 1000000) {D : Addr} {i : Nat} {n : α} {H' : Hp} (hD : H D = none) (hn : l[i]? = some n) (s : Same H H') (hH : H' D = some (.lst (((l.take i).filter p).map v)))
    (hs : LcT g tt te vs σ (ι n) H' (p n) (v n)) :
    g (ι n) (wipe σ vs) H' fun σ2 H2 => wipe σ2 vs = wipe σ vs ∧ tt σ2 H2 fun b H3 =>
      if b = true then te σ2 H3 fun y H4 => ∃ acc, H4 D = some (.lst acc) ∧ acc.length < sizeLine ∧ (Same H (upd H4 D (.lst (acc ++ [y]))) ∧ upd H4 D (.lst (acc ++ [y])) D = some (.lst (((l.take (i + 1)).filter p).map v))) else (Same H H3 ∧ H3 D = some (.lst (((l.take (i + 1)).filter p).map v))) := by
  have e1 := take_succ hn
  refine hs _ _ (fun hp H4 s4 => ⟨_, s4 _ _ hH, ?_, same_put (s.trans s4) hD, ?_⟩) (fun hp H4 s4 => ⟨s.trans s4, ?_⟩)
  · refine size6 (Nat.le_trans ?_ hlen)
    rw [List.length_map]
    exact Nat.le_trans (List.length_filter_le _ _) (by rw [List.length_take]; omega)
  · rw [upd_same, e1, List.filter_append, List.map_append]
    simp [hp]
  · rw [s4 _ _ hH, e1, List.filter_append, List.map_append]
    simp [hp]
theorem lc_pure {a : Addr} (l : List α) (ι : α → V) (p : α → Bool) (v : α → V) (hS : Tq H a (l.map ι)) (hlen : l.length ≤ 1000000) (hs : ∀ n H', n ∈ l → Same H H' → LcT g tt te vs σ (ι n) H' (p n) (v n))
    (hd : ∀ D H', H D = none → Same H H' → H' D = some (.lst ((l.filter p).map v)) → Q D H') :
    ∃ (a' : Addr) (xs' : List V), V.ref a = .ref a' ∧ ((SqL K H a' xs' ∧ LcR g tt te vs σ Q (Itl K a') H) ∨ (SqT K H a' xs' ∧ LcR g tt te vs σ Q (Itt K a') H)) := by
  refine lc_seq hS.sq (fun D i H' => Same H H' ∧ H' D = some (.lst (((l.take i).filter p).map v))) (fun D hD => ⟨same_new0 hD, upd_same⟩) (fun D i H' hD hp => Kp.of hp.1) (fun D i x H' hD hx hp => ?_) (fun D H' hD hp => ?_)
  · obtain ⟨n, hn, rfl⟩ := map_get hx
    exact lc_turn hlen hD hn hp.1 hp.2 (hs n H' (List.mem_of_getElem? hn) hp.1)
  · obtain ⟨h1, h2⟩ := hp
    rw [List.length_map, List.take_length] at h2
    exact hd D H' hD h1 h2
theorem range_get {n i : Nat} (h : i < n) : (List.range n)[i]? = some i := by simp [h]
/-- .. over range(n) -/
theorem lc_pureR {n : Nat} (p : Nat → Bool) (v : Nat → V) (hlen : n ≤ 1000000) (hs : ∀ i H', i < n → Same H H' → LcT g tt te vs σ (vN i) H' (p i) (v i))
    (hd : ∀ D H', H D = none → Same H H' → H' D = some (.lst (((List.range n).filter p).map v)) → Q D H') : LcR g tt te vs σ Q (Itr 0 n) H := by
  intro D hD
  refine lc_range (fun i H' => Same H H' ∧ H' D = some (.lst ((((List.range n).take i).filter p).map v))) ⟨same_new0 hD, by simpa using upd_same⟩ (fun i H' hi hp => ?_) (fun H' hp => ?_)
  · have q := lc_turn (ι := vN) (l := List.range n) (by simpa using hlen) hD (range_get hi) hp.1 hp.2 (hs i H' hi hp.1)
    rw [show (0 : Int) + (i : Int) = (i : Int) by omega]
    exact q
  · obtain ⟨h1, h2⟩ := hp
    rw [List.take_of_length_le (by simp)] at h2
    exact hd D H' hD h1 h2
end
section
variable {X : Cx}
/-- sorted(xs), naturals -/
theorem cr_sortedN : CallR X (.builtin "sorted") (fun xs H Q => ∃ (a : Addr) (ns : List Nat), xs = [.ref a] ∧ H a = some (.lst (ns.map vN)) ∧ ∀ p, H p = none → Q (.ref p) (upd H p (.lst ((srt ns).map vN)))) := by
  intro pins s σ H xs us Q I r h
  obtain ⟨a, ns, rfl, hS, h⟩ := h
  have em : ∀ l : List Nat, l.map vN = (l.map Int.ofNat).map V.int := fun l => by rw [List.map_map]; rfl
  refine cr_sortedI pins s σ H _ us Q I r ⟨a, ns.map Int.ofNat, rfl, SqL.of (by rw [← em]; exact hS), fun ns' p hp hs hn => ?_⟩
  have e : ns' = (srt ns).map Int.ofNat := by
    have e1 : ns' = (ns'.map Int.toNat).map Int.ofNat := by
      rw [List.map_map]
      have : ∀ z ∈ ns', (Int.ofNat ∘ Int.toNat) z = z := fun z hz => by
        obtain ⟨k, _, hk⟩ := List.mem_map.mp (hp.mem_iff.mp hz)
        subst hk
        rfl
      rw [List.map_congr_left this, List.map_id']
    have e2 : ns'.map Int.toNat = srt ns := by
      refine srt_of ?_ ?_
      · have := hp.map Int.toNat
        rw [List.map_map] at this
        have e3 : ns.map (Int.toNat ∘ Int.ofNat) = ns := by
          exact (List.map_congr_left (g := id) (fun z _ => rfl)).trans (List.map_id _)
        rw [e3] at this
        exact this
      · rw [List.pairwise_map]
        exact hs.imp fun h => by omega
    rw [← e2]
    exact e1
  rw [e, ← em]
  exact h p hn
end
/-! ### items by place, ranges -/
section
variable {X : Cx}
def rIxQ : R2 := fun x y H Q => ∃ (p : Addr) (xs : List V) (n : Nat) (v : V), x = .ref p ∧ y = .int (n : Int) ∧ Tq H p xs ∧ xs[n]? = some v ∧ Q v H
theorem ix_q : IxR X rIxQ := by
  intro value slice pins s σ H x y v u Q I rx ry h hs
  obtain ⟨p, xs, n, z, rfl, rfl, hq, he, q⟩ := h
  refine ix_seq value slice pins s σ H _ _ v u Q I rx ry ?_ hs
  rcases hq with hq | hq
  · exact .inl ⟨p, xs, n, z, rfl, rfl, SqL.of hq, atI_nat he, q⟩
  · exact .inr (.inl ⟨p, xs, n, z, rfl, rfl, SqT.of hq, atI_nat he, q⟩)
theorem call_lenQ : CallR X (.builtin "len") (fun xs H Q => ∃ (p : Addr) (ys : List V), xs = [.ref p] ∧ Tq H p ys ∧ Q (.int (ys.length : Nat)) H) := by
  intro pins s σ H xs us Q I r h
  obtain ⟨p, ys, rfl, hq, q⟩ := h
  exact call_len_seq pins s σ H _ us Q I r ⟨p, ys, rfl, hq.sqlt, q⟩
theorem call_listQ : CallR X (.type "list") (fun xs H Q => ∃ (p : Addr) (ys : List V), xs = [.ref p] ∧ Tq H p ys ∧ ∀ l, H l = none → Q (.ref l) (upd H l (.lst ys))) := by
  intro pins s σ H xs us Q I r h
  obtain ⟨p, ys, rfl, hq, q⟩ := h
  exact call_list_of pins s σ H _ us Q I r ⟨p, ys, rfl, hq.sqlt, q⟩
/-- tuple(xs), xs a list -/
theorem call_tupleQ : CallR X (.type "tuple") (fun xs H Q => ∃ (p : Addr) (ys : List V), xs = [.ref p] ∧ H p = some (.lst ys) ∧ ∀ l, H l = none → Q (.ref l) (upd H l (.tup ys))) := by
  intro pins s σ H xs us Q I r h
  obtain ⟨p, ys, rfl, hq, q⟩ := h
  exact call_tuple_of pins s σ H _ us Q I r ⟨p, ys, rfl, .inl ⟨SqL.of hq, q⟩⟩
end
end LaneX
set_option Elab.async false
set_option linter.all false
set_option maxRecDepth 100000
set_option maxHeartbeats 4000000
namespace LaneX
open PySem PySem.Spec PyProof.Rows L2
def top (i : Nat) : Stmt := PySem.Challenge.pw_laneswap_k34_whole_sum_plans.main.body.getD i (.Pass ⟨0, 0, 0, 0⟩)
abbrev s__wall : Stmt := top 0
theorem sc__wall : FnScope ["k"] ["k"] (defScope s__wall) := ⟨rfl, rfl, rfl, by decide +kernel, rfl, by decide +kernel, by decide +kernel⟩
abbrev s_is_whole : Stmt := top 7
theorem sc_is_whole : FnScope ["value"] ["value"] (defScope s_is_whole) := ⟨rfl, rfl, rfl, by decide +kernel, rfl, by decide +kernel, by decide +kernel⟩
abbrev s_need_whole : Stmt := top 8
theorem sc_need_whole : FnScope ["value"] ["value"] (defScope s_need_whole) := ⟨rfl, rfl, rfl, by decide +kernel, rfl, by decide +kernel, by decide +kernel⟩
abbrev s_need_items : Stmt := top 9
theorem sc_need_items : FnScope ["value"] ["value"] (defScope s_need_items) := ⟨rfl, rfl, rfl, by decide +kernel, rfl, by decide +kernel, by decide +kernel⟩
abbrev s_need_word : Stmt := top 10
theorem sc_need_word : FnScope ["value", "bits"] ["value", "bits"] (defScope s_need_word) := ⟨rfl, rfl, rfl, by decide +kernel, rfl, by decide +kernel, by decide +kernel⟩
abbrev s_need_words : Stmt := top 11
theorem sc_need_words : FnScope ["values", "bits", "value"] ["values", "bits"] (defScope s_need_words) := ⟨rfl, rfl, rfl, by decide +kernel, rfl, by decide +kernel, by decide +kernel⟩
abbrev s_ones : Stmt := top 13
theorem sc_ones : FnScope ["word", "found", "left", "low"] ["word"] (defScope s_ones) := ⟨rfl, rfl, rfl, by decide +kernel, rfl, by decide +kernel, by decide +kernel⟩
abbrev s_cleared : Stmt := top 15
theorem sc_cleared : FnScope ["rows", "word", "left", "row"] ["rows", "word"] (defScope s_cleared) := ⟨rfl, rfl, rfl, by decide +kernel, rfl, by decide +kernel, by decide +kernel⟩
abbrev s_grown : Stmt := top 16
theorem sc_grown : FnScope ["rows", "word", "left", "top", "row"] ["rows", "word"] (defScope s_grown) := ⟨rfl, rfl, rfl, by decide +kernel, rfl, by decide +kernel, by decide +kernel⟩
abbrev s_spanned : Stmt := top 17
theorem sc_spanned : FnScope ["words", "rows", "word"] ["words"] (defScope s_spanned) := ⟨rfl, rfl, rfl, by decide +kernel, rfl, by decide +kernel, by decide +kernel⟩
abbrev s_tops_of : Stmt := top 18
theorem sc_tops_of : FnScope ["rows", "row"] ["rows"] (defScope s_tops_of) := ⟨rfl, rfl, rfl, by decide +kernel, rfl, by decide +kernel, by decide +kernel⟩
abbrev s_missing : Stmt := top 19
theorem sc_missing : FnScope ["rows", "tops", "bit"] ["rows"] (defScope s_missing) := ⟨rfl, rfl, rfl, by decide +kernel, rfl, by decide +kernel, by decide +kernel⟩
abbrev s_image_of : Stmt := top 20
theorem sc_image_of : FnScope ["columns", "word", "total", "bit"] ["columns", "word"] (defScope s_image_of) := ⟨rfl, rfl, rfl, by decide +kernel, rfl, by decide +kernel, by decide +kernel⟩
abbrev s_paired : Stmt := top 21
theorem sc_paired : FnScope ["columns", "source", "bit"] ["columns"] (defScope s_paired) := ⟨rfl, rfl, rfl, by decide +kernel, rfl, by decide +kernel, by decide +kernel⟩
abbrev s_kernel_rows : Stmt := top 22
theorem sc_kernel_rows : FnScope ["columns", "row"] ["columns"] (defScope s_kernel_rows) := ⟨rfl, rfl, rfl, by decide +kernel, rfl, by decide +kernel, by decide +kernel⟩
abbrev s_solved : Stmt := top 23
theorem sc_solved : FnScope ["pairs", "source", "word", "left"] ["pairs", "source", "word"] (defScope s_solved) := ⟨rfl, rfl, rfl, by decide +kernel, rfl, by decide +kernel, by decide +kernel⟩
abbrev s_met : Stmt := top 24
theorem sc_met : FnScope ["bits", "rows", "others", "both", "row"] ["bits", "rows", "others"] (defScope s_met) := ⟨rfl, rfl, rfl, by decide +kernel, rfl, by decide +kernel, by decide +kernel⟩
abbrev s_Space_init : Stmt := inClass (top 26) 0
theorem sc_Space_init : FnScope ["self", "bits", "words"] ["self", "bits", "words"] (defScope s_Space_init) := ⟨rfl, rfl, rfl, by decide +kernel, rfl, by decide +kernel, by decide +kernel⟩
abbrev s_Space_eq : Stmt := inClass (top 26) 1
theorem sc_Space_eq : FnScope ["self", "other"] ["self", "other"] (defScope s_Space_eq) := ⟨rfl, rfl, rfl, by decide +kernel, rfl, by decide +kernel, by decide +kernel⟩
abbrev s_Space_contains : Stmt := inClass (top 26) 2
theorem sc_Space_contains : FnScope ["self", "word"] ["self", "word"] (defScope s_Space_contains) := ⟨rfl, rfl, rfl, by decide +kernel, rfl, by decide +kernel, by decide +kernel⟩
abbrev s_Space_and : Stmt := inClass (top 26) 3
theorem sc_Space_and : FnScope ["self", "other"] ["self", "other"] (defScope s_Space_and) := ⟨rfl, rfl, rfl, by decide +kernel, rfl, by decide +kernel, by decide +kernel⟩
abbrev s_Space_add : Stmt := inClass (top 26) 4
theorem sc_Space_add : FnScope ["self", "other"] ["self", "other"] (defScope s_Space_add) := ⟨rfl, rfl, rfl, by decide +kernel, rfl, by decide +kernel, by decide +kernel⟩
abbrev s_Space_inside : Stmt := inClass (top 26) 5
theorem sc_Space_inside : FnScope ["self", "other"] ["self", "other"] (defScope s_Space_inside) := ⟨rfl, rfl, rfl, by decide +kernel, rfl, by decide +kernel, by decide +kernel⟩
abbrev s_Space_least : Stmt := inClass (top 26) 6
theorem sc_Space_least : FnScope ["self", "word"] ["self", "word"] (defScope s_Space_least) := ⟨rfl, rfl, rfl, by decide +kernel, rfl, by decide +kernel, by decide +kernel⟩
abbrev s_Space_listed : Stmt := inClass (top 26) 7
theorem sc_Space_listed : FnScope ["self", "word"] ["self", "word"] (defScope s_Space_listed) := ⟨rfl, rfl, rfl, by decide +kernel, rfl, by decide +kernel, by decide +kernel⟩
abbrev s_Space_completing : Stmt := inClass (top 26) 8
theorem sc_Space_completing : FnScope ["self", "other", "rows", "found", "row"] ["self", "other"] (defScope s_Space_completing) := ⟨rfl, rfl, rfl, by decide +kernel, rfl, by decide +kernel, by decide +kernel⟩
abbrev s_Space_complement : Stmt := inClass (top 26) 9
theorem sc_Space_complement : FnScope ["self"] ["self"] (defScope s_Space_complement) := ⟨rfl, rfl, rfl, by decide +kernel, rfl, by decide +kernel, by decide +kernel⟩
abbrev s_need_space : Stmt := top 27
theorem sc_need_space : FnScope ["value", "bits"] ["value", "bits"] (defScope s_need_space) := ⟨rfl, rfl, rfl, by decide +kernel, rfl, by decide +kernel, by decide +kernel⟩
abbrev s_every : Stmt := top 28
theorem sc_every : FnScope ["bits", "bit"] ["bits"] (defScope s_every) := ⟨rfl, rfl, rfl, by decide +kernel, rfl, by decide +kernel, by decide +kernel⟩
abbrev s_Spread_init : Stmt := inClass (top 30) 0
theorem sc_Spread_init : FnScope ["self", "bits", "slots", "lanes", "rows"] ["self", "bits", "slots", "lanes"] (defScope s_Spread_init) := ⟨rfl, rfl, rfl, by decide +kernel, rfl, by decide +kernel, by decide +kernel⟩
abbrev s_Spread_eq : Stmt := inClass (top 30) 1
theorem sc_Spread_eq : FnScope ["self", "other"] ["self", "other"] (defScope s_Spread_eq) := ⟨rfl, rfl, rfl, by decide +kernel, rfl, by decide +kernel, by decide +kernel⟩
abbrev s_Spread_or : Stmt := inClass (top 30) 2
theorem sc_Spread_or : FnScope ["self", "other", "slots", "lanes", "word"] ["self", "other"] (defScope s_Spread_or) := ⟨rfl, rfl, rfl, by decide +kernel, rfl, by decide +kernel, by decide +kernel⟩
abbrev s_Spread_floordiv : Stmt := inClass (top 30) 3
theorem sc_Spread_floordiv : FnScope ["self", "one", "slots", "lanes"] ["self", "one"] (defScope s_Spread_floordiv) := ⟨rfl, rfl, rfl, by decide +kernel, rfl, by decide +kernel, by decide +kernel⟩
abbrev s_Spread_entry : Stmt := inClass (top 30) 4
theorem sc_Spread_entry : FnScope ["self", "slot", "lane"] ["self", "slot", "lane"] (defScope s_Spread_entry) := ⟨rfl, rfl, rfl, by decide +kernel, rfl, by decide +kernel, by decide +kernel⟩
abbrev s_Spread_lane_of : Stmt := inClass (top 30) 5
theorem sc_Spread_lane_of : FnScope ["self", "entry"] ["self", "entry"] (defScope s_Spread_lane_of) := ⟨rfl, rfl, rfl, by decide +kernel, rfl, by decide +kernel, by decide +kernel⟩
abbrev s_Spread_slot_of : Stmt := inClass (top 30) 6
theorem sc_Spread_slot_of : FnScope ["self", "entry", "lane"] ["self", "entry", "lane"] (defScope s_Spread_slot_of) := ⟨rfl, rfl, rfl, by decide +kernel, rfl, by decide +kernel, by decide +kernel⟩
abbrev s_Spread_held : Stmt := inClass (top 30) 7
theorem sc_Spread_held : FnScope ["self", "lane"] ["self", "lane"] (defScope s_Spread_held) := ⟨rfl, rfl, rfl, by decide +kernel, rfl, by decide +kernel, by decide +kernel⟩
abbrev s_Spread_slot_space : Stmt := inClass (top 30) 8
theorem sc_Spread_slot_space : FnScope ["self"] ["self"] (defScope s_Spread_slot_space) := ⟨rfl, rfl, rfl, by decide +kernel, rfl, by decide +kernel, by decide +kernel⟩
abbrev s_Spread_lane_space : Stmt := inClass (top 30) 9
theorem sc_Spread_lane_space : FnScope ["self"] ["self"] (defScope s_Spread_lane_space) := ⟨rfl, rfl, rfl, by decide +kernel, rfl, by decide +kernel, by decide +kernel⟩
abbrev s_Spread_twins : Stmt := inClass (top 30) 10
theorem sc_Spread_twins : FnScope ["self", "rows", "word"] ["self"] (defScope s_Spread_twins) := ⟨rfl, rfl, rfl, by decide +kernel, rfl, by decide +kernel, by decide +kernel⟩
abbrev s_Spread_copies : Stmt := inClass (top 30) 11
theorem sc_Spread_copies : FnScope ["self"] ["self"] (defScope s_Spread_copies) := ⟨rfl, rfl, rfl, by decide +kernel, rfl, by decide +kernel, by decide +kernel⟩
abbrev s_Spread_placing : Stmt := inClass (top 30) 12
theorem sc_Spread_placing : FnScope ["self"] ["self"] (defScope s_Spread_placing) := ⟨rfl, rfl, rfl, by decide +kernel, rfl, by decide +kernel, by decide +kernel⟩
abbrev s_Spread_together : Stmt := inClass (top 30) 13
theorem sc_Spread_together : FnScope ["self", "entries"] ["self", "entries"] (defScope s_Spread_together) := ⟨rfl, rfl, rfl, by decide +kernel, rfl, by decide +kernel, by decide +kernel⟩
abbrev s_Spread_renamed : Stmt := inClass (top 30) 14
theorem sc_Spread_renamed : FnScope ["self", "change"] ["self", "change"] (defScope s_Spread_renamed) := ⟨rfl, rfl, rfl, by decide +kernel, rfl, by decide +kernel, by decide +kernel⟩
abbrev s_Spread_parts : Stmt := inClass (top 30) 15
theorem sc_Spread_parts : FnScope ["self"] ["self"] (defScope s_Spread_parts) := ⟨rfl, rfl, rfl, by decide +kernel, rfl, by decide +kernel, by decide +kernel⟩
abbrev s_any_spread : Stmt := top 31
theorem sc_any_spread : FnScope ["value"] ["value"] (defScope s_any_spread) := ⟨rfl, rfl, rfl, by decide +kernel, rfl, by decide +kernel, by decide +kernel⟩
abbrev s_left_over : Stmt := top 32
theorem sc_left_over : FnScope ["words", "first", "bits", "many", "word"] ["words", "first", "bits"] (defScope s_left_over) := ⟨rfl, rfl, rfl, by decide +kernel, rfl, by decide +kernel, by decide +kernel⟩
abbrev s_need_pair : Stmt := top 34
theorem sc_need_pair : FnScope ["spread", "space"] ["spread", "space"] (defScope s_need_pair) := ⟨rfl, rfl, rfl, by decide +kernel, rfl, by decide +kernel, by decide +kernel⟩
abbrev s_partner_rows : Stmt := top 35
theorem sc_partner_rows : FnScope ["spread", "space", "rows", "word"] ["spread", "space"] (defScope s_partner_rows) := ⟨rfl, rfl, rfl, by decide +kernel, rfl, by decide +kernel, by decide +kernel⟩
abbrev s_partners : Stmt := top 36
theorem sc_partners : FnScope ["spread", "space"] ["spread", "space"] (defScope s_partners) := ⟨rfl, rfl, rfl, by decide +kernel, rfl, by decide +kernel, by decide +kernel⟩
abbrev s_leaders : Stmt := top 37
theorem sc_leaders : FnScope ["spread", "space"] ["spread", "space"] (defScope s_leaders) := ⟨rfl, rfl, rfl, by decide +kernel, rfl, by decide +kernel, by decide +kernel⟩
abbrev s_kept_bits : Stmt := top 38
theorem sc_kept_bits : FnScope ["spread", "space", "slots"] ["spread", "space"] (defScope s_kept_bits) := ⟨rfl, rfl, rfl, by decide +kernel, rfl, by decide +kernel, by decide +kernel⟩
abbrev s_rounds_for : Stmt := top 39
theorem sc_rounds_for : FnScope ["bits", "apart"] ["bits", "apart"] (defScope s_rounds_for) := ⟨rfl, rfl, rfl, by decide +kernel, rfl, by decide +kernel, by decide +kernel⟩
abbrev s_sum_rounds : Stmt := top 40
theorem sc_sum_rounds : FnScope ["spread", "space", "bits"] ["spread", "space"] (defScope s_sum_rounds) := ⟨rfl, rfl, rfl, by decide +kernel, rfl, by decide +kernel, by decide +kernel⟩
abbrev s_SumPlan_init : Stmt := inClass (top 41) 0
theorem sc_SumPlan_init : FnScope ["self", "spread", "space", "slots", "twins"] ["self", "spread", "space"] (defScope s_SumPlan_init) := ⟨rfl, rfl, rfl, by decide +kernel, rfl, by decide +kernel, by decide +kernel⟩
abbrev s_SumPlan_own_words : Stmt := inClass (top 41) 1
theorem sc_SumPlan_own_words : FnScope ["self", "bits", "words", "found"] ["self", "bits", "words"] (defScope s_SumPlan_own_words) := ⟨rfl, rfl, rfl, by decide +kernel, rfl, by decide +kernel, by decide +kernel⟩
abbrev s_SumPlan_told_by : Stmt := inClass (top 41) 2
theorem sc_SumPlan_told_by : FnScope ["self", "told", "word"] ["self", "told", "word"] (defScope s_SumPlan_told_by) := ⟨rfl, rfl, rfl, by decide +kernel, rfl, by decide +kernel, by decide +kernel⟩
abbrev s_SumPlan_rest_of : Stmt := inClass (top 41) 3
theorem sc_SumPlan_rest_of : FnScope ["self", "lane", "words", "many", "made"] ["self", "lane"] (defScope s_SumPlan_rest_of) := ⟨rfl, rfl, rfl, by decide +kernel, rfl, by decide +kernel, by decide +kernel⟩
abbrev s_SumPlan_number_in_team : Stmt := inClass (top 41) 4
theorem sc_SumPlan_number_in_team : FnScope ["self", "lane", "many"] ["self", "lane"] (defScope s_SumPlan_number_in_team) := ⟨rfl, rfl, rfl, by decide +kernel, rfl, by decide +kernel, by decide +kernel⟩
abbrev s_SumPlan_take : Stmt := inClass (top 41) 5
theorem sc_SumPlan_take : FnScope ["self", "number", "lane", "stage", "many", "left", "fixed", "mark"] ["self", "number", "lane"] (defScope s_SumPlan_take) := ⟨rfl, rfl, rfl, by decide +kernel, rfl, by decide +kernel, by decide +kernel⟩
abbrev s_SumPlan_home : Stmt := inClass (top 41) 6
theorem sc_SumPlan_home : FnScope ["self", "entry", "rows", "pairs", "lane", "mark", "wanted", "word"] ["self", "entry"] (defScope s_SumPlan_home) := ⟨rfl, rfl, rfl, by decide +kernel, rfl, by decide +kernel, by decide +kernel⟩
abbrev s_stage_rounds : Stmt := top 42
theorem sc_stage_rounds : FnScope ["bits", "stage"] ["bits", "stage"] (defScope s_stage_rounds) := ⟨rfl, rfl, rfl, by decide +kernel, rfl, by decide +kernel, by decide +kernel⟩
abbrev s_beginL : Stmt := top 44
theorem sc_beginL : FnScope ["_law_script"] ["_law_script"] (defScope s_beginL) := ⟨rfl, rfl, rfl, by decide +kernel, rfl, by decide +kernel, by decide +kernel⟩
abbrev s_drawL : Stmt := top 45
theorem sc_drawL : FnScope ["_law_pen", "_law_span", "_law_digit", "_law_at", "_law_cell", "_law_n"] ["_law_pen", "_law_span"] (defScope s_drawL) := ⟨rfl, rfl, rfl, by decide +kernel, rfl, by decide +kernel, by decide +kernel⟩
abbrev s_pickL : Stmt := top 46
theorem sc_pickL : FnScope ["_law_pen", "_law_some"] ["_law_pen", "_law_some"] (defScope s_pickL) := ⟨rfl, rfl, rfl, by decide +kernel, rfl, by decide +kernel, by decide +kernel⟩
abbrev s_wordL : Stmt := top 47
theorem sc_wordL : FnScope ["_law_pen", "_law_bits", "_law_found", "_law_k"] ["_law_pen", "_law_bits"] (defScope s_wordL) := ⟨rfl, rfl, rfl, by decide +kernel, rfl, by decide +kernel, by decide +kernel⟩
abbrev s_mixedL : Stmt := top 48
theorem sc_mixedL : FnScope ["_law_pen", "_law_some", "_law_left_here", "_law_found", "_law_k"] ["_law_pen", "_law_some"] (defScope s_mixedL) := ⟨rfl, rfl, rfl, by decide +kernel, rfl, by decide +kernel, by decide +kernel⟩
abbrev s_leftL : Stmt := top 49
theorem sc_leftL : FnScope ["_law_rows", "_law_word_here", "_law_row"] ["_law_rows", "_law_word_here"] (defScope s_leftL) := ⟨rfl, rfl, rfl, by decide +kernel, rfl, by decide +kernel, by decide +kernel⟩
abbrev s_basisL : Stmt := top 50
theorem sc_basisL : FnScope ["_law_words", "_law_rows", "_law_word_here"] ["_law_words"] (defScope s_basisL) := ⟨rfl, rfl, rfl, by decide +kernel, rfl, by decide +kernel, by decide +kernel⟩
abbrev s_sizeL : Stmt := top 51
theorem sc_sizeL : FnScope ["_law_words"] ["_law_words"] (defScope s_sizeL) := ⟨rfl, rfl, rfl, by decide +kernel, rfl, by decide +kernel, by decide +kernel⟩
abbrev s_imageL : Stmt := top 52
theorem sc_imageL : FnScope ["_law_columns", "_law_word_here", "_law_found", "_law_at"] ["_law_columns", "_law_word_here"] (defScope s_imageL) := ⟨rfl, rfl, rfl, by decide +kernel, rfl, by decide +kernel, by decide +kernel⟩
abbrev s_taggedL : Stmt := top 53
theorem sc_taggedL : FnScope ["_law_columns", "_law_rows", "_law_found", "_law_at", "_law_word_here", "_law_tag", "_law_row", "_law_mark"] ["_law_columns"] (defScope s_taggedL) := ⟨rfl, rfl, rfl, by decide +kernel, rfl, by decide +kernel, by decide +kernel⟩
abbrev s_kernelL : Stmt := top 54
theorem sc_kernelL : FnScope ["_law_columns"] ["_law_columns"] (defScope s_kernelL) := ⟨rfl, rfl, rfl, by decide +kernel, rfl, by decide +kernel, by decide +kernel⟩
abbrev s_is_wholeL : Stmt := top 55
theorem sc_is_wholeL : FnScope ["_law_value"] ["_law_value"] (defScope s_is_wholeL) := ⟨rfl, rfl, rfl, by decide +kernel, rfl, by decide +kernel, by decide +kernel⟩
abbrev s_is_wordL : Stmt := top 56
theorem sc_is_wordL : FnScope ["_law_value", "_law_bits"] ["_law_value", "_law_bits"] (defScope s_is_wordL) := ⟨rfl, rfl, rfl, by decide +kernel, rfl, by decide +kernel, by decide +kernel⟩
abbrev s_words_forL : Stmt := top 57
theorem sc_words_forL : FnScope ["_law_pen", "_law_bits", "_law_many", "_law_style", "_law_found", "_law_k"] ["_law_pen", "_law_bits", "_law_many", "_law_style"] (defScope s_words_forL) := ⟨rfl, rfl, rfl, by decide +kernel, rfl, by decide +kernel, by decide +kernel⟩
abbrev s_spread_wordsL : Stmt := top 58
theorem sc_spread_wordsL : FnScope ["_law_pen", "_law_bits", "_law_slots", "_law_lanes", "_law_style", "_law_some", "_law_others", "_law_rows", "_law_word_here", "_law_left_here", "_law_bit"] ["_law_pen", "_law_bits", "_law_slots", "_law_lanes"] (defScope s_spread_wordsL) := ⟨rfl, rfl, rfl, by decide +kernel, rfl, by decide +kernel, by decide +kernel⟩
abbrev s_countsL : Stmt := top 59
theorem sc_countsL : FnScope ["_law_slots", "_law_lanes", "_law_words", "_law_rows", "_law_both", "_law_shared", "_law_twins", "_law_word_here"] ["_law_slots", "_law_lanes", "_law_words"] (defScope s_countsL) := ⟨rfl, rfl, rfl, by decide +kernel, rfl, by decide +kernel, by decide +kernel⟩
abbrev s_space_wordsL : Stmt := top 60
theorem sc_space_wordsL : FnScope ["_law_pen", "_law_bits", "_law_slots", "_law_found", "_law_k", "_law_kind", "_law_word_here"] ["_law_pen", "_law_bits", "_law_slots"] (defScope s_space_wordsL) := ⟨rfl, rfl, rfl, by decide +kernel, rfl, by decide +kernel, by decide +kernel⟩
abbrev s_fewestL : Stmt := top 61
theorem sc_fewestL : FnScope ["_law_bits", "_law_lots", "_law_twins", "_law_reached", "_law_rounds", "_law_turn"] ["_law_bits", "_law_lots", "_law_twins"] (defScope s_fewestL) := ⟨rfl, rfl, rfl, by decide +kernel, rfl, by decide +kernel, by decide +kernel⟩
abbrev s_rounds_dueL : Stmt := top 62
theorem sc_rounds_dueL : FnScope ["_law_bits", "_law_lots", "_law_twins", "_law_kept"] ["_law_bits", "_law_lots", "_law_twins"] (defScope s_rounds_dueL) := ⟨rfl, rfl, rfl, by decide +kernel, rfl, by decide +kernel, by decide +kernel⟩
abbrev s_begunL : Stmt := top 63
theorem sc_begunL : FnScope ["_law_slots", "_law_lanes", "_law_rows", "_law_found", "_law_lane", "_law_values", "_law_base", "_law_entry", "_law_coset", "_law_slot"] ["_law_slots", "_law_lanes", "_law_rows"] (defScope s_begunL) := ⟨rfl, rfl, rfl, by decide +kernel, rfl, by decide +kernel, by decide +kernel⟩
abbrev s_joinedL : Stmt := top 64
theorem sc_joinedL : FnScope ["_law_mine", "_law_taken"] ["_law_mine", "_law_taken"] (defScope s_joinedL) := ⟨rfl, rfl, rfl, by decide +kernel, rfl, by decide +kernel, by decide +kernel⟩
abbrev s_playedL : Stmt := top 65
theorem sc_playedL : FnScope ["_law_plan", "_law_number", "_law_values", "_law_rows", "_law_bits", "_law_shown", "_law_found", "_law_lane", "_law_later", "_law_told", "_law_other", "_law_coset", "_law_taken"] ["_law_plan", "_law_number", "_law_values", "_law_rows", "_law_bits"] (defScope s_playedL) := ⟨rfl, rfl, rfl, by decide +kernel, rfl, by decide +kernel, by decide +kernel⟩
abbrev s_homes_rightL : Stmt := top 66
theorem sc_homes_rightL : FnScope ["_law_plan", "_law_values", "_law_rows", "_law_bits", "_law_entry", "_law_home", "_law_coset", "_law_whole", "_law_other"] ["_law_plan", "_law_values", "_law_rows", "_law_bits"] (defScope s_homes_rightL) := ⟨rfl, rfl, rfl, by decide +kernel, rfl, by decide +kernel, by decide +kernel⟩
abbrev s_law : Stmt := top 67
theorem sc_law : FnScope ["_law_script", "_law_pen", "_law_turn", "_law_bits", "_law_slots", "_law_lanes", "_law_words", "_law_rows", "_law_spread", "_law_space", "_law_plan", "_law_values", "_law_kept", "_law_lots", "_law_twins", "_law_due", "_law_number", "_law_again", "_law_lane"] ["_law_script"] (defScope s_law) := ⟨rfl, rfl, rfl, by decide +kernel, rfl, by decide +kernel, by decide +kernel⟩
structure Bt (mg : Str → Option Value) : Prop where
  abs : mg "abs" = none
  any : mg "any" = none
  bool : mg "bool" = none
  dict : mg "dict" = none
  int : mg "int" = none
  isinstance : mg "isinstance" = none
  len : mg "len" = none
  list : mg "list" = none
  max : mg "max" = none
  min : mg "min" = none
  range : mg "range" = none
  set : mg "set" = none
  sorted : mg "sorted" = none
  sum : mg "sum" = none
  tuple : mg "tuple" = none
end LaneX
set_option Elab.async false
set_option linter.all false
set_option maxRecDepth 100000
set_option maxHeartbeats 4000000
namespace LaneX
open PySem PySem.Spec PyProof.Rows L2
/-! ### an operator of an own class, both operands of that class -/
def rOwn (C : Addr) (sp : Sp) : R2 := fun x y H Q => ∃ (a b dx dy : Addr) (fs gs : List (Str × V)), x = .ref a ∧ y = .ref b ∧ H a = some (.ins C dx fs) ∧ H b = some (.ins C dy gs) ∧ sp [.ref a, .ref b] H Q E0
section
variable {X : Cx}
theorem back_of {pins : List (Addr × Obj)} {σ : L2.St} {Q : VK} {v : Value} {s : Shared} (h : EP X pins σ Q v s) : PySem.W.CmpBack (EP X pins σ Q) v s := by
  have h' := h
  obtain ⟨x, H', I, r, q⟩ := h'
  have nn : v ≠ Value.notImplemented := fun z => by
    subst z
    cases x with
    | non => exact absurd (show Value.notImplemented = Value.none from r) (fun z => nomatch z)
    | bl b => exact absurd (show Value.notImplemented = Value.bool b from r) (fun z => nomatch z)
    | int i => obtain ⟨t, z⟩ := (show ∃ t, Value.notImplemented = Value.int i t from r); exact nomatch z
    | str i => obtain ⟨t, z⟩ := (show ∃ t, Value.notImplemented = Value.str i t from r); exact nomatch z
    | byt i => obtain ⟨t, z⟩ := (show ∃ t, Value.notImplemented = Value.bytes i t from r); exact nomatch z
    | flt i => obtain ⟨t, z⟩ := (show ∃ t, Value.notImplemented = Value.float i t from r); exact nomatch z
    | ref a => exact absurd (show Value.notImplemented = Value.ref a from r) (fun z => nomatch z)
    | ty n => exact absurd (show Value.notImplemented = Value.type n from r) (fun z => nomatch z)
  cases v <;> first | exact h | exact absurd rfl nn
theorem op_own {op : Operator} {m : Str} {k j : Nat} {C : Addr} {ps : List Str} {sp : Sp} (hm : m = PySem.dunder op.info.2) (D : Mn X.prog X.w X.K X.mg X.base k C m ps sp) (hc : PySem.W.selfFirst X.K C = true) (hr : Room j X.A) (hk : k ≤ j := by decide) : OpR X (binaryOp op) (rOwn C sp) := by
  intro pins s σ H x y v u Q I rx ry h
  obtain ⟨a, b, dx, dy, fs, gs, rfl, rfl, ha, hb, hsp⟩ := h
  obtain ⟨f, fd, h1, h3, h4⟩ := D.ex
  cases (show v = Value.ref a from rx)
  cases (show u = Value.ref b from ry)
  obtain ⟨mA, O, _⟩ := ins_get I.hok ha
  obtain ⟨od, J, _⟩ := O.look
  obtain ⟨mB, O2, _⟩ := ins_get I.hok hb
  obtain ⟨od2, J2, _⟩ := O2.look
  obtain ⟨mm, F⟩ := I.fr
  subst hm
  refine PySem.W.binop_K F I.mod.kin J J2.type hc h1.at_ h1.fn ?_
  exact wpAny_mono (run_fn h4 (hr.mono hk) h3 .nil pass0 I (vs := [.ref a, .ref b]) (.cons rfl (.cons rfl .nil)) hsp) (fun v s' hq => back_of hq) fun _ _ z => z
end
end LaneX
set_option Elab.async false
set_option linter.all false
set_option maxRecDepth 100000
set_option maxHeartbeats 4000000
namespace LaneX
open PySem PySem.Spec PyProof.Rows L2
/-! ### lists of ints compared -/
theorem dpAll_ints {K : PySem.W.Frag} {H : Hp} : ∀ ns : List Int, DpAll K H (ns.map V.int) (ns.map PyData.int)
  | [] => .nil
  | n :: r => .cons (.int n) (dpAll_ints r)
theorem eqvAll_ints : ∀ ns ms : List Int, PyData.eqvAll (ns.map PyData.int) (ms.map PyData.int) = decide (ns = ms)
  | [], [] => rfl
  | [], _ :: _ => rfl
  | _ :: _, [] => rfl
  | n :: r, m :: q => by
    show (PyData.eqv (.int n) (.int m) && PyData.eqvAll (r.map PyData.int) (q.map PyData.int)) = _
    rw [eqvAll_ints r q]
    show ((n == m) && decide (r = q)) = _
    by_cases h : n = m
    · subst h; simp
    · simp [h]
theorem shaped_tints (ns : List Int) : SeqAt.shaped (.tuple (ns.map PyData.int)) = true := by
  have h := PySem.W.ke_shaped_ints ns
  unfold SeqAt.shaped at h ⊢
  exact h
section
variable {X : Cx}
theorem op_neL (hu : X.A.units + 64 < cLine) : OpR X (compareOp .NotEq) (fun x y H Q => ∃ (a b : Addr) (ns ms : List Int), x = .ref a ∧ y = .ref b ∧ H a = some (.lst (ns.map V.int)) ∧ H b = some (.lst (ms.map V.int)) ∧ Q (.bl (!decide (ns = ms))) H) := by
  intro pins s σ H x y v u Q I rx ry h
  obtain ⟨a, b, ns, ms, rfl, rfl, ha, hb, q⟩ := h
  refine op_neD hu pins s σ H _ _ v u Q I rx ry ⟨.list (ns.map .int), .list (ms.map .int), .lst (SqL.of ha) (dpAll_ints ns), .lst (SqL.of hb) (dpAll_ints ms), PySem.W.ke_shaped_ints ns, PySem.W.ke_shaped_ints ms, ?_⟩
  show Q (.bl (!PyData.eqvAll (ns.map .int) (ms.map .int))) H
  rw [eqvAll_ints]
  exact q
theorem op_eqL (hu : X.A.units + 64 < cLine) : OpR X (compareOp .Eq) (fun x y H Q => ∃ (a b : Addr) (ns ms : List Int), x = .ref a ∧ y = .ref b ∧ H a = some (.lst (ns.map V.int)) ∧ H b = some (.lst (ms.map V.int)) ∧ Q (.bl (decide (ns = ms))) H) := by
  intro pins s σ H x y v u Q I rx ry h
  obtain ⟨a, b, ns, ms, rfl, rfl, ha, hb, q⟩ := h
  refine op_eqD hu pins s σ H _ _ v u Q I rx ry ⟨.list (ns.map .int), .list (ms.map .int), .lst (SqL.of ha) (dpAll_ints ns), .lst (SqL.of hb) (dpAll_ints ms), PySem.W.ke_shaped_ints ns, PySem.W.ke_shaped_ints ms, ?_⟩
  show Q (.bl (PyData.eqvAll (ns.map .int) (ms.map .int))) H
  rw [eqvAll_ints]
  exact q
theorem vN_ints (l : List Nat) : l.map vN = (l.map Int.ofNat).map V.int := by rw [List.map_map]; rfl
/-- a list of naturals against the empty list -/
theorem op_neE (hu : X.A.units + 64 < cLine) : OpR X (compareOp .NotEq) (fun x y H Q => ∃ (a b : Addr) (ns : List Nat), x = .ref a ∧ y = .ref b ∧ H a = some (.lst (ns.map vN)) ∧ H b = some (.lst []) ∧ Q (.bl (!ns.isEmpty)) H) := by
  intro pins s σ H x y v u Q I rx ry h
  obtain ⟨a, b, ns, rfl, rfl, ha, hb, q⟩ := h
  rw [vN_ints] at ha
  refine op_neL hu pins s σ H _ _ v u Q I rx ry ⟨a, b, _, [], rfl, rfl, ha, hb, ?_⟩
  have e : (!decide (ns.map Int.ofNat = [])) = !ns.isEmpty := by cases ns <;> simp
  rw [e]
  exact q
theorem op_eqE (hu : X.A.units + 64 < cLine) : OpR X (compareOp .Eq) (fun x y H Q => ∃ (a b : Addr) (ns : List Nat), x = .ref a ∧ y = .ref b ∧ H a = some (.lst (ns.map vN)) ∧ H b = some (.lst []) ∧ Q (.bl ns.isEmpty) H) := by
  intro pins s σ H x y v u Q I rx ry h
  obtain ⟨a, b, ns, rfl, rfl, ha, hb, q⟩ := h
  rw [vN_ints] at ha
  refine op_eqL hu pins s σ H _ _ v u Q I rx ry ⟨a, b, _, [], rfl, rfl, ha, hb, ?_⟩
  have e : decide (ns.map Int.ofNat = []) = ns.isEmpty := by cases ns <;> simp
  rw [e]
  exact q
/-- min and max of two naturals -/
theorem call_minN (hc : X.calm = true) : CallR X (.builtin "min") (fun xs H Q => ∃ n m : Nat, xs = [.int (n : Int), .int (m : Int)] ∧ Q (.int ((min n m : Nat) : Int)) H) := by
  intro pins s σ H xs us Q I r h
  obtain ⟨n, m, rfl, q⟩ := h
  refine call_min2 hc pins s σ H _ us Q I r ⟨_, _, rfl, ?_⟩
  have e : (if (m : Int) < (n : Int) then (m : Int) else (n : Int)) = ((min n m : Nat) : Int) := by split <;> omega
  rw [e]
  exact q
/-! ### numbers -/
theorem call_intQ : CallR X (.type "int") (fun xs H Q => ∃ i : Int, xs = [.int i] ∧ Q (.int i) H) := by
  intro pins s σ H xs us Q I r h
  obtain ⟨i, rfl, q⟩ := h
  exact call_int1 pins s σ H _ us Q I r (.inl ⟨i, rfl, q⟩)
theorem call_absN : CallR X (.builtin "abs") (fun xs H Q => ∃ i : Int, xs = [.int i] ∧ Q (.int (i.natAbs : Nat)) H) := by
  intro pins s σ H xs us Q I r h
  obtain ⟨i, rfl, q⟩ := h
  refine call_abs pins s σ H _ us Q I r ⟨i, rfl, ?_⟩
  have e : (if i < 0 then -i else i) = (i.natAbs : Int) := by split <;> omega
  rw [e]
  exact q
theorem on_pow : OpR X (binaryOp .Pow) (fun x y H Q => ∃ n m : Nat, x = .int (n : Int) ∧ y = .int (m : Int) ∧ (n < 2 ^ 64 ∧ m ≤ 1000000) ∧ Q (.int ((n ^ m : Nat) : Int)) H) := by
  intro pins s σ H x y v u Q I rx ry h
  obtain ⟨n, m, rfl, rfl, ⟨c1, c2⟩, q⟩ := h
  refine op_pow pins s σ H _ _ v u Q I rx ry ⟨_, _, rfl, rfl, ⟨by omega, by omega, by simpa using c1⟩, ?_⟩
  rw [Int.natCast_pow] at q
  exact q
/-- an int of any sign, a positive divisor -/
theorem on_modI : OpR X (binaryOp .Mod) (fun x y H Q => ∃ (i : Int) (m : Nat), x = .int i ∧ y = .int (m : Int) ∧ 0 < m ∧ Q (.int ((i % (m : Int)).toNat : Nat)) H) := by
  intro pins s σ H x y v u Q I rx ry h
  obtain ⟨i, m, rfl, rfl, c, q⟩ := h
  have e : (((i % (m : Int)).toNat : Nat) : Int) = i % (m : Int) := by
    have := Int.emod_nonneg i (b := (m : Int)) (by omega)
    omega
  rw [e] at q
  exact op_mod pins s σ H _ _ v u Q I rx ry ⟨_, _, rfl, rfl, show (0 : Int) < (m : Int) by omega, q⟩
end
section
variable {X : Cx}
theorem and_neg (n : Nat) : Builtin.bitAnd (n : Int) (-(n : Int)) = ((lwb n : Nat) : Int) := by
  unfold Builtin.bitAnd lwb
  by_cases h : n = 0
  · subst h
    rfl
  · have h1 : decide (0 ≤ (n : Int)) = true := decide_eq_true (Int.natCast_nonneg _)
    have h2 : decide (0 ≤ -(n : Int)) = false := decide_eq_false (by omega)
    rw [h1, h2]
    show (n : Int) - (((n : Int).toNat &&& (Builtin.bitNot (-(n : Int))).toNat : Nat) : Int) = _
    have e : (Builtin.bitNot (-(n : Int))).toNat = n - 1 := by
      unfold Builtin.bitNot
      omega
    rw [e, Int.toNat_natCast]
    have le : n &&& (n - 1) ≤ n := Nat.and_le_left
    omega
/-- n & -n -/
theorem on_low : OpR X (binaryOp .BitAnd) (fun x y H Q => ∃ n : Nat, x = .int (n : Int) ∧ y = .int (-(n : Int)) ∧ Q (.int ((lwb n : Nat) : Int)) H) := by
  intro pins s σ H x y v u Q I rx ry h
  obtain ⟨n, rfl, rfl, q⟩ := h
  rw [← and_neg] at q
  exact op_and pins s σ H _ _ v u Q I rx ry ⟨_, _, rfl, rfl, q⟩
end
/-! ### the pen -/
def pen (a b c : Str) (lc : Addr) (n m : Nat) : List (Key × V) := [(.inr a, .ref lc), (.inr b, vN n), (.inr c, vN m)]
structure PenN (a b c : Str) : Prop where
  ab : a ≠ b
  ac : a ≠ c
  bc : b ≠ c
def PenAt (a b c : Str) (H : Hp) (p lc : Addr) (N : Nat) : Prop := ∃ (cs : List Int) (n m : Nat), H p = some (.dK (pen a b c lc n m)) ∧ H lc = some (.lst (cs.map V.int)) ∧ n ≤ N
section
variable {a b c : Str} {H H' : Hp} {p lc : Addr} {N M : Nat}
theorem PenAt.mono (h : PenAt a b c H p lc N) (l : N ≤ M) : PenAt a b c H p lc M := by
  obtain ⟨cs, n, m, h1, h2, h3⟩ := h
  exact ⟨cs, n, m, h1, h2, Nat.le_trans h3 l⟩
theorem PenAt.same (h : PenAt a b c H p lc N) (s : Same H H') : PenAt a b c H' p lc N := by
  obtain ⟨cs, n, m, h1, h2, h3⟩ := h
  exact ⟨cs, n, m, s _ _ h1, s _ _ h2, h3⟩
theorem PenAt.ne (h : PenAt a b c H p lc N) {l : Addr} (hl : H l = none) : lc ≠ l ∧ p ≠ l := by
  obtain ⟨cs, n, m, h1, h2, h3⟩ := h
  exact ⟨ne_of_none h2 hl, ne_of_none h1 hl⟩
/-- a list of one's own is written -/
theorem PenAt.put {l : Addr} {o : HO} (h : PenAt a b c H p lc N) (h1 : lc ≠ l ∧ p ≠ l) : PenAt a b c (upd H l o) p lc N := by
  obtain ⟨cs, n, m, g1, g2, g3⟩ := h
  exact ⟨cs, n, m, (upd_ne h1.2).trans g1, (upd_ne h1.1).trans g2, g3⟩
theorem pen_a (n m : Nat) : valV (pen a b c lc n m) (.inr a) = some (.ref lc) := valV_pos rfl
theorem pen_b (hN : PenN a b c) (n m : Nat) : valV (pen a b c lc n m) (.inr b) = some (vN n) := by
  unfold pen valV
  simp [hN.ab]
theorem pen_c (hN : PenN a b c) (n m : Nat) : valV (pen a b c lc n m) (.inr c) = some (vN m) := by
  unfold pen valV
  simp [hN.ac, hN.bc]
theorem pen_pb (hN : PenN a b c) (n m k : Nat) : putK (pen a b c lc n m) (.inr b) (vN k) = pen a b c lc k m := by
  unfold pen putK
  simp [hN.ab, hN.bc.symm]
theorem pen_pc (hN : PenN a b c) (n m k : Nat) : putK (pen a b c lc n m) (.inr c) (vN k) = pen a b c lc n k := by
  unfold pen putK
  simp [hN.ac, hN.bc]
theorem pen_len (n m : Nat) : (pen a b c lc n m).length < sizeLine := by
  show 3 < sizeLine
  decide
end
end LaneX
set_option Elab.async false
set_option linter.all false
set_option maxRecDepth 100000
set_option maxHeartbeats 4000000
namespace LaneX
open PySem PySem.Spec PyProof.Rows L2
/-! ### ~x by an own __invert__; an instance called -/
def rOwn1 (C : Addr) (sp : Sp) : V → Hp → VK → Prop := fun x H Q => ∃ (a dx : Addr) (fs : List (Str × V)), x = .ref a ∧ H a = some (.ins C dx fs) ∧ sp [.ref a] H Q E0
/-- the class's __call__ is a def -/
def callFn (K : PySem.W.Frag) (C : Addr) : Bool := match PySem.W.findIn K (.ref C) "__call__" with
  | some (some (.ref f)) => PySem.W.fnIn K f
  | _ => false
theorem callFn_ok {K : PySem.W.Frag} {C f : Addr} (h : callFn K C = true) (e : PySem.W.findIn K (.ref C) "__call__" = some (some (.ref f))) : PySem.W.fnIn K f = true := by
  unfold callFn at h
  rw [e] at h
  exact h
section
variable {X : Cx}
theorem un_own {k j : Nat} {C : Addr} {ps : List Str} {sp : Sp} (D : Mn X.prog X.w X.K X.mg X.base k C "__invert__" ps sp) (hr : Room j X.A) (hk : k ≤ j := by decide) : UnR X (unaryOp .Invert) (rOwn1 C sp) := by
  intro pins s σ H x v Q I rx h
  obtain ⟨a, dx, fs, rfl, ha, hsp⟩ := h
  obtain ⟨f, fd, h1, h3, h4⟩ := D.ex
  cases (show v = Value.ref a from rx)
  obtain ⟨mA, O, _⟩ := ins_get I.hok ha
  obtain ⟨od, J, _⟩ := O.look
  obtain ⟨mm, F⟩ := I.fr
  refine PySem.W.ksp_inv F I.mod.kin J h1.at_ h1.fn ?_
  exact run_fn h4 (hr.mono hk) h3 .nil pass0 I (vs := [.ref a]) (.cons rfl .nil) hsp
/-- x(e), x a local name that stands for an instance of C -/
def tOc (C : Addr) (sp : Sp) (tf : TE) (t : TA) : TE := fun σ H Q => tf σ H fun y H1 => ∃ a, y = V.ref a ∧ t σ H1 fun vs H2 => (∃ dx fs, H2 a = some (.ins C dx fs)) ∧ sp (V.ref a :: vs) H2 Q E0
theorem pe_oc {k j : Nat} {C : Addr} {ps : List Str} {sp : Sp} {x : Str} {p pos : Pos} {e : Expr} {es : List Expr} {tf : TE} {t : TA} (hf : PE X (.Name x p) tf) (D : Mn X.prog X.w X.K X.mg X.base k C "__call__" ps sp) (hc : callFn X.K C = true) (hr : Room j X.A) (ha : PA X (e :: es) t) (hk : k ≤ j := by decide)
    (he : starEach (e :: es) X.env = (false, eval e X.env) :: starEach es X.env := by rfl) (hpl : (backTo pos (starEach es X.env)).any (·.1) = false := by rfl) : PE X (.Call (.Name x p) (e :: es) [] pos) (tOc C sp tf t) := by
  refine ⟨fun pins s σ H Q I h => ?_⟩
  obtain ⟨f, fd, h1, h3, h4⟩ := D.ex
  refine wpAny_Call_Name_kw (thn (hf.run pins s σ H _ I h) fun u s1 ⟨y, H1, I1, ry, a, ey, q⟩ => ?_)
  subst ey
  obtain rfl : u = Value.ref a := ry
  refine StX.callO_with (thn (ha.run pos pins s1 σ H1 _ I1 q) fun us s2 ⟨vs, H2, I2, r, ⟨dx, fs, hi⟩, q2⟩ => ?_) he hpl
  obtain ⟨mA, O, _⟩ := ins_get I2.hok hi
  obtain ⟨od, J, _⟩ := O.look
  refine ⟨⟨C, _, od, J, rfl⟩, wpAny_call (PySem.W.kco_code I2.kIn J rfl h1.at_ h1.fn (callFn_ok hc h1.at_) ?_)⟩
  have r2 : Vals (V.ref a :: vs) (Value.ref a :: us) := .cons rfl r
  have hl : (Value.ref a :: us).length = ps.length := by rw [← r2.length]; exact h4.len _ _ _ _ q2
  refine codeAny_mono (h4.run X.A X.stack s2 H2 ⟨Value.ref a :: us, []⟩ (Value.ref a :: us) (V.ref a :: vs) Q E0 (hr.mono hk) I2.env0 (by simpa using h3 s2 (Value.ref a :: us) I2.kIn (by simpa using hl)) r2 q2) fun r s' hq => ?_
  cases r with
  | error e => exact pass0 pins σ H2 s2 e s' I2 hq
  | ok fl =>
    cases fl with
    | ret u => exact I2.after hq
    | next => exact False.elim hq
    | brk => exact False.elim hq
    | cont => exact False.elim hq
/-! ### lists of whole numbers compared -/
theorem dec_ofNat (ns ms : List Nat) : decide (ns.map Int.ofNat = ms.map Int.ofNat) = decide (ns = ms) := by
  by_cases h : ns = ms
  · subst h; simp
  · have : ¬ ns.map Int.ofNat = ms.map Int.ofNat := fun z => h (List.map_inj_right (fun x y h => Int.ofNat.inj h) |>.mp z)
    rw [decide_eq_false h, decide_eq_false this]
theorem op_neN (hu : X.A.units + 64 < cLine) : OpR X (compareOp .NotEq) (fun x y H Q => ∃ (a b : Addr) (ns ms : List Nat), x = .ref a ∧ y = .ref b ∧ H a = some (.lst (ns.map vN)) ∧ H b = some (.lst (ms.map vN)) ∧ Q (.bl (!decide (ns = ms))) H) := by
  intro pins s σ H x y v u Q I rx ry h
  obtain ⟨a, b, ns, ms, rfl, rfl, ha, hb, q⟩ := h
  rw [vN_ints] at ha hb
  refine op_neL hu pins s σ H _ _ v u Q I rx ry ⟨a, b, _, _, rfl, rfl, ha, hb, ?_⟩
  rw [dec_ofNat]
  exact q
theorem op_eqN (hu : X.A.units + 64 < cLine) : OpR X (compareOp .Eq) (fun x y H Q => ∃ (a b : Addr) (ns ms : List Nat), x = .ref a ∧ y = .ref b ∧ H a = some (.lst (ns.map vN)) ∧ H b = some (.lst (ms.map vN)) ∧ Q (.bl (decide (ns = ms))) H) := by
  intro pins s σ H x y v u Q I rx ry h
  obtain ⟨a, b, ns, ms, rfl, rfl, ha, hb, q⟩ := h
  rw [vN_ints] at ha hb
  refine op_eqL hu pins s σ H _ _ v u Q I rx ry ⟨a, b, _, _, rfl, rfl, ha, hb, ?_⟩
  rw [dec_ofNat]
  exact q
end
end LaneX
set_option Elab.async false
set_option linter.all false
set_option maxRecDepth 100000
set_option maxHeartbeats 0
namespace LaneX
open PySem PySem.Spec PyProof.Rows L2
def fa : List He.Fa := ([.free "abs", .free "any", .free "bool", .free "dict", .free "int", .free "isinstance", .free "len", .free "list", .free "max", .free "min", .free "range", .free "set", .free "sorted", .free "sum", .free "tuple", .glo "Space", .cls "Space", .mkr "Space", .noat "Space" "bits", .noat "Space" "rows"] : List He.Fa) ++ ([.noat "Space" "dimension", .glo "Spread", .cls "Spread", .mkr "Spread", .noat "Spread" "bits", .noat "Spread" "slots", .noat "Spread" "lanes", .glo "SumPlan", .cls "SumPlan", .mkr "SumPlan", .noat "SumPlan" "spread", .noat "SumPlan" "space", .noat "SumPlan" "rounds", .noat "SumPlan" "own_marks", .noat "SumPlan" "own_leaders", .noat "SumPlan" "own_shared", .noat "SumPlan" "own_lanes", .noat "SumPlan" "own_entries", .glo "is_whole", .glo "need_whole"] : List He.Fa) ++ ([.glo "need_items", .glo "need_word", .glo "need_words", .glo "cleared", .glo "grown", .glo "spanned", .glo "paired", .glo "kernel_rows", .glo "met", .glo "need_space", .glo "any_spread", .glo "every", .meth "Space" "__and__", .meth "Space" "completing", .meth "Spread" "slot_space", .meth "Spread" "twins", .glo "need_pair", .glo "partner_rows", .glo "partners", .glo "leaders"] : List He.Fa) ++ ([.glo "kept_bits", .glo "rounds_for", .glo "sum_rounds", .glo "_law_draw", .glo "_law_begin", .glo "_law_pick", .glo "_law_word", .glo "_law_mixed", .glo "_law_left", .glo "_law_basis", .glo "_law_size", .glo "_law_image", .glo "_law_tagged", .glo "_law_kernel", .glo "_law_is_whole", .glo "_law_is_word", .glo "_law_words_for", .glo "_law_spread_words", .glo "_law_counts", .glo "_law_fewest"] : List He.Fa) ++ ([.glo "_law_rounds_due", .glo "_law_space_words", .glo "_law_begun", .glo "ones", .glo "image_of", .glo "solved", .meth "SumPlan" "own_words", .meth "SumPlan" "told_by", .glo "stage_rounds", .meth "SumPlan" "rest_of", .meth "SumPlan" "number_in_team", .meth "SumPlan" "take", .meth "SumPlan" "home", .glo "_law_joined", .glo "_law_played", .glo "_law_homes_right", .meth "Spread" "__eq__", .meth "Space" "__eq__", .glo "law"] : List He.Fa)
def d_is_whole : He.DefD := ⟨("is_whole", none), "is_whole", "is_whole", defArgs s_is_whole, defBody s_is_whole, defScope s_is_whole, [], []⟩
def d_need_whole : He.DefD := ⟨("need_whole", none), "need_whole", "need_whole", defArgs s_need_whole, defBody s_need_whole, defScope s_need_whole, [], []⟩
def d_need_items : He.DefD := ⟨("need_items", none), "need_items", "need_items", defArgs s_need_items, defBody s_need_items, defScope s_need_items, [], []⟩
def d_need_word : He.DefD := ⟨("need_word", none), "need_word", "need_word", defArgs s_need_word, defBody s_need_word, defScope s_need_word, [], []⟩
def d_need_words : He.DefD := ⟨("need_words", none), "need_words", "need_words", defArgs s_need_words, defBody s_need_words, defScope s_need_words, [], []⟩
def d_cleared : He.DefD := ⟨("cleared", none), "cleared", "cleared", defArgs s_cleared, defBody s_cleared, defScope s_cleared, [], []⟩
def d_grown : He.DefD := ⟨("grown", none), "grown", "grown", defArgs s_grown, defBody s_grown, defScope s_grown, [], []⟩
def d_spanned : He.DefD := ⟨("spanned", none), "spanned", "spanned", defArgs s_spanned, defBody s_spanned, defScope s_spanned, [], []⟩
def d_paired : He.DefD := ⟨("paired", none), "paired", "paired", defArgs s_paired, defBody s_paired, defScope s_paired, [], []⟩
def d_kernel_rows : He.DefD := ⟨("kernel_rows", none), "kernel_rows", "kernel_rows", defArgs s_kernel_rows, defBody s_kernel_rows, defScope s_kernel_rows, [], []⟩
def d_met : He.DefD := ⟨("met", none), "met", "met", defArgs s_met, defBody s_met, defScope s_met, [], []⟩
def d_Space_init : He.DefD := ⟨("Space", some "__init__"), "__init__", "Space.__init__", defArgs s_Space_init, defBody s_Space_init, defScope s_Space_init, [], []⟩
def d_Spread_init : He.DefD := ⟨("Spread", some "__init__"), "__init__", "Spread.__init__", defArgs s_Spread_init, defBody s_Spread_init, defScope s_Spread_init, [], []⟩
def d_need_space : He.DefD := ⟨("need_space", none), "need_space", "need_space", defArgs s_need_space, defBody s_need_space, defScope s_need_space, [], []⟩
def d_any_spread : He.DefD := ⟨("any_spread", none), "any_spread", "any_spread", defArgs s_any_spread, defBody s_any_spread, defScope s_any_spread, [], []⟩
def d_every : He.DefD := ⟨("every", none), "every", "every", defArgs s_every, defBody s_every, defScope s_every, [], []⟩
def d_Space_and : He.DefD := ⟨("Space", some "__and__"), "__and__", "Space.__and__", defArgs s_Space_and, defBody s_Space_and, defScope s_Space_and, [], []⟩
def d_Space_completing : He.DefD := ⟨("Space", some "completing"), "completing", "Space.completing", defArgs s_Space_completing, defBody s_Space_completing, defScope s_Space_completing, [], []⟩
def d_Spread_slot_space : He.DefD := ⟨("Spread", some "slot_space"), "slot_space", "Spread.slot_space", defArgs s_Spread_slot_space, defBody s_Spread_slot_space, defScope s_Spread_slot_space, [], []⟩
def d_Spread_twins : He.DefD := ⟨("Spread", some "twins"), "twins", "Spread.twins", defArgs s_Spread_twins, defBody s_Spread_twins, defScope s_Spread_twins, [], []⟩
def d_need_pair : He.DefD := ⟨("need_pair", none), "need_pair", "need_pair", defArgs s_need_pair, defBody s_need_pair, defScope s_need_pair, [], []⟩
def d_partner_rows : He.DefD := ⟨("partner_rows", none), "partner_rows", "partner_rows", defArgs s_partner_rows, defBody s_partner_rows, defScope s_partner_rows, [], []⟩
def d_partners : He.DefD := ⟨("partners", none), "partners", "partners", defArgs s_partners, defBody s_partners, defScope s_partners, [], []⟩
def d_leaders : He.DefD := ⟨("leaders", none), "leaders", "leaders", defArgs s_leaders, defBody s_leaders, defScope s_leaders, [], []⟩
def d_kept_bits : He.DefD := ⟨("kept_bits", none), "kept_bits", "kept_bits", defArgs s_kept_bits, defBody s_kept_bits, defScope s_kept_bits, [], []⟩
def d_rounds_for : He.DefD := ⟨("rounds_for", none), "rounds_for", "rounds_for", defArgs s_rounds_for, defBody s_rounds_for, defScope s_rounds_for, [], []⟩
def d_sum_rounds : He.DefD := ⟨("sum_rounds", none), "sum_rounds", "sum_rounds", defArgs s_sum_rounds, defBody s_sum_rounds, defScope s_sum_rounds, [], []⟩
def d_drawL : He.DefD := ⟨("_law_draw", none), "_law_draw", "_law_draw", defArgs s_drawL, defBody s_drawL, defScope s_drawL, [], []⟩
def d_beginL : He.DefD := ⟨("_law_begin", none), "_law_begin", "_law_begin", defArgs s_beginL, defBody s_beginL, defScope s_beginL, [], []⟩
def d_pickL : He.DefD := ⟨("_law_pick", none), "_law_pick", "_law_pick", defArgs s_pickL, defBody s_pickL, defScope s_pickL, [], []⟩
def d_wordL : He.DefD := ⟨("_law_word", none), "_law_word", "_law_word", defArgs s_wordL, defBody s_wordL, defScope s_wordL, [], []⟩
def d_mixedL : He.DefD := ⟨("_law_mixed", none), "_law_mixed", "_law_mixed", defArgs s_mixedL, defBody s_mixedL, defScope s_mixedL, [], []⟩
def d_leftL : He.DefD := ⟨("_law_left", none), "_law_left", "_law_left", defArgs s_leftL, defBody s_leftL, defScope s_leftL, [], []⟩
def d_basisL : He.DefD := ⟨("_law_basis", none), "_law_basis", "_law_basis", defArgs s_basisL, defBody s_basisL, defScope s_basisL, [], []⟩
def d_sizeL : He.DefD := ⟨("_law_size", none), "_law_size", "_law_size", defArgs s_sizeL, defBody s_sizeL, defScope s_sizeL, [], []⟩
def d_imageL : He.DefD := ⟨("_law_image", none), "_law_image", "_law_image", defArgs s_imageL, defBody s_imageL, defScope s_imageL, [], []⟩
def d_taggedL : He.DefD := ⟨("_law_tagged", none), "_law_tagged", "_law_tagged", defArgs s_taggedL, defBody s_taggedL, defScope s_taggedL, [], []⟩
def d_kernelL : He.DefD := ⟨("_law_kernel", none), "_law_kernel", "_law_kernel", defArgs s_kernelL, defBody s_kernelL, defScope s_kernelL, [], []⟩
def d_is_wholeL : He.DefD := ⟨("_law_is_whole", none), "_law_is_whole", "_law_is_whole", defArgs s_is_wholeL, defBody s_is_wholeL, defScope s_is_wholeL, [], []⟩
def d_is_wordL : He.DefD := ⟨("_law_is_word", none), "_law_is_word", "_law_is_word", defArgs s_is_wordL, defBody s_is_wordL, defScope s_is_wordL, [], []⟩
def d_words_forL : He.DefD := ⟨("_law_words_for", none), "_law_words_for", "_law_words_for", defArgs s_words_forL, defBody s_words_forL, defScope s_words_forL, [], []⟩
def d_spread_wordsL : He.DefD := ⟨("_law_spread_words", none), "_law_spread_words", "_law_spread_words", defArgs s_spread_wordsL, defBody s_spread_wordsL, defScope s_spread_wordsL, [], []⟩
def d_countsL : He.DefD := ⟨("_law_counts", none), "_law_counts", "_law_counts", defArgs s_countsL, defBody s_countsL, defScope s_countsL, [], []⟩
def d_fewestL : He.DefD := ⟨("_law_fewest", none), "_law_fewest", "_law_fewest", defArgs s_fewestL, defBody s_fewestL, defScope s_fewestL, [], []⟩
def d_rounds_dueL : He.DefD := ⟨("_law_rounds_due", none), "_law_rounds_due", "_law_rounds_due", defArgs s_rounds_dueL, defBody s_rounds_dueL, defScope s_rounds_dueL, [], []⟩
def d_space_wordsL : He.DefD := ⟨("_law_space_words", none), "_law_space_words", "_law_space_words", defArgs s_space_wordsL, defBody s_space_wordsL, defScope s_space_wordsL, [], []⟩
def d_begunL : He.DefD := ⟨("_law_begun", none), "_law_begun", "_law_begun", defArgs s_begunL, defBody s_begunL, defScope s_begunL, [], []⟩
def d_ones : He.DefD := ⟨("ones", none), "ones", "ones", defArgs s_ones, defBody s_ones, defScope s_ones, [], []⟩
def d_image_of : He.DefD := ⟨("image_of", none), "image_of", "image_of", defArgs s_image_of, defBody s_image_of, defScope s_image_of, [], []⟩
def d_solved : He.DefD := ⟨("solved", none), "solved", "solved", defArgs s_solved, defBody s_solved, defScope s_solved, [], []⟩
def d_SumPlan_own_words : He.DefD := ⟨("SumPlan", some "own_words"), "own_words", "SumPlan.own_words", defArgs s_SumPlan_own_words, defBody s_SumPlan_own_words, defScope s_SumPlan_own_words, [], []⟩
def d_SumPlan_told_by : He.DefD := ⟨("SumPlan", some "told_by"), "told_by", "SumPlan.told_by", defArgs s_SumPlan_told_by, defBody s_SumPlan_told_by, defScope s_SumPlan_told_by, [], []⟩
def d_SumPlan_init : He.DefD := ⟨("SumPlan", some "__init__"), "__init__", "SumPlan.__init__", defArgs s_SumPlan_init, defBody s_SumPlan_init, defScope s_SumPlan_init, [], []⟩
def d_stage_rounds : He.DefD := ⟨("stage_rounds", none), "stage_rounds", "stage_rounds", defArgs s_stage_rounds, defBody s_stage_rounds, defScope s_stage_rounds, [], []⟩
def d_SumPlan_rest_of : He.DefD := ⟨("SumPlan", some "rest_of"), "rest_of", "SumPlan.rest_of", defArgs s_SumPlan_rest_of, defBody s_SumPlan_rest_of, defScope s_SumPlan_rest_of, [], []⟩
def d_SumPlan_number_in_team : He.DefD := ⟨("SumPlan", some "number_in_team"), "number_in_team", "SumPlan.number_in_team", defArgs s_SumPlan_number_in_team, defBody s_SumPlan_number_in_team, defScope s_SumPlan_number_in_team, [], []⟩
def d_SumPlan_take : He.DefD := ⟨("SumPlan", some "take"), "take", "SumPlan.take", defArgs s_SumPlan_take, defBody s_SumPlan_take, defScope s_SumPlan_take, [], []⟩
def d_SumPlan_home : He.DefD := ⟨("SumPlan", some "home"), "home", "SumPlan.home", defArgs s_SumPlan_home, defBody s_SumPlan_home, defScope s_SumPlan_home, [], []⟩
def d_joinedL : He.DefD := ⟨("_law_joined", none), "_law_joined", "_law_joined", defArgs s_joinedL, defBody s_joinedL, defScope s_joinedL, [], []⟩
def d_playedL : He.DefD := ⟨("_law_played", none), "_law_played", "_law_played", defArgs s_playedL, defBody s_playedL, defScope s_playedL, [], []⟩
def d_homes_rightL : He.DefD := ⟨("_law_homes_right", none), "_law_homes_right", "_law_homes_right", defArgs s_homes_rightL, defBody s_homes_rightL, defScope s_homes_rightL, [], []⟩
def d_Spread_eq : He.DefD := ⟨("Spread", some "__eq__"), "__eq__", "Spread.__eq__", defArgs s_Spread_eq, defBody s_Spread_eq, defScope s_Spread_eq, [], []⟩
def d_Space_eq : He.DefD := ⟨("Space", some "__eq__"), "__eq__", "Space.__eq__", defArgs s_Space_eq, defBody s_Space_eq, defScope s_Space_eq, [], []⟩
def d_law : He.DefD := ⟨("law", none), "law", "law", defArgs s_law, defBody s_law, defScope s_law, [], []⟩
def fn : List He.DefD := ([d_is_whole, d_need_whole, d_need_items, d_need_word, d_need_words, d_cleared, d_grown, d_spanned, d_paired, d_kernel_rows, d_met, d_Space_init, d_Spread_init, d_need_space, d_any_spread, d_every, d_Space_and, d_Space_completing, d_Spread_slot_space, d_Spread_twins] : List He.DefD) ++ ([d_need_pair, d_partner_rows, d_partners, d_leaders, d_kept_bits, d_rounds_for, d_sum_rounds, d_drawL, d_beginL, d_pickL, d_wordL, d_mixedL, d_leftL, d_basisL, d_sizeL, d_imageL, d_taggedL, d_kernelL, d_is_wholeL, d_is_wordL] : List He.DefD) ++ ([d_words_forL, d_spread_wordsL, d_countsL, d_fewestL, d_rounds_dueL, d_space_wordsL, d_begunL, d_ones, d_image_of, d_solved, d_SumPlan_own_words, d_SumPlan_told_by, d_SumPlan_init, d_stage_rounds, d_SumPlan_rest_of, d_SumPlan_number_in_team, d_SumPlan_take, d_SumPlan_home, d_joinedL, d_playedL] : List He.DefD) ++ ([d_homes_rightL, d_Spread_eq, d_Space_eq, d_law] : List He.DefD)
def exC (K : PySem.W.Frag) (C : Addr) : Bool := He.eqO (PySem.W.findIn K (.ref C) "__class__") (some (some (.builtin "object.__class__"))) && (decide (PySem.W.takesIn K (.builtin "object.__class__") = some true) && (decide (PySem.W.mroIn K C (.type "object") = some true) && (decide (PySem.W.kitOne K (.ref C) (.ref C) = some true) && (He.eqO (PySem.W.specialIn K (.builtin "object.__class__") "__get__") (some (some (.builtin "getset_descriptor.__get__"))) && PySem.W.selfFirst K C))))
def exB (K : PySem.W.Frag) : Bool := exC K (He.ga K "Space") && exC K (He.ga K "Spread") && exC K (He.ga K "SumPlan") && He.eqO (PySem.W.findIn K (.ref (He.ga K "Space")) "__ne__") (some (some (.builtin "object.__ne__"))) && He.eqO (PySem.W.findIn K (.ref (He.ga K "Spread")) "__ne__") (some (some (.builtin "object.__ne__"))) && He.eqO (PySem.W.findIn K (.ref (He.ga K "SumPlan")) "__eq__") (some (some (.builtin "object.__eq__")))
abbrev R : PySem.W.OpenRow := PySem.W.OpenLaw.row PySem.Challenge.rw_laneswap_k34_whole_sum_plans
abbrev hk : PySem.W.Hook := He.hookX 4 fa fn [] [] exB
def ob (s : PySem.W.SharedT) : He.AlX := He.obsX 4 fa fn [] [] exB (HandSHeadRun.getT s)
theorem ob_eq (s : PySem.W.SharedT) : ob s = hk.obs s.abs := He.obsX_eq (HandSHeadRun.getT_eq s)
def names : List Str := (["_wall", "__name__", "LaneError", "BadValue", "NotOnto", "NotApart", "is_whole", "need_whole", "need_items", "need_word", "need_words", "ones", "cleared", "grown", "spanned", "tops_of", "missing", "image_of", "paired", "kernel_rows"] : List Str) ++ (["solved", "met", "Space", "need_space", "every", "Spread", "any_spread", "left_over", "need_pair", "partner_rows", "partners", "leaders", "kept_bits", "rounds_for", "sum_rounds", "SumPlan", "stage_rounds", "_law_begin", "_law_draw", "_law_pick"] : List Str) ++ (["_law_word", "_law_mixed", "_law_left", "_law_basis", "_law_size", "_law_image", "_law_tagged", "_law_kernel", "_law_is_whole", "_law_is_word", "_law_words_for", "_law_spread_words", "_law_counts", "_law_space_words", "_law_fewest", "_law_rounds_due", "_law_begun", "_law_joined", "_law_played", "_law_homes_right"] : List Str)
/-- what is seen, in two looks -/
theorem two_obs {σ β : Type} {O : Option σ} {l : σ → Bool} {q : σ → β} {g : σ → Addr → Option Obj} {lv : Bool} {qv : β} {w : World} {fa : List He.Fa} {fn : List He.DefD} {ex : PySem.W.Frag → Bool} {tf : List He.Defn} (a : O.map (fun s => (l s, q s, He.obsX 4 fa [] [] tf ex (g s))) = some (lv, qv, He.valX [] [] w))
    (b : O.map (fun s => He.obsX 4 [] fn [] [] (fun _ => true) (g s)) = some (He.valX fn [] w)) : O.map (fun s => (l s, q s, He.obsX 4 fa fn [] tf ex (g s))) = some (lv, qv, He.valX fn [] w) := by
  cases O with
  | none => cases a
  | some s =>
    have a := Option.some.inj a
    have b := Option.some.inj b
    obtain ⟨a1, a⟩ := Prod.mk.inj a
    obtain ⟨a2, a⟩ := Prod.mk.inj a
    unfold He.obsX He.valX He.obsT He.valT He.obsD He.valD at a b
    obtain ⟨a3, a4⟩ := Prod.mk.inj a
    obtain ⟨b3, b4⟩ := Prod.mk.inj b
    have a5 := (Prod.mk.inj (Prod.mk.inj a3).1).1
    obtain ⟨b5, b6⟩ := Prod.mk.inj (Prod.mk.inj b3).1
    show some (l s, q s, He.obsX 4 fa fn [] tf ex (g s)) = _
    unfold He.obsX He.valX He.obsT He.valT He.obsD He.valD
    rw [a1, a2]
    rw [List.all_nil, Bool.and_true] at a5
    rw [List.all_nil, Bool.true_and] at b5
    rw [a4, a5, b5, b6]
    rfl
theorem runA (w : World) : HandSHeadRun.RunEq R (PySem.W.view R.prog [67]) (He.hookX 4 fa [] [] [] exB) (fun s => He.obsX 4 fa [] [] [] exB (HandSHeadRun.getT s)) 6000 names w := by
  intro os
  kernel_rfl
theorem runB (w : World) : ∀ os : OsState, (HandSHeadRun.endF (HandSHeadRun.stepQ (HandSHeadRun.denQ HandSHeadRun.tabQ) R.prog w) 6000 R.prog w os).map (fun s => He.obsX 4 [] fn [] [] (fun _ => true) (HandSHeadRun.getT s)) = some (He.valX fn [] w) := by
  intro os
  kernel_rfl
theorem run (w : World) : HandSHeadRun.RunEq R (PySem.W.view R.prog [67]) hk ob 6000 names w := fun os => two_obs (runA w os) (runB w os)
/-- the head, but for the walk -/
theorem hd (hc : PySem.W.WalkO (PySem.W.view (PySem.W.OpenLaw.row PySem.Challenge.rw_laneswap_k34_whole_sum_plans).prog [67]) names (PySem.W.XL (PySem.W.view (PySem.W.OpenLaw.row PySem.Challenge.rw_laneswap_k34_whole_sum_plans).prog [67]) []) hk.says (PySem.W.OpenLaw.row PySem.Challenge.rw_laneswap_k34_whole_sum_plans).toRowW (HandSHeadRun.topDef (PySem.W.OpenLaw.row PySem.Challenge.rw_laneswap_k34_whole_sum_plans).prog 67) [] fun f vs => PySem.call f vs) : PySem.Challenge.rw_laneswap_k34_whole_sum_plans.Holds := by
  w_on; o_law
  refine HandSHeadRun.head_any (r := PySem.W.OpenLaw.row PySem.Challenge.rw_laneswap_k34_whole_sum_plans) (q := PySem.W.view (PySem.W.OpenLaw.row PySem.Challenge.rw_laneswap_k34_whole_sum_plans).prog [67]) (H := LaneX.hk) (ob := LaneX.ob) (M := 6000) (loose := LaneX.names) (d := HandSHeadRun.topDef (PySem.W.OpenLaw.row PySem.Challenge.rw_laneswap_k34_whole_sum_plans).prog 67) (kwd := []) LaneX.ob_eq
    (by kernel_rfl) (fun s => by kernel_rfl) LaneX.run (by kernel_rfl) (by kernel_rfl) (by kernel_rfl) (by rfl) (by first | assumption | decide +kernel) (by decide +kernel) ⟨rfl, rfl, rfl, rfl, rfl, by decide +kernel⟩ ?hw hc
  case hw => w_witness2
theorem dp_law : (HandSHeadRun.topDef (PySem.W.OpenLaw.row PySem.Challenge.rw_laneswap_k34_whole_sum_plans).prog 67).params.defaults = [] := by kernel_rfl
theorem nm_law : (HandSHeadRun.topDef (PySem.W.OpenLaw.row PySem.Challenge.rw_laneswap_k34_whole_sum_plans).prog 67).name = ("law" : PySem.Str) := by kernel_rfl
end LaneX
set_option Elab.async false
set_option linter.all false
set_option maxRecDepth 100000
set_option maxHeartbeats 4000000
namespace LaneX
open PySem PySem.Spec PyProof.Rows L2
/-! ### == and != of own classes -/
section
variable {X : Cx}
/-- an own def, called somewhere below the running body -/
theorem call_below {k : Nat} {f : Addr} {fd : FuncData} {ps : List Str} {sp : Sp} {A : Around} {pins : List (Addr × Obj)} {σ : L2.St} {H : Hp} {s : Shared} {vs : List V} {us : List Value} {Q : VK} (F : FnOk X.prog X.w X.K X.mg X.base CX0 k f fd ps sp) (hb : Binds X.K fd ps [])
    (sb : Sub X k A) (I : Inv X pins σ H s) (r : Vals vs us) (hsp : sp vs H Q E0) : wpAny (model X.prog X.w) A (call (.ref f) us) (EP X pins σ Q) X.xe s := by
  have e0 : Env0 X.prog X.w X.K X.mg X.base A X.stack s H := by
    have e := I.env0
    exact ⟨by rw [sb.fr]; exact e.frames, e.mod, e.bs, e.bsz, e.funs, e.frf, e.hok, e.bare⟩
  have hl := F.len _ _ _ _ hsp
  refine wpAny_call (codeAny_mono (F.run A X.stack s H ⟨us, []⟩ us vs _ E0 sb.room e0 (by
    have := hb s us I.kIn (by have := r.length; simp; omega)
    simpa using this) r hsp) fun r s' hq => ?_)
  cases r with
  | error e => exact pass0 pins σ H s e s' I hq
  | ok fl =>
    cases fl with
    | ret w =>
      obtain ⟨z, H', I', rz, q⟩ := I.after hq
      exact ⟨z, H', I', rz, q⟩
    | next => exact False.elim hq
    | brk => exact False.elim hq
    | cont => exact False.elim hq
/-- x == y, both of the class at C, by its own __eq__ -/
theorem op_eqO {k j : Nat} {C : Addr} {ps : List Str} {sp : Sp} (D : Mn X.prog X.w X.K X.mg X.base k C "__eq__" ps sp) (hr : Room j X.A) (hk : k ≤ j := by decide) : OpR X (compareOp .Eq) (rOwn C sp) := by
  intro pins s σ H x y v u Q I rx ry h
  obtain ⟨a, b, dx, dy, fs, gs, rfl, rfl, ha, hb, hsp⟩ := h
  obtain ⟨f, fd, h1, h3, h4⟩ := D.ex
  cases (show v = Value.ref a from rx)
  cases (show u = Value.ref b from ry)
  obtain ⟨mA, O, _⟩ := ins_get I.hok ha
  obtain ⟨od, J, _⟩ := O.look
  obtain ⟨mB, O2, _⟩ := ins_get I.hok hb
  obtain ⟨od2, J2, _⟩ := O2.look
  obtain ⟨mm, F⟩ := I.fr
  show wpAny (model X.prog X.w) X.A (richCompare .Eq (.ref a) (.ref b)) (EP X pins σ Q) X.xe s
  refine PySem.W.cmp_K (op := .Eq) (tb := .ref C) hr.units0 F I.mod.kin J J2.type (by simp [PySem.W.notFirst]) h1.at_ h1.fn ?_
  exact wpAny_mono (call_below (vs := [.ref a, .ref b]) (us := [Value.ref a, Value.ref b]) h4 h3 ⟨hr.mono hk, rfl⟩ I (.cons rfl (.cons rfl .nil)) hsp) (fun v s' hq => back_of hq) fun _ _ z => z
/-- x != y, both of the class at C, by its own __eq__ (no own __ne__) -/
def rNeO (C : Addr) (sp : Sp) : R2 := fun x y H Q => ∃ (a b dx dy : Addr) (fs gs : List (Str × V)), x = .ref a ∧ y = .ref b ∧ H a = some (.ins C dx fs) ∧ H b = some (.ins C dy gs) ∧ sp [.ref a, .ref b] H (fun v H' => ∃ r : Bool, v = .bl r ∧ Q (.bl (!r)) H') E0
theorem ifBound_ne {M : Model} {A : Around} {E : Value → Shared → Prop} {s : Shared} {K : PySem.W.Frag} {x C : Addr} {ox : Obj} {od : Option Obj} {args : List Value} {Q : Option Value → Shared → Prop} (X : K.In s.heap) (I : PySem.W.InstAt s.heap x ox C od)
    (hs : PySem.W.findIn K (.ref C) "__ne__" = some (some (.builtin "object.__ne__"))) (h : wpAny M A (call (.builtin "object.__ne__") (.ref x :: args)) (fun v => Q (some v)) E s) : wpAny M A (callSpecialIfBound? (.ref x) "__ne__" args) Q E s := by
  simp only [callSpecialIfBound?, bindSpecialIfBound?]
  refine wpAny_holding (wpAny_bind (wpAny_bind (wpAny_bind (I.type.here ((PySem.W.looks_findIn X hs).here ?_)))))
  refine wpAny_bind (wpAny_askSetting (wpAny_ite ?_))
  have fin : wpAny M A (call (.builtin "object.__ne__") ([.ref x] ++ args) >>= fun v => pure (some v)) Q E s := wpAny_bind (wpAny_mono h (fun v s' h' => wpAny_pure h') fun _ _ h' => h')
  split
  · exact wpAny_bind (wpAny_of_eq (F.cmp_object.ne.bind _) (wpAny_pure (by exact fin)))
  · exact wpAny_tryCatch (wpAny_bind (wpAny_of_eq (F.cmp_object.ne.bind _) (wpAny_pure (by exact fin))))
theorem op_neO {k j : Nat} {C : Addr} {ps : List Str} {sp : Sp} (D : Mn X.prog X.w X.K X.mg X.base k C "__eq__" ps sp) (hne : PySem.W.findIn X.K (.ref C) "__ne__" = some (some (.builtin "object.__ne__"))) (hm : PySem.W.mroIn X.K C (.type "object") = some true) (hr : Room j X.A) (hk : k + 1 ≤ j := by decide) :
    OpR X (compareOp .NotEq) (rNeO C sp) := by
  intro pins s σ H x y v u Q I rx ry h
  obtain ⟨a, b, dx, dy, fs, gs, rfl, rfl, ha, hb, hsp⟩ := h
  obtain ⟨f, fd, h1, h3, h4⟩ := D.ex
  cases (show v = Value.ref a from rx)
  cases (show u = Value.ref b from ry)
  obtain ⟨mA, O, _⟩ := ins_get I.hok ha
  obtain ⟨od, J, _⟩ := O.look
  obtain ⟨mB, O2, _⟩ := ins_get I.hok hb
  obtain ⟨od2, J2, _⟩ := O2.look
  have KX := I.kIn
  have r1 : Room (k + 1) X.A := hr.mono hk
  have rb := call_below (A := X.A.in1) h4 h3 ⟨r1.in1, rfl⟩ I (.cons rfl (.cons rfl .nil)) hsp (vs := [.ref a, .ref b]) (us := [Value.ref a, Value.ref b])
  have hu1 : X.A.in1.units < cLine := r1.in1.units0
  have one : wpAny (model X.prog X.w) X.A (tryCompare (.ref a) "__ne__" (.ref b)) (fun r s' => ∃ v, r = some v ∧ EP X pins σ Q v s') X.xe s := by
    unfold tryCompare
    refine wpAny_bind (ifBound_ne KX J hne (wpAny_call (codeAny_call_builtin F.cmp_object.ne.plain F.cmpEntry_ne (PySem.W.check_slot F.cmpKind_ne F.cmpSplit_ne (J.type.andThen (PySem.W.looks_mroIn KX hm)) (F.cmpArgs_ne _ _) ?_))))
    unfold Builtin.«object.__ne__»
    repeat (first | with_reducible refine wpAny_cRoomFor hu1 ?_ | (with_reducible refine PySem.W.ifBound_K KX J h1.at_ h1.fn ?_; refine wpAny_mono rb ?_ ?_) | wp_step)
    · intro v s' hq
      obtain ⟨z, H', I', rz, r, ez, q⟩ := hq
      subst ez
      cases (show v = Value.bool r from rz)
      refine wpAny_bind (wpAny_truthy_bool (wpAny_pure ?_))
      exact wpAny_pure ⟨_, rfl, .bl (!r), H', I', rfl, q⟩
    · exact fun _ _ z => z
  show wpAny (model X.prog X.w) X.A (richCompare .NotEq (.ref a) (.ref b)) (EP X pins σ Q) X.xe s
  unfold richCompare
  simp only [oneThing_ref]
  refine wpAny_holding (wpAny_bind (wpAny_cRoomFor hr.units0 ?_))
  refine wpAny_bind (J.type.here (wpAny_bind (J2.type.here ?_)))
  rw [if_neg (by simp)]
  refine wpAny_bind (wpAny_pure ?_)
  simp only [Bool.false_eq_true, if_false]
  refine wpAny_bind (wpAny_mono one (fun r s' z => ?_) fun _ _ e => e)
  obtain ⟨v, rfl, hq⟩ := z
  exact wpAny_pure hq
/-- x == y of two instances of one class without an own __eq__ -/
def rEqI (C : Addr) : R2 := fun x y H Q => ∃ (a b dx dy : Addr) (fs gs : List (Str × V)), x = .ref a ∧ y = .ref b ∧ a ≠ b ∧ H a = some (.ins C dx fs) ∧ H b = some (.ins C dy gs) ∧ Q (.bl false) H
theorem op_eqI {j : Nat} {C : Addr} (heq : PySem.W.findIn X.K (.ref C) "__eq__" = some (some (.builtin "object.__eq__"))) (hm : PySem.W.mroIn X.K C (.type "object") = some true) (hr : Room j X.A) : OpR X (compareOp .Eq) (rEqI C) := by
  intro pins s σ H x y v u Q I rx ry h
  obtain ⟨a, b, dx, dy, fs, gs, rfl, rfl, hne, ha, hb, q⟩ := h
  cases (show v = Value.ref a from rx)
  cases (show u = Value.ref b from ry)
  obtain ⟨mA, O, _⟩ := ins_get I.hok ha
  obtain ⟨od, J, _⟩ := O.look
  obtain ⟨mB, O2, _⟩ := ins_get I.hok hb
  obtain ⟨od2, J2, _⟩ := O2.look
  have KX := I.kIn
  have one : ∀ {x y : Addr} {ox oy : Obj} {ex ey : Option Obj}, x ≠ y → PySem.W.InstAt s.heap x ox C ex → PySem.W.InstAt s.heap y oy C ey → wpAny (model X.prog X.w) X.A (tryCompare (.ref x) "__eq__" (.ref y)) (fun r s' => r = none ∧ s' = s) X.xe s := by
    intro x y ox oy ex ey nxy Jx Jy
    unfold tryCompare
    refine wpAny_bind (HN.ifBound_objEq KX Jx heq (wpAny_call (codeAny_call_builtin F.cmp_object.eq.plain F.cmpEntry_eq (PySem.W.check_slot F.cmpKind_eq F.cmpSplit_eq (Jx.type.andThen (PySem.W.looks_mroIn KX hm)) (F.cmpArgs_eq _ _) ?_))))
    exact objEq_entry_other nxy Jx.at_ Jy.at_ (by rw [Jx.cls]; intro z; cases z) (wpAny_pure ⟨rfl, rfl⟩)
  show wpAny (model X.prog X.w) X.A (richCompare .Eq (.ref a) (.ref b)) (EP X pins σ Q) X.xe s
  simp only [richCompare, cmpInfo_Eq, oneThing_ref]
  refine wpAny_holding (wpAny_bind (wpAny_cRoomFor hr.units0 ?_))
  refine wpAny_bind (J.type.here (wpAny_bind (J2.type.here ?_)))
  rw [if_neg (by simp)]
  refine wpAny_bind (wpAny_pure ?_)
  simp only [Bool.false_eq_true, if_false, Bool.not_false, if_true]
  refine wpAny_bind (wpAny_mono (one hne J J2) (fun r s1 z => ?_) fun _ _ e => e)
  obtain ⟨z1, z2⟩ := z
  subst z1
  subst z2
  refine wpAny_bind (wpAny_mono (one hne.symm J2 J) (fun r s2 z => ?_) fun _ _ e => e)
  obtain ⟨z1, z2⟩ := z
  subst z1
  subst z2
  exact wpAny_bind (wpAny_rule (wpAny_bind (wpAny_isSame_ref_other hne J.at_ J2.at_ (by rw [J.cls]; intro z; cases z) (wpAny_pure ⟨.bl false, H, I, rfl, q⟩))))
end
end LaneX
set_option Elab.async false
set_option linter.all false
set_option maxRecDepth 100000
set_option maxHeartbeats 4000000
namespace LaneX
open PySem PySem.Spec PyProof.Rows L2
/-! ### enumerate(t), t a tuple -/
theorem meets_enumT {v : Value} {o : Obj} {H : Heap → Prop} (B : Begins v o H) :
    Meets (Builtin.«enumerate.__new__» ⟨[.type "enumerate", v], []⟩) (fun _ R s => H s.heap ∧
      R (.ok (.ret (.ref (s.heap.push o).objs.size))) { s with heap := (s.heap.push o).push { cls := .type "enumerate", data := .fields #[.none, .bool false, .ref s.heap.objs.size, rawInt 0, .none, .none] } }) := by
  refine .of_wp fun prog w A R s h => ?_
  obtain ⟨hp, g, d, tk, os⟩ := s
  obtain ⟨h1, h2⟩ := h
  have subE := sub_enumerate
  have itE : ∀ {A1 : Around} {E1 : Value → Shared → Prop} {Q1 : Value → Shared → Prop}, Q1 (.ref hp.objs.size) ⟨hp.push o, g, d, tk, os⟩ → wpAny (model prog w) A1 (pyIter v) Q1 E1 ⟨hp, g, d, tk, os⟩ := fun q => B.iter prog w _ _ ⟨hp, g, d, tk, os⟩ _ h1 q
  wp_walk using itE
  refine wpAny_stack_any fun st => wpAny_pure ?_
  split
  · rename_i c _ _ _ _ _
    cases (c == Value.type "enumerate") <;> (wp_walk using itE; exact ⟨_, rfl, h2⟩)
  · wp_walk using itE
    exact ⟨_, rfl, h2⟩
theorem call_enumT {P : Program} {w : World} {A : Around} {E : Value → Shared → Prop} {s : Shared} {t : Addr} {items : Array Value} {Q : Value → Shared → Prop} (hT : s.heap.IsTuple t items)
    (h : ∀ h', IsEnum h' (s.heap.objs.size + 1) s.heap.objs.size 0 .none → h'.IsTupleIter s.heap.objs.size t 0 → (∀ b o, s.heap.get? b = some o → h'.get? b = some o) → Q (.ref (s.heap.objs.size + 1)) { s with heap := h' }) :
    wpAny (model P w) A (call (.type "enumerate") [.ref t]) Q E s := by
  refine callType_new F.called_enumerate (by decide) (F.typeCall_enumerate_1 _) (F.newCall_enumerate_1 _) (fun obj => F.args_object_init_2 obj _) F.entry_enumerate_new (meets_enumT (begins_tuple t items)) ⟨hT, ?_⟩
  have sz : ∀ o : Obj, (s.heap.push o).objs.size = s.heap.objs.size + 1 := fun o => Heap.size_push ..
  show _ ∧ _
  rw [sz]
  have e1 : ∀ (o u : Obj), u.isFreed = false → ((s.heap.push o).push u).get? (s.heap.objs.size + 1) = some u := fun o u hu => by
    have := Heap.get?_push_size (s.heap.push o) (o := u) hu
    rwa [sz] at this
  have he := e1 { cls := .type "tuple_iterator", data := .fields #[.ref t, .int 0 0] } { cls := .type "enumerate", data := .fields #[.none, .bool false, .ref s.heap.objs.size, rawInt 0, .none, .none] } rfl
  exact ⟨⟨_, he, rfl⟩, h _ he ⟨_, Heap.get?_push_of_some _ (Heap.get?_push_size _ rfl), rfl, rfl⟩ fun b o z => Heap.get?_push_of_some _ (Heap.get?_push_of_some _ z)⟩
def Itu (K : PySem.W.Frag) (a : Addr) : It :=
  ⟨fun i H => ∃ (xs : List V) (x : V), SqT K H a xs ∧ xs[i]? = some x, fun i H v H' => ∃ T x, v = .ref T ∧ H T = none ∧ H' = upd H T (.tup [.int (i : Nat), x]) ∧ ∀ xs, SqT K H a xs → xs[i]? = some x, fun i H => ∃ xs : List V, SqT K H a xs ∧ xs.length ≤ i⟩
theorem turn_enumT {P : Program} {w : World} {K : PySem.W.Frag} {elts : List Expr} {kk : Nat} {tpos : Pos} (a e it : Addr) :
    Turn P w K (.Tuple elts kk tpos) (Itu K a) [e, it] e (fun i h => (∃ old, IsEnum h e it ((i : Nat) : Int) old) ∧ h.IsTupleIter it a i ∧ e ≠ it) where
  mem := List.mem_cons_self
  obj := fun i h st b hb => by
    obtain ⟨⟨old, he⟩, ⟨o, ho, hc, hd⟩, _⟩ := st
    rcases List.mem_cons.mp hb with z | z
    · subst z; exact ⟨_, he, fun v q => nomatch q⟩
    · rcases List.mem_singleton.mp z with z
      subst z; exact ⟨o, ho, fun v q => by rw [hd] at q; cases q⟩
  keep := fun i h h' st k => by
    obtain ⟨⟨old, he⟩, hi, hne⟩ := st
    exact ⟨⟨old, k e List.mem_cons_self _ he⟩, hi.at fun o q => k it (List.mem_cons_of_mem _ List.mem_cons_self) o q, hne⟩
  item := by
    intro X hP hw hK hc i pins s σ H E I hf st hg
    subst hP hw hK
    obtain ⟨⟨old, he⟩, hit, hne⟩ := st
    obtain ⟨xs, x, hq, hx⟩ := hg
    obtain ⟨its, rv, p, hz⟩ := I.tuple hq
    have p' : s.heap.IsTuple a its.toArray := p
    obtain ⟨u, hu, ru⟩ := rv.get hx
    have hel : e < s.heap.objs.size := Heap.lt_size he
    have hil : it < s.heap.objs.size := by obtain ⟨_, q, _⟩ := hit; exact Heap.lt_size q
    have nai : a ≠ it := fun z => by
      obtain ⟨o1, q1, c1, _⟩ := hit
      obtain ⟨o2, q2, c2, _⟩ := p'
      rw [z, q1] at q2; cases q2; rw [c1] at c2; exact absurd c2 (by decide)
    have nea : e ≠ a := fun z => by
      obtain ⟨o2, q2, c2, _⟩ := p'
      rw [← z, show s.heap.get? e = _ from he] at q2; cases q2; exact absurd (show Value.type "enumerate" = Value.type "tuple" from c2) (by decide)
    have hlt : i < its.toArray.size := by
      rw [List.size_toArray]
      exact (List.getElem?_eq_some_iff.mp hu).1
    refine wpAny_pyNext_enum_itemD (Draws.tuple (A := X.A.in1) (by simpa using I.ok.hd hc) it a nai its.toArray) he ⟨hit, p'⟩ hlt hne (by simp [hne, nea]) fun y h' tk hy ho st' hT hsz hk => ?_
    have ey : y = u := by
      rw [List.getElem?_toArray, hu] at hy
      exact (Option.some.inj hy).symm
    subst ey
    refine ⟨_, rfl, wpAny_letOwnedTupleGo_enum (s := { s with heap := h', toks := tk + 1 }) ho fun h'' he' sb => ?_⟩
    have hT2 : h''.get? s.heap.objs.size = some { cls := .type "tuple", data := .seq #[.int i tk, y] } := (sb.2 _ (Nat.ne_of_gt hel)).trans hT
    have new : ObjOk X.prog X.w (upd H s.heap.objs.size (.tup [.int (i : Nat), x])) h'' s.heap.objs.size (.tup [.int (i : Nat), x]) :=
      ⟨(by show 2 ≤ sizeLine; decide), [.int i tk, y], .cons ⟨_, rfl⟩ (.cons ru .nil), ⟨_, hT2, rfl, _, rfl⟩⟩
    have I1 : Inv X pins σ (upd H s.heap.objs.size (.tup [.int (i : Nat), x])) { s with heap := h'', toks := tk + 1 } :=
      I.turnedNew (ch := [e, it]) (fun b ob hb q => (sb.2 b (fun z => hb (by simp [z]))).trans (hk b ob (fun z => hb (by simp [z])) (fun z => hb (by simp [z])) q)) hf (Nat.le_refl _) new
    refine ⟨.ref s.heap.objs.size, _, I1, rfl, ⟨_, x, rfl, I.hok.fresh (Nat.le_refl _), rfl, fun ys hy => ?_⟩, ⟨⟨y, ?_⟩, st'.1.at fun o q => (sb.2 it (Ne.symm hne)).trans q, hne⟩, fun b hb => ?_⟩
    · rw [I.tuple_inj hy hq]; exact hx
    · rw [show ((i + 1 : Nat) : Int) = (i : Int) + 1 by omega]; exact he'
    · have hb' : b < s.heap.objs.size := by
        rcases List.mem_cons.mp hb with z | z
        · rw [z]; exact hel
        · rw [List.mem_singleton.mp z]; exact hil
      rw [upd_ne (Nat.ne_of_lt hb')]
      exact (hf b hb).1
  done := by
    intro X hP hw hK hc i pins s σ H E I hf st hg
    subst hP hw hK
    obtain ⟨⟨old, he⟩, hit, hne⟩ := st
    obtain ⟨xs, hq, hx⟩ := hg
    obtain ⟨its, rv, p, hz⟩ := I.tuple hq
    have p' : s.heap.IsTuple a its.toArray := p
    have nai : a ≠ it := fun z => by
      obtain ⟨o1, q1, c1, _⟩ := hit
      obtain ⟨o2, q2, c2, _⟩ := p'
      rw [z, q1] at q2; cases q2; rw [c1] at c2; exact absurd c2 (by decide)
    obtain ⟨f0, f1, f2, f3, f4, f5⟩ := hf it (List.mem_cons_of_mem _ List.mem_cons_self)
    have hn : its.toArray[i]? = none := by
      have := rv.length
      rw [List.getElem?_toArray]
      exact List.getElem?_eq_none (by omega)
    have tyE : s.TypeIs (.ref e) "enumerate" := ⟨_, he, rfl⟩
    unfold pyNext
    refine wpAny_bind (wpAny_attempt (wpAny_callSpecial?_slot (name := Str.ofString "__next__") tyE F.slot_enumerate_next (wpAny_call_entry F.slot_enumerate_next tyE F.entry_enumerate_next ?_ (F.args_enumerate_next_1 _))))
    show wpAny _ _ (field (.ref e) 2 >>= _) _ _ _
    refine wpAny_bind (wpAny_field he rfl (x := .ref it) rfl (wpAny_bind (wpAny_nextOf_tuple_end (by simpa using I.ok.hd hc) hit p' hn fun h' y he' hy' => ?_)))
    obtain ⟨o, ho, hcl⟩ := hy'
    refine wpAny_bind (wpAny_isInstance (T := "StopIteration") (b := true) ⟨o, ho, hcl⟩ isSubtype_stop (wpAny_pure ?_))
    exact ⟨rfl, I.turned (t' := s.toks) (fun b o hb q => he' b o hb q) f0 f1 f3 f4 f5⟩
  self := fun A i s Q E st h => let ⟨⟨_, he⟩, _⟩ := st; wpAny_pyIter_enum he h
def iEnumT (K : PySem.W.Frag) (ta : TA) : TI := fun σ H R => ta σ H fun vs H1 => ∃ a xs, vs = [.ref a] ∧ SqT K H1 a xs ∧ R (Itu K a) H1
theorem pi_enumT {X : Cx} {e : Expr} {ta : TA} {p pos tpos : Pos} {elts : List Expr} {kk : Nat} (hg : Gl X "enumerate") (hm : X.mg "enumerate" = none) (ha : PA X [e] ta) (hs : starEach [e] X.env = [(false, eval e X.env)] := by rfl) :
    PI X (.Tuple elts kk tpos) (.Call (.Name "enumerate" p) [e] [] pos) (iEnumT X.K ta) := by
  refine ⟨fun pins s σ H R I h => Call_ (ld_blt I hg hm boot_enumerate (PyProof.Rows.callWith_type1 (thn (ha.run pos pins s σ H _ I h) fun us s1 ⟨vs, H1, I1, r1, a, xs, ex, hq, q⟩ => ?_) hs rfl))⟩
  subst ex
  rw [Vals.ref1 r1]
  obtain ⟨its, rv, p', hz⟩ := I1.tuple hq
  refine call_enumT (show s1.heap.IsTuple a its.toArray from p') fun h' he hit hk => wpAny_pyIter_enum he ?_
  refine ⟨s1.heap.objs.size + 1, [s1.heap.objs.size + 1, s1.heap.objs.size], _, _, H1, rfl, I1.kept (t' := s1.toks) hk, turn_enumT a (s1.heap.objs.size + 1) s1.heap.objs.size, ⟨⟨.none, he⟩, hit, Nat.succ_ne_self _⟩, fun b hb => ?_, q⟩
  have le : s1.heap.objs.size ≤ b := by
    rcases List.mem_cons.mp hb with z | z
    · rw [z]; exact Nat.le_succ _
    · rw [List.mem_singleton.mp z]; exact Nat.le_refl _
  exact I1.fpOk le (I1.hok.fresh le)
theorem walk_enumT {K : PySem.W.Frag} {a : Addr} {xs : List V} : Walk (Itu K a) xs.length (fun H => SqT K H a xs) (YPair (fun i => some (.int (i : Nat))) (fun i => xs[i]?)) := by
  refine ⟨fun i _ hi q => ⟨xs, xs[i], q, List.getElem?_eq_getElem hi⟩, fun _ q => ⟨xs, q, Nat.le_refl _⟩, fun i H v H' _ q y => ?_⟩
  obtain ⟨T, x, y1, y2, y3, y4⟩ := y
  exact ⟨T, .int (i : Nat), x, y1, y2, y3, rfl, y4 xs q⟩
section
variable {K : PySem.W.Frag} {g : TG} {tt : TT} {te : TE} {vs : List Nat} {σ : L2.St} {H : Hp} {Q : Addr → Hp → Prop}
/-- a pure comprehension over enumerate(t) -/
theorem lc_pureE {a : Addr} {xs : List V} (v : Nat → V) (hS : H a = some (.tup xs)) (hlen : xs.length ≤ 1000000) (hs : ∀ i x H' T, xs[i]? = some x → Same H H' → H' T = some (.tup [vN i, x]) → LcT g tt te vs σ (.ref T) H' true (v i))
    (hd : ∀ D H', H D = none → Same H H' → H' D = some (.lst ((List.range xs.length).map v)) → Q D H') : LcR g tt te vs σ Q (Itu K a) H := by
  intro D hD
  refine lc_it walk_enumT (fun i H' => Same H H' ∧ H' D = some (.lst ((((List.range xs.length).take i).filter fun _ => true).map v))) ⟨same_new0 hD, by simpa using upd_same⟩ (fun i H' _ hp => SqT.of (hp.1 _ _ hS)) (fun i x H' H2 hi hp y => ?_) (fun H' hp => ?_)
  · obtain ⟨T, x1, x2, rfl, nT, rfl, e1, e2⟩ := y
    cases e1
    have s2 : Same H (upd H' T (.tup [vN i, x2])) := same_new hp.1 nT
    exact lc_turn (l := List.range xs.length) (ι := fun _ => .ref T) (p := fun _ => true) (v := v) (by simpa using hlen) hD (range_get hi) s2 (upd_new nT hp.2) (hs i x2 _ T e2 s2 upd_same)
  · obtain ⟨h1, h2⟩ := hp
    rw [List.take_of_length_le (by simp), List.filter_eq_self.mpr fun _ _ => rfl] at h2
    exact hd D H' hD h1 h2
end
end LaneX
set_option Elab.async false
set_option linter.all false
set_option maxRecDepth 100000
set_option maxHeartbeats 4000000
namespace LaneX
open PySem PySem.Spec PyProof.Rows L2
/-! ### naturals in lists: in, index, max; further numbers -/
theorem inV_nat {n : Nat} {l : List Nat} : inV (vN n) (l.map vN) = decide (n ∈ l) := by
  unfold inV
  rw [List.any_map, Bool.eq_iff_iff, List.any_eq_true, decide_eq_true_iff]
  have e : ∀ x : Nat, ((fun y => eqV y (vN n)) ∘ vN) x = true ↔ x = n := fun x => by
    show (((x : Int) == (n : Int)) = true) ↔ _
    rw [beq_iff_eq]; omega
  constructor
  · rintro ⟨x, hx, h⟩
    rw [← (e x).mp h]; exact hx
  · exact fun h => ⟨n, h, (e n).mpr rfl⟩
theorem flat_nats (l : List Nat) : (l.map vN).all flatV = true := by
  rw [List.all_eq_true]
  intro v hv
  obtain ⟨x, _, rfl⟩ := List.mem_map.mp hv
  rfl
section
variable {X : Cx}
theorem on_in : OpR X (compareOp .In) (fun x y H Q => ∃ (n : Nat) (p : Addr) (ns : List Nat), x = vN n ∧ y = .ref p ∧ Tq H p (ns.map vN) ∧ Q (.bl (decide (n ∈ ns))) H) := by
  intro pins s σ H x y v u Q I rx ry h
  obtain ⟨n, p, ns, rfl, rfl, hS, q⟩ := h
  refine op_in_seq pins s σ H _ _ v u Q I rx ry ⟨p, _, rfl, hS.sqlt, rfl, flat_nats ns, ?_⟩
  simp only [Bool.false_eq_true, if_false, inV_nat]
  exact q
theorem on_notIn : OpR X (compareOp .NotIn) (fun x y H Q => ∃ (n : Nat) (p : Addr) (ns : List Nat), x = vN n ∧ y = .ref p ∧ Tq H p (ns.map vN) ∧ Q (.bl (!decide (n ∈ ns))) H) := by
  intro pins s σ H x y v u Q I rx ry h
  obtain ⟨n, p, ns, rfl, rfl, hS, q⟩ := h
  refine op_notIn_seq pins s σ H _ _ v u Q I rx ry ⟨p, _, rfl, hS.sqlt, rfl, flat_nats ns, ?_⟩
  simp only [if_true, inV_nat]
  exact q
/-- the right factor below 2 ^ 64 -/
theorem on_mulR : OpR X (binaryOp .Mult) (fun x y H Q => ∃ n m : Nat, x = .int (n : Int) ∧ y = .int (m : Int) ∧ (m < 2 ^ 64) ∧ Q (.int ((n * m : Nat) : Int)) H) := by
  intro pins s σ H x y v u Q I rx ry h
  obtain ⟨n, m, rfl, rfl, c, q⟩ := h
  rw [Int.natCast_mul] at q
  exact op_mul pins s σ H _ _ v u Q I rx ry ⟨_, _, rfl, rfl, show CMul (n : Int) (m : Int) from Or.inr ⟨by omega, by have : m < 18446744073709551616 := c; omega⟩, q⟩
/-- an int of any sign times a natural -/
theorem on_mulI : OpR X (binaryOp .Mult) (fun x y H Q => ∃ (i : Int) (m : Nat), x = .int i ∧ y = .int (m : Int) ∧ (m < 2 ^ 64) ∧ Q (.int (i * (m : Int))) H) := by
  intro pins s σ H x y v u Q I rx ry h
  obtain ⟨n, m, rfl, rfl, c, q⟩ := h
  exact op_mul pins s σ H _ _ v u Q I rx ry ⟨_, _, rfl, rfl, show CMul n (m : Int) from Or.inr ⟨by omega, by have : m < 18446744073709551616 := c; omega⟩, q⟩
theorem on_addI : OpR X (binaryOp .Add) (fun x y H Q => ∃ i j : Int, x = .int i ∧ y = .int j ∧ Q (.int (i + j)) H) := op_add
/-- a difference that is a natural -/
theorem on_subD : OpR X (binaryOp .Sub) (fun x y H Q => ∃ (i j : Int) (d : Nat), x = .int i ∧ y = .int j ∧ i - j = (d : Int) ∧ Q (vN d) H) := by
  intro pins s σ H x y v u Q I rx ry h
  obtain ⟨i, j, d, rfl, rfl, e, q⟩ := h
  refine op_sub pins s σ H _ _ v u Q I rx ry ⟨i, j, rfl, rfl, ?_⟩
  show Q (V.int (i - j)) H
  rw [e]
  exact q
/-- int(True), int(False) -/
theorem call_intB : CallR X (.type "int") (fun xs H Q => ∃ b : Bool, xs = [.bl b] ∧ Q (vN (if b = true then 1 else 0)) H) := by
  intro pins s σ H xs us Q I r h
  obtain ⟨b, rfl, q⟩ := h
  refine call_int1 pins s σ H _ us Q I r (.inr ⟨b, rfl, ?_⟩)
  cases b <;> exact q
/-- max(xs), naturals -/
theorem cr_maxN (hc : X.calm = true) : CallR X (.builtin "max") (fun xs H Q => ∃ (a : Addr) (ns : List Nat), xs = [.ref a] ∧ H a = some (.lst (ns.map vN)) ∧ 0 < ns.length ∧ ∀ m, m ∈ ns → (∀ x ∈ ns, x ≤ m) → Q (vN m) H) := by
  intro pins s σ H xs us Q I r h
  obtain ⟨a, ns, rfl, hS, h0, q⟩ := h
  rw [vN_ints] at hS
  refine cr_max hc pins s σ H _ us Q I r ⟨a, ns.map Int.ofNat, rfl, SqL.of hS, by simpa using h0, fun m hm hle => ?_⟩
  obtain ⟨k, hk, rfl⟩ := List.mem_map.mp hm
  refine q k hk fun x hx => ?_
  have := hle (x : Int) (List.mem_map.mpr ⟨x, hx, rfl⟩)
  have e : Int.ofNat k = (k : Int) := rfl
  omega
theorem call_maxN (hc : X.calm = true) : CallR X (.builtin "max") (fun xs H Q => ∃ n m : Nat, xs = [.int (n : Int), .int (m : Int)] ∧ Q (.int ((max n m : Nat) : Int)) H) := by
  intro pins s σ H xs us Q I r h
  obtain ⟨n, m, rfl, q⟩ := h
  refine call_max2 hc pins s σ H _ us Q I r ⟨_, _, rfl, ?_⟩
  have e : (if (m : Int) > (n : Int) then (m : Int) else (n : Int)) = ((max n m : Nat) : Int) := by split <;> omega
  rw [e]
  exact q
end
end LaneX
set_option Elab.async false
set_option linter.all false
set_option maxRecDepth 100000
set_option maxHeartbeats 4000000
namespace LaneX
open PySem PySem.Spec PyProof.Rows L2
/-! ### x == x of an instance without an own __eq__ -/
section
variable {X : Cx}
def rEqJ (C : Addr) : R2 := fun x y H Q => ∃ (a dx : Addr) (fs : List (Str × V)), x = .ref a ∧ y = .ref a ∧ H a = some (.ins C dx fs) ∧ Q (.bl true) H
theorem op_eqJ {j : Nat} {C : Addr} (heq : PySem.W.findIn X.K (.ref C) "__eq__" = some (some (.builtin "object.__eq__"))) (hm : PySem.W.mroIn X.K C (.type "object") = some true) (hr : Room j X.A) : OpR X (compareOp .Eq) (rEqJ C) := by
  intro pins s σ H x y v u Q I rx ry h
  obtain ⟨a, dx, fs, rfl, rfl, ha, q⟩ := h
  cases (show v = Value.ref a from rx)
  cases (show u = Value.ref a from ry)
  obtain ⟨mA, O, _⟩ := ins_get I.hok ha
  obtain ⟨od, J, _⟩ := O.look
  have KX := I.kIn
  have one : wpAny (model X.prog X.w) X.A (tryCompare (.ref a) "__eq__" (.ref a)) (fun r s' => r = some (.bool true) ∧ s' = s) X.xe s := by
    unfold tryCompare
    refine wpAny_bind (HN.ifBound_objEq KX J heq (wpAny_call (codeAny_call_builtin F.cmp_object.eq.plain F.cmpEntry_eq (PySem.W.check_slot F.cmpKind_eq F.cmpSplit_eq (J.type.andThen (PySem.W.looks_mroIn KX hm)) (F.cmpArgs_eq _ _) ?_))))
    exact objEq_entry_same (wpAny_pure ⟨rfl, rfl⟩)
  show wpAny (model X.prog X.w) X.A (richCompare .Eq (.ref a) (.ref a)) (EP X pins σ Q) X.xe s
  simp only [richCompare, cmpInfo_Eq, oneThing_ref]
  refine wpAny_holding (wpAny_bind (wpAny_cRoomFor hr.units0 ?_))
  refine wpAny_bind (J.type.here (wpAny_bind (J.type.here ?_)))
  rw [if_neg (by simp)]
  refine wpAny_bind (wpAny_pure ?_)
  simp only [Bool.false_eq_true, if_false, Bool.not_false, if_true]
  refine wpAny_bind (wpAny_mono one (fun r s1 z => ?_) fun _ _ e => e)
  obtain ⟨z1, z2⟩ := z
  subst z1
  subst z2
  exact wpAny_pure ⟨.bl true, H, I, rfl, q⟩
end
end LaneX
set_option Elab.async false
set_option linter.all false
set_option maxRecDepth 100000
set_option maxHeartbeats 4000000
namespace LaneX
open PySem PySem.Spec PyProof.Rows L2
/-- a statement, with what holds behind it told -/
def tMid (t : TS) : TS := fun D σ H => ∃ J : L2.St → Hp → Prop, t ⟨J, D.rt, D.bk, D.ct⟩ σ H ∧ ∀ σ' H', J σ' H' → D.nx σ' H'
theorem ps_mid {X : Cx} {st : Stmt} {t : TS} (h : PS X st t) : PS X st (tMid t) := by
  refine ⟨fun pins s σ H D I q => ?_⟩
  obtain ⟨J, h1, h2⟩ := q
  refine thn (h.run pins s σ H _ I h1) fun f s' hf => ?_
  cases f with
  | next =>
    obtain ⟨σ', H', i, q⟩ := hf
    exact ⟨σ', H', i, h2 _ _ q⟩
  | brk => exact hf
  | cont => exact hf
  | ret u => exact hf
end LaneX
set_option linter.all false
namespace LaneX
/-! ### kernels, tags, meets: their sizes -/
theorem xor_cancel (a b : Nat) : a ^^^ (a ^^^ b) = b := by rw [← Nat.xor_assoc, Nat.xor_self, Nat.zero_xor]
theorem xor_cancel_right (a b : Nat) : a ^^^ b ^^^ b = a := by rw [Nat.xor_assoc, Nat.xor_self, Nat.xor_zero]
/-- a linear map of spans -/
structure Lin (φ : Nat → Nat) : Prop where
  z : φ 0 = 0
  x : ∀ a b, φ (a ^^^ b) = φ a ^^^ φ b
theorem Lin.spn {φ : Nat → Nat} (L : Lin φ) {l : List Nat} {y : Nat} (h : Spn l y) : Spn (l.map φ) (φ y) := by
  induction h with
  | zero => rw [L.z]; exact .zero
  | add hw _ ih => rw [L.x]; exact .add (List.mem_map.mpr ⟨_, hw, rfl⟩) ih
theorem Lin.back {φ : Nat → Nat} (L : Lin φ) {l : List Nat} {z : Nat} (h : Spn (l.map φ) z) : ∃ y, Spn l y ∧ φ y = z := by
  induction h with
  | zero => exact ⟨0, .zero, L.z⟩
  | add hw _ ih =>
    obtain ⟨y, hy, rfl⟩ := ih
    obtain ⟨u, hu, rfl⟩ := List.mem_map.mp hw
    exact ⟨y ^^^ u, .add hu hy, L.x _ _⟩
theorem Lin.comp {φ ψ : Nat → Nat} (L : Lin φ) (M : Lin ψ) : Lin (fun x => φ (ψ x)) := ⟨by rw [M.z, L.z], fun a b => by rw [M.x, L.x]⟩
theorem lin_clr (rows : List Nat) : Lin (clr rows) := ⟨clr_zero rows, clr_xor rows⟩
theorem lin_lft (rows : List Nat) : Lin (lft rows) := ⟨lft_zero rows, lft_xor rows⟩
theorem lin_shr (b : Nat) : Lin (fun x => x >>> b) := ⟨Nat.zero_shiftRight b, fun a c => Nat.shiftRight_xor_distrib⟩
theorem lin_mod (b : Nat) : Lin (fun x => x % 2 ^ b) := ⟨Nat.zero_mod _, fun a c => Nat.xor_mod_two_pow⟩
/-- taking away what S spans -/
structure Red (S : List Nat) (φ : Nat → Nat) : Prop where
  l : Lin φ
  s : ∀ x, Spn S (x ^^^ φ x)
  k : ∀ x, φ x = 0 ↔ Spn S x
theorem red_clr (S : List Nat) : Red S (clr (spn S)) := ⟨lin_clr _, fun x => (spn_span S _).mp (spn_clr _ x), fun x => clr_spn_zero⟩
theorem red_lft (S : List Nat) : Red S (lft (bas S)) := ⟨lin_lft _, fun x => (bas_span S _).mp (spn_lft _ x), fun x => lft_bas⟩
theorem Red.mem {S ls : List Nat} {φ : Nat → Nat} (R : Red S φ) (x : Nat) : Spn (ls.map φ) (φ x) ↔ Spn (S ++ ls) x := by
  constructor
  · intro h
    have h1 : Spn (S ++ ls) (φ x) := h.mono fun y hy => by
      obtain ⟨u, hu, rfl⟩ := List.mem_map.mp hy
      have a := ((R.s u).sub (vs := S ++ ls) fun z hz => List.mem_append_left _ hz).xor (Spn.of (List.mem_append_right S hu))
      rwa [Nat.xor_comm u, xor_cancel_right] at a
    have a := ((R.s x).sub (vs := S ++ ls) fun z hz => List.mem_append_left _ hz).xor h1
    rwa [xor_cancel_right] at a
  · intro h
    induction h with
    | zero => rw [R.l.z]; exact .zero
    | @add y u hu _ ih =>
      rw [R.l.x]
      refine ih.xor ?_
      rcases List.mem_append.mp hu with hu | hu
      · rw [(R.k u).mpr (.of hu)]; exact .zero
      · exact .of (List.mem_map.mpr ⟨u, hu, rfl⟩)
theorem rk_snoc' (a : List Nat) (w : Nat) [Decidable (Spn a w)] : rk (a ++ [w]) = if Spn a w then rk a else rk a + 1 := by
  split
  · rename_i h; exact rk_snoc_in h
  · rename_i h; exact rk_snoc_out h
theorem Red.rk {S : List Nat} {φ : Nat → Nat} (R : Red S φ) : ∀ ls, rk (ls.map φ) + rk S = rk (S ++ ls) :=
  snoc_rec (p := fun ls => LaneX.rk (ls.map φ) + LaneX.rk S = LaneX.rk (S ++ ls)) (by simp [LaneX.rk, spn]) (fun a x ih => by
    rw [List.map_append, ← List.append_assoc]
    show LaneX.rk (a.map φ ++ [φ x]) + _ = _
    by_cases h : Spn (S ++ a) x
    · rw [rk_snoc_in h, rk_snoc_in ((R.mem x).mpr h)]; exact ih
    · rw [rk_snoc_out h, rk_snoc_out (fun z => h ((R.mem x).mp z))]; omega)
/-! ### images -/
theorem imf_lin (cols : List Nat) : ∀ n, Lin (fun x => imf cols x n)
  | 0 => ⟨rfl, fun _ _ => (Nat.xor_self 0).symm⟩
  | n + 1 => by
    have ih := imf_lin cols n
    refine ⟨by show imf cols 0 (n + 1) = 0; rw [imf_succ, Nat.zero_testBit]; exact ih.z, fun a b => ?_⟩
    have e := ih.x a b
    show imf cols (a ^^^ b) (n + 1) = imf cols a (n + 1) ^^^ imf cols b (n + 1)
    simp only [imf_succ, Nat.testBit_xor] at e ⊢
    rw [e]
    generalize imf cols a n = A
    generalize imf cols b n = B
    generalize cols.getD n 0 = c
    cases a.testBit n <;> cases b.testBit n <;> simp
    · rw [Nat.xor_assoc]
    · rw [Nat.xor_assoc, Nat.xor_comm B c, ← Nat.xor_assoc]
    · rw [Nat.xor_comm A c, Nat.xor_assoc c A, ← Nat.xor_assoc A, Nat.xor_comm c, Nat.xor_assoc, Nat.xor_self, Nat.xor_zero]
theorem lin_img (cols : List Nat) : Lin (img cols) := imf_lin cols _
theorem imf_unit (cols : List Nat) (i : Nat) : ∀ n, imf cols (2 ^ i) n = if i < n then cols.getD i 0 else 0
  | 0 => by simp [imf]
  | n + 1 => by
    rw [imf_succ, imf_unit cols i n, Nat.testBit_two_pow]
    by_cases h : i = n
    · subst h; simp
    · have : (i < n + 1) ↔ i < n := by omega
      simp [h, this]
theorem img_unit (cols : List Nat) {i : Nat} (h : i < cols.length) : img cols (2 ^ i) = cols.getD i 0 := by
  unfold img
  rw [imf_unit, if_pos h]
theorem imf_map {φ : Nat → Nat} (L : Lin φ) (cols : List Nat) (x : Nat) : ∀ n, imf (cols.map φ) x n = φ (imf cols x n)
  | 0 => L.z.symm
  | n + 1 => by
    rw [imf_succ, imf_succ, imf_map L cols x n]
    have e : (cols.map φ).getD n 0 = φ (cols.getD n 0) := by
      simp only [List.getD_eq_getElem?_getD, List.getElem?_map]
      cases cols[n]? with
      | none => exact L.z.symm
      | some c => rfl
    rw [e]
    split
    · rw [L.x]
    · rfl
theorem img_map {φ : Nat → Nat} (L : Lin φ) (cols : List Nat) (x : Nat) : img (cols.map φ) x = φ (img cols x) := by
  unfold img
  rw [List.length_map, imf_map L]
/-- one bit more -/
theorem bit_split {x n : Nat} (h : x < 2 ^ (n + 1)) : x < 2 ^ n ∨ (x ^^^ 2 ^ n < 2 ^ n ∧ x.testBit n = true) := by
  by_cases q : x.testBit n = true
  · refine .inr ⟨?_, q⟩
    have h1 : x ^^^ 2 ^ n < 2 ^ (n + 1) := Nat.xor_lt_two_pow h (Nat.pow_lt_pow_right (by decide) (Nat.lt_succ_self n))
    refine Classical.byContradiction fun z => ?_
    have h3 : blen (x ^^^ 2 ^ n) ≤ n + 1 := blen_le.mpr h1
    have h4 : ¬ blen (x ^^^ 2 ^ n) ≤ n := fun y => z (blen_le.mp y)
    have h5 : blen (x ^^^ 2 ^ n) = n + 1 := by omega
    have h6 : x ^^^ 2 ^ n ≠ 0 := fun e => by rw [e] at h5; simp [blen] at h5
    have h7 := testBit_top h6
    rw [h5, Nat.add_sub_cancel, Nat.testBit_xor, q, Nat.testBit_two_pow] at h7
    simp at h7
  · refine .inl (Classical.byContradiction fun z => q ?_)
    have h3 : blen x ≤ n + 1 := blen_le.mpr h
    have h4 : ¬ blen x ≤ n := fun y => z (blen_le.mp y)
    have h5 : blen x = n + 1 := by omega
    have h6 : x ≠ 0 := fun e => by rw [e] at h5; simp [blen] at h5
    have h7 := testBit_top h6
    rwa [h5, Nat.add_sub_cancel] at h7
theorem not_bit_of_lt {x n : Nat} (h : x < 2 ^ n) : x.testBit n = false := Nat.testBit_lt_two_pow h
theorem getD_mem {cols : List Nat} {i : Nat} (h : i < cols.length) : cols.getD i 0 ∈ cols := by
  rw [List.getD_eq_getElem?_getD, List.getElem?_eq_getElem h]
  exact List.getElem_mem h
theorem getD_take {cols : List Nat} {i n : Nat} (h : i < n) (hn : n ≤ cols.length) : cols.getD i 0 ∈ cols.take n := by
  have e : (cols.take n).getD i 0 = cols.getD i 0 := by
    simp only [List.getD_eq_getElem?_getD, List.getElem?_take, h, if_true]
  rw [← e]
  exact getD_mem (by rw [List.length_take]; omega)
theorem img_span {cols : List Nat} : ∀ {n x : Nat}, n ≤ cols.length → x < 2 ^ n → Spn (cols.take n) (img cols x)
  | 0, x, hn, h => by
    have : x = 0 := by simpa using h
    rw [this, (lin_img cols).z]; exact .zero
  | n + 1, x, hn, h => by
    rcases bit_split h with h | ⟨h, _⟩
    · exact (img_span (by omega) h).sub fun w hw => List.take_subset_take_left _ (Nat.le_succ n) hw
    · have a := (img_span (n := n) (by omega) h).sub (vs := cols.take (n + 1)) fun w hw => List.take_subset_take_left _ (Nat.le_succ n) hw
      rw [(lin_img cols).x, img_unit cols hn] at a
      have b := a.xor (.of (getD_take (Nat.lt_succ_self n) hn))
      rwa [xor_cancel_right] at b
theorem span_img {cols : List Nat} {n : Nat} (hn : n ≤ cols.length) {c : Nat} (h : Spn (cols.take n) c) : ∃ x, x < 2 ^ n ∧ img cols x = c := by
  induction h with
  | zero => exact ⟨0, Nat.two_pow_pos n, (lin_img cols).z⟩
  | @add y w hw _ ih =>
    obtain ⟨x, hx, rfl⟩ := ih
    obtain ⟨i, hi, rfl⟩ := List.getElem_of_mem hw
    rw [List.length_take] at hi
    refine ⟨x ^^^ 2 ^ i, Nat.xor_lt_two_pow hx (Nat.pow_lt_pow_right (by decide) (by omega)), ?_⟩
    rw [(lin_img cols).x, img_unit cols (by omega)]
    congr 1
    rw [List.getElem_take, List.getD_eq_getElem?_getD, List.getElem?_eq_getElem (by omega)]
    rfl
/-! ### the kernel's rows -/
theorem Rws.low {R : List Nat} (A : Rws R) (b : Nat) : Rws (R.filter fun r => decide (blen r ≤ b)) := ⟨fun r hr => A.nz r (List.mem_filter.mp hr).1, A.red.sublist List.filter_sublist⟩
theorem Rws.low_span {R : List Nat} (A : Rws R) (b x : Nat) : Spn (R.filter fun r => decide (blen r ≤ b)) x ↔ Spn R x ∧ x < 2 ^ b := by
  constructor
  · intro h
    exact ⟨h.sub fun w hw => (List.mem_filter.mp hw).1, h.lt fun w hw => blen_le.mp (by simpa using (List.mem_filter.mp hw).2)⟩
  · rintro ⟨h, hx⟩
    have L := A.low b
    rw [L.span]
    generalize hl : (R.filter fun r => decide (blen r ≤ b)) = low at *
    have lt : ∀ r ∈ low, r < 2 ^ b := fun w hw => blen_le.mp (by rw [← hl] at hw; simpa using (List.mem_filter.mp hw).2)
    have h1 : Spn R (clr low x) := by
      have a := h.xor ((spn_clr low x).sub (vs := R) fun w hw => by rw [← hl] at hw; exact (List.mem_filter.mp hw).1)
      rwa [xor_cancel] at a
    have h2 : clr low x < 2 ^ b := clr_lt lt hx
    refine Classical.byContradiction fun hn => ?_
    obtain ⟨r, hr, e⟩ := A.top_mem h1 hn
    have hm : r ∈ low := by
      rw [← hl]
      exact List.mem_filter.mpr ⟨hr, decide_eq_true (by rw [e]; exact blen_le.mpr h2)⟩
    have a := clr_tops (x := x) L r hm
    rw [e, testBit_top hn] at a
    cases a
theorem add_eq_xor {n a b : Nat} (h : b < 2 ^ n) : (a <<< n) + b = (a <<< n) ^^^ b := by
  have e : a <<< n + b = a <<< n ||| b := Nat.shiftLeft_add_eq_or_of_lt h a
  rw [e]
  apply Nat.eq_of_testBit_eq
  intro i
  rw [Nat.testBit_or, Nat.testBit_xor, Nat.testBit_shiftLeft]
  by_cases q : n ≤ i
  · have : b.testBit i = false := Nat.testBit_lt_two_pow (Nat.lt_of_lt_of_le h (Nat.pow_le_pow_right (by decide) q))
    simp [this]
  · simp [q]
theorem prs_fwd (cols : List Nat) {y : Nat} (h : Spn (prs cols) y) : ∃ x, x < 2 ^ cols.length ∧ y = (img cols x <<< cols.length) ^^^ x := by
  induction h with
  | zero => exact ⟨0, Nat.two_pow_pos _, by rw [(lin_img cols).z]; simp⟩
  | @add y w hw _ ih =>
    obtain ⟨x, hx, rfl⟩ := ih
    obtain ⟨i, hi, rfl⟩ := List.mem_map.mp hw
    have hi := List.mem_range.mp hi
    have hu : 2 ^ i < 2 ^ cols.length := Nat.pow_lt_pow_right (by decide) hi
    refine ⟨x ^^^ 2 ^ i, Nat.xor_lt_two_pow hx hu, ?_⟩
    rw [(lin_img cols).x, img_unit cols hi, Nat.one_shiftLeft, add_eq_xor hu, Nat.shiftLeft_xor_distrib, xor4]
theorem prs_bwd (cols : List Nat) : ∀ {n x : Nat}, n ≤ cols.length → x < 2 ^ n → Spn (prs cols) ((img cols x <<< cols.length) ^^^ x)
  | 0, x, hn, h => by
    have : x = 0 := by simpa using h
    rw [this, (lin_img cols).z]
    simp only [Nat.zero_shiftLeft, Nat.xor_self]
    exact .zero
  | n + 1, x, hn, h => by
    rcases bit_split h with h | ⟨h, _⟩
    · exact prs_bwd cols (by omega) h
    · have a := prs_bwd cols (n := n) (by omega) h
      have hu : 2 ^ n < 2 ^ cols.length := Nat.pow_lt_pow_right (by decide) hn
      have b : Spn (prs cols) ((cols.getD n 0 <<< cols.length) ^^^ 2 ^ n) := by
        rw [← add_eq_xor hu]
        refine .of (List.mem_map.mpr ⟨n, List.mem_range.mpr hn, ?_⟩)
        rw [Nat.one_shiftLeft]
      have c := a.xor b
      rw [(lin_img cols).x, img_unit cols hn, Nat.shiftLeft_xor_distrib, xor4, xor_cancel_right, xor_cancel_right] at c
      exact c
theorem ker_span (cols : List Nat) (x : Nat) : Spn (ker cols) x ↔ x < 2 ^ cols.length ∧ img cols x = 0 := by
  unfold ker prd
  rw [(spn_rws (prs cols)).low_span, spn_span]
  constructor
  · rintro ⟨h, hx⟩
    obtain ⟨y, hy, e⟩ := prs_fwd cols h
    have e2 : x >>> cols.length = img cols y := by
      rw [e, Nat.shiftRight_xor_distrib, Nat.shiftLeft_shiftRight, Nat.shiftRight_eq_div_pow, Nat.div_eq_of_lt hy, Nat.xor_zero]
    rw [Nat.shiftRight_eq_div_pow, Nat.div_eq_of_lt hx] at e2
    rw [← e2] at e
    simp only [Nat.zero_shiftLeft, Nat.zero_xor] at e
    rw [e]
    exact ⟨hy, e2.symm⟩
  · rintro ⟨hx, e⟩
    have a := prs_bwd cols (Nat.le_refl _) hx
    rw [e] at a
    simp only [Nat.zero_shiftLeft, Nat.zero_xor] at a
    exact ⟨a, hx⟩
/-! ### the tags -/
theorem tgl_fst : ∀ (rows : List (Nat × Nat)) (st : Nat × Nat), (tgl rows st).1 = lft (rows.map Prod.fst) st.1
  | [], _ => rfl
  | r :: rs, st => by
    show (tgl rs _).1 = lft _ _
    rw [tgl_fst rs]
    show _ = lft (rs.map Prod.fst) (if st.1.testBit (low r.1) = true then st.1 ^^^ r.1 else st.1)
    dsimp only
    split <;> rfl
theorem tgl_keep {p : Nat × Nat → Prop} (hx : ∀ a b, p a → p b → p (a.1 ^^^ b.1, a.2 ^^^ b.2)) : ∀ {rows : List (Nat × Nat)} {st : Nat × Nat}, (∀ r ∈ rows, p r) → p st → p (tgl rows st)
  | [], _, _, h => h
  | r :: rs, st, hr, h => by
    show p (tgl rs _)
    refine tgl_keep hx (fun s hs => hr s (.tail _ hs)) ?_
    dsimp only
    split
    · exact hx _ _ h (hr r (.head _))
    · exact h
theorem tgl_snd {n : Nat} : ∀ {rows : List (Nat × Nat)} {st : Nat × Nat}, (∀ r ∈ rows, r.2 < 2 ^ n) → (tgl rows st).2 ^^^ st.2 < 2 ^ n
  | [], st, _ => by show st.2 ^^^ st.2 < 2 ^ n; rw [Nat.xor_self]; exact Nat.two_pow_pos n
  | r :: rs, st, hr => by
    show (tgl rs _).2 ^^^ st.2 < 2 ^ n
    dsimp only
    split
    · have ih := tgl_snd (rows := rs) (st := (st.1 ^^^ r.1, st.2 ^^^ r.2)) fun s hs => hr s (.tail _ hs)
      have a := Nat.xor_lt_two_pow ih (hr r (.head _))
      dsimp only at a
      rwa [← Nat.xor_assoc, xor_cancel_right] at a
    · exact tgl_snd fun s hs => hr s (.tail _ hs)
/-- what holds of the tags of n columns -/
structure Tgi (cols : List Nat) (n : Nat) : Prop where
  im : ∀ r ∈ (tgs cols n).1, img cols r.2 = r.1 ∧ r.2 < 2 ^ n
  lw : Lws ((tgs cols n).1.map Prod.fst)
  sp : ∀ x, Spn ((tgs cols n).1.map Prod.fst) x ↔ Spn (cols.take n) x
  im0 : ∀ t ∈ (tgs cols n).2, img cols t = 0 ∧ t < 2 ^ n
  ind : Ind (tgs cols n).2
  all : ∀ x, x < 2 ^ n → img cols x = 0 → Spn (tgs cols n).2 x
theorem tgi (cols : List Nat) : ∀ n, n ≤ cols.length → Tgi cols n
  | 0, _ => ⟨fun r h => (by cases h), Lws.nil, fun x => Iff.rfl, fun t h => (by cases h), .nil, fun x h _ => (by
      have : x = 0 := by simpa using h
      rw [this]; exact .zero)⟩
  | n + 1, hn => by
    have I := tgi cols n (by omega)
    have hc := getD_take (Nat.lt_succ_self n) hn
    have ic : img cols (1 <<< n) = cols.getD n 0 := by rw [Nat.one_shiftLeft, img_unit cols hn]
    have mono : 2 ^ n ≤ 2 ^ (n + 1) := Nat.pow_le_pow_right (by decide) (Nat.le_succ n)
    have hu : 1 <<< n < 2 ^ (n + 1) := by rw [Nat.one_shiftLeft]; exact Nat.pow_lt_pow_right (by decide) (Nat.lt_succ_self n)
    have tk : cols.take (n + 1) = cols.take n ++ [cols.getD n 0] := by
      rw [List.take_succ, List.getD_eq_getElem?_getD, List.getElem?_eq_getElem (by omega)]; rfl
    have e1 := tgl_fst (tgs cols n).1 (cols.getD n 0, 1 <<< n)
    have e2 : img cols (tgl (tgs cols n).1 (cols.getD n 0, 1 <<< n)).2 = (tgl (tgs cols n).1 (cols.getD n 0, 1 <<< n)).1 ∧ (tgl (tgs cols n).1 (cols.getD n 0, 1 <<< n)).2 < 2 ^ (n + 1) :=
      tgl_keep (p := fun q => img cols q.2 = q.1 ∧ q.2 < 2 ^ (n + 1)) (fun a b ha hb => ⟨by show img cols (a.2 ^^^ b.2) = a.1 ^^^ b.1; rw [(lin_img cols).x, ha.1, hb.1], Nat.xor_lt_two_pow ha.2 hb.2⟩) (fun r hr => ⟨(I.im r hr).1, Nat.lt_of_lt_of_le (I.im r hr).2 mono⟩) ⟨ic, hu⟩
    have e3 : (tgl (tgs cols n).1 (cols.getD n 0, 1 <<< n)).2 ^^^ (1 <<< n) < 2 ^ n := tgl_snd (st := (cols.getD n 0, 1 <<< n)) fun r hr => (I.im r hr).2
    have bs := bstep_span ((tgs cols n).1.map Prod.fst) (cols.getD n 0)
    have bw := I.lw.step (cols.getD n 0)
    have sp' : ∀ x, Spn (bstep ((tgs cols n).1.map Prod.fst) (cols.getD n 0)) x ↔ Spn (cols.take (n + 1)) x := fun x => by rw [bs, tk, span_app I.sp]
    have stp := tgs_succ cols n
    generalize htl : tgl (tgs cols n).1 (cols.getD n 0, 1 <<< n) = tl at *
    have e1' : tl.1 = lft ((tgs cols n).1.map Prod.fst) (cols.getD n 0) := e1
    by_cases z : tl.1 = 0
    · rw [if_pos z] at stp
      have ez : bstep ((tgs cols n).1.map Prod.fst) (cols.getD n 0) = (tgs cols n).1.map Prod.fst := by unfold bstep; rw [if_pos (by rw [← e1']; exact z)]
      rw [ez] at sp'
      refine ⟨?_, ?_, ?_, ?_, ?_, ?_⟩ <;> rw [stp]
      · exact fun r hr => ⟨(I.im r hr).1, Nat.lt_of_lt_of_le (I.im r hr).2 mono⟩
      · exact I.lw
      · exact sp'
      · intro t ht
        rcases List.mem_append.mp ht with ht | ht
        · exact ⟨(I.im0 t ht).1, Nat.lt_of_lt_of_le (I.im0 t ht).2 mono⟩
        · rcases List.mem_singleton.mp ht with rfl
          exact ⟨e2.1.trans z, e2.2⟩
      · refine .snoc I.ind fun hs => ?_
        have lt := hs.lt fun w hw => (I.im0 w hw).2
        have a := Nat.xor_lt_two_pow lt e3
        rw [xor_cancel, Nat.one_shiftLeft] at a
        exact Nat.lt_irrefl _ a
      · intro x hx h0
        have sub : ∀ w ∈ (tgs cols n).2, w ∈ (tgs cols n).2 ++ [tl.2] := fun w hw => List.mem_append_left _ hw
        rcases bit_split hx with h | ⟨h, _⟩
        · exact (I.all x h h0).sub sub
        · have a : x ^^^ tl.2 < 2 ^ n := by
            have := Nat.xor_lt_two_pow h e3
            rwa [Nat.one_shiftLeft, Nat.xor_comm tl.2, Nat.xor_assoc, xor_cancel] at this
          have b := (I.all _ a (by rw [(lin_img cols).x, h0, e2.1, z]; rfl)).sub sub
          have c := b.xor (.of (List.mem_append_right _ (List.mem_singleton_self tl.2)))
          rwa [xor_cancel_right] at c
    · rw [if_neg z] at stp
      have ez : bstep ((tgs cols n).1.map Prod.fst) (cols.getD n 0) = (tgs cols n).1.map Prod.fst ++ [tl.1] := by unfold bstep; rw [if_neg (by rw [← e1']; exact z), ← e1']
      rw [ez] at sp' bw
      refine ⟨?_, ?_, ?_, ?_, ?_, ?_⟩ <;> rw [stp]
      · intro r hr
        rcases List.mem_append.mp hr with hr | hr
        · exact ⟨(I.im r hr).1, Nat.lt_of_lt_of_le (I.im r hr).2 mono⟩
        · rcases List.mem_singleton.mp hr with rfl
          exact e2
      · rw [List.map_append]; exact bw
      · rw [List.map_append]; exact sp'
      · exact fun t ht => ⟨(I.im0 t ht).1, Nat.lt_of_lt_of_le (I.im0 t ht).2 mono⟩
      · exact I.ind
      · intro x hx h0
        rcases bit_split hx with h | ⟨h, _⟩
        · exact I.all x h h0
        · exfalso
          have a := img_span (cols := cols) (n := n) (by omega) h
          rw [(lin_img cols).x, h0, Nat.zero_xor, img_unit cols hn, ← I.sp, I.lw.span] at a
          exact z (e1'.trans a)
theorem tgd_span (cols : List Nat) (x : Nat) : Spn (tgd cols).2 x ↔ x < 2 ^ cols.length ∧ img cols x = 0 := by
  have I := tgi cols cols.length (Nat.le_refl _)
  constructor
  · intro h
    refine ⟨h.lt fun w hw => (I.im0 w hw).2, ?_⟩
    induction h with
    | zero => exact (lin_img cols).z
    | add hw _ ih => rw [(lin_img cols).x, ih, (I.im0 _ hw).1]; rfl
  · exact fun h => I.all x h.1 h.2
theorem tgd_len (cols : List Nat) : (tgd cols).2.length + rk cols = cols.length := by
  have I := tgi cols cols.length (Nat.le_refl _)
  have a := I.lw.rk
  have b : rk ((tgs cols cols.length).1.map Prod.fst) = rk cols := rk_eq fun x => by rw [I.sp, List.take_length]
  rw [List.length_map] at a
  have c := tgs_len cols cols.length
  unfold tgd
  omega
theorem tgd_rk (cols : List Nat) : rk (tgd cols).2 = (tgd cols).2.length := (tgi cols cols.length (Nat.le_refl _)).ind.rk
theorem ker_len_eq (cols : List Nat) : (ker cols).length + rk cols = cols.length := by
  have a : rk (ker cols) = rk (tgd cols).2 := rk_eq fun x => by rw [ker_span, tgd_span]
  rw [spn_id (ker_rws cols), tgd_rk] at a
  have := tgd_len cols
  omega
end LaneX
set_option linter.all false
namespace LaneX
/-! ### twins, partners -/
theorem span_clr_img (S ls : List Nat) (x : Nat) : Spn (ker (ls.map (clr (spn S)))) x ↔ x < 2 ^ ls.length ∧ Spn S (img ls x) := by
  rw [ker_span, List.length_map, img_map (lin_clr _), clr_spn_zero]
theorem span_tag (S ls : List Nat) (x : Nat) : Spn (tgd (ls.map (lft (bas S)))).2 x ↔ x < 2 ^ ls.length ∧ Spn S (img ls x) := by
  rw [tgd_span, List.length_map, img_map (lin_lft _), lft_bas]
theorem ksz (S ls : List Nat) : (spn (ker (ls.map (clr (spn S))))).length + rk (S ++ ls) = ls.length + rk S := by
  have a := ker_len_eq (ls.map (clr (spn S)))
  have b := (red_clr S).rk ls
  have c := spn_id (ker_rws (ls.map (clr (spn S))))
  unfold rk at c
  rw [List.length_map] at a
  omega
theorem tsz (S ls : List Nat) : (tgd (ls.map (lft (bas S)))).2.length + rk (S ++ ls) = ls.length + rk S := by
  have a := tgd_len (ls.map (lft (bas S)))
  have b := (red_lft S).rk ls
  rw [List.length_map] at a
  omega
theorem app_spn (A ws : List Nat) (x : Nat) : Spn (A ++ spn ws) x ↔ Spn (A ++ ws) x := span_app2 (fun _ => Iff.rfl) (fun z => spn_span ws z)
theorem rk_app_spn (A ws : List Nat) : rk (A ++ spn ws) = rk (A ++ ws) := rk_eq (app_spn A ws)
theorem twn_span (ss ls : List Nat) (x : Nat) : Spn (twn ss ls) x ↔ x < 2 ^ ls.length ∧ Spn ss (img ls x) := by
  unfold twn
  rw [spn_span, span_clr_img]
theorem prt_span (ss ls ws : List Nat) (x : Nat) : Spn (prt ss ls (spn ws)) x ↔ x < 2 ^ ls.length ∧ Spn (ss ++ ws) (img ls x) := by
  unfold prt prw
  rw [spn_span, span_clr_img, app_spn]
theorem twn_size (ss ls : List Nat) : (twn ss ls).length + rk (ss ++ ls) = ls.length + rk ss := ksz ss ls
theorem prt_size (ss ls ws : List Nat) : (prt ss ls (spn ws)).length + rk (ss ++ ws ++ ls) = ls.length + rk (ss ++ ws) := by
  have a := ksz (ss ++ spn ws) ls
  rw [rk_app_spn] at a
  have b : rk (ss ++ spn ws ++ ls) = rk (ss ++ ws ++ ls) := rk_eq fun x => span_app fun z => app_spn ss ws z
  rw [b] at a
  exact a
theorem twn_tag (ss ls : List Nat) : (twn ss ls).length = (tgd (ls.map (lft (bas ss)))).2.length := by
  have a := twn_size ss ls
  have b := tsz ss ls
  omega
theorem prt_rk (ss ls ws : List Nat) : rk (prt ss ls (spn ws)) = (prt ss ls (spn ws)).length := spn_id (spn_rws _)
theorem prt_tag (ss ls ws : List Nat) : (prt ss ls (spn ws)).length = rk (tgd (ls.map (lft (bas (ss ++ ws))))).2 := by
  rw [← prt_rk]
  exact rk_eq fun x => by rw [prt_span, span_tag]
theorem prt_tag2 (ss ls ws : List Nat) : rk ((tgd (ls.map (lft (bas (ss ++ ws))))).2 ++ prt ss ls (spn ws)) = (prt ss ls (spn ws)).length := by
  rw [← prt_rk]
  refine Nat.le_antisymm (rk_le fun x hx => ?_) (rk_right _ _)
  rcases List.mem_append.mp hx with hx | hx
  · rw [prt_span, ← span_tag]; exact .of hx
  · exact .of hx
/-! ### completing -/
theorem cms_span {A : List Nat} (R : Rws A) (B : List Nat) : (∀ x, Spn (cms A B).1 x ↔ Spn (A ++ B) x) ∧ (∀ x, Spn (cms A B).1 x ↔ Spn (A ++ (cms A B).2) x) := by
  refine snoc_rec (p := fun B => (∀ x, Spn (cms A B).1 x ↔ Spn (A ++ B) x) ∧ (∀ x, Spn (cms A B).1 x ↔ Spn (A ++ (cms A B).2) x)) ⟨fun x => by simp [cms], fun x => by simp [cms]⟩ (fun a r ih => ?_) B
  have R' := cms_rws R a
  rw [cms_snoc, ← List.append_assoc]
  split
  · rename_i h
    have hr := (ih.1 r).mp (R'.span.mpr h)
    refine ⟨fun x => ?_, ih.2⟩
    rw [ih.1 x]
    constructor
    · exact fun hx => hx.sub fun w hw => List.mem_append_left _ hw
    · refine fun hx => hx.mono fun y hy => ?_
      rcases List.mem_append.mp hy with hy | hy
      · exact .of hy
      · rcases List.mem_singleton.mp hy with rfl; exact hr
  · refine ⟨fun x => ?_, fun x => ?_⟩
    · rw [grw_span, span_app ih.1]
    · show Spn (grw _ _) x ↔ Spn (A ++ ((cms A a).2 ++ [r])) x
      rw [grw_span, span_app ih.2, List.append_assoc]
theorem cmpl_len {A : List Nat} (R : Rws A) (B : List Nat) : (cmpl A B).length + rk A = rk (A ++ B) := by
  unfold cmpl
  refine snoc_rec (p := fun B => (cms A B).2.length + rk A = rk (A ++ B)) (by simp [cms]) (fun a r ih => ?_) B
  have R' := cms_rws R a
  have S := (cms_span R a).1
  rw [cms_snoc, ← List.append_assoc]
  split
  · rename_i h
    rw [rk_snoc_in ((S r).mp (R'.span.mpr h))]; exact ih
  · rename_i h
    rw [rk_snoc_out fun z => h (R'.span.mp ((S r).mpr z)), List.length_append]
    simp only [List.length_cons, List.length_nil]
    omega
theorem cmpl_mem {A : List Nat} (B : List Nat) : ∀ x ∈ cmpl A B, x ∈ B := by
  unfold cmpl
  refine snoc_rec (p := fun B => ∀ x ∈ (cms A B).2, x ∈ B) (fun x hx => by cases hx) (fun a r ih x hx => ?_) B
  rw [cms_snoc] at hx
  split at hx
  · exact List.mem_append_left _ (ih x hx)
  · rcases List.mem_append.mp hx with hx | hx
    · exact List.mem_append_left _ (ih x hx)
    · exact List.mem_append_right _ hx
theorem cmpl_ind {A : List Nat} (R : Rws A) (B : List Nat) {φ : Nat → Nat} (L : Lin φ) : (∀ y, Spn B y → φ y = 0 → Spn A y) → Ind ((cmpl A B).map φ) := by
  unfold cmpl
  refine snoc_rec (p := fun B => (∀ y, Spn B y → φ y = 0 → Spn A y) → Ind ((cms A B).2.map φ)) (fun _ => .nil) (fun a r ih k => ?_) B
  have R' := cms_rws R a
  have S := (cms_span R a).2
  have ih := ih fun y hy => k y (hy.sub fun w hw => List.mem_append_left _ hw)
  have mem := cmpl_mem (A := A) a
  unfold cmpl at mem
  rw [cms_snoc]
  split
  · exact ih
  · rename_i h
    show Ind (((cms A a).2 ++ [r]).map φ)
    rw [List.map_append]
    refine .snoc ih fun hs => h (R'.span.mp ((S r).mpr ?_))
    obtain ⟨y, hy, e⟩ := L.back hs
    have hyr : Spn A (y ^^^ r) := by
      refine k _ ?_ (by rw [L.x, e, Nat.xor_self])
      exact (hy.sub fun w hw => List.mem_append_left _ (mem w hw)).xor (.of (List.mem_append_right _ (List.mem_singleton_self r)))
    have c := (hyr.sub (vs := A ++ (cms A a).2) fun w hw => List.mem_append_left _ hw).xor (hy.sub (vs := A ++ (cms A a).2) fun w hw => List.mem_append_right _ hw)
    rwa [Nat.xor_comm y r, xor_cancel_right] at c
/-! ### meets -/
theorem Rws.ind {rows : List Nat} (R : Rws rows) : Ind rows := by
  have : ∀ n (l : List Nat), l.length = n → Rws l → Ind l := by
    intro n
    induction n with
    | zero => intro l hl _; rw [List.length_eq_zero_iff.mp hl]; exact .nil
    | succ n ih =>
      intro l hl L
      have hne : l ≠ [] := fun e => by rw [e] at hl; cases hl
      have e := List.dropLast_concat_getLast hne
      rw [← e] at L ⊢
      have hp := List.pairwise_append.mp L.red
      have L' : Rws l.dropLast := ⟨fun r hr => L.nz r (List.mem_append_left _ hr), hp.1⟩
      refine .snoc (ih _ (by rw [List.length_dropLast, hl]; rfl) L') fun hs => ?_
      have z := L'.span.mp hs
      rw [clr_of_none fun r hr => (hp.2.2 r hr _ (List.mem_singleton_self _)).2] at z
      exact L.nz _ (List.mem_append_right _ (List.mem_singleton_self _)) z
  exact this _ rows rfl R
theorem shl_shr (b x : Nat) : (x <<< b) >>> b = x := Nat.shiftLeft_shiftRight x b
theorem shl_mod (b x : Nat) : (x <<< b) % 2 ^ b = 0 := by rw [Nat.shiftLeft_eq]; exact Nat.mul_mod_left _ _
theorem map_shl_shr (b : Nat) (B : List Nat) : (B.map fun r => r <<< b).map (fun x => x >>> b) = B := by
  rw [List.map_map]
  conv => rhs; rw [← List.map_id B]
  exact List.map_congr_left fun x _ => shl_shr b x
theorem ind_shl (b : Nat) {B : List Nat} (h : Ind B) : Ind (B.map fun r => r <<< b) := by
  induction h with
  | nil => exact .nil
  | @snoc a w _ hw ih =>
    rw [List.map_append]
    refine .snoc ih fun hs => hw ?_
    have a := (lin_shr b).spn hs
    rw [map_shl_shr] at a
    dsimp only at a
    rwa [shl_shr] at a
theorem ind_pairs (b : Nat) {A B : List Nat} (hB : Ind B) (hA : Ind A) (lt : ∀ x ∈ A, x < 2 ^ b) : Ind ((B.map fun r => r <<< b) ++ A.map fun r => (r <<< b) + r) := by
  induction hA with
  | nil => simpa using ind_shl b hB
  | @snoc a w _ hw ih =>
    have ih := ih fun x hx => lt x (List.mem_append_left _ hx)
    have hwl := lt w (List.mem_append_right _ (List.mem_singleton_self w))
    rw [List.map_append, ← List.append_assoc]
    refine .snoc ih fun hs => hw ?_
    have q := (lin_mod b).spn hs
    have pm : ∀ r, r < 2 ^ b → (r <<< b + r) % 2 ^ b = r := fun r hr => by
      rw [Nat.add_mod, shl_mod, Nat.zero_add, Nat.mod_mod, Nat.mod_eq_of_lt hr]
    dsimp only at q
    rw [pm w hwl] at q
    refine q.mono fun y hy => ?_
    obtain ⟨z, hz, rfl⟩ := List.mem_map.mp hy
    rcases List.mem_append.mp hz with hz | hz
    · obtain ⟨r, hr, rfl⟩ := List.mem_map.mp hz
      rw [shl_mod]; exact .zero
    · obtain ⟨r, hr, rfl⟩ := List.mem_map.mp hz
      rw [pm r (lt r (List.mem_append_left _ hr))]; exact .of hr
theorem blen_shr (b r : Nat) : blen (r >>> b) = blen r - b := by
  by_cases h : blen r ≤ b
  · have : r >>> b = 0 := by rw [Nat.shiftRight_eq_div_pow, Nat.div_eq_of_lt (blen_le.mp h)]
    rw [this, show blen r - b = 0 by omega]; rfl
  · have hr : r ≠ 0 := fun e => by rw [e] at h; simp [blen] at h
    have t : (r >>> b).testBit (blen r - b - 1) = true := by
      rw [Nat.testBit_shiftRight, show b + (blen r - b - 1) = blen r - 1 by omega]; exact testBit_top hr
    have h1 : ¬ blen (r >>> b) ≤ blen r - b - 1 := fun z => by rw [testBit_ge z] at t; cases t
    have h2 : blen (r >>> b) ≤ blen r - b := by
      rw [blen_le, Nat.shiftRight_eq_div_pow, Nat.div_lt_iff_lt_mul (Nat.two_pow_pos b), ← Nat.pow_add, show blen r - b + b = blen r by omega]
      exact lt_blen r
    omega
theorem Rws.high {R : List Nat} (A : Rws R) (b : Nat) : Rws ((R.filter fun r => !decide (blen r ≤ b)).map fun x => x >>> b) := by
  have hb : ∀ r ∈ R.filter fun r => !decide (blen r ≤ b), b < blen r := fun r hr => by
    have := (List.mem_filter.mp hr).2
    simp at this
    omega
  refine ⟨fun r hr => ?_, ?_⟩
  · obtain ⟨x, hx, rfl⟩ := List.mem_map.mp hr
    intro e
    have a := blen_shr b x
    rw [e] at a
    have := hb x hx
    have : blen 0 = 0 := rfl
    omega
  · rw [List.pairwise_map]
    refine (A.red.sublist List.filter_sublist).imp_of_mem fun {x y} hx hy h => ?_
    have a := hb x hx
    have c := hb y hy
    rw [blen_shr, blen_shr, Nat.testBit_shiftRight, Nat.testBit_shiftRight, show b + (blen y - b - 1) = blen y - 1 by omega, show b + (blen x - b - 1) = blen x - 1 by omega]
    exact h
theorem filter_two (p : Nat → Bool) : ∀ R : List Nat, (R.filter p).length + (R.filter fun r => !p r).length = R.length
  | [] => rfl
  | r :: rs => by
    have := filter_two p rs
    cases h : p r <;> simp [List.filter_cons, h] <;> omega
theorem Rws.split {R : List Nat} (A : Rws R) (b : Nat) : (R.filter fun r => decide (blen r ≤ b)).length + rk (R.map fun x => x >>> b) = R.length := by
  have a := spn_id (A.high b)
  rw [List.length_map] at a
  have e : rk (R.map fun x => x >>> b) = rk ((R.filter fun r => !decide (blen r ≤ b)).map fun x => x >>> b) := by
    refine Nat.le_antisymm (rk_le fun x hx => ?_) (rk_le fun x hx => ?_)
    · obtain ⟨r, hr, rfl⟩ := List.mem_map.mp hx
      by_cases h : blen r ≤ b
      · rw [Nat.shiftRight_eq_div_pow, Nat.div_eq_of_lt (blen_le.mp h)]; exact .zero
      · exact .of (List.mem_map.mpr ⟨r, List.mem_filter.mpr ⟨hr, by simpa using h⟩, rfl⟩)
    · obtain ⟨r, hr, rfl⟩ := List.mem_map.mp hx
      exact .of (List.mem_map.mpr ⟨r, (List.mem_filter.mp hr).1, rfl⟩)
  have := filter_two (fun r => decide (blen r ≤ b)) R
  omega
theorem mtd_len {b : Nat} {A B : List Nat} (RA : Rws A) (RB : Rws B) (lt : ∀ x ∈ A, x < 2 ^ b) : (mtd b A B).length + rk (A ++ B) = A.length + B.length := by
  have a := (spn_rws (mts b A B)).split b
  have r1 : (spn (mts b A B)).length = A.length + B.length := by
    have e : rk (mts b A B) = rk ((B.map fun r => r <<< b) ++ A.map fun r => (r <<< b) + r) := rk_perm List.perm_append_comm
    have i := (ind_pairs b RB.ind RA.ind lt).rk
    rw [← e] at i
    show rk (mts b A B) = _
    rw [i]
    simp
    omega
  have r2 : rk ((spn (mts b A B)).map fun x => x >>> b) = rk (A ++ B) := by
    have e1 : ∀ x, Spn ((spn (mts b A B)).map fun x => x >>> b) x ↔ Spn ((mts b A B).map fun x => x >>> b) x := fun x => by
      constructor
      · intro h
        obtain ⟨y, hy, rfl⟩ := (lin_shr b).back h
        exact (lin_shr b).spn ((spn_span _ y).mp hy)
      · intro h
        obtain ⟨y, hy, rfl⟩ := (lin_shr b).back h
        exact (lin_shr b).spn ((spn_span _ y).mpr hy)
    rw [rk_eq e1]
    unfold mts
    rw [List.map_append, map_shl_shr, List.map_map]
    have e2 : A.map ((fun x => x >>> b) ∘ fun r => (r <<< b) + r) = A := by
      conv => rhs; rw [← List.map_id A]
      refine List.map_congr_left fun x hx => ?_
      show (x <<< b + x) >>> b = x
      rw [add_eq_xor (lt x hx), Nat.shiftRight_xor_distrib, shl_shr, Nat.shiftRight_eq_div_pow, Nat.div_eq_of_lt (lt x hx), Nat.xor_zero]
    rw [e2]
  rw [r1, r2] at a
  exact a
/-! ### what the law asks -/
theorem kpt_eq {b : Nat} {ss ws : List Nat} (hs : ∀ x ∈ ss, x < 2 ^ b) : kpt b ss (spn ws) = ((rk (ss ++ ws) - rk ws : Nat) : Int) := by
  have a := mtd_len (b := b) (spn_rws ss) (spn_rws ws) (spn_lt hs)
  have c : rk (spn ss ++ spn ws) = rk (ss ++ ws) := rk_eq fun x => span_app2 (fun z => spn_span ss z) (fun z => spn_span ws z)
  have d := spn_id (mtd_rws b (spn ss) (spn ws))
  have e1 : (spn (mtd b (spn ss) (spn ws))).length = (mtd b (spn ss) (spn ws)).length := d
  have e2 : (spn ss).length = rk ss := rfl
  have e3 : (spn ws).length = rk ws := rfl
  have r := rk_right ss ws
  unfold kpt
  rw [e1, e2]
  rw [c, e2, e3] at a
  omega
theorem twn_sub_prt (ss ls ws : List Nat) : rk (twn ss ls ++ prt ss ls (spn ws)) = rk (prt ss ls (spn ws)) := by
  refine Nat.le_antisymm (rk_le fun x hx => ?_) (rk_right _ _)
  rcases List.mem_append.mp hx with hx | hx
  · have := (twn_span ss ls x).mp (.of hx)
    exact (prt_span ss ls ws x).mpr ⟨this.1, this.2.sub fun w hw => List.mem_append_left _ hw⟩
  · exact .of hx
theorem ldr_size {b : Nat} {ss ls ws : List Nat} (hs : ∀ x ∈ ss, x < 2 ^ b) (hl : ∀ x ∈ ls, x < 2 ^ b) (hw : ∀ x ∈ ws, x < 2 ^ b) (hb : b ≤ rk (ss ++ ls)) : (ldr ss ls (spn ws)).length = rk (ss ++ ws) - rk ss := by
  have a := cmpl_len (spn_rws (ker (ls.map (clr (spn ss))))) (prt ss ls (spn ws))
  have a' : (ldr ss ls (spn ws)).length + rk (twn ss ls) = rk (twn ss ls ++ prt ss ls (spn ws)) := a
  rw [twn_sub_prt, prt_rk] at a'
  have c : rk (twn ss ls) = (twn ss ls).length := spn_id (spn_rws _)
  have d := twn_size ss ls
  have e := prt_size ss ls ws
  have f : rk (ss ++ ls) = b := Nat.le_antisymm (rk_le_bits fun x hx => (List.mem_append.mp hx).elim (hs x) (hl x)) hb
  have g : rk (ss ++ ws ++ ls) = b := by
    refine Nat.le_antisymm (rk_le_bits fun x hx => ?_) (Nat.le_trans hb (rk_le fun x hx => ?_))
    · rcases List.mem_append.mp hx with hx | hx
      · exact (List.mem_append.mp hx).elim (hs x) (hw x)
      · exact hl x hx
    · rcases List.mem_append.mp hx with hx | hx
      · exact .of (List.mem_append_left _ (List.mem_append_left _ hx))
      · exact .of (List.mem_append_right _ hx)
  have h := rk_left ss ws
  omega
theorem ldr_mem {ss ls ws : List Nat} {x : Nat} (h : x ∈ ldr ss ls (spn ws)) : x < 2 ^ ls.length ∧ lft (bas (ss ++ ws)) (img ls x) = 0 := by
  have := (prt_span ss ls ws x).mp (.of (cmpl_mem _ x h))
  exact ⟨this.1, lft_bas.mpr this.2⟩
theorem ldr_rk (ss ls ws : List Nat) : rk ((ldr ss ls (spn ws)).map fun x => lft (bas ss) (img ls x)) = (ldr ss ls (spn ws)).length := by
  have L : Lin (fun x => lft (bas ss) (img ls x)) := (lin_lft _).comp (lin_img ls)
  have := (cmpl_ind (A := twn ss ls) (spn_rws _) (prt ss ls (spn ws)) L fun y hy e => (twn_span ss ls y).mpr ⟨((prt_span ss ls ws y).mp hy).1, lft_bas.mp e⟩).rk
  rw [List.length_map] at this
  exact this
theorem smr_eq {b : Nat} {ss ls ws : List Nat} (hs : ∀ x ∈ ss, x < 2 ^ b) (hl : ∀ x ∈ ls, x < 2 ^ b) (hw : ∀ x ∈ ws, x < 2 ^ b) (hb : b ≤ rk (ss ++ ls)) :
    smr b ss ls (spn ws) = rdf ((rk (ss ++ ws) - rk ws) - (tgd (ls.map (lft (bas ss)))).2.length) (rk (ss ++ ws) - rk ss) := by
  unfold smr
  rw [kpt_eq hs, ldr_size hs hl hw hb, ← twn_tag]
  congr 1
  omega
/-! ### the fewest rounds -/
/-- what is reached -/
def rch (b l t : Nat) : Nat → Nat
  | 0 => 1 <<< b
  | i + 1 => rch b l t i + min (rch b l t i) (1 <<< (l + t))
theorem rch_dbl {b l t : Nat} : ∀ i, i ≤ l + t + 1 - b → b ≤ l + t ∨ i = 0 → rch b l t i = 2 ^ (b + i)
  | 0, _, _ => Nat.one_shiftLeft b
  | i + 1, h, hb => by
    have hb' : b ≤ l + t := by omega
    have ih := rch_dbl (b := b) (l := l) (t := t) i (by omega) (.inl hb')
    show rch b l t i + min (rch b l t i) (1 <<< (l + t)) = _
    rw [ih, Nat.one_shiftLeft, Nat.min_eq_left (Nat.pow_le_pow_right (by decide) (by omega)), ← Nat.add_assoc, Nat.pow_succ]
    omega
theorem rch_ge {b l t d : Nat} (h : 2 ^ (l + t) ≤ rch b l t d) : ∀ j, rch b l t (d + j) = rch b l t d + j * 2 ^ (l + t)
  | 0 => by simp
  | j + 1 => by
    have ih := rch_ge h j
    show rch b l t (d + j) + min (rch b l t (d + j)) (1 <<< (l + t)) = _
    rw [Nat.one_shiftLeft, Nat.min_eq_right (by rw [ih]; exact Nat.le_trans h (Nat.le_add_right _ _)), ih, Nat.succ_mul]
    omega
theorem rch_lt {b l t r : Nat} (h : rch b l t r = 2 ^ (b + l)) : ∀ i, i < r → rch b l t i < 2 ^ (b + l) := by
  have up : ∀ i j, i ≤ j → rch b l t i ≤ rch b l t j := by
    intro i j hij
    induction hij with
    | refl => exact Nat.le_refl _
    | step _ ih => exact Nat.le_trans ih (Nat.le_add_right _ _)
  have pos : ∀ i, 0 < rch b l t i := fun i => Nat.lt_of_lt_of_le (by show 0 < 1 <<< b; rw [Nat.one_shiftLeft]; exact Nat.two_pow_pos b) (up 0 i (Nat.zero_le _))
  intro i hi
  have a := up (i + 1) r hi
  have c : rch b l t (i + 1) = rch b l t i + min (rch b l t i) (1 <<< (l + t)) := rfl
  have d : 0 < min (rch b l t i) (1 <<< (l + t)) := by
    rw [Nat.one_shiftLeft]
    have := pos i
    have := Nat.two_pow_pos (l + t)
    omega
  omega
theorem rch_rdf (b l t : Nat) : rch b l t (rdf (b - t) l) = 2 ^ (b + l) := by
  by_cases h : b ≤ t
  · have e : rdf (b - t) l = l := by
      rw [show b - t = 0 by omega]
      unfold rdf
      split
      · have : l = 0 := by omega
        subst this; rfl
      · simp
    rw [e, rch_dbl l (by omega) (.inl (by omega))]
  · obtain ⟨a, rfl⟩ : ∃ a, b = t + a := ⟨b - t, by omega⟩
    rw [show t + a - t = a by omega]
    unfold rdf
    split
    · rename_i hl
      obtain ⟨c, rfl⟩ : ∃ c, a = l + c := ⟨a - l, by omega⟩
      have q := rch_ge (b := t + (l + c)) (l := l) (t := t) (d := 0) (by show _ ≤ 1 <<< _; rw [Nat.one_shiftLeft]; exact Nat.pow_le_pow_right (by decide) (by omega)) (1 <<< (l + c) - 1 <<< (l + c - l))
      rw [Nat.zero_add] at q
      rw [q, show l + c - l = c by omega]
      show 1 <<< _ + _ = _
      rw [Nat.one_shiftLeft, Nat.one_shiftLeft, Nat.one_shiftLeft, Nat.sub_mul, ← Nat.pow_add, ← Nat.pow_add]
      have m : 2 ^ (c + (l + t)) ≤ 2 ^ (l + c + (l + t)) := Nat.pow_le_pow_right (by decide) (by omega)
      have e1 : t + (l + c) = c + (l + t) := by omega
      have e2 : c + (l + t) + l = l + c + (l + t) := by omega
      rw [e1, e2]
      omega
    · rename_i hl
      obtain ⟨c, rfl⟩ : ∃ c, l = a + c := ⟨l - a, by omega⟩
      have q0 : rch (t + a) (a + c) t c = 2 ^ (t + a + c) := rch_dbl c (by omega) (.inl (by omega))
      have q := rch_ge (b := t + a) (l := a + c) (t := t) (d := c) (by rw [q0]; exact Nat.pow_le_pow_right (by decide) (by omega)) (2 ^ a - 1)
      have p := Nat.two_pow_pos a
      rw [Nat.one_shiftLeft, show 2 ^ a - 1 + (a + c) - a = c + (2 ^ a - 1) by omega, q, q0, Nat.sub_mul, Nat.one_mul, ← Nat.pow_add]
      have e1 : t + a + c = a + c + t := by omega
      have e2 : t + a + (a + c) = a + (a + c + t) := by omega
      have m : 2 ^ (a + c + t) ≤ 2 ^ (a + (a + c + t)) := Nat.pow_le_pow_right (by decide) (by omega)
      rw [e1, e2]
      omega
theorem rdf_small {n l : Nat} (h : n ≤ 5) (hl : l ≤ 300) : rdf n l < 400 := by
  unfold rdf
  have : 2 ^ n ≤ 2 ^ 5 := Nat.pow_le_pow_right (by decide) h
  rw [Nat.one_shiftLeft]
  split
  · exact Nat.lt_of_le_of_lt (Nat.sub_le _ _) (by omega)
  · omega
theorem fewest_ok {b l t : Nat} (hl : l ≤ 300) : b ≤ 5 → rdf (b - t) l < 400 ∧ 1 <<< (b + l) ≤ rch b l t (rdf (b - t) l) ∧ ∀ i, i < rdf (b - t) l → rch b l t i < 1 <<< (b + l) := fun hb => by
  have h := rch_rdf b l t
  refine ⟨rdf_small (by omega) hl, ?_, ?_⟩
  · rw [h, Nat.one_shiftLeft]; exact Nat.le_refl _
  · rw [Nat.one_shiftLeft]; exact rch_lt h
end LaneX
set_option linter.all false
namespace LaneX
/-! ### numbers by their bits -/
def bitsOf (f : Nat → Bool) : Nat → Nat
  | 0 => 0
  | n + 1 => bitsOf f n ^^^ (if f n = true then 2 ^ n else 0)
theorem bitsOf_lt (f : Nat → Bool) : ∀ n, bitsOf f n < 2 ^ n
  | 0 => Nat.zero_lt_one
  | n + 1 => by
    have h := bitsOf_lt f n
    have m : 2 ^ n ≤ 2 ^ (n + 1) := Nat.pow_le_pow_right (by decide) (Nat.le_succ n)
    unfold bitsOf
    refine Nat.xor_lt_two_pow (Nat.lt_of_lt_of_le h m) ?_
    split
    · exact Nat.pow_lt_pow_right (by decide) (Nat.lt_succ_self n)
    · exact Nat.two_pow_pos _
theorem bitsOf_bit (f : Nat → Bool) : ∀ n i, (bitsOf f n).testBit i = (decide (i < n) && f i)
  | 0, i => by simp [bitsOf]
  | n + 1, i => by
    unfold bitsOf
    rw [Nat.testBit_xor, bitsOf_bit f n i]
    by_cases e : i = n
    · subst e
      cases h : f i
      · simp
      · simp [Nat.testBit_two_pow]
    · have : (i < n + 1) ↔ i < n := by omega
      cases h : f n
      · simp [this]
      · simp [this, Nat.testBit_two_pow, show ¬ n = i from fun z => e z.symm]
theorem bitsOf_xor (f g : Nat → Bool) (n : Nat) : bitsOf (fun i => f i ^^ g i) n = bitsOf f n ^^^ bitsOf g n := by
  apply Nat.eq_of_testBit_eq
  intro i
  rw [Nat.testBit_xor, bitsOf_bit, bitsOf_bit, bitsOf_bit]
  cases decide (i < n) <;> simp
theorem imf_congr {cols : List Nat} {x y : Nat} : ∀ {n}, (∀ i, i < n → x.testBit i = y.testBit i) → imf cols x n = imf cols y n
  | 0, _ => rfl
  | n + 1, h => by rw [imf_succ, imf_succ, imf_congr fun i hi => h i (by omega), h n (by omega)]
theorem img_congr {cols : List Nat} {x y : Nat} (h : ∀ i, i < cols.length → x.testBit i = y.testBit i) : img cols x = img cols y := imf_congr h
theorem imf_cols {P Q : List Nat} {x : Nat} : ∀ {n}, (∀ i, i < n → P.getD i 0 = Q.getD i 0) → imf P x n = imf Q x n
  | 0, _ => rfl
  | n + 1, h => by rw [imf_succ, imf_succ, imf_cols fun i hi => h i (by omega), h n (by omega)]
/-- columns one by one added -/
theorem imf_add {P Q R : List Nat} {x : Nat} : ∀ {n}, (∀ i, i < n → R.getD i 0 = P.getD i 0 ^^^ Q.getD i 0) → imf R x n = imf P x n ^^^ imf Q x n
  | 0, _ => (Nat.xor_self 0).symm
  | n + 1, h => by
    rw [imf_succ, imf_succ, imf_succ, imf_add fun i hi => h i (by omega), h n (by omega)]
    split
    · rw [xor4]
    · rfl
/-! ### the coefficients of rows in a word -/
def cof (R : List Nat) (l : Nat) : Nat := bitsOf (fun i => l.testBit (blen (R.getD i 0) - 1)) R.length
theorem cof_lt (R : List Nat) (l : Nat) : cof R l < 2 ^ R.length := bitsOf_lt _ _
theorem cof_bit {R : List Nat} {l i : Nat} (h : i < R.length) : (cof R l).testBit i = l.testBit (blen (R.getD i 0) - 1) := by
  unfold cof
  rw [bitsOf_bit, decide_eq_true h]; rfl
theorem cof_xor (R : List Nat) (x y : Nat) : cof R (x ^^^ y) = cof R x ^^^ cof R y := by
  unfold cof
  rw [← bitsOf_xor]
  congr 1
  funext i
  rw [Nat.testBit_xor]
theorem clr_take {R : List Nat} (A : Rws R) (l : Nat) : ∀ k, k ≤ R.length → clr (R.take k) l = l ^^^ imf R (cof R l) k
  | 0, _ => by show l = l ^^^ 0; rw [Nat.xor_zero]
  | k + 1, h => by
    have tk : R.take (k + 1) = R.take k ++ [R.getD k 0] := by
      rw [List.take_succ, List.getD_eq_getElem?_getD, List.getElem?_eq_getElem (by omega)]; rfl
    have ih := clr_take A l k (by omega)
    rw [tk, clr_append, imf_succ]
    show clr [R.getD k 0] _ = _
    rw [clr_cons]
    show _ ^^^ bx _ _ = _
    have red := A.red
    have hb : (clr (R.take k) l).testBit (blen (R.getD k 0) - 1) = l.testBit (blen (R.getD k 0) - 1) := by
      refine clr_bit fun r hr => ?_
      have e : R = R.take k ++ R.drop k := (List.take_append_drop k R).symm
      rw [e] at red
      have := (List.pairwise_append.mp red).2.2 r hr (R.getD k 0) (by
        rw [List.getD_eq_getElem?_getD, List.getElem?_eq_getElem (by omega), List.drop_eq_getElem_cons (by omega)]
        exact .head _)
      exact this.1
    rw [hb, ← cof_bit (by omega), ih]
    cases (cof R l).testBit k
    · simp [bx]
    · simp only [bx, if_true]
      rw [Nat.xor_assoc]
theorem img_cof {R : List Nat} (A : Rws R) (l : Nat) : img R (cof R l) = l ^^^ clr R l := by
  have := clr_take A l R.length (Nat.le_refl _)
  rw [List.take_length] at this
  rw [this, xor_cancel]
  rfl
theorem clr_idem {R : List Nat} (A : Rws R) (l : Nat) : clr R (clr R l) = clr R l := clr_of_none fun r hr => clr_tops A r hr
theorem getD_mem' {R : List Nat} {i : Nat} (h : i < R.length) : R.getD i 0 ∈ R := getD_mem h
theorem cof_clr {R : List Nat} (A : Rws R) (l : Nat) : cof R (clr R l) = 0 := by
  apply Nat.eq_of_testBit_eq
  intro i
  rw [Nat.zero_testBit]
  by_cases h : i < R.length
  · rw [cof_bit h]; exact clr_tops A _ (getD_mem h)
  · exact Nat.testBit_lt_two_pow (Nat.lt_of_lt_of_le (cof_lt R _) (Nat.pow_le_pow_right (by decide) (by omega)))
theorem imf_bit {R : List Nat} {t c : Nat} : ∀ {n}, (∀ i, i < n → (R.getD i 0).testBit t = false) → (imf R c n).testBit t = false
  | 0, _ => Nat.zero_testBit _
  | n + 1, h => by
    have ih := imf_bit (c := c) fun i hi => h i (Nat.lt_succ_of_lt hi)
    rw [imf_succ]
    split
    · rw [Nat.testBit_xor, ih, h n (Nat.lt_succ_self n)]; rfl
    · exact ih
theorem Rws.getD_bit {R : List Nat} (A : Rws R) {i j : Nat} (hi : i < R.length) (hj : j < R.length) (h : i ≠ j) : (R.getD i 0).testBit (blen (R.getD j 0) - 1) = false := by
  have e : ∀ k, k < R.length → R.getD k 0 = R[k]?.getD 0 := fun k _ => List.getD_eq_getElem?_getD
  have p := List.pairwise_iff_getElem.mp A.red
  rw [List.getD_eq_getElem?_getD, List.getD_eq_getElem?_getD, List.getElem?_eq_getElem hi, List.getElem?_eq_getElem hj]
  show R[i].testBit (blen R[j] - 1) = false
  rcases Nat.lt_or_ge i j with q | q
  · exact (p i j hi hj q).1
  · exact (p j i hj hi (by omega)).2
theorem imf_top {R : List Nat} (A : Rws R) {j c : Nat} (hj : j < R.length) : ∀ n, n ≤ R.length → (imf R c n).testBit (blen (R.getD j 0) - 1) = (decide (j < n) && c.testBit j)
  | 0, _ => by show (0 : Nat).testBit _ = _; simp
  | n + 1, hn => by
    have ih := imf_top A (c := c) hj n (by omega)
    rw [imf_succ]
    by_cases e : j = n
    · subst e
      have z : decide (j < j) = false := by simp
      rw [z, Bool.false_and] at ih
      have t := testBit_top (A.nz _ (getD_mem hj))
      cases q : c.testBit j
      · rw [if_neg (by simp), ih]; simp
      · rw [if_pos rfl, Nat.testBit_xor, ih, t]; simp
    · have b := A.getD_bit (i := n) (j := j) (by omega) hj (fun z => e z.symm)
      have d : (j < n + 1) ↔ j < n := by omega
      cases q : c.testBit n
      · rw [if_neg (by simp), ih]; simp [d]
      · rw [if_pos rfl, Nat.testBit_xor, ih, b]; simp [d]
theorem cof_img {R : List Nat} (A : Rws R) {c : Nat} (h : c < 2 ^ R.length) : cof R (img R c) = c := by
  apply Nat.eq_of_testBit_eq
  intro i
  by_cases hi : i < R.length
  · rw [cof_bit hi]
    unfold img
    rw [imf_top A hi _ (Nat.le_refl _), decide_eq_true hi]; rfl
  · have m : 2 ^ R.length ≤ 2 ^ i := Nat.pow_le_pow_right (by decide) (by omega)
    rw [Nat.testBit_lt_two_pow (Nat.lt_of_lt_of_le (cof_lt R _) m), Nat.testBit_lt_two_pow (Nat.lt_of_lt_of_le h m)]
theorem clr_img {R : List Nat} (A : Rws R) (c : Nat) : clr R (img R c) = 0 := by
  rw [← A.span]
  have : ∀ n, n ≤ R.length → Spn R (imf R c n) := by
    intro n
    induction n with
    | zero => intro _; exact .zero
    | succ n ih =>
      intro h
      rw [imf_succ]
      split
      · exact (ih (by omega)).xor (.of (getD_mem h))
      · exact ih (by omega)
  exact this _ (Nat.le_refl _)
/-! ### a word cleared stays as short -/
theorem clr_lt' {k : Nat} : ∀ {rows : List Nat} {w : Nat}, w < 2 ^ k → clr rows w < 2 ^ k
  | [], w, h => h
  | r :: rs, w, h => by
    rw [clr_cons]
    refine clr_lt' ?_
    cases q : w.testBit (blen r - 1) with
    | false => simpa [bx] using h
    | true =>
      simp only [bx, if_true]
      refine Nat.xor_lt_two_pow h ?_
      by_cases z : r = 0
      · rw [z]; exact Nat.two_pow_pos k
      · rw [← blen_le]
        have b := blen_pos z
        refine Classical.byContradiction fun n => ?_
        rw [testBit_ge (n := w) (i := blen r - 1) (Nat.le_trans (blen_le.mpr h) (by omega))] at q
        cases q
/-! ### solving -/
def slv (ss : List Nat) (g : Nat) : Nat := clr (prd ss) (g <<< ss.length)
theorem slv_ok {ss : List Nat} {g : Nat} (h : Spn ss g) : slv ss g < 2 ^ ss.length ∧ img ss (slv ss g) = g := by
  have h' : Spn (ss.take ss.length) g := by rw [List.take_length]; exact h
  obtain ⟨x, hx, rfl⟩ := span_img (Nat.le_refl _) h'
  have R := spn_rws (prs ss)
  have e1 : img ss x <<< ss.length = ((img ss x <<< ss.length) ^^^ x) ^^^ x := (xor_cancel_right _ _).symm
  have e2 : slv ss (img ss x) = clr (prd ss) x := by
    have z : clr (prd ss) ((img ss x <<< ss.length) ^^^ x) = 0 := R.span.mp ((spn_span _ _).mpr (prs_bwd ss (Nat.le_refl _) hx))
    unfold slv
    rw [e1, clr_xor, z, Nat.zero_xor]
  have h2 : clr (prd ss) x < 2 ^ ss.length := clr_lt' hx
  rw [e2]
  refine ⟨h2, ?_⟩
  have h3 := (spn_span (prs ss) _).mp (spn_clr (prd ss) x)
  have h4 : Spn (ker ss) (x ^^^ clr (prd ss) x) := by
    unfold ker prd
    rw [R.low_span, spn_span]
    exact ⟨h3, Nat.xor_lt_two_pow hx h2⟩
  have h5 := ((ker_span ss _).mp h4).2
  rw [(lin_img ss).x] at h5
  exact (xor_eq_zero h5).symm
/-! ### writes -/
section
variable (ss ls : List Nat)
def wmn : Nat := min (spn ss).length (twn ss ls).length
def wgoal (i : Nat) (tw : Nat) : Nat := img ls tw ^^^ (if i < wmn ss ls then (spn ss).getD i 0 else 0)
def wtn (i : Nat) (tw : Nat) : Nat × Nat := (blen tw - 1, slv ss (wgoal ss ls i tw))
def wts : List (Nat × Nat) := (List.range (twn ss ls).length).map fun i => wtn ss ls i ((twn ss ls).getD i 0)
def wst : List Nat := ((spn ss).drop (wmn ss ls)).map (slv ss)
def wslot (n l : Nat) : Nat := (wts ss ls).foldl (fun s p => if l.testBit p.1 = true then s ^^^ p.2 else s) (img (wst ss ls) n)
def went (n l : Nat) : Nat := img ss (wslot ss ls n l) ^^^ img ls l
end
section
variable {ss ls : List Nat}
theorem wfold {ps : List (Nat × Nat)} {l s : Nat} : ps.foldl (fun s p => if l.testBit p.1 = true then s ^^^ p.2 else s) s = s ^^^ img (ps.map Prod.snd) (bitsOf (fun i => l.testBit (ps.getD i (0, 0)).1) ps.length) := by
  have : ∀ k, k ≤ ps.length → (ps.take k).foldl (fun s p => if l.testBit p.1 = true then s ^^^ p.2 else s) s = s ^^^ imf (ps.map Prod.snd) (bitsOf (fun i => l.testBit (ps.getD i (0, 0)).1) ps.length) k := by
    intro k
    induction k with
    | zero => intro _; show s = s ^^^ 0; rw [Nat.xor_zero]
    | succ k ih =>
      intro h
      have tk : ps.take (k + 1) = ps.take k ++ [ps.getD k (0, 0)] := by
        rw [List.take_succ, List.getD_eq_getElem?_getD, List.getElem?_eq_getElem (by omega)]; rfl
      have e : (ps.map Prod.snd).getD k 0 = (ps.getD k (0, 0)).2 := by
        simp only [List.getD_eq_getElem?_getD, List.getElem?_map, List.getElem?_eq_getElem (show k < ps.length by omega)]
        rfl
      rw [tk, List.foldl_append, ih (by omega), imf_succ, bitsOf_bit, decide_eq_true (show k < ps.length by omega), e]
      show (if _ then _ else _) = _
      simp only [Bool.true_and]
      split
      · rw [Nat.xor_assoc]
      · rfl
  have q := this ps.length (Nat.le_refl _)
  rw [List.take_length] at q
  rw [q]
  unfold img
  rw [List.length_map]
theorem twn_rws (ss ls : List Nat) : Rws (twn ss ls) := spn_rws _
theorem wgoal_in (i : Nat) {tw : Nat} (h : tw ∈ twn ss ls) : Spn ss (wgoal ss ls i tw) := by
  refine ((twn_span ss ls tw).mp (.of h)).2.xor ?_
  split
  · rename_i hi
    rw [← spn_span]
    exact .of (getD_mem (by unfold wmn at hi; omega))
  · exact .zero
theorem wts_len : (wts ss ls).length = (twn ss ls).length := by simp [wts]
theorem wts_get {i : Nat} (h : i < (twn ss ls).length) : (wts ss ls).getD i (0, 0) = wtn ss ls i ((twn ss ls).getD i 0) := by
  unfold wts
  rw [List.getD_eq_getElem?_getD, List.getElem?_map, List.getElem?_range h]
  rfl
theorem wslot_eq (n l : Nat) : wslot ss ls n l = img (wst ss ls) n ^^^ img ((wts ss ls).map Prod.snd) (cof (twn ss ls) l) := by
  unfold wslot
  rw [wfold]
  congr 1
  refine img_congr fun i hi => ?_
  rw [List.length_map, wts_len] at hi
  rw [bitsOf_bit, wts_len, decide_eq_true hi, wts_get hi, cof_bit hi]
  rfl
theorem wst_lt : ∀ x ∈ wst ss ls, x < 2 ^ ss.length := fun x hx => by
  obtain ⟨r, hr, rfl⟩ := List.mem_map.mp hx
  exact (slv_ok ((spn_span ss r).mp (.of (List.mem_of_mem_drop hr)))).1
theorem wts_lt : ∀ p ∈ wts ss ls, p.2 < 2 ^ ss.length := fun p hp => by
  obtain ⟨i, hi, rfl⟩ := List.mem_map.mp hp
  exact (slv_ok (wgoal_in i (getD_mem (List.mem_range.mp hi)))).1
theorem imf_lt {b : Nat} {cs : List Nat} (h : ∀ c ∈ cs, c < 2 ^ b) (x : Nat) : ∀ n, imf cs x n < 2 ^ b
  | 0 => Nat.two_pow_pos b
  | n + 1 => by
    rw [imf_succ]
    split
    · refine Nat.xor_lt_two_pow (imf_lt h x n) ?_
      rw [List.getD_eq_getElem?_getD]
      cases q : cs[n]? with
      | none => exact Nat.two_pow_pos b
      | some c => exact h c (List.mem_of_getElem? q)
    · exact imf_lt h x n
theorem wslot_lt (n l : Nat) : wslot ss ls n l < 2 ^ ss.length := by
  rw [wslot_eq]
  refine Nat.xor_lt_two_pow (imf_lt wst_lt _ _) (imf_lt (fun c hc => ?_) _ _)
  obtain ⟨p, hp, rfl⟩ := List.mem_map.mp hc
  exact wts_lt p hp
theorem img_self_map {ss cols : List Nat} (h : ∀ r ∈ cols, Spn ss r) (x : Nat) : img ss (img (cols.map (slv ss)) x) = img cols x := by
  rw [← img_map (lin_img ss), List.map_map]
  unfold img
  rw [List.length_map]
  refine imf_cols fun i hi => ?_
  simp only [List.getD_eq_getElem?_getD, List.getElem?_map, List.getElem?_eq_getElem hi]
  exact (slv_ok (h _ (List.getElem_mem hi))).2
theorem went_eq (n l : Nat) : went ss ls n l = img ((spn ss).drop (wmn ss ls)) n ^^^ img ((spn ss).take (wmn ss ls)) (cof (twn ss ls) l) ^^^ img ls (clr (twn ss ls) l) := by
  unfold went
  rw [wslot_eq, (lin_img ss).x]
  have e1 : img ss (img (wst ss ls) n) = img ((spn ss).drop (wmn ss ls)) n := img_self_map (fun r hr => (spn_span ss r).mp (.of (List.mem_of_mem_drop hr))) n
  have e2 : img ss (img ((wts ss ls).map Prod.snd) (cof (twn ss ls) l)) = img ls (img (twn ss ls) (cof (twn ss ls) l)) ^^^ img ((spn ss).take (wmn ss ls)) (cof (twn ss ls) l) := by
    have a : (wts ss ls).map Prod.snd = ((List.range (twn ss ls).length).map fun i => wgoal ss ls i ((twn ss ls).getD i 0)).map (slv ss) := by
      unfold wts
      rw [List.map_map, List.map_map]
      rfl
    rw [a, img_self_map (fun r hr => by
      obtain ⟨i, hi, rfl⟩ := List.mem_map.mp hr
      exact wgoal_in i (getD_mem (List.mem_range.mp hi))), ← img_map (lin_img ls)]
    unfold img
    rw [List.length_map, List.length_map, List.length_range, List.length_take]
    have pad : ∀ k c, wmn ss ls ≤ k → imf ((spn ss).take (wmn ss ls)) c (min (wmn ss ls) (spn ss).length) = imf ((spn ss).take (wmn ss ls)) c k := by
      intro k c hk
      have m : min (wmn ss ls) (spn ss).length = wmn ss ls := by unfold wmn; omega
      rw [m]
      induction k with
      | zero => rw [show wmn ss ls = 0 by omega]
      | succ k ih =>
        by_cases q : wmn ss ls = k + 1
        · rw [q]
        · rw [imf_succ, ← ih (by omega)]
          have z : ((spn ss).take (wmn ss ls)).getD k 0 = 0 := by
            rw [List.getD_eq_getElem?_getD, List.getElem?_eq_none (by rw [List.length_take]; omega)]; rfl
          rw [z, Nat.xor_zero, ite_self]
    rw [pad (twn ss ls).length _ (by unfold wmn; omega)]
    refine imf_add fun i hi => ?_
    have g1 : ((List.range (twn ss ls).length).map fun i => wgoal ss ls i ((twn ss ls).getD i 0)).getD i 0 = wgoal ss ls i ((twn ss ls).getD i 0) := by
      rw [List.getD_eq_getElem?_getD, List.getElem?_map, List.getElem?_range hi]; rfl
    have g2 : ((twn ss ls).map (img ls)).getD i 0 = img ls ((twn ss ls).getD i 0) := by
      simp only [List.getD_eq_getElem?_getD, List.getElem?_map, List.getElem?_eq_getElem hi]
      rfl
    have g3 : ((spn ss).take (wmn ss ls)).getD i 0 = if i < wmn ss ls then (spn ss).getD i 0 else 0 := by
      simp only [List.getD_eq_getElem?_getD, List.getElem?_take]
      split <;> rfl
    rw [g1]
    show _ = ((twn ss ls).map (img ls)).getD i 0 ^^^ _
    rw [g2, g3]
    rfl
  rw [e1, e2, img_cof (twn_rws ss ls), (lin_img ls).x]
  generalize img ((spn ss).drop (wmn ss ls)) n = A
  generalize img ((spn ss).take (wmn ss ls)) (cof (twn ss ls) l) = B
  generalize img ls (clr (twn ss ls) l) = C
  generalize img ls l = D
  have q : D ^^^ C ^^^ B ^^^ D = B ^^^ C := by
    rw [Nat.xor_comm (D ^^^ C ^^^ B) D, Nat.xor_assoc D C B, xor_cancel, Nat.xor_comm]
  rw [Nat.xor_assoc A, q, Nat.xor_assoc A]
theorem img_app {P Q : List Nat} {x y : Nat} (h : x < 2 ^ P.length) : img (P ++ Q) (x ^^^ (y <<< P.length)) = img P x ^^^ img Q y := by
  have h1 : ∀ k, k ≤ P.length → imf (P ++ Q) (x ^^^ (y <<< P.length)) k = imf P x k := by
    intro k hk
    rw [imf_cols (P := P ++ Q) (Q := P) (fun i hi => by simp only [List.getD_eq_getElem?_getD, List.getElem?_append_left (show i < P.length by omega)])]
    refine imf_congr fun i hi => ?_
    rw [Nat.testBit_xor, Nat.testBit_shiftLeft]
    have : ¬ (P.length ≤ i) := by omega
    simp [this]
  have h2 : ∀ k, imf (P ++ Q) (x ^^^ (y <<< P.length)) (P.length + k) = imf P x P.length ^^^ imf Q y k := by
    intro k
    induction k with
    | zero => rw [Nat.add_zero, h1 _ (Nat.le_refl _)]; show _ = _ ^^^ 0; rw [Nat.xor_zero]
    | succ k ih =>
      rw [← Nat.add_assoc, imf_succ, imf_succ, ih]
      have g : (P ++ Q).getD (P.length + k) 0 = Q.getD k 0 := by
        simp only [List.getD_eq_getElem?_getD, List.getElem?_append_right (Nat.le_add_right P.length k), Nat.add_sub_cancel_left]
      have t : (x ^^^ (y <<< P.length)).testBit (P.length + k) = y.testBit k := by
        rw [Nat.testBit_xor, Nat.testBit_shiftLeft, Nat.testBit_lt_two_pow (Nat.lt_of_lt_of_le h (Nat.pow_le_pow_right (by decide) (Nat.le_add_right _ _)))]
        simp
      rw [g, t]
      split
      · rw [Nat.xor_assoc]
      · rfl
  unfold img
  rw [List.length_append, h2]
theorem ind_inj {A : List Nat} (h : rk A = A.length) {x : Nat} (hx : x < 2 ^ A.length) (e : img A x = 0) : x = 0 := by
  have k := ker_len_eq A
  have z : ker A = [] := List.length_eq_zero_iff.mp (by omega)
  have s := (ker_span A x).mpr ⟨hx, e⟩
  rw [z] at s
  exact s.nil
theorem in_full {ws : List Nat} {b e : Nat} (h : ∀ w ∈ ws, w < 2 ^ b) (hb : b ≤ rk ws) (he : e < 2 ^ b) : Spn ws e := by
  refine Classical.byContradiction fun n => ?_
  have a := rk_snoc_out n
  have c := rk_le_bits (ws := ws ++ [e]) (b := b) fun w hw => by
    rcases List.mem_append.mp hw with hw | hw
    · exact h w hw
    · rcases List.mem_singleton.mp hw with rfl; exact he
  omega
theorem span_split {a b : List Nat} {e : Nat} (h : Spn (a ++ b) e) : ∃ s q, Spn a s ∧ Spn b q ∧ e = s ^^^ q := by
  induction h with
  | zero => exact ⟨0, 0, .zero, .zero, rfl⟩
  | @add y w hw _ ih =>
    obtain ⟨s, q, hs, hq, rfl⟩ := ih
    rcases List.mem_append.mp hw with hw | hw
    · exact ⟨s ^^^ w, q, .add hw hs, hq, by rw [Nat.xor_assoc, Nat.xor_assoc, Nat.xor_comm q w]⟩
    · exact ⟨s, q ^^^ w, hs, .add hw hq, by rw [Nat.xor_assoc]⟩
section
variable {b : Nat} (hs : ∀ x ∈ ss, x < 2 ^ b) (hl : ∀ x ∈ ls, x < 2 ^ b) (hb : b ≤ rk (ss ++ ls))
include hs hl hb
theorem wcount : (spn ss).length - wmn ss ls = b - ls.length := by
  have a := twn_size ss ls
  have f : rk (ss ++ ls) = b := Nat.le_antisymm (rk_le_bits fun x hx => (List.mem_append.mp hx).elim (hs x) (hl x)) hb
  have e2 : (spn ss).length = rk ss := rfl
  unfold wmn
  omega
theorem went_surj {e : Nat} (he : e < 2 ^ b) : ∃ n l, n < 2 ^ (b - ls.length) ∧ l < 2 ^ ls.length ∧ went ss ls n l = e := by
  have wc := wcount hs hl hb
  have R := twn_rws ss ls
  have A := spn_rws ss
  obtain ⟨s, q, h1, h2, rfl⟩ := span_split (in_full (fun w hw => (List.mem_append.mp hw).elim (hs w) (hl w)) hb he)
  have h2' : Spn (ls.take ls.length) q := by rw [List.take_length]; exact h2
  obtain ⟨l0, hl0, rfl⟩ := span_img (Nat.le_refl _) h2'
  have tb : ∀ r ∈ twn ss ls, r < 2 ^ ls.length := fun r hr => ((twn_span ss ls r).mp (.of hr)).1
  have hc : clr (twn ss ls) l0 < 2 ^ ls.length := clr_lt tb hl0
  -- what is left lies in the slot space
  have h3 : Spn ss (s ^^^ img ls l0 ^^^ img ls (clr (twn ss ls) l0)) := by
    rw [Nat.xor_assoc, ← (lin_img ls).x]
    exact h1.xor ((twn_span ss ls _).mp (spn_clr _ l0)).2
  have h4 : Spn ((spn ss).take (spn ss).length) (s ^^^ img ls l0 ^^^ img ls (clr (twn ss ls) l0)) := by rw [List.take_length, spn_span]; exact h3
  obtain ⟨x, hx, ex⟩ := span_img (Nat.le_refl _) h4
  have m1 : wmn ss ls ≤ (spn ss).length := by unfold wmn; omega
  have m2 : wmn ss ls ≤ (twn ss ls).length := by unfold wmn; omega
  have tl : ((spn ss).take (wmn ss ls)).length = wmn ss ls := by rw [List.length_take]; omega
  have cl : x % 2 ^ wmn ss ls < 2 ^ wmn ss ls := Nat.mod_lt _ (Nat.two_pow_pos _)
  have cl2 : x % 2 ^ wmn ss ls < 2 ^ (twn ss ls).length := Nat.lt_of_lt_of_le cl (Nat.pow_le_pow_right (by decide) m2)
  refine ⟨x >>> wmn ss ls, clr (twn ss ls) l0 ^^^ img (twn ss ls) (x % 2 ^ wmn ss ls), ?_, Nat.xor_lt_two_pow hc (imf_lt tb _ _), ?_⟩
  · rw [Nat.shiftRight_eq_div_pow, ← wc]
    rw [Nat.div_lt_iff_lt_mul (Nat.two_pow_pos _), ← Nat.pow_add, show (spn ss).length - wmn ss ls + wmn ss ls = (spn ss).length by omega]
    exact hx
  · rw [went_eq, cof_xor, cof_clr R, Nat.zero_xor, cof_img R cl2, clr_xor, clr_idem R, clr_img R, Nat.xor_zero]
    have q := img_app (P := (spn ss).take (wmn ss ls)) (Q := (spn ss).drop (wmn ss ls)) (x := x % 2 ^ wmn ss ls) (y := x >>> wmn ss ls) (by rw [tl]; exact cl)
    rw [List.take_append_drop, tl, Nat.xor_comm (x % _), ← add_eq_xor cl, Nat.shiftRight_eq_div_pow, Nat.shiftLeft_eq, Nat.mul_comm, Nat.div_add_mod, ex] at q
    rw [Nat.shiftRight_eq_div_pow, Nat.xor_comm (img _ _) (img _ _), ← q, xor_cancel_right]
theorem went_zero (ht : ls.length ≤ b) {n l : Nat} (hn : n < 2 ^ (b - ls.length)) (hl2 : l < 2 ^ ls.length) (h : went ss ls n l = 0) : n = 0 ∧ l = 0 := by
  have wc := wcount hs hl hb
  have R := twn_rws ss ls
  have A := spn_rws ss
  have a := twn_size ss ls
  have f : rk (ss ++ ls) = b := Nat.le_antisymm (rk_le_bits fun x hx => (List.mem_append.mp hx).elim (hs x) (hl x)) hb
  have e2 : (spn ss).length = rk ss := rfl
  have m : wmn ss ls = (twn ss ls).length := by unfold wmn; omega
  have m1 : wmn ss ls ≤ (spn ss).length := by unfold wmn; omega
  have tl : ((spn ss).take (wmn ss ls)).length = wmn ss ls := by rw [List.length_take]; omega
  have tb : ∀ r ∈ twn ss ls, r < 2 ^ ls.length := fun r hr => ((twn_span ss ls r).mp (.of hr)).1
  have cl : cof (twn ss ls) l < 2 ^ ((spn ss).take (wmn ss ls)).length := by rw [tl, m]; exact cof_lt _ _
  rw [went_eq] at h
  have q := img_app (Q := (spn ss).drop (wmn ss ls)) (y := n) cl
  rw [List.take_append_drop, tl] at q
  rw [Nat.xor_comm (img ((spn ss).drop _) _), ← q] at h
  have h' := xor_eq_zero h
  have sA : ∀ x k, k ≤ (spn ss).length → Spn ss (imf (spn ss) x k) := by
    intro x k
    induction k with
    | zero => intro _; exact .zero
    | succ k ih =>
      intro hk
      rw [imf_succ]
      split
      · exact (ih (by omega)).xor ((spn_span ss _).mp (.of (getD_mem hk)))
      · exact ih (by omega)
  have hz : clr (twn ss ls) l = 0 := by
    have s1 : Spn (twn ss ls) (clr (twn ss ls) l) := (twn_span ss ls _).mpr ⟨clr_lt tb hl2, by rw [← h']; exact sA _ _ (Nat.le_refl _)⟩
    have s2 := R.span.mp s1
    rwa [clr_idem R] at s2
  rw [hz, (lin_img ls).z] at h'
  have big : cof (twn ss ls) l ^^^ (n <<< wmn ss ls) < 2 ^ (spn ss).length := by
    refine Nat.xor_lt_two_pow (Nat.lt_of_lt_of_le cl (Nat.pow_le_pow_right (by decide) (by rw [tl]; exact m1))) ?_
    rw [Nat.shiftLeft_eq, show (spn ss).length = (b - ls.length) + wmn ss ls by omega, Nat.pow_add]
    exact Nat.mul_lt_mul_of_pos_right hn (Nat.two_pow_pos _)
  have z := ind_inj (spn_id A) big h'
  have n0 : n = 0 := by
    have := congrArg (fun x => x >>> wmn ss ls) z
    simp only [Nat.shiftRight_xor_distrib, Nat.shiftLeft_shiftRight, Nat.zero_shiftRight] at this
    rw [Nat.shiftRight_eq_div_pow, Nat.div_eq_of_lt (by rw [tl] at cl; exact cl), Nat.zero_xor] at this
    exact this
  rw [n0, Nat.zero_shiftLeft, Nat.xor_zero] at z
  have il := img_cof R l
  rw [z, (lin_img _).z, hz, Nat.xor_zero] at il
  exact ⟨n0, il.symm⟩
theorem went_inj (ht : ls.length ≤ b) {n l n' l' : Nat} (hn : n < 2 ^ (b - ls.length)) (hl2 : l < 2 ^ ls.length) (hn' : n' < 2 ^ (b - ls.length)) (hl2' : l' < 2 ^ ls.length) (h : went ss ls n l = went ss ls n' l') : n = n' ∧ l = l' := by
  have e : went ss ls (n ^^^ n') (l ^^^ l') = 0 := by
    have : went ss ls (n ^^^ n') (l ^^^ l') = went ss ls n l ^^^ went ss ls n' l' := by
      rw [went_eq, went_eq, went_eq, cof_xor, clr_xor, (lin_img _).x, (lin_img _).x, (lin_img _).x]
      rw [xor4 (img _ n), xor4 (_ ^^^ _) (_ ^^^ _)]
    rw [this, h, Nat.xor_self]
  obtain ⟨a, c⟩ := went_zero hs hl hb ht (Nat.xor_lt_two_pow hn hn') (Nat.xor_lt_two_pow hl2 hl2') e
  exact ⟨xor_eq_zero a, xor_eq_zero c⟩
end
end
end LaneX
set_option linter.all false
namespace LaneX
/-! ### the sums that lanes hold, step by step (k36) -/
theorem span_snoc {A : List Nat} {w x : Nat} : Spn (A ++ [w]) x ↔ Spn A x ∨ Spn A (x ^^^ w) := by
  constructor
  · intro h
    obtain ⟨s, q, h1, h2, rfl⟩ := span_split h
    have : q = 0 ∨ q = w := by
      clear h
      induction h2 with
      | zero => exact .inl rfl
      | add hw _ ih =>
        rcases List.mem_singleton.mp hw with rfl
        rcases ih with rfl | rfl
        · rw [Nat.zero_xor]; exact .inr rfl
        · rw [Nat.xor_self]; exact .inl rfl
    rcases this with rfl | rfl
    · rw [Nat.xor_zero]; exact .inl h1
    · rw [xor_cancel_right]; exact .inr h1
  · rintro (h | h)
    · exact h.sub fun z hz => List.mem_append_left _ hz
    · have a : Spn (A ++ [w]) (x ^^^ w) := h.sub fun z hz => List.mem_append_left _ hz
      have b : Spn (A ++ [w]) w := .of (List.mem_append_right _ (List.mem_singleton_self _))
      have := a.xor b
      rwa [xor_cancel_right] at this
/-- an entry that a lane knows of behind the steps P -/
def Ent (ss ls P : List Nat) (L e : Nat) : Prop := Spn (ss ++ P.map (img ls)) (e ^^^ img ls L)
theorem ent_nil {ss ls : List Nat} {L e : Nat} : Ent ss ls [] L e ↔ ∃ s, s < 2 ^ ss.length ∧ img ls L ^^^ img ss s = e := by
  unfold Ent
  rw [List.map_nil, List.append_nil]
  constructor
  · intro h
    obtain ⟨x, hx, e1⟩ := span_img (cols := ss) (Nat.le_refl _) (by rwa [List.take_length])
    refine ⟨x, hx, ?_⟩
    rw [e1, Nat.xor_comm e, xor_cancel]
  · rintro ⟨s, hs, rfl⟩
    rw [Nat.xor_comm, xor_cancel]
    have := img_span (cols := ss) (Nat.le_refl _) hs
    rwa [List.take_length] at this
theorem ent_snoc {ss ls P : List Nat} {p L e : Nat} : Ent ss ls (P ++ [p]) L e ↔ Ent ss ls P L e ∨ Ent ss ls P (L ^^^ p) e := by
  unfold Ent
  rw [List.map_append, List.map_singleton, ← List.append_assoc, span_snoc, (lin_img ls).x, Nat.xor_assoc]
theorem ent_apart {ss ls P : List Nat} {p L e : Nat} (hp : ¬ Spn (ss ++ P.map (img ls)) (img ls p)) (h1 : Ent ss ls P L e) (h2 : Ent ss ls P (L ^^^ p) e) : False := by
  refine hp ?_
  have := Spn.xor h1 h2
  rw [(lin_img ls).x] at this
  have e1 : e ^^^ img ls L ^^^ (e ^^^ (img ls L ^^^ img ls p)) = img ls p := by
    rw [← Nat.xor_assoc e, xor_cancel]
  rwa [e1] at this
theorem ent_lt {b : Nat} {ss ls P : List Nat} (hs : ∀ x ∈ ss, x < 2 ^ b) (hl : ∀ x ∈ ls, x < 2 ^ b) {L e : Nat} (h : Ent ss ls P L e) : e < 2 ^ b := by
  have a : e ^^^ img ls L < 2 ^ b := Spn.lt h fun w hw => by
    rcases List.mem_append.mp hw with hw | hw
    · exact hs w hw
    · obtain ⟨p, _, rfl⟩ := List.mem_map.mp hw
      exact imf_lt hl _ _
  have b1 : img ls L < 2 ^ b := imf_lt hl _ _
  have := Nat.xor_lt_two_pow a b1
  rwa [xor_cancel_right] at this
/-- steps that are independent beside the slots -/
def Fre (ss ls P : List Nat) : Prop := rk (ss ++ P.map (img ls)) = rk ss + P.length
theorem Fre.perm {ss ls P Q : List Nat} (h : Fre ss ls P) (p : Q.Perm P) : Fre ss ls Q := by
  unfold Fre at *
  rw [p.length_eq, ← h]
  exact rk_perm ((p.map _).append_left ss)
theorem Fre.head {ss ls P Q : List Nat} (h : Fre ss ls (P ++ Q)) : Fre ss ls P := by
  unfold Fre at *
  rw [List.map_append, ← List.append_assoc, List.length_append] at h
  have a := rk_app_len (ss ++ P.map (img ls)) (Q.map (img ls))
  have b := rk_app_len ss (P.map (img ls))
  rw [List.length_map] at a b
  omega
theorem Fre.out {ss ls P : List Nat} {p : Nat} (h : Fre ss ls (P ++ [p])) : ¬ Spn (ss ++ P.map (img ls)) (img ls p) := by
  intro z
  have a := h.head
  unfold Fre at *
  rw [List.map_append, List.map_singleton, ← List.append_assoc, rk_snoc_in z, List.length_append] at h
  simp only [List.length_singleton] at h
  omega
theorem ldr_free (ss ls ws : List Nat) : Fre ss ls (ldr ss ls (spn ws)) := by
  have a := (red_lft ss).rk ((ldr ss ls (spn ws)).map (img ls))
  rw [List.map_map] at a
  have b := ldr_rk ss ls ws
  unfold Fre
  have e : (fun x => lft (bas ss) (img ls x)) = lft (bas ss) ∘ img ls := rfl
  rw [e] at b
  omega
theorem ldr_spans {b : Nat} {ss ls ws : List Nat} (hs : ∀ x ∈ ss, x < 2 ^ b) (hl : ∀ x ∈ ls, x < 2 ^ b) (hw : ∀ x ∈ ws, x < 2 ^ b) (hb : b ≤ rk (ss ++ ls)) {w : Nat} (h : Spn ws w) : Spn (ss ++ (ldr ss ls (spn ws)).map (img ls)) w := by
  have wl : w < 2 ^ b := h.lt hw
  obtain ⟨s, q, h1, h2, rfl⟩ := span_split (in_full (ws := ss ++ ls) (fun w hw => (List.mem_append.mp hw).elim (hs w) (hl w)) hb wl)
  obtain ⟨x, hx, rfl⟩ := span_img (cols := ls) (Nat.le_refl _) (by rwa [List.take_length])
  have px : Spn (ss ++ ws) (img ls x) := by
    have a : Spn (ss ++ ws) (s ^^^ img ls x) := h.sub fun z hz => List.mem_append_right _ hz
    have c : Spn (ss ++ ws) s := h1.sub fun z hz => List.mem_append_left _ hz
    have := c.xor a
    rwa [xor_cancel] at this
  have pp : Spn (prt ss ls (spn ws)) x := (prt_span ss ls ws x).mpr ⟨hx, px⟩
  have R : Rws (twn ss ls) := spn_rws _
  have cs := cms_span R (prt ss ls (spn ws))
  have q2 : Spn (twn ss ls ++ ldr ss ls (spn ws)) x := (cs.2 x).mp ((cs.1 x).mpr (pp.sub fun z hz => List.mem_append_right _ hz))
  obtain ⟨t, y, ht, hy, rfl⟩ := span_split q2
  have i1 : Spn ss (img ls t) := ((twn_span ss ls t).mp ht).2
  have i2 : Spn ((ldr ss ls (spn ws)).map (img ls)) (img ls y) := (lin_img ls).spn hy
  rw [(lin_img ls).x, ← Nat.xor_assoc]
  exact ((h1.xor i1).sub fun z hz => List.mem_append_left _ hz).xor (i2.sub fun z hz => List.mem_append_right _ hz)
theorem coset_span {ws : List Nat} {x y : Nat} : lft (bas ws) x = lft (bas ws) y ↔ Spn ws (x ^^^ y) := by
  rw [← lft_bas, lft_xor]
  exact ⟨fun h => by rw [h, Nat.xor_self], fun h => xor_eq_zero h⟩
/-- behind all steps a lane knows of all entries of the cosets of which it holds one -/
theorem ent_all {b : Nat} {ss ls ws P : List Nat} (hs : ∀ x ∈ ss, x < 2 ^ b) (hl : ∀ x ∈ ls, x < 2 ^ b) (hw : ∀ x ∈ ws, x < 2 ^ b) (hb : b ≤ rk (ss ++ ls)) (hP : P.Perm (ldr ss ls (spn ws))) {L e0 e : Nat} (h0 : Ent ss ls [] L e0)
    (he : lft (bas ws) e = lft (bas ws) e0) : Ent ss ls P L e := by
  have a := ldr_spans hs hl hw hb (coset_span.mp he)
  have c : Spn (ss ++ P.map (img ls)) (e ^^^ e0) := a.sub fun z hz => by
    rcases List.mem_append.mp hz with hz | hz
    · exact List.mem_append_left _ hz
    · exact List.mem_append_right _ ((hP.map (img ls)).mem_iff.mpr hz)
  unfold Ent at *
  rw [List.map_nil, List.append_nil] at h0
  have d := c.xor (h0.sub (vs := ss ++ P.map (img ls)) fun z hz => List.mem_append_left _ hz)
  have e1 : e ^^^ e0 ^^^ (e0 ^^^ img ls L) = e ^^^ img ls L := by rw [Nat.xor_assoc, xor_cancel]
  rwa [e1] at d
/-- with one of the steps left out it lacks one of them -/
theorem ent_less {b : Nat} {ss ls ws P : List Nat} {p : Nat} (hs : ∀ x ∈ ss, x < 2 ^ b) (hl : ∀ x ∈ ls, x < 2 ^ b) (hw : ∀ x ∈ ws, x < 2 ^ b) (hP : ldr ss ls (spn ws) = p :: P) {L e0 : Nat} (h0 : Ent ss ls [] L e0) :
    ∃ e, e < 2 ^ b ∧ lft (bas ws) e = lft (bas ws) e0 ∧ ¬ Ent ss ls P L e := by
  have F : Fre ss ls (P ++ [p]) := (ldr_free ss ls ws).perm (by rw [hP]; exact List.perm_append_comm)
  have hp : p ∈ ldr ss ls (spn ws) := by rw [hP]; exact List.mem_cons_self
  have m := lft_bas.mp (ldr_mem hp).2
  obtain ⟨s, w, h1, h2, e1⟩ := span_split m
  refine ⟨e0 ^^^ w, Nat.xor_lt_two_pow (ent_lt hs hl h0) (h2.lt hw), coset_span.mpr ?_, fun z => F.out ?_⟩
  · rw [Nat.xor_comm e0, xor_cancel_right]; exact h2
  · unfold Ent at *
    rw [List.map_nil, List.append_nil] at h0
    have d := (z.xor (h0.sub (vs := ss ++ P.map (img ls)) fun z hz => List.mem_append_left _ hz)).xor (h1.sub (vs := ss ++ P.map (img ls)) fun z hz => List.mem_append_left _ hz)
    have e2 : e0 ^^^ w ^^^ img ls L ^^^ (e0 ^^^ img ls L) ^^^ s = img ls p := by
      rw [e1, Nat.xor_assoc e0 w, xor4, Nat.xor_self, Nat.zero_xor, xor_cancel_right, Nat.xor_comm]
    rwa [e2] at d
/-! ### masks -/
/-- the word with ones where p, below n -/
def mask (p : Nat → Bool) (n : Nat) : Nat := (((List.range n).filter p).map fun i => 1 <<< i).sum
theorem mask_bits (p : Nat → Bool) : ∀ n, mask p n = bitsOf p n
  | 0 => rfl
  | n + 1 => by
    have ih := mask_bits p n
    unfold mask at *
    rw [List.range_succ, List.filter_append, List.map_append, List.sum_append, ih]
    apply Nat.eq_of_testBit_eq
    intro i
    rw [bitsOf_bit]
    have lt := bitsOf_lt p n
    by_cases h : p n = true
    · have e : ((List.filter p [n]).map fun i => 1 <<< i).sum = 2 ^ n := by simp [h, Nat.one_shiftLeft]
      rw [e, Nat.add_comm]
      by_cases hi : i = n
      · subst hi
        rw [Nat.testBit_two_pow_add_eq, bitsOf_bit]
        simp [h]
      · rcases Nat.lt_or_gt_of_ne hi with hi | hi
        · rw [Nat.testBit_two_pow_add_gt hi, bitsOf_bit]
          have : i < n + 1 := by omega
          simp [hi, this]
        · rw [Nat.testBit_lt_two_pow]
          · simp; omega
          · have : 2 ^ (n + 1) ≤ 2 ^ i := Nat.pow_le_pow_right (by decide) hi
            rw [Nat.pow_succ] at this
            omega
    · have e : ((List.filter p [n]).map fun i => 1 <<< i).sum = 0 := by simp [h]
      rw [e, Nat.add_zero, bitsOf_bit]
      by_cases hi : i = n
      · subst hi; simp [h]
      · have : (i < n) ↔ (i < n + 1) := by omega
        simp [this]
theorem mask_bit (p : Nat → Bool) (n i : Nat) : (mask p n).testBit i = (decide (i < n) && p i) := by rw [mask_bits, bitsOf_bit]
theorem mask_lt (p : Nat → Bool) (n : Nat) : mask p n < 2 ^ n := by rw [mask_bits]; exact bitsOf_lt _ _
/-- m is the word of the entries of E whose coset is c -/
def Msk (rows : List Nat) (E : Nat → Prop) (c m : Nat) : Prop := ∀ e, m.testBit e = true ↔ E e ∧ lft rows e = c
theorem Msk.or {rows : List Nat} {E F : Nat → Prop} {c m n : Nat} (h : Msk rows E c m) (g : Msk rows F c n) : Msk rows (fun e => E e ∨ F e) c (m ||| n) := fun e => by
  rw [Nat.testBit_or, Bool.or_eq_true, h e, g e]
  constructor
  · rintro (⟨a, b⟩ | ⟨a, b⟩)
    · exact ⟨.inl a, b⟩
    · exact ⟨.inr a, b⟩
  · rintro ⟨a | a, b⟩
    · exact .inl ⟨a, b⟩
    · exact .inr ⟨a, b⟩
theorem Msk.and {rows : List Nat} {E F : Nat → Prop} {c m n : Nat} (h : Msk rows E c m) (g : Msk rows F c n) (d : ∀ e, E e → F e → False) : m &&& n = 0 := by
  apply Nat.eq_of_testBit_eq
  intro e
  rw [Nat.zero_testBit, Nat.testBit_and]
  cases h1 : m.testBit e with
  | false => rfl
  | true =>
    cases h2 : n.testBit e with
    | false => rfl
    | true => exact (d e ((h e).mp h1).1 ((g e).mp h2).1).elim
theorem Msk.zero {rows : List Nat} {E : Nat → Prop} {c : Nat} (h : ∀ e, E e → lft rows e ≠ c) : Msk rows E c 0 := fun e => by
  rw [Nat.zero_testBit]
  exact ⟨fun z => (by cases z), fun z => (h e z.1 z.2).elim⟩
theorem Msk.congr {rows : List Nat} {E F : Nat → Prop} {c m : Nat} (h : Msk rows E c m) (g : ∀ e, E e ↔ F e) : Msk rows F c m := fun e => by rw [h e, g e]
theorem Msk.unit {rows : List Nat} (e : Nat) : Msk rows (fun x => x = e) (lft rows e) (1 <<< e) := fun x => by
  rw [unit_bit, decide_eq_true_iff]
  exact ⟨fun h => by subst h; exact ⟨rfl, rfl⟩, fun h => h.1.symm⟩
theorem Msk.whole {rows : List Nat} {E : Nat → Prop} {c m n : Nat} (h : Msk rows E c m) (lt : ∀ e, E e → e < n) (all : ∀ e, e < n → lft rows e = c → E e) : m = mask (fun e => decide (lft rows e = c)) n := by
  apply Nat.eq_of_testBit_eq
  intro e
  rw [mask_bit, Bool.eq_iff_iff, h e, Bool.and_eq_true, decide_eq_true_iff, decide_eq_true_iff]
  exact ⟨fun z => ⟨lt e z.1, z.2⟩, fun z => ⟨all e z.1 z.2, z.2⟩⟩
theorem Msk.less {rows : List Nat} {E : Nat → Prop} {c m n : Nat} (h : Msk rows E c m) (ex : ∃ e, e < n ∧ lft rows e = c ∧ ¬ E e) : m ≠ mask (fun e => decide (lft rows e = c)) n := by
  obtain ⟨e, h1, h2, h3⟩ := ex
  rintro rfl
  have := (h e).mp (by rw [mask_bit]; simp [h1, h2])
  exact h3 this.1
end LaneX
set_option linter.all false
namespace LaneX
/-! ### drawn words that can be undone (k17 and the laws behind it) -/
theorem rk_of_inj {A : List Nat} (h : ∀ x, x < 2 ^ A.length → img A x = 0 → x = 0) : rk A = A.length := by
  have k := ker_len_eq A
  have z : ker A = [] := by
    cases e : ker A with
    | nil => rfl
    | cons r l =>
      have m : r ∈ ker A := by rw [e]; exact List.mem_cons_self
      have s := (ker_span A r).mp (.of m)
      exact absurd (h r s.1 s.2) ((ker_rws A).nz r m)
  rw [z] at k
  simpa using k
theorem imf_none {A : List Nat} {x : Nat} : ∀ n, (∀ i, i < n → x.testBit i = false) → imf A x n = 0
  | 0, _ => rfl
  | n + 1, h => by
    rw [imf_succ, h n (Nat.lt_succ_self n), if_neg (by decide)]
    exact imf_none n fun i hi => h i (Nat.lt_succ_of_lt hi)
/-- bit t stays where the columns behind n are 0 at it, or are not taken -/
theorem imf_stay {A : List Nat} {x t m : Nat} : ∀ k, (∀ i, m ≤ i → i < m + k → x.testBit i = true → (A.getD i 0).testBit t = false) → (imf A x (m + k)).testBit t = (imf A x m).testBit t
  | 0, _ => rfl
  | k + 1, h => by
    have ih := imf_stay k fun i h1 h2 h3 => h i h1 (by omega) h3
    show (imf A x (m + k + 1)).testBit t = _
    rw [imf_succ]
    by_cases e : x.testBit (m + k) = true
    · rw [if_pos e, Nat.testBit_xor, h (m + k) (by omega) (by omega) e, ih]; simp
    · rw [if_neg e, ih]
theorem low_below {n i : Nat} (h : n ≠ 0) (hi : i < low n) : n.testBit i = false := by
  induction n using Nat.strongRecOn generalizing i with
  | ind n ih =>
    unfold low at hi
    rw [dif_neg h] at hi
    split at hi
    · omega
    · rename_i h2
      cases i with
      | zero => rw [Nat.testBit_zero]; simp; omega
      | succ i =>
        rw [Nat.testBit_succ]
        exact ih (n / 2) (by omega) (by omega) (by omega)
/-- the columns' lowest bits are 0, 1, 2 .. -/
theorem rk_highs {A : List Nat} (h1 : ∀ i, i < A.length → (A.getD i 0).testBit i = true) (h2 : ∀ i j, i < A.length → j < i → (A.getD i 0).testBit j = false) : rk A = A.length := by
  refine rk_of_inj fun x hx e => Classical.byContradiction fun nz => ?_
  have lb := low_bit nz
  have ll : low x < A.length := by
    refine Nat.lt_of_not_le fun q => ?_
    have := Nat.testBit_lt_two_pow (Nat.lt_of_lt_of_le hx (Nat.pow_le_pow_right (by decide) q))
    rw [this] at lb; cases lb
  have a : imf A x (low x + 1) = A.getD (low x) 0 := by
    rw [imf_succ, if_pos lb, imf_none _ fun i hi => low_below nz hi, Nat.zero_xor]
  have c := imf_stay (A := A) (x := x) (t := low x) (m := low x + 1) (A.length - (low x + 1)) fun i h3 h4 _ => h2 i _ (by omega) (by omega)
  rw [show low x + 1 + (A.length - (low x + 1)) = A.length by omega, a, h1 _ ll] at c
  have d : (img A x).testBit (low x) = true := c
  rw [e] at d
  simp at d
/-- the columns' highest bits are 0, 1, 2 .. -/
theorem rk_lows {A : List Nat} (h1 : ∀ i, i < A.length → (A.getD i 0).testBit i = true) (h2 : ∀ i j, i < A.length → i < j → (A.getD i 0).testBit j = false) : rk A = A.length := by
  refine rk_of_inj fun x hx e => Classical.byContradiction fun nz => ?_
  have tb := testBit_top nz
  have tl : blen x - 1 < A.length := by
    have := blen_le.mpr hx
    have := blen_pos nz
    omega
  have a : (imf A x (blen x - 1)).testBit (blen x - 1) = false := by
    have c := imf_stay (A := A) (x := x) (t := blen x - 1) (m := 0) (blen x - 1) fun i _ h4 _ => h2 i _ (by omega) (by omega)
    rw [Nat.zero_add] at c
    rw [c]; exact Nat.zero_testBit _
  have a2 : (imf A x (blen x - 1 + 1)).testBit (blen x - 1) = true := by
    rw [imf_succ, if_pos tb, Nat.testBit_xor, a, h1 _ tl]; rfl
  have c := imf_stay (A := A) (x := x) (t := blen x - 1) (m := blen x - 1 + 1) (A.length - (blen x - 1 + 1)) fun i h3 h4 h5 => by
    rw [testBit_ge (by omega)] at h5; cases h5
  rw [show blen x - 1 + 1 + (A.length - (blen x - 1 + 1)) = A.length by omega, a2] at c
  have d : (img A x).testBit (blen x - 1) = true := c
  rw [e] at d
  simp at d
/-- M: as many words as bits, that can be undone -/
structure Mix (b : Nat) (M : List Nat) : Prop where
  len : M.length = b
  lt : ∀ x ∈ M, x < 2 ^ b
  rk : rk M = b
theorem Mix.perm {b : Nat} {M N : List Nat} (h : Mix b M) (p : N.Perm M) : Mix b N := ⟨p.length_eq.trans h.len, fun x hx => h.lt x (p.mem_iff.mp hx), (rk_perm p).trans h.rk⟩
theorem mix_units (b : Nat) : Mix b (units b) := ⟨by simp [units], fun x hx => by
  obtain ⟨i, hi, rfl⟩ := List.mem_map.mp hx
  rw [Nat.one_shiftLeft]
  exact Nat.pow_lt_pow_right (by decide) (List.mem_range.mp hi), units_rk b⟩
theorem mix_comp {b : Nat} {A B : List Nat} (hA : Mix b A) (hB : Mix b B) : Mix b (B.map (img A)) := by
  have l : (B.map (img A)).length = b := by rw [List.length_map, hB.len]
  refine ⟨l, fun x hx => ?_, ?_⟩
  · obtain ⟨y, _, rfl⟩ := List.mem_map.mp hx
    exact imf_lt hA.lt _ _
  · rw [rk_of_inj fun x hx e => ?_, l]
    rw [img_map (lin_img A)] at e
    rw [l] at hx
    have lt : img B x < 2 ^ A.length := by rw [hA.len]; exact imf_lt hB.lt _ _
    have z := ind_inj (by rw [hA.rk, hA.len]) lt e
    exact ind_inj (by rw [hB.rk, hB.len]) (by rw [hB.len]; exact hx) z
def hiw (w i : Nat) : Nat := 1 <<< i ||| (w >>> (i + 1)) <<< (i + 1)
def low' (w i : Nat) : Nat := 1 <<< i ||| (w &&& (1 <<< i - 1))
theorem hiw_bit (w i j : Nat) : (hiw w i).testBit j = (decide (i = j) || (decide (i + 1 ≤ j) && w.testBit j)) := by
  unfold hiw
  rw [Nat.testBit_or, unit_bit, Nat.testBit_shiftLeft]
  by_cases h : i + 1 ≤ j
  · rw [Nat.testBit_shiftRight, show i + 1 + (j - (i + 1)) = j by omega]
  · have : decide (j ≥ i + 1) = false := by simp; omega
    rw [this]; simp
theorem low'_bit (w i j : Nat) : (low' w i).testBit j = (decide (i = j) || (decide (j < i) && w.testBit j)) := by
  unfold low'
  rw [Nat.testBit_or, unit_bit, Nat.testBit_and, Nat.one_shiftLeft, Nat.testBit_two_pow_sub_one, Bool.and_comm (w.testBit j)]
theorem lt_of_bits {x b : Nat} (h : ∀ j, b ≤ j → x.testBit j = false) : x < 2 ^ b := Nat.lt_of_not_le fun q => by
  have nz : x ≠ 0 := fun z => by rw [z] at q; have := Nat.two_pow_pos b; omega
  have : b < blen x := Nat.lt_of_not_le fun z => by have := blen_le.mp z; omega
  have t := testBit_top nz
  rw [h _ (by omega)] at t; cases t
theorem hiw_lt {w i b : Nat} (hw : w < 2 ^ b) (hi : i < b) : hiw w i < 2 ^ b := lt_of_bits fun j hj => by
  rw [hiw_bit, Nat.testBit_lt_two_pow (Nat.lt_of_lt_of_le hw (Nat.pow_le_pow_right (by decide) hj))]
  have : decide (i = j) = false := by simp; omega
  rw [this]; simp
theorem low'_lt {w i b : Nat} (hi : i < b) : low' w i < 2 ^ b := lt_of_bits fun j hj => by
  rw [low'_bit]
  have : decide (i = j) = false := by simp; omega
  have : decide (j < i) = false := by simp; omega
  simp [*]
theorem map_range_getD (f : Nat → Nat) {b i : Nat} (h : i < b) : ((List.range b).map f).getD i 0 = f i := by
  rw [List.getD_eq_getElem?_getD, List.getElem?_map, List.getElem?_range h]; rfl
theorem mix_highs {b : Nat} {w : Nat → Nat} (hw : ∀ i, i < b → w i < 2 ^ b) : Mix b ((List.range b).map fun i => hiw (w i) i) := by
  have l : ((List.range b).map fun i => hiw (w i) i).length = b := by simp
  refine ⟨l, fun x hx => ?_, ?_⟩
  · obtain ⟨i, hi, rfl⟩ := List.mem_map.mp hx
    exact hiw_lt (hw i (List.mem_range.mp hi)) (List.mem_range.mp hi)
  · rw [rk_highs (fun i hi => ?_) (fun i j hi hj => ?_), l]
    · rw [l] at hi
      rw [map_range_getD _ hi, hiw_bit]; simp
    · rw [l] at hi
      rw [map_range_getD _ hi, hiw_bit]
      have : decide (i = j) = false := by simp; omega
      have : decide (i + 1 ≤ j) = false := by simp; omega
      simp [*]
theorem mix_lows {b : Nat} (w : Nat → Nat) : Mix b ((List.range b).map fun i => low' (w i) i) := by
  have l : ((List.range b).map fun i => low' (w i) i).length = b := by simp
  refine ⟨l, fun x hx => ?_, ?_⟩
  · obtain ⟨i, hi, rfl⟩ := List.mem_map.mp hx
    exact low'_lt (List.mem_range.mp hi)
  · rw [rk_lows (fun i hi => ?_) (fun i j hi hj => ?_), l]
    · rw [l] at hi
      rw [map_range_getD _ hi, low'_bit]; simp
    · rw [l] at hi
      rw [map_range_getD _ hi, low'_bit]
      have : decide (i = j) = false := by simp; omega
      have : decide (j < i) = false := by simp; omega
      simp [*]
/-- a list taken in another order -/
theorem perm_order {b : Nat} {o M : List Nat} (p : o.Perm (List.range b)) (l : M.length = b) : (o.map fun i => M.getD i 0).Perm M := by
  have a := p.map fun i => M.getD i 0
  have e : (List.range b).map (fun i => M.getD i 0) = M := by
    refine List.ext_getElem (by simp [l]) fun i h1 h2 => ?_
    rw [List.getElem_map, List.getElem_range, List.getD_eq_getElem?_getD, List.getElem?_eq_getElem h2]; rfl
  rwa [e] at a
/-- sums by words that can be undone span the same -/
theorem Mix.span {b : Nat} {M W : List Nat} (h : Mix b M) (l : W.length = b) (x : Nat) : Spn (M.map (img W)) x ↔ Spn W x := by
  constructor
  · intro hx
    refine hx.mono fun y hy => ?_
    obtain ⟨z, hz, rfl⟩ := List.mem_map.mp hy
    have := img_span (cols := W) (Nat.le_refl _) (by rw [l]; exact h.lt z hz)
    rwa [List.take_length] at this
  · intro hx
    obtain ⟨y, hy, rfl⟩ := span_img (cols := W) (Nat.le_refl _) (by rwa [List.take_length])
    exact (lin_img W).spn (in_full h.lt (Nat.le_of_eq h.rk.symm) (by rw [← l]; exact hy))
theorem img_in (W : List Nat) {z : Nat} (h : z < 2 ^ W.length) : Spn W (img W z) := by
  have := img_span (cols := W) (Nat.le_refl _) h
  rwa [List.take_length] at this
/-- one more word of the span, anywhere -/
theorem span_more {A B : List Nat} {w : Nat} (p : B.Perm (w :: A)) (h : Spn A w) (x : Nat) : Spn B x ↔ Spn A x := by
  constructor
  · intro hx
    refine hx.mono fun y hy => ?_
    rcases List.mem_cons.mp (p.mem_iff.mp hy) with rfl | hy
    · exact h
    · exact .of hy
  · exact fun hx => hx.sub fun y hy => p.mem_iff.mpr (List.mem_cons_of_mem _ hy)
/-- each word with a sum of others: beside these the same span -/
theorem span_shift {S A : List Nat} {n : Nat} {f g : Nat → Nat} (h : ∀ i, i < n → Spn S (f i ^^^ g i)) (x : Nat) : Spn (S ++ (List.range n).map f) x ↔ Spn (S ++ (List.range n).map g) x := by
  have one : ∀ {f g : Nat → Nat}, (∀ i, i < n → Spn S (f i ^^^ g i)) → ∀ x, Spn (S ++ (List.range n).map f) x → Spn (S ++ (List.range n).map g) x := by
    intro f g h x hx
    refine hx.mono fun y hy => ?_
    rcases List.mem_append.mp hy with hy | hy
    · exact .of (List.mem_append_left _ hy)
    · obtain ⟨i, hi, rfl⟩ := List.mem_map.mp hy
      have a : Spn (S ++ (List.range n).map g) (f i ^^^ g i) := (h i (List.mem_range.mp hi)).sub fun z hz => List.mem_append_left _ hz
      have c : Spn (S ++ (List.range n).map g) (g i) := .of (List.mem_append_right _ (List.mem_map.mpr ⟨i, hi, rfl⟩))
      have := a.xor c
      rwa [xor_cancel_right] at this
  exact ⟨one h x, one (fun i hi => by rw [Nat.xor_comm]; exact h i hi) x⟩
end LaneX
set_option linter.all false
namespace LaneX
/-! ### the law's own rows by min (k17 and others) -/
def les (rows : List Nat) (w : Nat) : Nat := rows.foldl (fun l r => min l (l ^^^ r)) w
theorem lt_bit {x y i : Nat} (hx : x.testBit i = false) (hy : y.testBit i = true) (h : ∀ j, i < j → x.testBit j = y.testBit j) : x < y := by
  have e1 : x >>> (i + 1) = y >>> (i + 1) := by
    apply Nat.eq_of_testBit_eq
    intro j
    rw [Nat.testBit_shiftRight, Nat.testBit_shiftRight]
    exact h _ (by omega)
  rw [Nat.shiftRight_eq_div_pow, Nat.shiftRight_eq_div_pow] at e1
  have p := Nat.two_pow_pos i
  have q : (2 : Nat) ^ (i + 1) = 2 * 2 ^ i := by rw [Nat.pow_succ]; omega
  have a : x % 2 ^ (i + 1) < 2 ^ i := by
    refine lt_of_bits fun j hj => ?_
    rw [Nat.testBit_mod_two_pow]
    by_cases z : j < i + 1
    · have : j = i := by omega
      subst this; simp [hx]
    · simp [z]
  have c : 2 ^ i ≤ y % 2 ^ (i + 1) := by
    refine Nat.ge_two_pow_of_testBit ?_
    rw [Nat.testBit_mod_two_pow, hy]; simp
  have d1 := Nat.div_add_mod x (2 ^ (i + 1))
  have d2 := Nat.div_add_mod y (2 ^ (i + 1))
  rw [e1] at d1
  omega
theorem min_xor {l r : Nat} (h : r ≠ 0) : min l (l ^^^ r) = if l.testBit (blen r - 1) = true then l ^^^ r else l := by
  have t := testBit_top h
  have above : ∀ j, blen r - 1 < j → (l ^^^ r).testBit j = l.testBit j := fun j hj => by
    rw [Nat.testBit_xor, testBit_ge (n := r) (by omega)]; simp
  by_cases e : l.testBit (blen r - 1) = true
  · rw [if_pos e]
    have : l ^^^ r < l := lt_bit (i := blen r - 1) (by rw [Nat.testBit_xor, e, t]; rfl) e fun j hj => above j hj
    omega
  · rw [if_neg e]
    have e' : l.testBit (blen r - 1) = false := by simpa using e
    have : l < l ^^^ r := lt_bit (i := blen r - 1) e' (by rw [Nat.testBit_xor, e', t]; rfl) fun j hj => (above j hj).symm
    omega
theorem les_clr : ∀ {rows : List Nat} (w : Nat), (∀ r ∈ rows, r ≠ 0) → les rows w = clr rows w
  | [], w, _ => rfl
  | r :: rs, w, h => by
    have ih := les_clr (rows := rs) (min w (w ^^^ r)) fun s hs => h s (List.mem_cons_of_mem _ hs)
    show les rs (min w (w ^^^ r)) = clr rs (if w.testBit (blen r - 1) = true then w ^^^ r else w)
    rw [ih, min_xor (h r List.mem_cons_self)]
def rwstep (rows : List Nat) (w : Nat) : List Nat := if clr rows w = 0 then rows else rows ++ [clr rows w]
def rws (ws : List Nat) : List Nat := ws.foldl rwstep []
theorem rws_snoc (a : List Nat) (w : Nat) : rws (a ++ [w]) = rwstep (rws a) w := List.foldl_append ..
/-- none is 0, later ones are 0 at the highest bits of earlier ones -/
structure Hws (rows : List Nat) : Prop where
  nz : ∀ r ∈ rows, r ≠ 0
  red : rows.Pairwise fun r s => s.testBit (blen r - 1) = false
theorem Hws.nil : Hws [] := ⟨fun _ h => (by cases h), .nil⟩
theorem Hws.tops : ∀ {rows : List Nat} {x : Nat}, Hws rows → ∀ r ∈ rows, (clr rows x).testBit (blen r - 1) = false
  | [], x, _, r, h => by cases h
  | s :: rs, x, R, r, h => by
    have hp := List.pairwise_cons.mp R.red
    have R' : Hws rs := ⟨fun t ht => R.nz t (.tail _ ht), hp.2⟩
    rw [clr_cons]
    rcases List.mem_cons.mp h with rfl | h
    · rw [clr_bit fun t ht => hp.1 t ht, Nat.testBit_xor]
      have := testBit_top (R.nz r (.head _))
      cases q : x.testBit (blen r - 1) <;> simp [bx, this]
    · exact R'.tops r h
theorem Hws.self : ∀ {rows : List Nat}, Hws rows → ∀ r ∈ rows, clr rows r = 0
  | [], _, r, h => by cases h
  | s :: rs, R, r, h => by
    have hp := List.pairwise_cons.mp R.red
    have R' : Hws rs := ⟨fun t ht => R.nz t (.tail _ ht), hp.2⟩
    rw [clr_cons]
    rcases List.mem_cons.mp h with rfl | h
    · rw [testBit_top (R.nz r (.head _))]
      simp [bx, clr_zero]
    · rw [hp.1 r h]
      simp only [bx, Bool.false_eq_true, if_false, Nat.xor_zero]
      exact R'.self r h
theorem Hws.span {rows : List Nat} (R : Hws rows) {x : Nat} : Spn rows x ↔ clr rows x = 0 := by
  constructor
  · intro h
    induction h with
    | zero => exact clr_zero rows
    | add hw _ ih => rw [clr_xor, ih, R.self _ hw]; rfl
  · intro h
    have := spn_clr rows x
    rwa [h, Nat.xor_zero] at this
theorem Hws.step {rows : List Nat} (R : Hws rows) (w : Nat) : Hws (rwstep rows w) := by
  unfold rwstep
  split
  · exact R
  · rename_i h
    refine ⟨fun r hr => ?_, List.pairwise_append.mpr ⟨R.red, by simp, fun r hr s hs => ?_⟩⟩
    · rcases List.mem_append.mp hr with hr | hr
      · exact R.nz r hr
      · rcases List.mem_singleton.mp hr with rfl; exact h
    · rcases List.mem_singleton.mp hs with rfl
      exact R.tops r hr
theorem Hws.ind {rows : List Nat} (R : Hws rows) : Ind rows := by
  have : ∀ n (l : List Nat), l.length = n → Hws l → Ind l := by
    intro n
    induction n with
    | zero => intro l hl _; rw [List.length_eq_zero_iff.mp hl]; exact .nil
    | succ n ih =>
      intro l hl L
      have hne : l ≠ [] := fun e => by rw [e] at hl; cases hl
      have e := List.dropLast_concat_getLast hne
      rw [← e] at L ⊢
      have hp := List.pairwise_append.mp L.red
      have L' : Hws l.dropLast := ⟨fun r hr => L.nz r (List.mem_append_left _ hr), hp.1⟩
      refine .snoc (ih _ (by rw [List.length_dropLast, hl]; rfl) L') fun hs => ?_
      have z := L'.span.mp hs
      rw [clr_of_none fun r hr => hp.2.2 r hr _ (List.mem_singleton_self _)] at z
      exact L.nz _ (List.mem_append_right _ (List.mem_singleton_self _)) z
  exact this _ rows rfl R
theorem rws_hws (ws : List Nat) : Hws (rws ws) := snoc_rec (p := fun l => Hws (rws l)) Hws.nil (fun a x ih => by rw [rws_snoc]; exact ih.step x) ws
/-- a word against what is left of it -/
theorem span_trade {rows : List Nat} {w l : Nat} (h : Spn rows (w ^^^ l)) (x : Nat) : Spn (rows ++ [l]) x ↔ Spn (rows ++ [w]) x := by
  rw [span_snoc, span_snoc]
  have e : ∀ a c : Nat, Spn rows (a ^^^ c) → Spn rows (x ^^^ a) → Spn rows (x ^^^ c) := fun a c h1 h2 => by
    have := h2.xor h1
    rwa [Nat.xor_assoc, xor_cancel] at this
  constructor
  · rintro (z | z)
    · exact .inl z
    · exact .inr (e l w (by rw [Nat.xor_comm]; exact h) z)
  · rintro (z | z)
    · exact .inl z
    · exact .inr (e w l h z)
theorem rwstep_span (rows : List Nat) (w x : Nat) : Spn (rwstep rows w) x ↔ Spn (rows ++ [w]) x := by
  have hw := spn_clr rows w
  unfold rwstep
  split
  · rename_i h
    rw [h, Nat.xor_zero] at hw
    rw [span_snoc]
    constructor
    · exact .inl
    · rintro (z | z)
      · exact z
      · have := z.xor hw
        rwa [xor_cancel_right] at this
  · exact span_trade hw x
theorem rws_span (ws : List Nat) : ∀ x, Spn (rws ws) x ↔ Spn ws x := snoc_rec (p := fun l => ∀ x, Spn (rws l) x ↔ Spn l x) (fun x => Iff.rfl) (fun a w ih x => by rw [rws_snoc, rwstep_span, span_app ih]) ws
theorem rws_len (ws : List Nat) : (rws ws).length = rk ws := by rw [← (rws_hws ws).ind.rk]; exact rk_eq (rws_span ws)
theorem rws_len_le (ws : List Nat) : (rws ws).length ≤ ws.length := by rw [rws_len]; exact rk_len ws
/-! ### all sums of some words -/
def sev (rows : List Nat) : List Nat := rows.foldl (fun f w => f ++ f.map fun x => x ^^^ w) [0]
theorem sev_snoc (a : List Nat) (w : Nat) : sev (a ++ [w]) = sev a ++ (sev a).map fun x => x ^^^ w := List.foldl_append ..
theorem sev_len (rows : List Nat) : (sev rows).length = 2 ^ rows.length := snoc_rec (p := fun l => (sev l).length = 2 ^ l.length) rfl (fun a w ih => by
  rw [sev_snoc, List.length_append, List.length_map, ih, List.length_append, List.length_singleton, Nat.pow_succ]; omega) rows
theorem sev_mem (rows : List Nat) : ∀ x, x ∈ sev rows ↔ Spn rows x := snoc_rec (p := fun l => ∀ x, x ∈ sev l ↔ Spn l x) (fun x => by
    show x ∈ [0] ↔ _
    rw [List.mem_singleton]
    exact ⟨fun h => by rw [h]; exact .zero, fun h => h.nil⟩) (fun a w ih x => by
  rw [sev_snoc, List.mem_append, ih, span_snoc]
  constructor
  · rintro (h | h)
    · exact .inl h
    · obtain ⟨y, hy, rfl⟩ := List.mem_map.mp h
      rw [xor_cancel_right]
      exact .inr ((ih y).mp hy)
  · rintro (h | h)
    · exact .inl h
    · exact .inr (List.mem_map.mpr ⟨_, (ih _).mpr h, xor_cancel_right x w⟩)) rows
theorem nodup_xor {l : List Nat} (h : l.Nodup) (w : Nat) : (l.map fun x => x ^^^ w).Nodup := by
  unfold List.Nodup
  rw [List.pairwise_map]
  exact h.imp fun n e => n (by have := congrArg (· ^^^ w) e; simpa [xor_cancel_right] using this)
theorem nodup_xorL {l : List Nat} (h : l.Nodup) (w : Nat) : (l.map fun x => w ^^^ x).Nodup := by
  have : (l.map fun x => w ^^^ x) = l.map fun x => x ^^^ w := List.map_congr_left fun x _ => Nat.xor_comm w x
  rw [this]; exact nodup_xor h w
theorem sev_nodup {rows : List Nat} (h : Ind rows) : (sev rows).Nodup := by
  induction h with
  | nil => show [0].Nodup; simp
  | @snoc a w _ hw ih =>
    rw [sev_snoc]
    refine List.nodup_append.mpr ⟨ih, nodup_xor ih w, fun x hx y hy e => hw ?_⟩
    subst e
    obtain ⟨z, hz, e⟩ := List.mem_map.mp hy
    have c := ((sev_mem a _).mp hx).xor ((sev_mem a _).mp hz)
    rw [← e] at c
    have e2 : z ^^^ w ^^^ z = w := by rw [Nat.xor_comm z w, xor_cancel_right]
    rwa [e2] at c
/-! ### the meet, as a span -/
theorem mtd_span {b : Nat} {A B : List Nat} (lt : ∀ x ∈ A, x < 2 ^ b) (x : Nat) : Spn (mtd b A B) x ↔ Spn A x ∧ Spn B x := by
  have L1 : Lin (fun r => (r <<< b) ^^^ r) := ⟨by simp, fun a c => by rw [Nat.shiftLeft_xor_distrib, xor4]⟩
  have L2 : Lin (fun r => r <<< b) := ⟨by simp, fun a c => Nat.shiftLeft_xor_distrib⟩
  have e1 : (A.map fun r => (r <<< b) + r) = A.map fun r => (r <<< b) ^^^ r := List.map_congr_left fun r hr => add_eq_xor (lt r hr)
  unfold mtd
  rw [(spn_rws _).low_span, spn_span]
  unfold mts
  rw [e1]
  constructor
  · rintro ⟨h, hx⟩
    obtain ⟨p, q, h1, h2, rfl⟩ := span_split h
    obtain ⟨y, hy, rfl⟩ := L1.back h1
    obtain ⟨z, hz, rfl⟩ := L2.back h2
    have hyb := hy.lt lt
    have e2 : (y <<< b ^^^ y) ^^^ z <<< b = ((y ^^^ z) <<< b) ^^^ y := by
      rw [Nat.shiftLeft_xor_distrib, Nat.xor_assoc, Nat.xor_comm y, ← Nat.xor_assoc]
    have hx' : ((y ^^^ z) <<< b) ^^^ y < 2 ^ b := by rw [← e2]; exact hx
    have hs : (y ^^^ z) <<< b < 2 ^ b := by
      have := Nat.xor_lt_two_pow hx' hyb
      rwa [xor_cancel_right] at this
    have z0 : y ^^^ z = 0 := by
      rw [Nat.shiftLeft_eq] at hs
      have pb := Nat.two_pow_pos b
      rcases Nat.eq_zero_or_pos (y ^^^ z) with h0 | h0
      · exact h0
      · have : 1 * 2 ^ b ≤ (y ^^^ z) * 2 ^ b := Nat.mul_le_mul_right _ h0
        omega
    show Spn A ((y <<< b ^^^ y) ^^^ z <<< b) ∧ Spn B ((y <<< b ^^^ y) ^^^ z <<< b)
    rw [e2, z0, Nat.zero_shiftLeft, Nat.zero_xor]
    exact ⟨hy, by rw [xor_eq_zero z0]; exact hz⟩
  · rintro ⟨h1, h2⟩
    refine ⟨?_, h1.lt lt⟩
    have a := (L1.spn h1).sub (vs := A.map (fun r => (r <<< b) ^^^ r) ++ B.map fun r => r <<< b) fun z hz => List.mem_append_left _ hz
    have c := (L2.spn h2).sub (vs := A.map (fun r => (r <<< b) ^^^ r) ++ B.map fun r => r <<< b) fun z hz => List.mem_append_right _ hz
    have d := a.xor c
    have e3 : (x <<< b ^^^ x) ^^^ x <<< b = x := by rw [Nat.xor_comm (x <<< b) x, xor_cancel_right]
    have d' : Spn (A.map (fun r => (r <<< b) ^^^ r) ++ B.map fun r => r <<< b) ((x <<< b ^^^ x) ^^^ x <<< b) := d
    rwa [e3] at d'
/-! ### what a lane lacks, by counting -/
theorem len_of_mem {l m : List Nat} (h1 : l.Nodup) (h2 : m.Nodup) (h : ∀ x, x ∈ l ↔ x ∈ m) : l.length = m.length :=
  Nat.le_antisymm (nodup_sub_len h1 fun x hx => (h x).mp hx) (nodup_sub_len h2 fun x hx => (h x).mpr hx)
theorem filter_not_len (l : List Nat) (p : Nat → Bool) : (l.filter fun x => !p x).length = l.length - (l.filter p).length := by
  have := filter_two p l
  omega
section
variable {b : Nat} {ss os : List Nat}
def shr (ss os : List Nat) : Nat := rk ss + rk os - rk (ss ++ os)
theorem mtd_shr (hs : ∀ x ∈ ss, x < 2 ^ b) : (mtd b (spn ss) (spn os)).length = shr ss os := by
  have a := mtd_len (b := b) (spn_rws ss) (spn_rws os) (spn_lt hs)
  have e : rk (spn ss ++ spn os) = rk (ss ++ os) := rk_eq fun x => span_app2 (spn_span ss) (spn_span os)
  rw [e] at a
  unfold shr
  have h1 : (spn ss).length = rk ss := rfl
  have h2 : (spn os).length = rk os := rfl
  omega
/-- of the sums of os those that lie in a coset of ss -/
theorem count_in (hs : ∀ x ∈ ss, x < 2 ^ b) {T : List Nat} (nd : T.Nodup) (mem : ∀ x, x ∈ T ↔ Spn os x) {d : Nat} (hd : Spn (ss ++ os) d) {q : Nat → Bool} (hq : ∀ w, q w = true ↔ Spn ss (d ^^^ w)) : (T.filter q).length = 2 ^ shr ss os := by
  obtain ⟨s, o, h1, h2, rfl⟩ := span_split hd
  rw [← mtd_shr hs, ← sev_len]
  have e : (sev (mtd b (spn ss) (spn os))).length = ((sev (mtd b (spn ss) (spn os))).map fun x => x ^^^ o).length := by simp
  rw [e]
  refine len_of_mem (nd.filter _) (nodup_xor (sev_nodup (mtd_rws _ _ _).ind) o) fun x => ?_
  rw [List.mem_filter, mem, hq, List.mem_map]
  have key : ∀ y, Spn (mtd b (spn ss) (spn os)) y ↔ Spn ss y ∧ Spn os y := fun y => by rw [mtd_span (spn_lt hs), spn_span, spn_span]
  constructor
  · rintro ⟨h3, h4⟩
    refine ⟨x ^^^ o, (sev_mem _ _).mpr ((key _).mpr ⟨?_, h3.xor h2⟩), xor_cancel_right _ _⟩
    have := h1.xor h4
    rw [Nat.xor_assoc, xor_cancel, Nat.xor_comm] at this
    exact this
  · rintro ⟨y, hy, rfl⟩
    have := (key y).mp ((sev_mem _ _).mp hy)
    refine ⟨this.2.xor h2, ?_⟩
    have e : s ^^^ o ^^^ (y ^^^ o) = s ^^^ y := by rw [xor4, Nat.xor_self, Nat.xor_zero]
    rw [e]
    exact h1.xor this.1
theorem count_out {T : List Nat} (mem : ∀ x, x ∈ T ↔ Spn os x) {d : Nat} (hd : ¬ Spn (ss ++ os) d) {q : Nat → Bool} (hq : ∀ w, q w = true ↔ Spn ss (d ^^^ w)) : (T.filter q).length = 0 := by
  rw [List.length_eq_zero_iff, List.filter_eq_nil_iff]
  intro w hw z
  refine hd ?_
  have a := ((hq w).mp z).sub (vs := ss ++ os) fun y hy => List.mem_append_left _ hy
  have c := ((mem w).mp hw).sub (vs := ss ++ os) fun y hy => List.mem_append_right _ hy
  have := a.xor c
  rwa [xor_cancel_right] at this
end
/-- the entries of a lane, by listing -/
def lot (ss ls : List Nat) (L : Nat) : List Nat := (sev (rws ss)).map fun w => img ls L ^^^ w
theorem sevr_mem (ss : List Nat) (x : Nat) : x ∈ sev (rws ss) ↔ Spn ss x := by rw [sev_mem, rws_span]
theorem lot_mem (ss ls : List Nat) (L e : Nat) : e ∈ lot ss ls L ↔ Spn ss (img ls L ^^^ e) := by
  unfold lot
  rw [List.mem_map]
  constructor
  · rintro ⟨w, hw, rfl⟩
    rw [xor_cancel]; exact (sevr_mem ss w).mp hw
  · intro h
    exact ⟨_, (sevr_mem ss _).mpr h, xor_cancel _ _⟩
def lsm (ls ps : List Nat) : List Nat := (List.range ls.length).map fun i => ls.getD i 0 ^^^ ps.getD i 0
theorem lsm_len (ls ps : List Nat) : (lsm ls ps).length = ls.length := by simp [lsm]
theorem img_lsm {ls ps : List Nat} (h : ls.length = ps.length) (L : Nat) : img (lsm ls ps) L = img ls L ^^^ img ps L := by
  unfold img
  rw [lsm_len, ← h]
  exact imf_add fun i hi => map_range_getD _ hi
def due (ss ls os ps : List Nat) (L : Nat) : Nat := ((lot os ps L).filter fun e => !decide (e ∈ lot ss ls L)).length
open Classical in
theorem due_eq {b : Nat} {ss ls os ps : List Nat} (hs : ∀ x ∈ ss, x < 2 ^ b) (h : ls.length = ps.length) (L : Nat) : due ss ls os ps L = if Spn (ss ++ os) (img (lsm ls ps) L) then 2 ^ rk os - 2 ^ shr ss os else 2 ^ rk os := by
  unfold due
  rw [filter_not_len]
  have nd := sev_nodup (rws_hws os).ind
  have hq : ∀ w, (fun w => decide (img ps L ^^^ w ∈ lot ss ls L)) w = true ↔ Spn ss (img (lsm ls ps) L ^^^ w) := fun w => by
    rw [decide_eq_true_iff, lot_mem, img_lsm h, Nat.xor_assoc]
  have e : ((lot os ps L).filter fun e => decide (e ∈ lot ss ls L)).length = ((sev (rws os)).filter fun w => decide (img ps L ^^^ w ∈ lot ss ls L)).length := by
    unfold lot
    rw [List.filter_map, List.length_map]
    rfl
  have l : (lot os ps L).length = 2 ^ rk os := by
    unfold lot
    rw [List.length_map, sev_len, rws_len]
  rw [e, l]
  split
  · rename_i hd
    rw [count_in hs nd (sevr_mem os) hd hq]
  · rename_i hd
    rw [count_out (sevr_mem os) hd hq, Nat.sub_zero]
/-! ### the least lane that keeps nothing -/
/-- j is the least bit that is no row's highest -/
def Mis (rows : List Nat) (j : Nat) : Prop := (∀ i, i < j → ∃ r ∈ rows, blen r - 1 = i) ∧ ∀ r ∈ rows, blen r - 1 ≠ j
theorem mis_le {rows : List Nat} {j : Nat} (h : ∀ i, i < j → ∃ r ∈ rows, blen r - 1 = i) : j ≤ rows.length := by
  have := nodup_sub_len (l := List.range j) (m := rows.map fun r => blen r - 1) List.nodup_range fun i hi => by
    obtain ⟨r, hr, e⟩ := h i (List.mem_range.mp hi)
    exact List.mem_map.mpr ⟨r, hr, e⟩
  simpa using this
theorem Mis.below {rows : List Nat} (R : Rws rows) {j : Nat} (h : Mis rows j) {x : Nat} (hx : x < 2 ^ j) : Spn rows x := by
  have F := R.low j
  have l : j ≤ (rows.filter fun r => decide (blen r ≤ j)).length := mis_le fun i hi => by
    obtain ⟨r, hr, e⟩ := h.1 i hi
    have := blen_pos (R.nz r hr)
    exact ⟨r, List.mem_filter.mpr ⟨hr, decide_eq_true (by omega)⟩, e⟩
  have := in_full (ws := rows.filter fun r => decide (blen r ≤ j)) (b := j) (fun w hw => blen_le.mp (of_decide_eq_true (List.mem_filter.mp hw).2)) (by rw [spn_id F]; exact l) hx
  exact this.sub fun z hz => (List.mem_filter.mp hz).1
theorem Mis.at_ {rows : List Nat} (R : Rws rows) {j : Nat} (h : Mis rows j) : ¬ Spn rows (2 ^ j) := fun z => by
  obtain ⟨r, hr, e⟩ := R.top_mem z (Nat.ne_of_gt (Nat.two_pow_pos j))
  have e2 : blen (2 ^ j) = j + 1 := by rw [← Nat.one_shiftLeft]; exact blen_unit j
  exact h.2 r hr (by omega)
theorem allin_img {S W : List Nat} (h : ∀ w ∈ W, Spn S w) (L : Nat) : Spn S (img W L) := by
  unfold img
  generalize W.length = n
  induction n with
  | zero => exact .zero
  | succ n ih =>
    rw [imf_succ]
    split
    · refine ih.xor ?_
      by_cases hn : n < W.length
      · exact h _ (getD_mem hn)
      · rw [List.getD_eq_getElem?_getD, List.getElem?_eq_none (by omega)]; exact .zero
    · exact ih
open Classical in
/-- fewest rounds -/
noncomputable def fwr (ss ls os ps : List Nat) : Nat := if ∀ w ∈ lsm ls ps, Spn (ss ++ os) w then 2 ^ rk os - 2 ^ shr ss os else 2 ^ rk os
section
variable {b : Nat} {ss ls os ps : List Nat} (hs : ∀ x ∈ ss, x < 2 ^ b) (hl : ls.length = ps.length)
include hs hl
open Classical in
theorem due_le (L : Nat) : due ss ls os ps L ≤ fwr ss ls os ps := by
  rw [due_eq hs hl]
  unfold fwr
  by_cases h : ∀ w ∈ lsm ls ps, Spn (ss ++ os) w
  · rw [if_pos h, if_pos (allin_img h L)]; exact Nat.le_refl _
  · rw [if_neg h]
    split
    · exact Nat.sub_le _ _
    · exact Nat.le_refl _
theorem due_all (h : ∀ w ∈ lsm ls ps, Spn (ss ++ os) w) (L : Nat) : due ss ls os ps L = fwr ss ls os ps := by
  rw [due_eq hs hl]
  unfold fwr
  rw [if_pos h, if_pos (allin_img h L)]
theorem due_short {j : Nat} (h : ¬ ∀ w ∈ lsm ls ps, Spn (ss ++ os) w) (hj : Mis (ker ((lsm ls ps).map (clr (spn (ss ++ os))))) j) :
    j < ls.length ∧ due ss ls os ps (2 ^ j) = fwr ss ls os ps ∧ ∀ L, L < 2 ^ j → due ss ls os ps L ≠ fwr ss ls os ps := by
  have R := ker_rws ((lsm ls ps).map (clr (spn (ss ++ os))))
  have sp := span_clr_img (ss ++ os) (lsm ls ps)
  rw [lsm_len] at sp
  have jl : j < ls.length := by
    refine Nat.lt_of_not_le fun q => h fun w hw => ?_
    obtain ⟨i, hi, rfl⟩ := List.mem_map.mp hw
    have hi := List.mem_range.mp hi
    have u := (sp (2 ^ i)).mp (hj.below R (Nat.pow_lt_pow_right (by decide) (by omega)))
    have e := img_unit (lsm ls ps) (i := i) (by rw [lsm_len]; exact hi)
    have u2 := u.2
    rw [e] at u2
    have e2 : (lsm ls ps).getD i 0 = ls.getD i 0 ^^^ ps.getD i 0 := map_range_getD _ hi
    rwa [e2] at u2
  refine ⟨jl, ?_, fun L hL => ?_⟩
  · rw [due_eq hs hl]
    unfold fwr
    rw [if_neg h, if_neg fun z => hj.at_ R ((sp _).mpr ⟨Nat.pow_lt_pow_right (by decide) jl, z⟩)]
  · rw [due_eq hs hl]
    unfold fwr
    rw [if_neg h, if_pos ((sp _).mp (hj.below R hL)).2]
    have := Nat.two_pow_pos (rk os)
    have := Nat.two_pow_pos (shr ss os)
    omega
end
end LaneX
set_option linter.all false
namespace LaneX
/-! ### the lane of a word; steps of hops (k24) -/
theorem slv_xor (cs : List Nat) (g h : Nat) : slv cs (g ^^^ h) = slv cs g ^^^ slv cs h := by
  unfold slv
  rw [Nat.shiftLeft_xor_distrib, clr_xor]
theorem slv_zero (cs : List Nat) : slv cs 0 = 0 := by unfold slv; rw [Nat.zero_shiftLeft, clr_zero]
theorem lin_slv (cs : List Nat) : Lin (slv cs) := ⟨slv_zero cs, slv_xor cs⟩
/-- the columns of the lanes, beside the slots -/
def lcs (ss ls : List Nat) : List Nat := ls.map (clr (spn ss))
theorem lcs_len (ss ls : List Nat) : (lcs ss ls).length = ls.length := by simp [lcs]
/-- the least lane that holds a word -/
def lno (ss ls : List Nat) (w : Nat) : Nat := slv (lcs ss ls) (clr (spn ss) w)
theorem lin_lno (ss ls : List Nat) : Lin (lno ss ls) := (lin_slv _).comp (lin_clr _)
/-- a lane's word beside the slots -/
def lph (ss ls : List Nat) (x : Nat) : Nat := clr (spn ss) (img ls x)
theorem lin_lph (ss ls : List Nat) : Lin (lph ss ls) := (lin_clr _).comp (lin_img ls)
theorem lph_zero {ss ls : List Nat} {x : Nat} : lph ss ls x = 0 ↔ Spn ss (img ls x) := clr_spn_zero
theorem img_lcs (ss ls : List Nat) (x : Nat) : img (lcs ss ls) x = lph ss ls x := img_map (lin_clr _) ls x
section
variable {b : Nat} {ss ls : List Nat} (hs : ∀ x ∈ ss, x < 2 ^ b) (hl : ∀ x ∈ ls, x < 2 ^ b) (hb : b ≤ rk (ss ++ ls))
include hs hl hb
theorem lcs_span {w : Nat} (hw : w < 2 ^ b) : Spn (lcs ss ls) (clr (spn ss) w) := by
  refine ((red_clr ss).mem w).mpr (in_full (fun z hz => ?_) hb hw)
  rcases List.mem_append.mp hz with hz | hz
  · exact hs z hz
  · exact hl z hz
theorem lno_ok {w : Nat} (hw : w < 2 ^ b) : lno ss ls w < 2 ^ ls.length ∧ lph ss ls (lno ss ls w) = clr (spn ss) w := by
  have a := slv_ok (lcs_span hs hl hb hw)
  rw [lcs_len, img_lcs] at a
  exact a
theorem lno_span {w : Nat} (hw : w < 2 ^ b) : Spn ss (img ls (lno ss ls w) ^^^ w) := by
  have a := (lno_ok hs hl hb hw).2
  unfold lph at a
  rw [← clr_spn_zero, clr_xor, a, Nat.xor_self]
end
/-- the distances that hops must go -/
def dst (ss ls os ps : List Nat) : List Nat := os.map (lno ss ls) ++ (List.range ps.length).map fun i => lno ss ls (ps.getD i 0) ^^^ 2 ^ i
def nst (ss ls os ps : List Nat) : List Nat := cmpl (twn ss ls) (spn (twn ss ls ++ dst ss ls os ps))
theorem map_span {φ : Nat → Nat} (L : Lin φ) {A B : List Nat} (h : ∀ x, Spn A x ↔ Spn B x) (z : Nat) : Spn (A.map φ) z ↔ Spn (B.map φ) z := by
  constructor
  · intro hz
    obtain ⟨y, hy, rfl⟩ := L.back hz
    exact L.spn ((h y).mp hy)
  · intro hz
    obtain ⟨y, hy, rfl⟩ := L.back hz
    exact L.spn ((h y).mpr hy)
theorem twn_lt {ss ls : List Nat} {x : Nat} (h : Spn (twn ss ls) x) : x < 2 ^ ls.length := ((twn_span ss ls x).mp h).1
theorem twn_ker {ss ls : List Nat} {x : Nat} (h : Spn (twn ss ls) x) : lph ss ls x = 0 := lph_zero.mpr ((twn_span ss ls x).mp h).2
section
variable {b : Nat} {ss ls os ps : List Nat} (hs : ∀ x ∈ ss, x < 2 ^ b) (hl : ∀ x ∈ ls, x < 2 ^ b) (hb : b ≤ rk (ss ++ ls)) (ho : ∀ x ∈ os, x < 2 ^ b) (hp : ∀ x ∈ ps, x < 2 ^ b) (hn : ls.length = ps.length)
include hs hl hb ho hp hn
theorem dst_lt : ∀ x ∈ dst ss ls os ps, x < 2 ^ ls.length := fun x hx => by
  rcases List.mem_append.mp hx with hx | hx
  · obtain ⟨w, hw, rfl⟩ := List.mem_map.mp hx
    exact (lno_ok hs hl hb (ho w hw)).1
  · obtain ⟨i, hi, rfl⟩ := List.mem_map.mp hx
    have hi := List.mem_range.mp hi
    exact Nat.xor_lt_two_pow (lno_ok hs hl hb (hp _ (getD_mem hi))).1 (Nat.pow_lt_pow_right (by decide) (by omega))
theorem dst_lph : (dst ss ls os ps).map (lph ss ls) = (os ++ lsm ls ps).map (clr (spn ss)) := by
  unfold dst
  rw [List.map_append, List.map_map, List.map_append]
  congr 1
  · exact List.map_congr_left fun w hw => (lno_ok hs hl hb (ho w hw)).2
  · unfold lsm
    rw [List.map_map, List.map_map, hn]
    refine List.map_congr_left fun i hi => ?_
    have hi := List.mem_range.mp hi
    show lph ss ls (lno ss ls (ps.getD i 0) ^^^ 2 ^ i) = clr (spn ss) (ls.getD i 0 ^^^ ps.getD i 0)
    rw [(lin_lph ss ls).x, (lno_ok hs hl hb (hp _ (getD_mem hi))).2, clr_xor, Nat.xor_comm]
    congr 1
    unfold lph
    rw [img_unit ls (by omega)]
theorem all_lt {x : Nat} (h : Spn (twn ss ls ++ dst ss ls os ps) x) : x < 2 ^ ls.length := h.lt fun w hw => by
  rcases List.mem_append.mp hw with hw | hw
  · exact twn_lt (.of hw)
  · exact dst_lt hs hl hb ho hp hn w hw
/-- as many steps as the words that slots do not lead to -/
theorem nst_len : (nst ss ls os ps).length = rk (ss ++ (os ++ lsm ls ps)) - rk ss := by
  have R : Rws (twn ss ls) := spn_rws _
  have i := cmpl_ind R (spn (twn ss ls ++ dst ss ls os ps)) (lin_lph ss ls) fun y hy z => by
    have hy := (spn_span _ y).mp hy
    exact (twn_span ss ls y).mpr ⟨all_lt hs hl hb ho hp hn hy, lph_zero.mp z⟩
  have a : rk ((nst ss ls os ps).map (lph ss ls)) = (nst ss ls os ps).length := by
    have := i.rk
    rw [List.length_map] at this
    exact this
  have e : ∀ z, Spn ((nst ss ls os ps).map (lph ss ls)) z ↔ Spn ((dst ss ls os ps).map (lph ss ls)) z := fun z => by
    have cs := cms_span R (spn (twn ss ls ++ dst ss ls os ps))
    have key : ∀ x, Spn (twn ss ls ++ nst ss ls os ps) x ↔ Spn (twn ss ls ++ dst ss ls os ps) x := fun x => by
      have c1 := cs.1 x
      have c2 := cs.2 x
      have c3 : Spn (twn ss ls ++ spn (twn ss ls ++ dst ss ls os ps)) x ↔ Spn (twn ss ls ++ dst ss ls os ps) x := by
        constructor
        · refine fun h => h.mono fun y hy => ?_
          rcases List.mem_append.mp hy with hy | hy
          · exact .of (List.mem_append_left _ hy)
          · exact (spn_span _ y).mp (.of hy)
        · exact fun h => ((spn_span _ x).mpr h).sub fun y hy => List.mem_append_right _ hy
      exact c2.symm.trans (c1.trans c3)
    have dropT : ∀ (D : List Nat), Spn ((twn ss ls ++ D).map (lph ss ls)) z ↔ Spn (D.map (lph ss ls)) z := fun D => by
      rw [List.map_append]
      constructor
      · refine fun h => h.mono fun y hy => ?_
        rcases List.mem_append.mp hy with hy | hy
        · obtain ⟨t, ht, rfl⟩ := List.mem_map.mp hy
          rw [twn_ker (.of ht)]; exact .zero
        · exact .of hy
      · exact fun h => h.sub fun y hy => List.mem_append_right _ hy
    rw [← dropT, map_span (lin_lph ss ls) key, dropT]
  have r := rk_eq e
  rw [dst_lph hs hl hb ho hp hn] at r
  have q := (red_clr ss).rk (os ++ lsm ls ps)
  omega
theorem nst_mem : ∀ x ∈ nst ss ls os ps, x < 2 ^ ls.length := fun x hx => all_lt hs hl hb ho hp hn ((spn_span _ x).mp (.of (cmpl_mem _ x hx)))
theorem nst_span (x : Nat) : Spn (nst ss ls os ps ++ twn ss ls) x ↔ Spn (twn ss ls ++ dst ss ls os ps) x := by
  have R : Rws (twn ss ls) := spn_rws _
  have cs := cms_span R (spn (twn ss ls ++ dst ss ls os ps))
  rw [span_swap]
  refine (cs.2 x).symm.trans ((cs.1 x).trans ?_)
  constructor
  · refine fun h => h.mono fun y hy => ?_
    rcases List.mem_append.mp hy with hy | hy
    · exact .of (List.mem_append_left _ hy)
    · exact (spn_span _ y).mp (.of hy)
  · exact fun h => ((spn_span _ x).mpr h).sub fun y hy => List.mem_append_right _ hy
/-- a wanted entry's lane is reached by the steps -/
theorem reach {lane e : Nat} (h : lane < 2 ^ ls.length) (he : Spn os (e ^^^ img ps lane)) : Spn (nst ss ls os ps ++ twn ss ls) (lane ^^^ lno ss ls e) := by
  rw [nst_span hs hl hb ho hp hn]
  -- lane ^ lno (img ps lane) by the distances of the lanes
  have a : ∀ n, n ≤ ps.length → ∀ x, x < 2 ^ n → Spn (dst ss ls os ps) (x ^^^ lno ss ls (img ps x)) := by
    intro n
    induction n with
    | zero =>
      intro _ x hx
      have : x = 0 := by simpa using hx
      subst this
      rw [(lin_img ps).z, (lin_lno ss ls).z, Nat.xor_zero]; exact .zero
    | succ n ih =>
      intro hn' x hx
      rcases bit_split hx with q | ⟨q, hb'⟩
      · exact ih (by omega) x q
      · have i1 := ih (by omega) _ q
        have i2 : Spn (dst ss ls os ps) (lno ss ls (ps.getD n 0) ^^^ 2 ^ n) := .of (List.mem_append_right _ (List.mem_map.mpr ⟨n, List.mem_range.mpr (by omega), rfl⟩))
        have i3 := i1.xor i2
        rw [(lin_img ps).x, img_unit ps (by omega), (lin_lno ss ls).x] at i3
        have e1 : x ^^^ 2 ^ n ^^^ (lno ss ls (img ps x) ^^^ lno ss ls (ps.getD n 0)) ^^^ (lno ss ls (ps.getD n 0) ^^^ 2 ^ n) = x ^^^ lno ss ls (img ps x) := by
          rw [Nat.xor_comm (lno ss ls (ps.getD n 0)) (2 ^ n), xor4, xor_cancel_right, xor_cancel_right]
        rwa [e1] at i3
  have b1 := a ps.length (Nat.le_refl _) lane (by rw [← hn]; exact h)
  have b2 : Spn (dst ss ls os ps) (lno ss ls (e ^^^ img ps lane)) := ((lin_lno ss ls).spn he).sub fun z hz => List.mem_append_left _ hz
  have c := b1.xor b2
  rw [(lin_lno ss ls).x] at c
  have e2 : lane ^^^ lno ss ls (img ps lane) ^^^ (lno ss ls e ^^^ lno ss ls (img ps lane)) = lane ^^^ lno ss ls e := by rw [xor4, Nat.xor_self, Nat.xor_zero]
  rw [e2] at c
  exact c.sub fun z hz => List.mem_append_right _ hz
end
/-! ### a route -/
/-- the lanes of a route -/
def rte (st : List Nat) (lane c : Nat) (k : Nat) : Nat := (lane ^^^ img st c) ^^^ imf st c k
theorem rte_zero (st : List Nat) (lane c : Nat) : rte st lane c 0 = lane ^^^ img st c := by
  unfold rte
  have : imf st c 0 = 0 := rfl
  rw [this, Nat.xor_zero]
theorem rte_last (st : List Nat) (lane c : Nat) : rte st lane c st.length = lane := by
  unfold rte
  have : imf st c st.length = img st c := rfl
  rw [this, xor_cancel_right]
theorem rte_step (st : List Nat) (lane c k : Nat) : rte st lane c (k + 1) = if c.testBit k = true then rte st lane c k ^^^ st.getD k 0 else rte st lane c k := by
  unfold rte
  rw [imf_succ]
  split
  · rw [Nat.xor_assoc (lane ^^^ img st c)]
  · rfl
theorem rte_lt {st : List Nat} {n lane c : Nat} (h : ∀ x ∈ st, x < 2 ^ n) (hl : lane < 2 ^ n) (k : Nat) : rte st lane c k < 2 ^ n :=
  Nat.xor_lt_two_pow (Nat.xor_lt_two_pow hl (imf_lt h _ _)) (imf_lt h _ _)
/-- the first part of a sum -/
theorem img_mask {P Q : List Nat} {x : Nat} (h : x < 2 ^ (P ++ Q).length) : ∃ y, y < 2 ^ Q.length ∧ img (P ++ Q) x = img P (x &&& (2 ^ P.length - 1)) ^^^ img Q y := by
  have e1 : x &&& (2 ^ P.length - 1) = x % 2 ^ P.length := Nat.and_two_pow_sub_one_eq_mod x P.length
  have lt : x % 2 ^ P.length < 2 ^ P.length := Nat.mod_lt _ (Nat.two_pow_pos _)
  refine ⟨x >>> P.length, ?_, ?_⟩
  · rw [Nat.shiftRight_eq_div_pow, Nat.div_lt_iff_lt_mul (Nat.two_pow_pos _), ← Nat.pow_add, Nat.add_comm, ← List.length_append]
    exact h
  · rw [e1, ← img_app lt]
    congr 1
    apply Nat.eq_of_testBit_eq
    intro i
    rw [Nat.testBit_xor, Nat.testBit_mod_two_pow, Nat.testBit_shiftLeft, Nat.testBit_shiftRight]
    by_cases hi : i < P.length
    · have : decide (i ≥ P.length) = false := by simp; omega
      rw [this]; simp [hi]
    · have : decide (i ≥ P.length) = true := by simp; omega
      rw [this, show P.length + (i - P.length) = i by omega]; simp [hi]
end LaneX
set_option linter.all false
namespace LaneX
/-! ### plans of rounds (k18, k19) -/
theorem img_inj {A : List Nat} (h : rk A = A.length) {x : Nat} (hx : x < 2 ^ A.length) (z : img A x = 0) : x = 0 := by
  have k := ker_len_eq A
  have e : ker A = [] := List.length_eq_zero_iff.mp (by omega)
  have := (ker_span A x).mpr ⟨hx, z⟩
  rw [e] at this
  exact this.nil
theorem img_inj2 {A : List Nat} (h : rk A = A.length) {x y : Nat} (hx : x < 2 ^ A.length) (hy : y < 2 ^ A.length) (z : img A x = img A y) : x = y :=
  xor_eq_zero (img_inj h (Nat.xor_lt_two_pow hx hy) (by rw [(lin_img A).x, z, Nat.xor_self]))
/-- what solved tells of a word that is no sum -/
theorem slv_none {cs : List Nat} {g : Nat} (h : ¬ Spn cs g) : 2 ^ cs.length ≤ slv cs g := by
  refine Nat.le_of_not_lt fun z => h ?_
  have a := spn_clr (prd cs) (g <<< cs.length)
  have a : Spn (prs cs) (g <<< cs.length ^^^ slv cs g) := (spn_span _ _).mp a
  obtain ⟨x, hx, e⟩ := prs_fwd cs a
  have e2 := congrArg (fun y => y >>> cs.length) e
  simp only [Nat.shiftRight_xor_distrib, shl_shr] at e2
  rw [Nat.shiftRight_eq_zero _ _ z, Nat.shiftRight_eq_zero _ _ hx, Nat.xor_zero, Nat.xor_zero] at e2
  rw [e2]
  exact img_in cs hx
/-- the part of a word in the first rows -/
def pin (R O : List Nat) (w : Nat) : Nat := img R (slv (R ++ O) w &&& (2 ^ R.length - 1))
theorem pin_ok {R O : List Nat} {w : Nat} (h : Spn (R ++ O) w) : Spn R (pin R O w) ∧ Spn O (w ^^^ pin R O w) := by
  obtain ⟨a, e⟩ := slv_ok h
  obtain ⟨y, hy, e2⟩ := img_mask a
  rw [e] at e2
  have lt : slv (R ++ O) w &&& (2 ^ R.length - 1) < 2 ^ R.length := by
    rw [Nat.and_two_pow_sub_one_eq_mod]; exact Nat.mod_lt _ (Nat.two_pow_pos _)
  refine ⟨img_in R lt, ?_⟩
  have e3 : w ^^^ pin R O w = img O y := by
    unfold pin
    conv => lhs; lhs; rw [e2]
    rw [Nat.xor_comm, xor_cancel]
  rw [e3]
  exact img_in O hy
theorem img_diff {A B S : List Nat} (hl : A.length = B.length) (h : ∀ i, i < A.length → Spn S (A.getD i 0 ^^^ B.getD i 0)) (x : Nat) : Spn S (img A x ^^^ img B x) := by
  rw [← img_lsm hl]
  refine allin_img (fun w hw => ?_) x
  obtain ⟨i, hi, rfl⟩ := List.mem_map.mp hw
  exact h i (List.mem_range.mp hi)
theorem imf_at {A B : List Nat} {x : Nat} : ∀ {n}, (∀ i, i < n → x.testBit i = true → A.getD i 0 = B.getD i 0) → imf A x n = imf B x n
  | 0, _ => rfl
  | n + 1, h => by
    rw [imf_succ, imf_succ, imf_at fun i hi => h i (by omega)]
    split
    · rename_i z
      rw [h n (by omega) z]
    · rfl
theorem img_at {A B : List Nat} {x : Nat} (hl : A.length = B.length) (h : ∀ i, i < A.length → x.testBit i = true → A.getD i 0 = B.getD i 0) : img A x = img B x := by
  unfold img
  rw [← hl]
  exact imf_at h
theorem Rws.rk {R : List Nat} (h : Rws R) : rk R = R.length := spn_id h
/-- A with what completes it to B -/
theorem base_of {A B : List Nat} (R : Rws A) (h : ∀ x ∈ A, Spn B x) : (∀ x, Spn (A ++ cmpl A B) x ↔ Spn B x) ∧ LaneX.rk (A ++ cmpl A B) = (A ++ cmpl A B).length ∧ (A ++ cmpl A B).length = LaneX.rk B := by
  have cs := cms_span R B
  have e : ∀ x, Spn (A ++ B) x ↔ Spn B x := fun x => ⟨fun z => z.mono fun y hy => by
    rcases List.mem_append.mp hy with hy | hy
    · exact h y hy
    · exact .of hy, fun z => z.sub fun y hy => List.mem_append_right _ hy⟩
  have e2 : ∀ x, Spn (A ++ cmpl A B) x ↔ Spn B x := fun x => ((cs.2 x).symm.trans (cs.1 x)).trans (e x)
  have l := cmpl_len R B
  rw [rk_eq e, R.rk] at l
  have l2 : (A ++ cmpl A B).length = LaneX.rk B := by rw [List.length_append]; omega
  exact ⟨e2, (rk_eq e2).trans l2.symm, l2⟩
/-! ### starts that lanes keep -/
def kst (R O ls ps : List Nat) : List Nat := (List.range ls.length).map fun i => ls.getD i 0 ^^^ pin R O ((lsm ls ps).getD i 0)
theorem kst_len (R O ls ps : List Nat) : (kst R O ls ps).length = ls.length := by simp [kst]
theorem kst_at (R O ls ps : List Nat) {i : Nat} (h : i < ls.length) : (kst R O ls ps).getD i 0 = ls.getD i 0 ^^^ pin R O ((lsm ls ps).getD i 0) := map_range_getD _ h
theorem lsm_at {ls ps : List Nat} {i : Nat} (h : i < ls.length) : (lsm ls ps).getD i 0 = ls.getD i 0 ^^^ ps.getD i 0 := map_range_getD _ h
theorem kst_ok {ss ls os ps : List Nat} (hl : ls.length = ps.length) (h : ∀ w ∈ lsm ls ps, Spn (ss ++ os) w) (x : Nat) :
    Spn ss (img (kst (spn ss) (spn os) ls ps) x ^^^ img ls x) ∧ Spn os (img (kst (spn ss) (spn os) ls ps) x ^^^ img ps x) := by
  have key : ∀ i, i < ls.length → Spn ss (pin (spn ss) (spn os) ((lsm ls ps).getD i 0)) ∧ Spn os ((lsm ls ps).getD i 0 ^^^ pin (spn ss) (spn os) ((lsm ls ps).getD i 0)) := fun i hi => by
    have m : (lsm ls ps).getD i 0 ∈ lsm ls ps := getD_mem (by rw [lsm_len]; exact hi)
    have p := pin_ok (R := spn ss) (O := spn os) ((span_app2 (spn_span ss) (spn_span os)).mpr (h _ m))
    exact ⟨(spn_span ss _).mp p.1, (spn_span os _).mp p.2⟩
  constructor
  · refine img_diff (kst_len _ _ _ _) (fun i hi => ?_) x
    rw [kst_len] at hi
    rw [kst_at _ _ _ _ hi, Nat.xor_comm (ls.getD i 0), xor_cancel_right]
    exact (key i hi).1
  · refine img_diff (by rw [kst_len, hl]) (fun i hi => ?_) x
    rw [kst_len] at hi
    have k2 := (key i hi).2
    rw [lsm_at hi] at k2
    rw [kst_at _ _ _ _ hi, lsm_at hi, Nat.xor_assoc, Nat.xor_comm (pin _ _ _), ← Nat.xor_assoc]
    exact k2
theorem kst_lt {b : Nat} {ss ls os ps : List Nat} (hs : ∀ x ∈ ss, x < 2 ^ b) (hL : ∀ x ∈ ls, x < 2 ^ b) (h : ∀ w ∈ lsm ls ps, Spn (ss ++ os) w) : ∀ x ∈ kst (spn ss) (spn os) ls ps, x < 2 ^ b := fun x hx => by
  obtain ⟨i, hi, rfl⟩ := List.mem_map.mp hx
  have hi := List.mem_range.mp hi
  have m : (lsm ls ps).getD i 0 ∈ lsm ls ps := getD_mem (by rw [lsm_len]; exact hi)
  have p := pin_ok (R := spn ss) (O := spn os) ((span_app2 (spn_span ss) (spn_span os)).mpr (h _ m))
  exact Nat.xor_lt_two_pow (hL _ (getD_mem hi)) (((spn_span ss _).mp p.1).lt hs)
/-! ### starts that span, with the slots, all -/
def wvl (ps I G W : List Nat) (i : Nat) : Nat := G.getD i 0 ^^^ W.getD i 0 ^^^ img ps (I.getD i 0 ^^^ 1 <<< (blen (I.getD i 0) - 1))
def wsf (ps I G W : List Nat) (k : Nat) : List Nat := (List.range k).foldl (fun st i => st.set (blen (I.getD i 0) - 1) (wvl ps I G W i)) ps
theorem wsf_succ (ps I G W : List Nat) (k : Nat) : wsf ps I G W (k + 1) = (wsf ps I G W k).set (blen (I.getD k 0) - 1) (wvl ps I G W k) := by
  unfold wsf
  rw [List.range_succ, List.foldl_append]
  rfl
theorem wsf_len (ps I G W : List Nat) : ∀ k, (wsf ps I G W k).length = ps.length
  | 0 => rfl
  | k + 1 => by rw [wsf_succ, List.length_set, wsf_len ps I G W k]
theorem getD_set' (F : List Nat) (i j v : Nat) (hi : i < F.length) : (F.set i v).getD j 0 = if j = i then v else F.getD j 0 := by
  simp only [List.getD_eq_getElem?_getD, List.getElem?_set]
  by_cases h : i = j
  · subst h; simp [hi]
  · rw [if_neg h, if_neg (fun z => h z.symm)]
theorem tops_ne {I : List Nat} (R : Rws I) {i j : Nat} (hi : i < I.length) (hj : j < I.length) (h : i ≠ j) : blen (I.getD i 0) - 1 ≠ blen (I.getD j 0) - 1 := fun z => by
  have n1 := blen_pos (R.nz _ (getD_mem hi))
  have n2 := blen_pos (R.nz _ (getD_mem hj))
  have e : blen (I.getD i 0) = blen (I.getD j 0) := by omega
  have nd := R.tops_nodup
  have e1 : (I.map blen)[i]? = some (blen (I.getD i 0)) := by
    rw [List.getElem?_map, List.getElem?_eq_getElem hi, List.getD_eq_getElem?_getD, List.getElem?_eq_getElem hi]; rfl
  have e2 : (I.map blen)[j]? = some (blen (I.getD j 0)) := by
    rw [List.getElem?_map, List.getElem?_eq_getElem hj, List.getD_eq_getElem?_getD, List.getElem?_eq_getElem hj]; rfl
  exact h ((List.getElem?_inj (by rw [List.length_map]; exact hi) nd).mp (by rw [e1, e2, e]))
theorem tops_bit {I : List Nat} (R : Rws I) {i j : Nat} (hi : i < I.length) (hj : j < I.length) (h : i ≠ j) : (I.getD i 0).testBit (blen (I.getD j 0) - 1) = false := by
  have p := R.red
  rw [List.pairwise_iff_getElem] at p
  have e1 : I.getD i 0 = I[i] := by rw [List.getD_eq_getElem?_getD, List.getElem?_eq_getElem hi]; rfl
  have e2 : I.getD j 0 = I[j] := by rw [List.getD_eq_getElem?_getD, List.getElem?_eq_getElem hj]; rfl
  rw [e1, e2]
  rcases Nat.lt_or_gt_of_ne h with z | z
  · exact (p i j hi hj z).1
  · exact (p j i hj hi z).2
section
variable {ps I G W : List Nat} (R : Rws I) (hI : ∀ x ∈ I, x < 2 ^ ps.length)
include R hI
theorem wsf_at : ∀ k, k ≤ I.length → (∀ i, i < k → (wsf ps I G W k).getD (blen (I.getD i 0) - 1) 0 = wvl ps I G W i) ∧ ∀ j, (∀ i, i < k → j ≠ blen (I.getD i 0) - 1) → (wsf ps I G W k).getD j 0 = ps.getD j 0
  | 0, _ => ⟨fun i hi => absurd hi (Nat.not_lt_zero _), fun j _ => rfl⟩
  | k + 1, hk => by
    obtain ⟨h1, h2⟩ := wsf_at k (by omega)
    have tl : blen (I.getD k 0) - 1 < (wsf ps I G W k).length := by
      rw [wsf_len]
      have a := blen_le.mpr (hI _ (getD_mem (show k < I.length by omega)))
      have b := blen_pos (R.nz _ (getD_mem (show k < I.length by omega)))
      omega
    rw [wsf_succ]
    refine ⟨fun i hi => ?_, fun j hj => ?_⟩
    · rw [getD_set' _ _ _ _ tl]
      by_cases e : i = k
      · subst e; rw [if_pos rfl]
      · rw [if_neg (tops_ne R (by omega) (by omega) e)]
        exact h1 i (by omega)
    · rw [getD_set' _ _ _ _ tl, if_neg (hj k (by omega))]
      exact h2 j fun i hi => hj i (by omega)
theorem wsf_row {k i : Nat} (hk : k ≤ I.length) (hi : i < k) : img (wsf ps I G W k) (I.getD i 0) = G.getD i 0 ^^^ W.getD i 0 := by
  obtain ⟨h1, h2⟩ := wsf_at R hI k hk
  have nz := R.nz _ (getD_mem (show i < I.length by omega))
  have lt := hI _ (getD_mem (show i < I.length by omega))
  have a := blen_le.mpr lt
  have b := blen_pos nz
  have tb := testBit_top nz
  generalize hx : I.getD i 0 = x at *
  generalize ht : blen x - 1 = t at *
  have e1 : x = 2 ^ t ^^^ (x ^^^ 2 ^ t) := by rw [Nat.xor_comm x, xor_cancel]
  have e2 : img (wsf ps I G W k) (2 ^ t) = wvl ps I G W i := by
    rw [img_unit _ (by rw [wsf_len]; omega)]
    have := h1 i hi
    rwa [hx, ht] at this
  have e3 : img (wsf ps I G W k) (x ^^^ 2 ^ t) = img ps (x ^^^ 2 ^ t) := by
    refine img_at (wsf_len _ _ _ _ _) fun j _ hb => h2 j fun m hm z => ?_
    rw [Nat.testBit_xor, Nat.testBit_two_pow] at hb
    by_cases e : m = i
    · subst e
      rw [hx, ht] at z
      subst z
      rw [tb] at hb
      simp at hb
    · have q := tops_bit R (show i < I.length by omega) (show m < I.length by omega) (Ne.symm e)
      have q2 := tops_ne R (show i < I.length by omega) (show m < I.length by omega) (Ne.symm e)
      rw [hx, ← z] at q
      rw [hx, ht, ← z] at q2
      rw [q] at hb
      simp [q2] at hb
  conv => lhs; rw [e1]
  rw [(lin_img _).x, e2, e3]
  unfold wvl
  rw [hx, ht, Nat.one_shiftLeft, xor_cancel_right]
theorem wsf_to {O : List Nat} {k : Nat} (hk : k ≤ I.length) (h : ∀ i, i < k → Spn O (img ps (I.getD i 0) ^^^ G.getD i 0) ∧ Spn O (W.getD i 0)) : ∀ j, j < ps.length → Spn O ((wsf ps I G W k).getD j 0 ^^^ ps.getD j 0) := fun j hj => by
  obtain ⟨h1, h2⟩ := wsf_at (G := G) (W := W) R hI k hk
  by_cases e : ∃ i, i < k ∧ j = blen (I.getD i 0) - 1
  · obtain ⟨i, hi, rfl⟩ := e
    rw [h1 i hi]
    unfold wvl
    have a := h i hi
    rw [← img_unit ps hj, Nat.xor_assoc, ← (lin_img ps).x, Nat.one_shiftLeft, Nat.xor_assoc (I.getD i 0), Nat.xor_self, Nat.xor_zero]
    have := a.1.xor a.2
    have e : G.getD i 0 ^^^ W.getD i 0 ^^^ img ps (I.getD i 0) = img ps (I.getD i 0) ^^^ G.getD i 0 ^^^ W.getD i 0 := by
      rw [Nat.xor_comm, ← Nat.xor_assoc]
    rw [e]
    exact this
  · rw [h2 j fun i hi z => e ⟨i, hi, z⟩, Nat.xor_self]
    exact .zero
end
/-- the lanes that want what slots of both lead to -/
def wdi (ss os ps : List Nat) : List Nat := ker (ps.map (clr (spn (spn ss ++ spn os))))
def wdg (ss os ps : List Nat) : List Nat := (wdi ss os ps).map fun x => pin (spn ss) (spn os) (img ps x)
def wdw (ss os : List Nat) : List Nat := cmpl (spn ss) (spn os)
def wds (ss os ps : List Nat) : List Nat := wsf ps (wdi ss os ps) (wdg ss os ps) (wdw ss os) (wdw ss os).length
theorem both_sp (ss os : List Nat) (x : Nat) : Spn (spn ss ++ spn os) x ↔ Spn (ss ++ os) x := span_app2 (spn_span ss) (spn_span os)
theorem wdi_span (ss os ps : List Nat) (x : Nat) : Spn (wdi ss os ps) x ↔ x < 2 ^ ps.length ∧ Spn (ss ++ os) (img ps x) := by
  unfold wdi
  rw [span_clr_img, both_sp]
theorem wdi_rws (ss os ps : List Nat) : Rws (wdi ss os ps) := ker_rws _
theorem wds_len (ss os ps : List Nat) : (wds ss os ps).length = ps.length := wsf_len _ _ _ _ _
theorem wdg_at {ss os ps : List Nat} {i : Nat} (h : i < (wdi ss os ps).length) : (wdg ss os ps).getD i 0 = pin (spn ss) (spn os) (img ps ((wdi ss os ps).getD i 0)) := by
  unfold wdg
  simp only [List.getD_eq_getElem?_getD, List.getElem?_map, List.getElem?_eq_getElem h]
  rfl
section
variable {b : Nat} {ss ls os ps : List Nat} (hs : ∀ x ∈ ss, x < 2 ^ b) (hL : ∀ x ∈ ls, x < 2 ^ b) (ho : ∀ x ∈ os, x < 2 ^ b) (hp : ∀ x ∈ ps, x < 2 ^ b) (hl : ls.length = ps.length) (hb : b ≤ rk (ss ++ ls)) (hb2 : b ≤ rk (os ++ ps))
include hs ho hp hl hb in
theorem wdw_le : (wdw ss os).length ≤ (wdi ss os ps).length := by
  have a := ksz (spn ss ++ spn os) ps
  have e1 : (spn (ker (ps.map (clr (spn (spn ss ++ spn os)))))).length = (wdi ss os ps).length := (wdi_rws ss os ps).rk
  have c := cmpl_len (spn_rws ss) (spn os)
  have e2 : rk (spn ss ++ spn os ++ ps) ≤ b := rk_le_bits fun x hx => by
    rcases List.mem_append.mp hx with hx | hx
    · rcases List.mem_append.mp hx with hx | hx
      · exact spn_lt hs x hx
      · exact spn_lt ho x hx
    · exact hp x hx
  have e3 := rk_app_len ss ls
  rw [rk_spn] at c
  have e4 : (wdw ss os).length = (cmpl (spn ss) (spn os)).length := rfl
  omega
theorem wdi_in {i : Nat} (h : i < (wdi ss os ps).length) : Spn ss ((wdg ss os ps).getD i 0) ∧ Spn os (img ps ((wdi ss os ps).getD i 0) ^^^ (wdg ss os ps).getD i 0) := by
  have a := ((wdi_span ss os ps _).mp (.of (getD_mem h))).2
  have p := pin_ok (R := spn ss) (O := spn os) ((both_sp ss os _).mpr a)
  rw [wdg_at h]
  exact ⟨(spn_span ss _).mp p.1, (spn_span os _).mp p.2⟩
theorem wdw_in {i : Nat} (h : i < (wdw ss os).length) : Spn os ((wdw ss os).getD i 0) := (spn_span os _).mp (.of (cmpl_mem _ _ (getD_mem h)))
theorem wdi_lt : ∀ x ∈ wdi ss os ps, x < 2 ^ ps.length := fun x hx => ((wdi_span ss os ps x).mp (.of hx)).1
include hs ho hp hl hb
theorem wds_to (x : Nat) : Spn os (img (wds ss os ps) x ^^^ img ps x) := by
  have le := wdw_le hs ho hp hl hb
  refine img_diff (wds_len ss os ps) (fun i hi => ?_) x
  rw [wds_len] at hi
  exact wsf_to (wdi_rws ss os ps) wdi_lt le (fun m hm => ⟨(wdi_in (by omega)).2, wdw_in hm⟩) i hi
theorem wds_at {i : Nat} (hi : i < ps.length) : Spn os ((wds ss os ps).getD i 0 ^^^ ps.getD i 0) :=
  wsf_to (wdi_rws ss os ps) wdi_lt (wdw_le hs ho hp hl hb) (fun m hm => ⟨(wdi_in (by have := wdw_le hs ho hp hl hb; omega)).2, wdw_in hm⟩) i hi
theorem wds_lt : ∀ x ∈ wds ss os ps, x < 2 ^ b := fun x hx => by
  obtain ⟨i, hi, rfl⟩ := List.mem_iff_getElem.mp hx
  have hi' : i < ps.length := by rwa [wds_len] at hi
  have a := wds_at hs ho hp hl hb hi'
  have e : (wds ss os ps).getD i 0 = (wds ss os ps)[i] := by rw [List.getD_eq_getElem?_getD, List.getElem?_eq_getElem hi]; rfl
  rw [e] at a
  have q := Nat.xor_lt_two_pow (a.lt ho) (hp _ (getD_mem hi'))
  rwa [xor_cancel_right] at q
include hb2
/-- with the slots they span all -/
theorem wds_all : b ≤ rk (ss ++ wds ss os ps) := by
  have le := wdw_le hs ho hp hl hb
  have key : ∀ i, i < (wdw ss os).length → Spn (ss ++ wds ss os ps) ((wdw ss os).getD i 0) := fun i hi => by
    have r := wsf_row (G := wdg ss os ps) (W := wdw ss os) (wdi_rws ss os ps) wdi_lt le hi
    have a : Spn (ss ++ wds ss os ps) (img (wds ss os ps) ((wdi ss os ps).getD i 0)) := by
      refine (img_in _ ?_).sub fun y hy => List.mem_append_right _ hy
      rw [wds_len]
      exact wdi_lt _ (getD_mem (by omega))
    have r' : img (wds ss os ps) ((wdi ss os ps).getD i 0) = (wdg ss os ps).getD i 0 ^^^ (wdw ss os).getD i 0 := r
    rw [r'] at a
    have g : Spn (ss ++ wds ss os ps) ((wdg ss os ps).getD i 0) := (wdi_in (ss := ss) (os := os) (ps := ps) (i := i) (by omega)).1.sub fun y hy => List.mem_append_left _ hy
    have := g.xor a
    rwa [xor_cancel] at this
  have cs := cms_span (spn_rws ss) (spn os)
  have os_in : ∀ x, Spn os x → Spn (ss ++ wds ss os ps) x := fun x hx => by
    have h1 : Spn (spn ss ++ spn os) x := ((spn_span os x).mpr hx).sub fun y hy => List.mem_append_right _ hy
    have h2 := (cs.2 x).mp ((cs.1 x).mpr h1)
    refine h2.mono fun y hy => ?_
    rcases List.mem_append.mp hy with hy | hy
    · exact ((spn_span ss y).mp (.of hy)).sub fun z hz => List.mem_append_left _ hz
    · obtain ⟨i, hi, rfl⟩ := List.mem_iff_getElem.mp hy
      have e : (wdw ss os).getD i 0 = (cms (spn ss) (spn os)).2[i] := by
        have hi' : i < (wdw ss os).length := hi
        rw [List.getD_eq_getElem?_getD, List.getElem?_eq_getElem hi']; rfl
      rw [← e]
      exact key i hi
  refine Nat.le_trans hb2 (rk_le fun x hx => ?_)
  rcases List.mem_append.mp hx with hx | hx
  · exact os_in x (.of hx)
  · obtain ⟨i, hi, rfl⟩ := List.mem_iff_getElem.mp hx
    have a := os_in _ (wds_at hs ho hp hl hb hi)
    have c : Spn (ss ++ wds ss os ps) ((wds ss os ps).getD i 0) := (Spn.of (getD_mem (by rw [wds_len]; exact hi))).sub fun z hz => List.mem_append_right _ hz
    have d := c.xor a
    rw [xor_cancel] at d
    have e : ps.getD i 0 = ps[i] := by rw [List.getD_eq_getElem?_getD, List.getElem?_eq_getElem hi]; rfl
    rwa [e] at d
end
/-! ### lanes that show -/
def shi (b : Nat) (ss st : List Nat) : List Nat := mtd b (spn st) (spn ss)
def sho (b : Nat) (ss st : List Nat) : List Nat := cmpl (shi b ss st) (spn st)
def shL (b : Nat) (ss ls st : List Nat) : List Nat := (twn ss ls).take (shi b ss st).length ++ (sho b ss st).map (lno ss ls)
def shn (b : Nat) (ss ls st : List Nat) : List Nat := st.map fun w => img (shL b ss ls st) (slv (shi b ss st ++ sho b ss st) w)
section
variable {b : Nat} {ss ls st : List Nat} (hs : ∀ x ∈ ss, x < 2 ^ b) (hL : ∀ x ∈ ls, x < 2 ^ b) (hS : ∀ x ∈ st, x < 2 ^ b) (hl : st.length = ls.length) (hb : b ≤ rk (ss ++ ls)) (hst : b ≤ rk (ss ++ st))
include hS in
theorem shi_span (x : Nat) : Spn (shi b ss st) x ↔ Spn st x ∧ Spn ss x := by
  unfold shi
  rw [mtd_span (spn_lt hS), spn_span, spn_span]
include hS in
theorem sh_base : (∀ x, Spn (shi b ss st ++ sho b ss st) x ↔ Spn st x) ∧ rk (shi b ss st ++ sho b ss st) = (shi b ss st ++ sho b ss st).length := by
  have a := base_of (A := shi b ss st) (B := spn st) (mtd_rws _ _ _) fun x hx => (spn_span st x).mpr ((shi_span hS x).mp (.of hx)).1
  exact ⟨fun x => (a.1 x).trans (spn_span st x), a.2.1⟩
include hs hL hS hl hb hst
theorem shi_le : (shi b ss st).length ≤ (twn ss ls).length := by
  have a := mtd_len (b := b) (spn_rws st) (spn_rws ss) (spn_lt hS)
  have t := twn_size ss ls
  have e : rk (spn st ++ spn ss) = rk (ss ++ st) := rk_eq fun x => (both_sp st ss x).trans (span_swap st ss x)
  have e1 : (spn st).length = rk st := rfl
  have e2 : (spn ss).length = rk ss := rfl
  have e3 := rk_len st
  have e4 : (shi b ss st).length = (mtd b (spn st) (spn ss)).length := rfl
  have e5 : rk (ss ++ ls) ≤ b := rk_le_bits fun x hx => by
    rcases List.mem_append.mp hx with hx | hx
    · exact hs x hx
    · exact hL x hx
  omega
theorem shL_len : (shL b ss ls st).length = (shi b ss st ++ sho b ss st).length := by
  have := shi_le hs hL hS hl hb hst
  unfold shL
  rw [List.length_append, List.length_append, List.length_take, List.length_map]
  omega
theorem sho_lt : ∀ x ∈ sho b ss st, x < 2 ^ b := fun x hx => ((spn_span st x).mp (.of (cmpl_mem _ x hx))).lt hS
theorem shL_lt : ∀ x ∈ shL b ss ls st, x < 2 ^ ls.length := fun x hx => by
  rcases List.mem_append.mp hx with hx | hx
  · exact twn_lt (.of (List.mem_of_mem_take hx))
  · obtain ⟨w, hw, rfl⟩ := List.mem_map.mp hx
    exact (lno_ok hs hL hb (sho_lt hs hL hS hl hb hst w hw)).1
theorem sh_from (c : Nat) : Spn ss (img ls (img (shL b ss ls st) c) ^^^ img (shi b ss st ++ sho b ss st) c) := by
  have le := shi_le hs hL hS hl hb hst
  rw [← img_map (lin_img ls)]
  refine img_diff (by rw [List.length_map, shL_len hs hL hS hl hb hst]) (fun i hi => ?_) c
  rw [List.length_map, shL_len hs hL hS hl hb hst, List.length_append] at hi
  have tl : ((twn ss ls).take (shi b ss st).length).length = (shi b ss st).length := by rw [List.length_take]; omega
  by_cases z : i < (shi b ss st).length
  · have e1 : (shL b ss ls st).getD i 0 = (twn ss ls).getD i 0 := by
      unfold shL
      simp only [List.getD_eq_getElem?_getD, List.getElem?_append_left (show i < ((twn ss ls).take (shi b ss st).length).length by omega), List.getElem?_take, if_pos z]
    have e2 : (shi b ss st ++ sho b ss st).getD i 0 = (shi b ss st).getD i 0 := by
      simp only [List.getD_eq_getElem?_getD, List.getElem?_append_left z]
    have e3 : ((shL b ss ls st).map (img ls)).getD i 0 = img ls ((shL b ss ls st).getD i 0) := by
      have : i < (shL b ss ls st).length := by rw [shL_len hs hL hS hl hb hst, List.length_append]; omega
      simp only [List.getD_eq_getElem?_getD, List.getElem?_map, List.getElem?_eq_getElem this]; rfl
    rw [e3, e1, e2]
    exact ((twn_span ss ls _).mp (.of (getD_mem (by omega)))).2.xor ((shi_span hS _).mp (.of (getD_mem z))).2
  · have e1 : (shL b ss ls st).getD i 0 = lno ss ls ((sho b ss st).getD (i - (shi b ss st).length) 0) := by
      unfold shL
      have : i - (shi b ss st).length < (sho b ss st).length := by omega
      simp only [List.getD_eq_getElem?_getD, List.getElem?_append_right (show ((twn ss ls).take (shi b ss st).length).length ≤ i by omega), tl, List.getElem?_map, List.getElem?_eq_getElem this]
      rfl
    have e2 : (shi b ss st ++ sho b ss st).getD i 0 = (sho b ss st).getD (i - (shi b ss st).length) 0 := by
      simp only [List.getD_eq_getElem?_getD, List.getElem?_append_right (show (shi b ss st).length ≤ i by omega)]
    have e3 : ((shL b ss ls st).map (img ls)).getD i 0 = img ls ((shL b ss ls st).getD i 0) := by
      have : i < (shL b ss ls st).length := by rw [shL_len hs hL hS hl hb hst, List.length_append]; omega
      simp only [List.getD_eq_getElem?_getD, List.getElem?_map, List.getElem?_eq_getElem this]; rfl
    rw [e3, e1, e2]
    exact lno_span hs hL hb (sho_lt hs hL hS hl hb hst _ (getD_mem (by omega)))
theorem lin_sh : Lin fun w => img (shL b ss ls st) (slv (shi b ss st ++ sho b ss st) w) := (lin_img _).comp (lin_slv _)
theorem shn_img (x : Nat) : img (shn b ss ls st) x = img (shL b ss ls st) (slv (shi b ss st ++ sho b ss st) (img st x)) := img_map (lin_sh hs hL hS hl hb hst) st x
theorem shn_from {x : Nat} (hx : x < 2 ^ st.length) : Spn ss (img ls (img (shn b ss ls st) x) ^^^ img st x) := by
  rw [shn_img hs hL hS hl hb hst]
  have a := slv_ok (((sh_base (b := b) (ss := ss) hS).1 _).mpr (img_in st hx))
  have c := sh_from hs hL hS hl hb hst (slv (shi b ss st ++ sho b ss st) (img st x))
  rwa [a.2] at c
theorem shn_lt : ∀ x ∈ shn b ss ls st, x < 2 ^ ls.length := fun x hx => by
  obtain ⟨w, _, rfl⟩ := List.mem_map.mp hx
  exact imf_lt (shL_lt hs hL hS hl hb hst) _ _
theorem shn_inj {x y : Nat} (hx : x < 2 ^ st.length) (hy : y < 2 ^ st.length) (h : img (shn b ss ls st) x = img (shn b ss ls st) y) : img st x = img st y := by
  have z : x ^^^ y < 2 ^ st.length := Nat.xor_lt_two_pow hx hy
  have e : img (shn b ss ls st) (x ^^^ y) = 0 := by rw [(lin_img _).x, h, Nat.xor_self]
  have fr := shn_from hs hL hS hl hb hst z
  rw [e, (lin_img ls).z, Nat.zero_xor] at fr
  rw [shn_img hs hL hS hl hb hst] at e
  have inst := img_in st z
  obtain ⟨c1, c2⟩ := slv_ok (((sh_base (b := b) (ss := ss) hS).1 _).mpr inst)
  have inner : Spn (shi b ss st) (img st (x ^^^ y)) := (shi_span hS _).mpr ⟨inst, fr⟩
  obtain ⟨w, hw, e2⟩ := span_img (cols := shi b ss st) (Nat.le_refl _) (by rw [List.take_length]; exact inner)
  have e3 : img (shi b ss st ++ sho b ss st) w = img (shi b ss st) w := by
    have := img_app (P := shi b ss st) (Q := sho b ss st) (y := 0) hw
    rwa [Nat.zero_shiftLeft, Nat.xor_zero, (lin_img _).z, Nat.xor_zero] at this
  have hw2 : w < 2 ^ (shi b ss st ++ sho b ss st).length := Nat.lt_of_lt_of_le hw (Nat.pow_le_pow_right (by decide) (by rw [List.length_append]; omega))
  have e4 : slv (shi b ss st ++ sho b ss st) (img st (x ^^^ y)) = w := img_inj2 (sh_base hS).2 c1 hw2 (by rw [c2, e3, e2])
  rw [e4] at e
  have le := shi_le hs hL hS hl hb hst
  have tl : ((twn ss ls).take (shi b ss st).length).length = (shi b ss st).length := by rw [List.length_take]; omega
  have e5 : img (shL b ss ls st) w = img ((twn ss ls).take (shi b ss st).length) w := by
    have := img_app (P := (twn ss ls).take (shi b ss st).length) (Q := (sho b ss st).map (lno ss ls)) (x := w) (y := 0) (by rw [tl]; exact hw)
    rwa [Nat.zero_shiftLeft, Nat.xor_zero, (lin_img _).z, Nat.xor_zero] at this
  rw [e5] at e
  have R : Rws ((twn ss ls).take (shi b ss st).length) := by
    have A : Rws (twn ss ls) := spn_rws _
    exact ⟨fun r hr => A.nz r (List.mem_of_mem_take hr), A.red.sublist (List.take_sublist _ _)⟩
  have w0 := img_inj R.rk (by rw [tl]; exact hw) e
  rw [w0, (lin_img _).z] at e2
  have := e2.symm
  rw [(lin_img st).x] at this
  exact xor_eq_zero this
end
/-! ### a plan -/
structure Pln (b : Nat) (ss ls os ps st sh wd : List Nat) (sk : Nat) : Prop where
  sl : st.length = ls.length
  hl : sh.length = ls.length
  wl : wd.length = rk os
  sm : ∀ x ∈ st, x < 2 ^ b
  hm : ∀ x ∈ sh, x < 2 ^ ls.length
  wm : ∀ x ∈ wd, x < 2 ^ b
  wi : rk wd = wd.length
  ws : ∀ x, Spn wd x ↔ Spn os x
  to : ∀ x, Spn os (img st x ^^^ img ps x)
  fr : ∀ x, x < 2 ^ ls.length → Spn ss (img ls (img sh x) ^^^ img st x)
  inj : ∀ x y, x < 2 ^ ls.length → y < 2 ^ ls.length → img sh x = img sh y → img st x = img st y
  sk1 : 2 ^ wd.length - sk = fwr ss ls os ps
  sk2 : sk ≤ 2 ^ wd.length
  low : ∀ f x, f < sk → Spn ss (img wd f ^^^ (img st x ^^^ img ls x))
  high : ∀ f x, sk ≤ f → f < 2 ^ wd.length → x < 2 ^ ls.length → sk ≠ 0 → ¬ Spn ss (img wd f ^^^ (img st x ^^^ img ls x))
theorem img_units {n x : Nat} (h : x < 2 ^ n) : img ((List.range n).map fun i => 1 <<< i) x = x := by
  have key : ∀ m, m ≤ n → imf ((List.range n).map fun i => 1 <<< i) x m = x % 2 ^ m := by
    intro m
    induction m with
    | zero => intro _; simp [imf, Nat.mod_one]
    | succ m ih =>
      intro hm
      rw [imf_succ, ih (by omega), map_range_getD _ (by omega), Nat.one_shiftLeft]
      apply Nat.eq_of_testBit_eq
      intro j
      rw [Nat.testBit_mod_two_pow]
      split
      · rename_i z
        rw [Nat.testBit_xor, Nat.testBit_mod_two_pow, Nat.testBit_two_pow]
        by_cases e : m = j
        · subst e; simp [z]
        · by_cases e2 : j < m
          · simp [e, e2, show j < m + 1 by omega]
          · simp [e, e2, show ¬ j < m + 1 by omega]
      · rename_i z
        rw [Nat.testBit_mod_two_pow]
        by_cases e : j = m
        · subst e; simp [z]
        · by_cases e2 : j < m
          · simp [e2, show j < m + 1 by omega]
          · simp [e2, show ¬ j < m + 1 by omega]
  unfold img
  rw [List.length_map, List.length_range, key n (Nat.le_refl _), Nat.mod_eq_of_lt h]
section
variable {b : Nat} {ss ls os ps : List Nat} (hs : ∀ x ∈ ss, x < 2 ^ b) (hL : ∀ x ∈ ls, x < 2 ^ b) (ho : ∀ x ∈ os, x < 2 ^ b) (hp : ∀ x ∈ ps, x < 2 ^ b) (hl : ls.length = ps.length) (hb : b ≤ rk (ss ++ ls)) (hb2 : b ≤ rk (os ++ ps))
def kwd (b : Nat) (ss os : List Nat) : List Nat := mtd b (spn ss) (spn os) ++ cmpl (mtd b (spn ss) (spn os)) (spn os)
include hs hL ho hl
theorem pln_keep (h : ∀ w ∈ lsm ls ps, Spn (ss ++ os) w) : Pln b ss ls os ps (kst (spn ss) (spn os) ls ps) ((List.range ls.length).map fun i => 1 <<< i) (kwd b ss os) (2 ^ (mtd b (spn ss) (spn os)).length) := by
  have key : ∀ y, Spn (mtd b (spn ss) (spn os)) y ↔ Spn ss y ∧ Spn os y := fun y => by rw [mtd_span (spn_lt hs), spn_span, spn_span]
  have B := base_of (A := mtd b (spn ss) (spn os)) (B := spn os) (mtd_rws _ _ _) fun x hx => (spn_span os x).mpr ((key x).mp (.of hx)).2
  have wl : (kwd b ss os).length = rk os := B.2.2.trans (rk_spn os)
  have ws : ∀ x, Spn (kwd b ss os) x ↔ Spn os x := fun x => (B.1 x).trans (spn_span os x)
  have ml := mtd_shr (os := os) hs
  have mle : (mtd b (spn ss) (spn os)).length ≤ (kwd b ss os).length := by unfold kwd; rw [List.length_append]; omega
  have ap : ∀ f, f < 2 ^ (mtd b (spn ss) (spn os)).length → img (kwd b ss os) f = img (mtd b (spn ss) (spn os)) f := fun f hf => by
    have := img_app (P := mtd b (spn ss) (spn os)) (Q := cmpl (mtd b (spn ss) (spn os)) (spn os)) (y := 0) hf
    rwa [Nat.zero_shiftLeft, Nat.xor_zero, (lin_img _).z, Nat.xor_zero] at this
  have ks := fun x => kst_ok hl h x
  refine ⟨kst_len _ _ _ _, by simp, wl, kst_lt hs hL h, fun x hx => ?_, fun x hx => ((ws x).mp (.of hx)).lt ho, B.2.1, ws, fun x => (ks x).2, fun x hx => ?_, fun x y hx hy z => ?_, ?_, Nat.pow_le_pow_right (by decide) mle, fun f x hf => ?_, fun f x h1 h2 hx _ z => ?_⟩
  · obtain ⟨i, hi, rfl⟩ := List.mem_map.mp hx
    rw [Nat.one_shiftLeft]
    exact Nat.pow_lt_pow_right (by decide) (List.mem_range.mp hi)
  · rw [img_units hx, Nat.xor_comm]
    exact (ks x).1
  · rw [img_units hx, img_units hy] at z
    rw [z]
  · rw [wl, ml]
    unfold fwr
    rw [if_pos h]
  · rw [ap f hf]
    exact ((key _).mp (img_in _ hf)).1.xor (ks x).1
  · have z1 := z.xor (ks x).1
    rw [xor_cancel_right] at z1
    have z2 : Spn (mtd b (spn ss) (spn os)) (img (kwd b ss os) f) := (key _).mpr ⟨z1, (ws _).mp (img_in _ h2)⟩
    obtain ⟨w, hw, e⟩ := span_img (cols := mtd b (spn ss) (spn os)) (Nat.le_refl _) (by rw [List.take_length]; exact z2)
    have hw2 : w < 2 ^ (kwd b ss os).length := Nat.lt_of_lt_of_le hw (Nat.pow_le_pow_right (by decide) mle)
    have := img_inj2 B.2.1 h2 hw2 (e.symm.trans (ap w hw).symm)
    omega
include hp hb hb2
theorem pln_wide (h : ¬ ∀ w ∈ lsm ls ps, Spn (ss ++ os) w) : Pln b ss ls os ps (wds ss os ps) (shn b ss ls (wds ss os ps)) (spn os) 0 := by
  have hS := wds_lt hs ho hp hl hb
  have hl2 : (wds ss os ps).length = ls.length := (wds_len ss os ps).trans hl.symm
  have al := wds_all hs ho hp hl hb hb2
  refine ⟨hl2, by unfold shn; rw [List.length_map, hl2], rfl, hS, shn_lt hs hL hS hl2 hb al, spn_lt ho, (spn_rws os).rk, spn_span os, wds_to hs ho hp hl hb, fun x hx => shn_from hs hL hS hl2 hb al (by rw [hl2]; exact hx), fun x y hx hy z => shn_inj hs hL hS hl2 hb al (by rw [hl2]; exact hx) (by rw [hl2]; exact hy) z, ?_, Nat.zero_le _, fun f x hf => absurd hf (Nat.not_lt_zero _), fun f x _ _ _ z => absurd rfl z⟩
  unfold fwr
  rw [if_neg h, Nat.sub_zero]
  rfl
end
end LaneX
set_option linter.all false
namespace LaneX
/-! ### what a plan of rounds tells -/
section
variable {b : Nat} {ss ls os ps st sh wd : List Nat} {sk : Nat} (pn : Pln b ss ls os ps st sh wd sk) (hs : ∀ x ∈ ss, x < 2 ^ b) (hL : ∀ x ∈ ls, x < 2 ^ b) (hb : b ≤ rk (ss ++ ls))
include pn
theorem Pln.wlt (n : Nat) : img wd n < 2 ^ b := imf_lt pn.wm _ _
theorem Pln.win {n : Nat} (h : n < 2 ^ wd.length) : Spn os (img wd n) := (pn.ws _).mp (img_in _ h)
theorem Pln.want {L n : Nat} (h : n < 2 ^ wd.length) : Spn os ((img st L ^^^ img wd n) ^^^ img ps L) := by
  have a := (pn.to L).xor (pn.win h)
  have e : img st L ^^^ img ps L ^^^ img wd n = (img st L ^^^ img wd n) ^^^ img ps L := by
    rw [Nat.xor_assoc, Nat.xor_comm (img ps L), ← Nat.xor_assoc]
  rwa [e] at a
theorem Pln.one {f g : Nat} (hf : f < 2 ^ wd.length) (hg : g < 2 ^ wd.length) (h : img wd f = img wd g) : f = g := img_inj2 pn.wi hf hg h
theorem Pln.in_wanted {L e : Nat} : Spn os (e ^^^ img st L) ↔ Spn os (e ^^^ img ps L) := by
  constructor
  · intro h
    have := h.xor (pn.to L)
    have e2 : e ^^^ img st L ^^^ (img st L ^^^ img ps L) = e ^^^ img ps L := by rw [Nat.xor_assoc, xor_cancel]
    rwa [e2] at this
  · intro h
    have := h.xor (pn.to L)
    have e2 : e ^^^ img ps L ^^^ (img st L ^^^ img ps L) = e ^^^ img st L := by rw [xor4, Nat.xor_self, Nat.xor_zero]
    rwa [e2] at this
include hs hL hb
theorem Pln.src {L : Nat} (n : Nat) : img sh L ^^^ lno ss ls (img wd n) < 2 ^ ls.length :=
  Nat.xor_lt_two_pow (imf_lt pn.hm _ _) (lno_ok hs hL hb (pn.wlt n)).1
theorem Pln.hold {L : Nat} (n : Nat) (h : L < 2 ^ ls.length) : Spn ss ((img st L ^^^ img wd n) ^^^ img ls (img sh L ^^^ lno ss ls (img wd n))) := by
  rw [(lin_img ls).x]
  have a := (pn.fr L h).xor (lno_span hs hL hb (pn.wlt n))
  have e : img ls (img sh L) ^^^ img st L ^^^ (img ls (lno ss ls (img wd n)) ^^^ img wd n) = (img st L ^^^ img wd n) ^^^ (img ls (img sh L) ^^^ img ls (lno ss ls (img wd n))) := by
    rw [xor4, Nat.xor_comm]
  rwa [e] at a
end
/-! ### the least lane that keeps nothing -/
/-- the lanes of one bit that keep nothing -/
def sty (ss ls os ps : List Nat) : List Nat := (List.range ls.length).filter fun i => !decide (clr (rws (ss ++ os)) (ls.getD i 0 ^^^ ps.getD i 0) = 0)
theorem clr_rws' {ws : List Nat} {x : Nat} : clr (rws ws) x = 0 ↔ Spn ws x := by rw [← (rws_hws ws).span, rws_span]
section
variable {b : Nat} {ss ls os ps : List Nat} (hs : ∀ x ∈ ss, x < 2 ^ b) (hl : ls.length = ps.length)
theorem sty_nil : sty ss ls os ps = [] ↔ ∀ w ∈ lsm ls ps, Spn (ss ++ os) w := by
  unfold sty
  rw [List.filter_eq_nil_iff]
  constructor
  · intro h w hw
    obtain ⟨i, hi, rfl⟩ := List.mem_map.mp hw
    have := h i hi
    simp only [Bool.not_eq_true', Bool.not_eq_true, decide_eq_false_iff_not, Decidable.not_not] at this
    exact clr_rws'.mp (by simpa using this)
  · intro h i hi
    have := clr_rws'.mpr (h _ (List.mem_map.mpr ⟨i, hi, rfl⟩))
    rw [decide_eq_true this]; decide
theorem head_least : ∀ {l : List Nat} {n : Nat} {p : Nat → Bool} {j : Nat} {r : List Nat}, (List.range n).filter p = j :: r → j < n ∧ p j = true ∧ ∀ i, i < j → p i = false := by
  intro l n p j r h
  have m : j ∈ (List.range n).filter p := by rw [h]; exact .head _
  have m' := List.mem_filter.mp m
  refine ⟨List.mem_range.mp m'.1, m'.2, fun i hi => ?_⟩
  cases q : p i with
  | false => rfl
  | true =>
    have mi : i ∈ (List.range n).filter p := List.mem_filter.mpr ⟨List.mem_range.mpr (by have := List.mem_range.mp m'.1; omega), q⟩
    rw [h] at mi
    have sorted : ((List.range n).filter p).Pairwise (· < ·) := List.Pairwise.filter _ List.pairwise_lt_range
    rw [h] at sorted
    rcases List.mem_cons.mp mi with e | e
    · omega
    · have := (List.pairwise_cons.mp sorted).1 i e
      omega
include hs hl
theorem sty_due {j : Nat} {r : List Nat} (h : sty ss ls os ps = j :: r) : j < ls.length ∧ due ss ls os ps (2 ^ j) = fwr ss ls os ps ∧ ∀ L, L < 2 ^ j → due ss ls os ps L ≠ fwr ss ls os ps := by
  obtain ⟨h1, h2, h3⟩ := head_least (l := []) h
  have at_ : ∀ i, i < ls.length → img (lsm ls ps) (2 ^ i) = ls.getD i 0 ^^^ ps.getD i 0 := fun i hi => by rw [img_unit _ (by rw [lsm_len]; exact hi), lsm_at hi]
  have out : ¬ Spn (ss ++ os) (img (lsm ls ps) (2 ^ j)) := by
    rw [at_ j h1, ← clr_rws']
    simpa using h2
  have nall : ¬ ∀ w ∈ lsm ls ps, Spn (ss ++ os) w := fun z => by
    rw [← sty_nil, h] at z
    cases z
  have e1 : fwr ss ls os ps = 2 ^ rk os := by unfold fwr; rw [if_neg nall]
  refine ⟨h1, ?_, fun L hL => ?_⟩
  · rw [due_eq hs hl, if_neg out, e1]
  · have inn : Spn (ss ++ os) (img (lsm ls ps) L) := by
      have key : ∀ n, n ≤ j → ∀ x, x < 2 ^ n → Spn (ss ++ os) (img (lsm ls ps) x) := by
        intro n
        induction n with
        | zero =>
          intro _ x hx
          have : x = 0 := by simpa using hx
          subst this
          rw [(lin_img _).z]; exact .zero
        | succ n ih =>
          intro hn x hx
          rcases bit_split hx with q | ⟨q, _⟩
          · exact ih (by omega) x q
          · have a := ih (by omega) _ q
            have c : Spn (ss ++ os) (img (lsm ls ps) (2 ^ n)) := by
              rw [at_ n (by omega), ← clr_rws']
              simpa using h3 n (by omega)
            have d := a.xor c
            rwa [← (lin_img _).x, xor_cancel_right] at d
      exact key j (Nat.le_refl _) L hL
    rw [due_eq hs hl, if_pos inn, e1]
    have := Nat.two_pow_pos (shr ss os)
    have := Nat.two_pow_pos (rk os)
    omega
/-- the short lane is told -/
theorem short_is {L : Nat} (h1 : due ss ls os ps L = fwr ss ls os ps) (h2 : ∀ i, i < L → due ss ls os ps i ≠ fwr ss ls os ps) : L = match sty ss ls os ps with | [] => 0 | j :: _ => 2 ^ j := by
  cases q : sty ss ls os ps with
  | nil =>
    have a := sty_nil.mp q
    refine Classical.byContradiction fun z => ?_
    exact h2 0 (by simp at z; omega) (due_all hs hl a 0)
  | cons j r =>
    obtain ⟨_, d1, d2⟩ := sty_due hs hl q
    show L = 2 ^ j
    rcases Nat.lt_trichotomy L (2 ^ j) with z | z | z
    · exact absurd h1 (d2 L z)
    · exact z
    · exact absurd d1 (h2 _ z)
end
end LaneX
set_option linter.all false
namespace LaneX
/-! ### side by side (k62) -/
def jn (n : Nat) (A B : List Nat) : List Nat := A ++ B.map fun x => x <<< n
theorem jn_len (n : Nat) (A B : List Nat) : (jn n A B).length = A.length + B.length := by simp [jn]
theorem lin_shl (n : Nat) : Lin fun x => x <<< n := ⟨Nat.zero_shiftLeft n, fun a b => Nat.shiftLeft_xor_distrib⟩
theorem low_split {n a b c d : Nat} (ha : a < 2 ^ n) (hc : c < 2 ^ n) (h : a ^^^ b <<< n = c ^^^ d <<< n) : a = c ∧ b = d := by
  have e1 := congrArg (fun x => x >>> n) h
  simp only [Nat.shiftRight_xor_distrib, shl_shr] at e1
  rw [Nat.shiftRight_eq_zero _ _ ha, Nat.shiftRight_eq_zero _ _ hc, Nat.zero_xor, Nat.zero_xor] at e1
  subst e1
  have e2 := congrArg (fun x => x ^^^ b <<< n) h
  simp only [xor_cancel_right] at e2
  exact ⟨e2, rfl⟩
theorem jn_span {n : Nat} {A B : List Nat} (x : Nat) : Spn (jn n A B) x ↔ ∃ a b, Spn A a ∧ Spn B b ∧ x = a ^^^ b <<< n := by
  constructor
  · intro h
    obtain ⟨a, c, h1, h2, rfl⟩ := span_split h
    obtain ⟨b, h3, rfl⟩ := (lin_shl n).back h2
    exact ⟨a, b, h1, h3, rfl⟩
  · rintro ⟨a, b, h1, h2, rfl⟩
    exact (h1.sub fun y hy => List.mem_append_left _ hy).xor (((lin_shl n).spn h2).sub fun y hy => List.mem_append_right _ hy)
theorem jn_in {n : Nat} {A B : List Nat} (hA : ∀ x ∈ A, x < 2 ^ n) {a b : Nat} (ha : a < 2 ^ n) : Spn (jn n A B) (a ^^^ b <<< n) ↔ Spn A a ∧ Spn B b := by
  rw [jn_span]
  constructor
  · rintro ⟨c, d, h1, h2, e⟩
    obtain ⟨rfl, rfl⟩ := low_split ha (h1.lt hA) e
    exact ⟨h1, h2⟩
  · rintro ⟨h1, h2⟩
    exact ⟨a, b, h1, h2, rfl⟩
theorem jn_ind {n : Nat} {A B : List Nat} (hA : ∀ x ∈ A, x < 2 ^ n) (iA : Ind A) (iB : Ind B) : Ind (jn n A B) := by
  induction iB with
  | nil => simpa [jn] using iA
  | snoc h1 h2 ih =>
    rename_i a w
    have e : jn n A (a ++ [w]) = jn n A a ++ [w <<< n] := by simp [jn]
    rw [e]
    refine .snoc ih fun z => h2 ?_
    have z' : Spn (jn n A a) (0 ^^^ w <<< n) := by rw [Nat.zero_xor]; exact z
    exact ((jn_in hA (Nat.two_pow_pos n)).mp z').2
theorem jn_rk {n : Nat} {A B : List Nat} (hA : ∀ x ∈ A, x < 2 ^ n) : rk (jn n A B) = rk A + rk B := by
  have e : rk (jn n A B) = rk (jn n (spn A) (spn B)) := rk_eq fun x => by
    rw [jn_span, jn_span]
    constructor
    · rintro ⟨a, b, h1, h2, rfl⟩
      exact ⟨a, b, (spn_span A a).mpr h1, (spn_span B b).mpr h2, rfl⟩
    · rintro ⟨a, b, h1, h2, rfl⟩
      exact ⟨a, b, (spn_span A a).mp h1, (spn_span B b).mp h2, rfl⟩
  rw [e, (jn_ind (spn_lt hA) (spn_rws A).ind (spn_rws B).ind).rk, jn_len]
  rfl
/-- two and two, side by side -/
theorem jn_app {n : Nat} {A B C D : List Nat} (x : Nat) : Spn (jn n A B ++ jn n C D) x ↔ Spn (jn n (A ++ C) (B ++ D)) x := by
  have p : (jn n A B ++ jn n C D).Perm (jn n (A ++ C) (B ++ D)) := by
    unfold jn
    rw [List.map_append, List.append_assoc, List.append_assoc]
    refine List.Perm.append_left A ?_
    rw [← List.append_assoc, ← List.append_assoc]
    exact List.Perm.append_right _ List.perm_append_comm
  exact ⟨fun h => h.sub fun w hw => p.mem_iff.mp hw, fun h => h.sub fun w hw => p.mem_iff.mpr hw⟩
theorem jn_lt {n m : Nat} {A B : List Nat} (hA : ∀ x ∈ A, x < 2 ^ n) (hB : ∀ x ∈ B, x < 2 ^ m) : ∀ x ∈ jn n A B, x < 2 ^ (n + m) := fun x hx => by
  rcases List.mem_append.mp hx with hx | hx
  · exact Nat.lt_of_lt_of_le (hA x hx) (Nat.pow_le_pow_right (by decide) (by omega))
  · obtain ⟨y, hy, rfl⟩ := List.mem_map.mp hx
    rw [Nat.shiftLeft_eq, Nat.pow_add, Nat.mul_comm (2 ^ n)]
    exact Nat.mul_lt_mul_of_pos_right (hB y hy) (Nat.two_pow_pos n)
theorem jn_img {n : Nat} {A B : List Nat} {x y : Nat} (h : x < 2 ^ A.length) : img (jn n A B) (x ^^^ y <<< A.length) = img A x ^^^ img B y <<< n := by
  unfold jn
  rw [img_app h, img_map (lin_shl n)]
theorem shr_le' (ss os : List Nat) : shr ss os ≤ rk os ∧ shr ss os ≤ rk ss ∧ rk (ss ++ os) + shr ss os = rk ss + rk os := by
  have a := rk_app ss os
  have b := rk_left ss os
  have c := rk_right ss os
  unfold shr
  omega
theorem jn_shr {n : Nat} {A B C D : List Nat} (hA : ∀ x ∈ A, x < 2 ^ n) (hC : ∀ x ∈ C, x < 2 ^ n) : shr (jn n A B) (jn n C D) = shr A C + shr B D := by
  have a := shr_le' A C
  have b := shr_le' B D
  have c := shr_le' (jn n A B) (jn n C D)
  have e : rk (jn n A B ++ jn n C D) = rk (A ++ C) + rk (B ++ D) := by
    rw [rk_eq jn_app, jn_rk fun x hx => by
      rcases List.mem_append.mp hx with hx | hx
      · exact hA x hx
      · exact hC x hx]
  have r1 := jn_rk (B := B) hA
  have r2 := jn_rk (B := D) hC
  omega
section
variable {n m : Nat} {s1 l1 o1 p1 s2 l2 o2 p2 : List Nat} (hs1 : ∀ x ∈ s1, x < 2 ^ n) (hl1 : ∀ x ∈ l1, x < 2 ^ n) (ho1 : ∀ x ∈ o1, x < 2 ^ n) (hp1 : ∀ x ∈ p1, x < 2 ^ n) (hs2 : ∀ x ∈ s2, x < 2 ^ m) (e1 : l1.length = p1.length) (e2 : l2.length = p2.length)
/-- what a lane holds of what it wants -/
noncomputable def hld (ss ls os ps : List Nat) (L : Nat) : Nat := 2 ^ rk os - due ss ls os ps L
open Classical in
theorem hld_eq {b : Nat} {ss ls os ps : List Nat} (hs : ∀ x ∈ ss, x < 2 ^ b) (h : ls.length = ps.length) (L : Nat) : hld ss ls os ps L = if Spn (ss ++ os) (img ls L ^^^ img ps L) then 2 ^ shr ss os else 0 := by
  have a := Nat.pow_le_pow_right (n := 2) (by decide) (shr_le' ss os).1
  unfold hld
  rw [due_eq hs h, img_lsm h]
  generalize 2 ^ shr ss os = u at *
  generalize 2 ^ rk os = v at *
  split
  · omega
  · omega
include hs1 hl1 ho1 hp1 hs2 e1 e2
theorem jn_due {x y : Nat} (hx : x < 2 ^ l1.length) : due (jn n s1 s2) (jn n l1 l2) (jn n o1 o2) (jn n p1 p2) (x ^^^ y <<< l1.length) = 2 ^ rk o1 * 2 ^ rk o2 - hld s1 l1 o1 p1 x * hld s2 l2 o2 p2 y := by
  have E : (jn n l1 l2).length = (jn n p1 p2).length := by rw [jn_len, jn_len, e1, e2]
  have hJ : ∀ x ∈ jn n s1 s2, x < 2 ^ (n + m) := jn_lt hs1 hs2
  rw [due_eq hJ E, img_lsm E, jn_img hx]
  have hx' : x < 2 ^ p1.length := by rw [← e1]; exact hx
  have eP : img (jn n p1 p2) (x ^^^ y <<< l1.length) = img p1 x ^^^ img p2 y <<< n := by rw [e1]; exact jn_img hx'
  rw [eP, xor4, ← Nat.shiftLeft_xor_distrib, hld_eq hs1 e1, hld_eq hs2 e2, jn_rk ho1, jn_shr hs1 ho1, Nat.pow_add, Nat.pow_add]
  have hSO : ∀ z ∈ s1 ++ o1, z < 2 ^ n := fun z hz => by
    rcases List.mem_append.mp hz with hz | hz
    · exact hs1 z hz
    · exact ho1 z hz
  have lt : img l1 x ^^^ img p1 x < 2 ^ n := Nat.xor_lt_two_pow (imf_lt hl1 _ _) (imf_lt hp1 _ _)
  have key : Spn (jn n s1 s2 ++ jn n o1 o2) ((img l1 x ^^^ img p1 x) ^^^ (img l2 y ^^^ img p2 y) <<< n) ↔ Spn (s1 ++ o1) (img l1 x ^^^ img p1 x) ∧ Spn (s2 ++ o2) (img l2 y ^^^ img p2 y) := by
    rw [jn_app, jn_in hSO lt]
  by_cases q1 : Spn (s1 ++ o1) (img l1 x ^^^ img p1 x)
  · by_cases q2 : Spn (s2 ++ o2) (img l2 y ^^^ img p2 y)
    · rw [if_pos (key.mpr ⟨q1, q2⟩), if_pos q1, if_pos q2]
    · rw [if_neg (fun z => q2 (key.mp z).2), if_neg q2, Nat.mul_zero, Nat.sub_zero]
  · rw [if_neg (fun z => q1 (key.mp z).1), if_neg q1, Nat.zero_mul, Nat.sub_zero]
end
theorem fwr_self (ss ls : List Nat) : fwr ss ls ss ls = 0 := by
  have h : ∀ w ∈ lsm ls ls, Spn (ss ++ ss) w := fun w hw => by
    obtain ⟨i, _, rfl⟩ := List.mem_map.mp hw
    rw [Nat.xor_self]; exact .zero
  have e : rk (ss ++ ss) = rk ss := rk_eq fun x => ⟨fun h => h.sub fun w hw => (List.mem_append.mp hw).elim id id, fun h => h.sub fun w hw => List.mem_append_left _ hw⟩
  unfold fwr
  rw [if_pos h]
  unfold shr
  rw [e, Nat.add_sub_cancel, Nat.sub_self]
theorem fwr_le (ss ls os ps : List Nat) : fwr ss ls os ps ≤ 2 ^ rk os := by
  unfold fwr
  split
  · exact Nat.sub_le _ _
  · exact Nat.le_refl _
section
variable {n m : Nat} {s1 l1 o1 p1 s2 l2 o2 p2 : List Nat} (hs1 : ∀ x ∈ s1, x < 2 ^ n) (hl1 : ∀ x ∈ l1, x < 2 ^ n) (ho1 : ∀ x ∈ o1, x < 2 ^ n) (hp1 : ∀ x ∈ p1, x < 2 ^ n) (e1 : l1.length = p1.length) (e2 : l2.length = p2.length)
theorem jn_at1 {n : Nat} {A B : List Nat} {i : Nat} (h : i < A.length) : (jn n A B).getD i 0 = A.getD i 0 := by
  unfold jn
  simp only [List.getD_eq_getElem?_getD, List.getElem?_append_left h]
theorem jn_at2 {n : Nat} {A B : List Nat} {i : Nat} (h : i < B.length) : (jn n A B).getD (A.length + i) 0 = B.getD i 0 <<< n := by
  unfold jn
  simp only [List.getD_eq_getElem?_getD, List.getElem?_append_right (Nat.le_add_right _ _), Nat.add_sub_cancel_left, List.getElem?_map, List.getElem?_eq_getElem h]
  rfl
include hs1 hl1 ho1 hp1 e1 e2
theorem jn_hold (h : ∀ w ∈ lsm (jn n l1 l2) (jn n p1 p2), Spn (jn n s1 s2 ++ jn n o1 o2) w) : (∀ w ∈ lsm l1 p1, Spn (s1 ++ o1) w) ∧ ∀ w ∈ lsm l2 p2, Spn (s2 ++ o2) w := by
  have hSO : ∀ z ∈ s1 ++ o1, z < 2 ^ n := fun z hz => by
    rcases List.mem_append.mp hz with hz | hz
    · exact hs1 z hz
    · exact ho1 z hz
  constructor
  · intro w hw
    obtain ⟨i, hi, rfl⟩ := List.mem_map.mp hw
    have hi := List.mem_range.mp hi
    have a := h _ (List.mem_map.mpr ⟨i, List.mem_range.mpr (by rw [jn_len]; omega), rfl⟩)
    rw [jn_at1 hi, jn_at1 (by omega), jn_app] at a
    have lt : l1.getD i 0 ^^^ p1.getD i 0 < 2 ^ n := Nat.xor_lt_two_pow (hl1 _ (getD_mem hi)) (hp1 _ (getD_mem (by omega)))
    have b : Spn (jn n (s1 ++ o1) (s2 ++ o2)) ((l1.getD i 0 ^^^ p1.getD i 0) ^^^ 0 <<< n) := by rw [Nat.zero_shiftLeft, Nat.xor_zero]; exact a
    exact ((jn_in hSO lt).mp b).1
  · intro w hw
    obtain ⟨i, hi, rfl⟩ := List.mem_map.mp hw
    have hi := List.mem_range.mp hi
    have a := h _ (List.mem_map.mpr ⟨l1.length + i, List.mem_range.mpr (by rw [jn_len]; omega), rfl⟩)
    have q : (jn n p1 p2).getD (l1.length + i) 0 = p2.getD i 0 <<< n := by rw [e1]; exact jn_at2 (by omega)
    rw [jn_at2 hi, q, ← Nat.shiftLeft_xor_distrib, jn_app] at a
    have b : Spn (jn n (s1 ++ o1) (s2 ++ o2)) (0 ^^^ (l2.getD i 0 ^^^ p2.getD i 0) <<< n) := by rw [Nat.zero_xor]; exact a
    exact ((jn_in hSO (Nat.two_pow_pos n)).mp b).2
theorem jn_fwr : fwr s1 l1 o1 p1 ≤ fwr (jn n s1 s2) (jn n l1 l2) (jn n o1 o2) (jn n p1 p2) ∧ fwr s2 l2 o2 p2 ≤ fwr (jn n s1 s2) (jn n l1 l2) (jn n o1 o2) (jn n p1 p2) := by
  have r := jn_rk (B := o2) ho1
  have p1' : 1 ≤ 2 ^ rk o1 := Nat.two_pow_pos _
  have p2' : 1 ≤ 2 ^ rk o2 := Nat.two_pow_pos _
  by_cases h : ∀ w ∈ lsm (jn n l1 l2) (jn n p1 p2), Spn (jn n s1 s2 ++ jn n o1 o2) w
  · obtain ⟨h1, h2⟩ := jn_hold hs1 hl1 ho1 hp1 e1 e2 h
    have e : fwr (jn n s1 s2) (jn n l1 l2) (jn n o1 o2) (jn n p1 p2) = 2 ^ rk o1 * 2 ^ rk o2 - 2 ^ shr s1 o1 * 2 ^ shr s2 o2 := by
      unfold fwr
      rw [if_pos h, r, jn_shr hs1 ho1, Nat.pow_add, Nat.pow_add]
    have f1 : fwr s1 l1 o1 p1 = 2 ^ rk o1 - 2 ^ shr s1 o1 := by unfold fwr; rw [if_pos h1]
    have f2 : fwr s2 l2 o2 p2 = 2 ^ rk o2 - 2 ^ shr s2 o2 := by unfold fwr; rw [if_pos h2]
    have q1 := Nat.pow_le_pow_right (n := 2) (by decide) (shr_le' s1 o1).1
    have q2 := Nat.pow_le_pow_right (n := 2) (by decide) (shr_le' s2 o2).1
    have p3 : 1 ≤ 2 ^ shr s1 o1 := Nat.two_pow_pos _
    have p4 : 1 ≤ 2 ^ shr s2 o2 := Nat.two_pow_pos _
    rw [e, f1, f2]
    generalize 2 ^ rk o1 = R1 at *
    generalize 2 ^ rk o2 = R2 at *
    generalize 2 ^ shr s1 o1 = S1 at *
    generalize 2 ^ shr s2 o2 = S2 at *
    have m1 : S1 * S2 ≤ S1 * R2 := Nat.mul_le_mul_left _ q2
    have m2 : S1 * S2 ≤ R1 * S2 := Nat.mul_le_mul_right _ q1
    have m3 : R1 - S1 ≤ (R1 - S1) * R2 := Nat.le_mul_of_pos_right _ (by omega)
    have m4 : R2 - S2 ≤ R1 * (R2 - S2) := Nat.le_mul_of_pos_left _ (by omega)
    have m5 : (R1 - S1) * R2 = R1 * R2 - S1 * R2 := Nat.sub_mul _ _ _
    have m6 : R1 * (R2 - S2) = R1 * R2 - R1 * S2 := Nat.mul_sub _ _ _
    rw [m5] at m3
    rw [m6] at m4
    constructor <;> omega
  · have e : fwr (jn n s1 s2) (jn n l1 l2) (jn n o1 o2) (jn n p1 p2) = 2 ^ rk o1 * 2 ^ rk o2 := by
      unfold fwr
      rw [if_neg h, r, Nat.pow_add]
    rw [e]
    have f1 := fwr_le s1 l1 o1 p1
    have f2 := fwr_le s2 l2 o2 p2
    exact ⟨Nat.le_trans f1 (Nat.le_mul_of_pos_right _ (by omega)), Nat.le_trans f2 (Nat.le_mul_of_pos_left _ (by omega))⟩
end
/-- the rank of words that span all -/
theorem rk_all {b : Nat} {A : List Nat} (h : ∀ x ∈ A, x < 2 ^ b) (hb : b ≤ rk A) : rk A = b := Nat.le_antisymm (rk_le_bits h) hb
section
variable {n m : Nat} {s1 l1 s2 l2 : List Nat} (hs1 : ∀ x ∈ s1, x < 2 ^ n) (hl1 : ∀ x ∈ l1, x < 2 ^ n) (hs2 : ∀ x ∈ s2, x < 2 ^ m) (hl2 : ∀ x ∈ l2, x < 2 ^ m) (hb1 : n ≤ rk (s1 ++ l1)) (hb2 : m ≤ rk (s2 ++ l2))
include hs1 hl1
theorem two_lt : ∀ x ∈ s1 ++ l1, x < 2 ^ n := fun x hx => by
  rcases List.mem_append.mp hx with hx | hx
  · exact hs1 x hx
  · exact hl1 x hx
theorem jn_rk2 : rk (jn n s1 s2 ++ jn n l1 l2) = rk (s1 ++ l1) + rk (s2 ++ l2) := by rw [rk_eq jn_app, jn_rk (two_lt hs1 hl1)]
include hb1 hb2
/-- side by side they are onto -/
theorem jn_full : n + m ≤ rk (jn n s1 s2 ++ jn n l1 l2) := by
  rw [jn_rk2 hs1 hl1]; omega
include hs2 hl2
/-- copies -/
theorem jn_copies : (ker (jn n s1 s2 ++ jn n l1 l2)).length = (ker (s1 ++ l1)).length + (ker (s2 ++ l2)).length := by
  have a := ker_len_eq (jn n s1 s2 ++ jn n l1 l2)
  have b := ker_len_eq (s1 ++ l1)
  have c := ker_len_eq (s2 ++ l2)
  rw [jn_rk2 hs1 hl1, List.length_append, jn_len, jn_len] at a
  rw [List.length_append] at b c
  have q1 := rk_len (s1 ++ l1)
  have q2 := rk_len (s2 ++ l2)
  omega
/-- partners of words of the first one -/
theorem jn_partners {ws : List Nat} (hw : ∀ x ∈ ws, x < 2 ^ n) : (prt (jn n s1 s2) (jn n l1 l2) (spn ws)).length = (prt s1 l1 (spn ws)).length + (twn s2 l2).length := by
  have a := prt_size (jn n s1 s2) (jn n l1 l2) ws
  have b := prt_size s1 l1 ws
  have c := twn_size s2 l2
  have hsw : ∀ x ∈ s1 ++ ws, x < 2 ^ n := two_lt hs1 hw
  have e : ∀ x, Spn (jn n s1 s2 ++ ws) x ↔ Spn (jn n (s1 ++ ws) s2) x := fun x => by
    have p : (jn n s1 s2 ++ ws).Perm (jn n (s1 ++ ws) s2) := by
      unfold jn
      rw [List.append_assoc, List.append_assoc]
      exact List.Perm.append_left _ List.perm_append_comm
    exact ⟨fun h => h.sub fun w hw => p.mem_iff.mp hw, fun h => h.sub fun w hw => p.mem_iff.mpr hw⟩
  have r1 : rk (jn n s1 s2 ++ ws) = rk (s1 ++ ws) + rk s2 := by rw [rk_eq e, jn_rk hsw]
  have r2 : rk (jn n s1 s2 ++ ws ++ jn n l1 l2) = rk (s1 ++ ws ++ l1) + rk (s2 ++ l2) := by
    rw [rk_eq fun x => span_app e, rk_eq jn_app, jn_rk (two_lt hsw hl1)]
  have f1 : rk (s1 ++ ws ++ l1) ≤ l1.length + rk (s1 ++ ws) := by have := rk_app_len (s1 ++ ws) l1; omega
  rw [r1, r2, jn_len] at a
  omega
end
/-- no rounds for an empty space -/
theorem smr_nil {b : Nat} {ss ls : List Nat} (hs : ∀ x ∈ ss, x < 2 ^ b) (hl : ∀ x ∈ ls, x < 2 ^ b) (hb : b ≤ rk (ss ++ ls)) : smr b ss ls (spn []) = 0 := by
  have l := ldr_size (ws := []) hs hl (fun x hx => by cases hx) hb
  rw [List.append_nil, Nat.sub_self] at l
  unfold smr
  rw [l]
  unfold rdf
  rw [if_pos (Nat.zero_le _), Nat.sub_zero, Nat.sub_self]
end LaneX
set_option linter.all false
namespace LaneX
/-! ### words added to one another, words beside one another -/
theorem add_beside {n a b : Nat} (h : a < 2 ^ n) : a + b * 2 ^ n = a ^^^ b <<< n := by
  rw [← Nat.shiftLeft_eq, Nat.add_comm, add_eq_xor h, Nat.xor_comm]
theorem beside_lt {n m a b : Nat} (ha : a < 2 ^ n) (hb : b < 2 ^ m) : a ^^^ b <<< n < 2 ^ (n + m) := by
  refine Nat.xor_lt_two_pow (Nat.lt_of_lt_of_le ha (Nat.pow_le_pow_right (by decide) (Nat.le_add_right _ _))) ?_
  rw [Nat.shiftLeft_eq, Nat.pow_add, Nat.mul_comm]
  exact Nat.mul_lt_mul_of_pos_left hb (Nat.two_pow_pos n)
theorem set_span {M : List Nat} {i j : Nat} (hi : i < M.length) (hj : j < M.length) (ne : i ≠ j) (x : Nat) : Spn (M.set j (M.getD j 0 ^^^ M.getD i 0)) x ↔ Spn M x := by
  have gi : (M.set j (M.getD j 0 ^^^ M.getD i 0)).getD i 0 = M.getD i 0 := by rw [getD_set' _ _ _ _ hj, if_neg ne]
  have gj : (M.set j (M.getD j 0 ^^^ M.getD i 0)).getD j 0 = M.getD j 0 ^^^ M.getD i 0 := by rw [getD_set' _ _ _ _ hj, if_pos rfl]
  have l : (M.set j (M.getD j 0 ^^^ M.getD i 0)).length = M.length := List.length_set
  have gk : ∀ k, k ≠ j → (M.set j (M.getD j 0 ^^^ M.getD i 0)).getD k 0 = M.getD k 0 := fun k e => by rw [getD_set' _ _ _ _ hj, if_neg e]
  have at_ : ∀ (L : List Nat) (w : Nat), w ∈ L → ∃ k, k < L.length ∧ L.getD k 0 = w := fun L w hw => by
    obtain ⟨k, hk, e⟩ := List.getElem_of_mem hw
    exact ⟨k, hk, by rw [List.getD_eq_getElem?_getD, List.getElem?_eq_getElem hk, ← e]; rfl⟩
  constructor
  · intro h
    refine h.mono fun w hw => ?_
    obtain ⟨k, hk, rfl⟩ := at_ _ w hw
    rw [l] at hk
    rw [getD_set' _ _ _ _ hj]
    split
    · exact (Spn.of (getD_mem hj)).xor (.of (getD_mem hi))
    · exact .of (getD_mem hk)
  · intro h
    refine h.mono fun w hw => ?_
    obtain ⟨k, hk, rfl⟩ := at_ _ w hw
    have m : ∀ k, k < M.length → (M.set j (M.getD j 0 ^^^ M.getD i 0)).getD k 0 ∈ M.set j (M.getD j 0 ^^^ M.getD i 0) := fun k hk => getD_mem (by rw [l]; exact hk)
    generalize M.set j (M.getD j 0 ^^^ M.getD i 0) = N at *
    by_cases e : k = j
    · subst e
      have a := (Spn.of (m k hj)).xor (Spn.of (m i hi))
      rwa [gj, gi, Nat.xor_assoc, Nat.xor_self, Nat.xor_zero] at a
    · have g := gk k e
      rw [← g]
      exact .of (m k hk)
theorem mix_step {b : Nat} {M : List Nat} (h : Mix b M) {i j : Nat} (hi : i < b) (hj : j < b) (ne : i ≠ j) : Mix b (M.set j (M.getD j 0 ^^^ M.getD i 0)) := by
  have l := h.len
  have sp := set_span (M := M) (by omega) (by omega) ne
  refine ⟨by rw [List.length_set, l], fun x hx => ((sp x).mp (.of hx)).lt h.lt, by rw [rk_eq sp, h.rk]⟩
theorem prt_twice (ss ls ws : List Nat) : (prt ss ls (spn (spn ws))).length = (prt ss ls (spn ws)).length := by
  have a := prt_size ss ls ws
  have b := prt_size ss ls (spn ws)
  have e : ∀ x, Spn (ss ++ spn ws) x ↔ Spn (ss ++ ws) x := fun x => span_app2 (fun _ => Iff.rfl) (spn_span ws)
  have e2 : ∀ x, Spn (ss ++ spn ws ++ ls) x ↔ Spn (ss ++ ws ++ ls) x := fun x => span_app e
  rw [rk_eq e, rk_eq e2] at b
  omega
end LaneX
set_option linter.all false
namespace LaneX
/-! ### maps by their columns -/
theorem xz {a c : Nat} (h : a ^^^ c = 0) : a = c := by
  have := congrArg (· ^^^ c) h
  simp only [Nat.xor_assoc, Nat.xor_self, Nat.xor_zero, Nat.zero_xor] at this
  exact this
theorem two1 (i : Nat) : 1 <<< i = 2 ^ i := Nat.one_shiftLeft i
def colsf (b : Nat) (f : Nat → Nat) : List Nat := (List.range b).map fun i => f (1 <<< i)
theorem colsf_len (b : Nat) (f : Nat → Nat) : (colsf b f).length = b := by simp [colsf]
theorem colsf_at {b i : Nat} (f : Nat → Nat) (h : i < b) : (colsf b f).getD i 0 = f (1 <<< i) := by
  unfold colsf
  rw [List.getD_eq_getElem?_getD, List.getElem?_map, List.getElem?_range h]
  rfl
theorem colsf_img {b x : Nat} {f : Nat → Nat} (L : Lin f) (h : x < 2 ^ b) : img (colsf b f) x = f x := by
  have e : colsf b f = ((List.range b).map fun i => 1 <<< i).map f := by unfold colsf; rw [List.map_map]; rfl
  rw [e, img_map L, img_units h]
theorem getD_ext {M N : List Nat} (hl : M.length = N.length) (h : ∀ i, i < M.length → M.getD i 0 = N.getD i 0) : M = N := by
  refine List.ext_getElem hl fun i h1 h2 => ?_
  have := h i h1
  rwa [List.getD_eq_getElem?_getD, List.getD_eq_getElem?_getD, List.getElem?_eq_getElem h1, List.getElem?_eq_getElem h2] at this
theorem ext_cols {b : Nat} {M N : List Nat} (hM : M.length = b) (hN : N.length = b) (h : ∀ x, x < 2 ^ b → img M x = img N x) : M = N :=
  getD_ext (hM.trans hN.symm) fun i hi => by
    have := h (2 ^ i) (Nat.pow_lt_pow_right (by decide) (by omega))
    rwa [img_unit M hi, img_unit N (by omega)] at this
theorem mix_of {b : Nat} {F : List Nat} (len : F.length = b) (lt : ∀ x ∈ F, x < 2 ^ b) (inj : ∀ x, x < 2 ^ b → img F x = 0 → x = 0) : Mix b F :=
  ⟨len, lt, by rw [rk_of_inj (by rw [len]; exact inj), len]⟩
theorem Mix.inj0 {b : Nat} {M : List Nat} (h : Mix b M) {x : Nat} (hx : x < 2 ^ b) (e : img M x = 0) : x = 0 := img_inj (by rw [h.rk, h.len]) (by rw [h.len]; exact hx) e
theorem Mix.inj {b : Nat} {M : List Nat} (h : Mix b M) {x y : Nat} (hx : x < 2 ^ b) (hy : y < 2 ^ b) (e : img M x = img M y) : x = y := img_inj2 (by rw [h.rk, h.len]) (by rw [h.len]; exact hx) (by rw [h.len]; exact hy) e
theorem Mix.img_lt {b : Nat} {M : List Nat} (h : Mix b M) (x : Nat) : img M x < 2 ^ b := imf_lt h.lt _ _
theorem colsf_lt {b c : Nat} {f : Nat → Nat} (h : ∀ x, x < 2 ^ b → f x < 2 ^ c) : ∀ x ∈ colsf b f, x < 2 ^ c := fun x hx => by
  obtain ⟨i, hi, rfl⟩ := List.mem_map.mp hx
  exact h _ (by rw [two1]; exact Nat.pow_lt_pow_right (by decide) (List.mem_range.mp hi))
theorem mix_colsf {b : Nat} {f : Nat → Nat} (L : Lin f) (lt : ∀ x, x < 2 ^ b → f x < 2 ^ b) (inj : ∀ x, x < 2 ^ b → f x = 0 → x = 0) : Mix b (colsf b f) :=
  mix_of (colsf_len b f) (colsf_lt lt) fun x hx e => inj x hx (by rw [← colsf_img L hx]; exact e)
/-- words that are as many independent ones as there are bits span all -/
theorem span_of_rk {b : Nat} {A : List Nat} (lt : ∀ x ∈ A, x < 2 ^ b) (h : b ≤ rk A) {w : Nat} (hw : w < 2 ^ b) : Spn A w := by
  by_cases z : Spn A w
  · exact z
  · have a := rk_snoc_out z
    have c := rk_le_bits (ws := A ++ [w]) (b := b) fun x hx => by
      rcases List.mem_append.mp hx with hx | hx
      · exact lt x hx
      · rw [List.mem_singleton.mp hx]; exact hw
    omega
theorem Mix.all {b : Nat} {M : List Nat} (h : Mix b M) {w : Nat} (hw : w < 2 ^ b) : Spn M w := span_of_rk h.lt (by rw [h.rk]; exact Nat.le_refl _) hw
/-! ### undoing -/
def inv (b : Nat) (M : List Nat) : List Nat := (List.range b).map fun i => slv M (1 <<< i)
theorem inv_cols (b : Nat) (M : List Nat) : inv b M = colsf b (slv M) := rfl
section
variable {b : Nat} {M : List Nat} (h : Mix b M)
include h
theorem slv_lt' {x : Nat} (hx : x < 2 ^ b) : slv M x < 2 ^ b := by
  have := (slv_ok (h.all hx)).1
  rwa [h.len] at this
theorem inv_right {x : Nat} (hx : x < 2 ^ b) : img M (img (inv b M) x) = x := by
  rw [inv_cols, colsf_img (lin_slv M) hx]
  exact (slv_ok (h.all hx)).2
theorem inv_mix : Mix b (inv b M) := mix_colsf (lin_slv M) (fun x hx => slv_lt' h hx) fun x hx e => by
  have := (slv_ok (h.all hx)).2
  rw [e, (lin_img M).z] at this
  exact this.symm
theorem inv_left {x : Nat} (hx : x < 2 ^ b) : img (inv b M) (img M x) = x :=
  h.inj ((inv_mix h).img_lt _) hx (by rw [inv_right h (h.img_lt x)])
end
theorem img_comp (M N : List Nat) (x : Nat) : img (N.map (img M)) x = img M (img N x) := img_map (lin_img M) N x
/-! ### slots and lanes -/
def lo (s x : Nat) : Nat := x &&& (1 <<< s - 1)
theorem lo_mod (s x : Nat) : lo s x = x % 2 ^ s := by unfold lo; rw [two1, Nat.and_two_pow_sub_one_eq_mod]
theorem lo_lt (s x : Nat) : lo s x < 2 ^ s := by rw [lo_mod]; exact Nat.mod_lt _ (Nat.two_pow_pos s)
theorem lin_lo (s : Nat) : Lin (lo s) := ⟨by rw [lo_mod]; exact Nat.zero_mod _, fun a b => by rw [lo_mod, lo_mod, lo_mod]; exact Nat.xor_mod_two_pow⟩
theorem lo_of_lt {s x : Nat} (h : x < 2 ^ s) : lo s x = x := by rw [lo_mod, Nat.mod_eq_of_lt h]
theorem lo_shl (s y : Nat) : lo s (y <<< s) = 0 := by rw [lo_mod, Nat.shiftLeft_eq, Nat.mul_mod_left]
theorem hi_lt {s b x : Nat} (hs : s ≤ b) (h : x < 2 ^ b) : x >>> s < 2 ^ (b - s) := by
  rw [Nat.shiftRight_eq_div_pow]
  refine Nat.div_lt_of_lt_mul ?_
  rw [← Nat.pow_add, show s + (b - s) = b by omega]
  exact h
theorem hi_of_lt {s x : Nat} (h : x < 2 ^ s) : x >>> s = 0 := by rw [Nat.shiftRight_eq_div_pow, Nat.div_eq_of_lt h]
theorem hi_shl (s y : Nat) : (y <<< s) >>> s = y := Nat.shiftLeft_shiftRight ..
theorem lo_hi (s x : Nat) : lo s x ^^^ (x >>> s) <<< s = x := by
  rw [← add_beside (lo_lt s x), lo_mod, Nat.shiftRight_eq_div_pow, Nat.mul_comm]
  exact Nat.mod_add_div x (2 ^ s)
theorem shl_lt {s b y : Nat} (hs : s ≤ b) (h : y < 2 ^ (b - s)) : y <<< s < 2 ^ b := by
  rw [Nat.shiftLeft_eq, show (2 : Nat) ^ b = 2 ^ (b - s) * 2 ^ s by rw [← Nat.pow_add, Nat.sub_add_cancel hs]]
  exact Nat.mul_lt_mul_of_pos_right h (Nat.two_pow_pos s)
theorem zero_of {s x : Nat} (h1 : lo s x = 0) (h2 : x >>> s = 0) : x = 0 := by
  rw [← lo_hi s x, h1, h2, Nat.zero_shiftLeft, Nat.xor_zero]
def AA (s : Nat) (M : List Nat) : List Nat := (M.take s).map (lo s)
def CC (s : Nat) (M : List Nat) : List Nat := (M.take s).map fun x => x >>> s
def DD (s : Nat) (M : List Nat) : List Nat := (M.drop s).map fun x => x >>> s
def evb (s : Nat) (M : List Nat) : Bool := (M.drop s).all fun x => decide (lo s x = 0)
/-- how many slot moves of a split must be uneven -/
def unv (b s : Nat) (M : List Nat) : Nat := if evb s M = true then 0 else if rk (AA s M) = s then 1 else if rk (DD s M) = b - s then 1 else 2
section
variable {b s : Nat} {M : List Nat} (h : M.length = b) (hs : s ≤ b)
include h hs
theorem AA_len : (AA s M).length = s := by unfold AA; rw [List.length_map, List.length_take]; omega
theorem CC_len : (CC s M).length = s := by unfold CC; rw [List.length_map, List.length_take]; omega
theorem DD_len : (DD s M).length = b - s := by unfold DD; rw [List.length_map, List.length_drop]; omega
theorem img_take {x : Nat} (hx : x < 2 ^ s) : img (M.take s) x = img M x := by
  have l : (M.take s).length = s := by rw [List.length_take]; omega
  have := img_app (P := M.take s) (Q := M.drop s) (x := x) (y := 0) (by rw [l]; exact hx)
  rw [List.take_append_drop, Nat.zero_shiftLeft, Nat.xor_zero, (lin_img _).z, Nat.xor_zero] at this
  exact this.symm
theorem img_drop (y : Nat) : img (M.drop s) y = img M (y <<< s) := by
  have l : (M.take s).length = s := by rw [List.length_take]; omega
  have := img_app (P := M.take s) (Q := M.drop s) (x := 0) (y := y) (Nat.two_pow_pos _)
  rw [List.take_append_drop, Nat.zero_xor, (lin_img _).z, Nat.zero_xor, l] at this
  exact this.symm
theorem AA_img {x : Nat} (hx : x < 2 ^ s) : img (AA s M) x = lo s (img M x) := by unfold AA; rw [img_map (lin_lo s), img_take h hs hx]
theorem CC_img {x : Nat} (hx : x < 2 ^ s) : img (CC s M) x = img M x >>> s := by unfold CC; rw [img_map (lin_shr s), img_take h hs hx]
theorem DD_img (y : Nat) : img (DD s M) y = img M (y <<< s) >>> s := by unfold DD; rw [img_map (lin_shr s), img_drop h hs]
theorem ev_iff : evb s M = true ↔ ∀ y, y < 2 ^ (b - s) → lo s (img M (y <<< s)) = 0 := by
  unfold evb
  rw [List.all_eq_true]
  constructor
  · intro e y hy
    rw [← img_drop h hs, ← img_map (lin_lo s)]
    have : Spn ((M.drop s).map (lo s)) (img ((M.drop s).map (lo s)) y) := img_in _ (by rw [List.length_map, List.length_drop, h]; exact hy)
    have z := this.mono (vs := []) fun w hw => by
      obtain ⟨x, hx, rfl⟩ := List.mem_map.mp hw
      rw [of_decide_eq_true (e x hx)]
      exact .zero
    exact z.nil
  · intro e w hw
    obtain ⟨i, hi, rfl⟩ := List.getElem_of_mem hw
    rw [List.length_drop, h] at hi
    have := e (2 ^ i) (Nat.pow_lt_pow_right (by decide) hi)
    rw [← img_drop h hs, img_unit _ (by rw [List.length_drop, h]; exact hi)] at this
    refine decide_eq_true ?_
    rw [List.getD_eq_getElem?_getD, List.getElem?_eq_getElem (by rw [List.length_drop, h]; exact hi)] at this
    exact this
theorem alone_slots : rk (AA s M) = s ↔ ∀ x, x < 2 ^ s → lo s (img M x) = 0 → x = 0 := by
  have l := AA_len h hs
  constructor
  · intro e x hx z
    exact img_inj (by rw [e, l]) (by rw [l]; exact hx) (by rw [AA_img h hs hx]; exact z)
  · intro e
    have := rk_of_inj (A := AA s M) fun x hx z => e x (by rw [← l]; exact hx) (by rw [← AA_img h hs (by rw [← l]; exact hx)]; exact z)
    rw [this, l]
theorem alone_lanes : rk (DD s M) = b - s ↔ ∀ y, y < 2 ^ (b - s) → img M (y <<< s) >>> s = 0 → y = 0 := by
  have l := DD_len h hs
  constructor
  · intro e y hy z
    exact img_inj (by rw [e, l]) (by rw [l]; exact hy) (by rw [DD_img h hs]; exact z)
  · intro e
    have := rk_of_inj (A := DD s M) fun x hx z => e x (by rw [← l]; exact hx) (by rw [← DD_img h hs]; exact z)
    rw [this, l]
end
def KL (b s : Nat) (M : List Nat) : Prop := ∀ x, x < 2 ^ b → img M x >>> s = x >>> s
def KS (b s : Nat) (M : List Nat) : Prop := ∀ x, x < 2 ^ b → lo s (img M x) = lo s x
structure Spl (b s : Nat) (M F X L : List Nat) : Prop where
  f : Mix b F
  k : Mix b X
  l : Mix b L
  kf : KL b s F
  kk : KS b s X
  kl : KL b s L
  all : ∀ x, x < 2 ^ b → img L (img X (img F x)) = img M x
  un : (if evb s F = true then 0 else 1) + (if evb s L = true then 0 else 1) = unv b s M
/-! ### the first way -/
def ahd1 (b s : Nat) (M : List Nat) : List Nat := colsf b fun x => lo s (img M x) ^^^ (x >>> s) <<< s
theorem lin2 {f g : Nat → Nat} (F : Lin f) (G : Lin g) : Lin fun x => f x ^^^ g x := ⟨by rw [F.z, G.z]; rfl, fun a b => by rw [F.x, G.x, xor4]⟩
theorem lin_ahd1 (s : Nat) (M : List Nat) : Lin fun x => lo s (img M x) ^^^ (x >>> s) <<< s := lin2 ((lin_lo s).comp (lin_img M)) ((lin_shl s).comp (lin_shr s))
theorem beside_lo {s a c : Nat} (h : a < 2 ^ s) : lo s (a ^^^ c <<< s) = a := by rw [(lin_lo s).x, lo_of_lt h, lo_shl, Nat.xor_zero]
theorem beside_hi {s a c : Nat} (h : a < 2 ^ s) : (a ^^^ c <<< s) >>> s = c := by rw [(lin_shr s).x, hi_of_lt h, hi_shl, Nat.zero_xor]
theorem beside_lt' {s b a c : Nat} (hs : s ≤ b) (ha : a < 2 ^ s) (hc : c < 2 ^ (b - s)) : a ^^^ c <<< s < 2 ^ b := Nat.xor_lt_two_pow (Nat.lt_of_lt_of_le ha (Nat.pow_le_pow_right (by decide) hs)) (shl_lt hs hc)
theorem units_img {b x : Nat} (h : x < 2 ^ b) : img (units b) x = x := img_units h
theorem kl_units (b s : Nat) : KL b s (units b) := fun x hx => by rw [units_img hx]
section
variable {b s : Nat} {M : List Nat} (h : Mix b M) (hs : s ≤ b)
include h hs
theorem ahd1_mix (ha : rk (AA s M) = s) : Mix b (ahd1 b s M) := by
  refine mix_colsf (lin_ahd1 s M) (fun x hx => beside_lt' hs (lo_lt s _) (hi_lt hs hx)) fun x hx e => ?_
  have e1 : lo s (img M x) = 0 := by have := congrArg (lo s) e; rwa [beside_lo (lo_lt s _), (lin_lo s).z] at this
  have e2 : x >>> s = 0 := by have := congrArg (fun y => y >>> s) e; simp only [beside_hi (lo_lt s _), Nat.zero_shiftRight] at this; exact this
  refine (alone_slots h.len hs).mp ha x ?_ e1
  have := lo_hi s x
  rw [e2, Nat.zero_shiftLeft, Nat.xor_zero] at this
  rw [← this]
  exact lo_lt s x
theorem ahd1_img {x : Nat} (hx : x < 2 ^ b) : img (ahd1 b s M) x = lo s (img M x) ^^^ (x >>> s) <<< s := colsf_img (lin_ahd1 s M) hx
theorem evb_ahd1 : evb s (ahd1 b s M) = evb s M := by
  rw [Bool.eq_iff_iff, ev_iff (show (ahd1 b s M).length = b from colsf_len b _) hs, ev_iff h.len hs]
  constructor
  · intro e y hy
    have := e y hy
    rwa [ahd1_img h hs (shl_lt hs hy), beside_lo (lo_lt s _)] at this
  · intro e y hy
    rw [ahd1_img h hs (shl_lt hs hy), beside_lo (lo_lt s _)]
    exact e y hy
omit h in
theorem evb_units : evb s (units b) = true := by
  have l : (units b).length = b := by simp [units]
  rw [ev_iff l hs]
  intro y hy
  rw [units_img (shl_lt hs hy), lo_shl]
theorem spl_one (ha : rk (AA s M) = s) : Spl b s M (ahd1 b s M) ((inv b (ahd1 b s M)).map (img M)) (units b) := by
  have F := ahd1_mix h hs ha
  have I := inv_mix F
  refine ⟨F, mix_comp h I, mix_units b, fun x hx => ?_, fun x hx => ?_, kl_units b s, fun x hx => ?_, ?_⟩
  · rw [ahd1_img h hs hx, beside_hi (lo_lt s _)]
  · rw [img_comp]
    have e := inv_right F hx
    have l := I.img_lt x
    generalize img (inv b (ahd1 b s M)) x = y at *
    rw [ahd1_img h hs l] at e
    have := congrArg (lo s) e
    rwa [beside_lo (lo_lt s _)] at this
  · rw [img_comp, inv_left F hx, units_img (h.img_lt x)]
  · rw [evb_ahd1 h hs, evb_units hs, if_pos rfl, Nat.add_zero]
    unfold unv
    by_cases e : evb s M = true
    · rw [if_pos e, if_pos e]
    · rw [if_neg e, if_neg e, if_pos ha]
end
/-! ### the second way -/
def ahd2 (b s : Nat) (G : List Nat) : List Nat := colsf b fun x => x ^^^ img G (x >>> s)
def crs (b s : Nat) (N : List Nat) : List Nat := colsf b fun x => lo s x ^^^ (img N x >>> s) <<< s
theorem lin_id : Lin fun x => x := ⟨rfl, fun _ _ => rfl⟩
theorem lin_ahd2 (s : Nat) (G : List Nat) : Lin fun x => x ^^^ img G (x >>> s) := lin2 lin_id ((lin_img G).comp (lin_shr s))
theorem lin_crs (s : Nat) (N : List Nat) : Lin fun x => lo s x ^^^ (img N x >>> s) <<< s := lin2 (lin_lo s) ((lin_shl s).comp ((lin_shr s).comp (lin_img N)))
/-- what is asked of the filling -/
structure Fil (b s : Nat) (M G : List Nat) : Prop where
  len : G.length = b - s
  lt : ∀ g ∈ G, g < 2 ^ s
  all : ∀ y, y < 2 ^ (b - s) → img M (y <<< s) >>> s = img M (img G y) >>> s → y = 0
  z : rk (DD s M) = b - s → ∀ g ∈ G, g = 0
section
variable {b s : Nat} {M G : List Nat} (h : Mix b M) (hs : s ≤ b) (f : Fil b s M G)
theorem ahd2_img {x : Nat} (hx : x < 2 ^ b) : img (ahd2 b s G) x = x ^^^ img G (x >>> s) := colsf_img (lin_ahd2 s G) hx
theorem crs_img {N : List Nat} {x : Nat} (hx : x < 2 ^ b) : img (crs b s N) x = lo s x ^^^ (img N x >>> s) <<< s := colsf_img (lin_crs s N) hx
include f
theorem g_lt (y : Nat) : img G y < 2 ^ s := imf_lt f.lt _ _
theorem ahd2_hi {x : Nat} (hx : x < 2 ^ b) : img (ahd2 b s G) x >>> s = x >>> s := by
  rw [ahd2_img hx, (lin_shr s).x, hi_of_lt (g_lt f _), Nat.xor_zero]
include hs
theorem ahd2_lt {x : Nat} (hx : x < 2 ^ b) : x ^^^ img G (x >>> s) < 2 ^ b := Nat.xor_lt_two_pow hx (Nat.lt_of_lt_of_le (g_lt f _) (Nat.pow_le_pow_right (by decide) hs))
theorem ahd2_mix : Mix b (ahd2 b s G) := by
  refine mix_colsf (lin_ahd2 s G) (fun x hx => ahd2_lt hs f hx) fun x hx e => ?_
  have e2 : x >>> s = 0 := by
    have := congrArg (fun y => y >>> s) e
    simp only [(lin_shr s).x, hi_of_lt (g_lt f _), Nat.xor_zero, Nat.zero_shiftRight] at this
    exact this
  rw [e2, (lin_img G).z, Nat.xor_zero] at e
  exact e
theorem ahd2_twice {x : Nat} (hx : x < 2 ^ b) : img (ahd2 b s G) (img (ahd2 b s G) x) = x := by
  have e : img (ahd2 b s G) x < 2 ^ b := by rw [ahd2_img hx]; exact ahd2_lt hs f hx
  rw [ahd2_img e, ahd2_hi f hx, ahd2_img hx, Nat.xor_assoc, Nat.xor_self, Nat.xor_zero]
include h
/-- the move behind the filling -/
theorem thr_mix : Mix b ((ahd2 b s G).map (img M)) := mix_comp h (ahd2_mix hs f)
theorem thr_img {x : Nat} (hx : x < 2 ^ b) : img ((ahd2 b s G).map (img M)) x = img M (x ^^^ img G (x >>> s)) := by rw [img_comp, ahd2_img hx]
theorem crs_mix : Mix b (crs b s ((ahd2 b s G).map (img M))) := by
  have Tm := thr_mix h hs f
  refine mix_colsf (lin_crs s _) (fun x hx => beside_lt' hs (lo_lt s _) (hi_lt hs (Tm.img_lt x))) fun x hx e => ?_
  have e1 : lo s x = 0 := by have := congrArg (lo s) e; rwa [beside_lo (lo_lt s _), (lin_lo s).z] at this
  have e2 : img ((ahd2 b s G).map (img M)) x >>> s = 0 := by have := congrArg (fun y => y >>> s) e; simp only [beside_hi (lo_lt s _), Nat.zero_shiftRight] at this; exact this
  have ex : (x >>> s) <<< s = x := by have := lo_hi s x; rwa [e1, Nat.zero_xor] at this
  rw [thr_img h hs f hx, (lin_img M).x, (lin_shr s).x] at e2
  have := f.all (x >>> s) (hi_lt hs hx) (by rw [ex]; exact xz e2)
  rw [this, Nat.zero_shiftLeft] at ex
  exact ex.symm
theorem spl_two (hc : rk (AA s M) = s → rk (DD s M) = b - s) : Spl b s M (ahd2 b s G) (crs b s ((ahd2 b s G).map (img M))) ((inv b (crs b s ((ahd2 b s G).map (img M)))).map (img ((ahd2 b s G).map (img M)))) := by
  have Am := ahd2_mix hs f
  have Tm := thr_mix h hs f
  have Km := crs_mix h hs f
  have ti := fun {x : Nat} (hx : x < 2 ^ b) => thr_img h hs f hx
  generalize hT : (ahd2 b s G).map (img M) = T at *
  have I := inv_mix Km
  have Lm := mix_comp Tm I
  have lk : ∀ x, x < 2 ^ b → img ((inv b (crs b s T)).map (img T)) (img (crs b s T) x) = img T x := fun x hx => by rw [img_comp, inv_left Km hx]
  have klL : KL b s ((inv b (crs b s T)).map (img T)) := fun x hx => by
    rw [img_comp]
    have e := inv_right Km hx
    have l := I.img_lt x
    generalize img (inv b (crs b s T)) x = y at *
    rw [crs_img l] at e
    have := congrArg (fun y => y >>> s) e
    simp only [beside_hi (lo_lt s _)] at this
    exact this
  generalize (inv b (crs b s T)).map (img T) = L at *
  refine ⟨Am, Km, Lm, fun x hx => ahd2_hi f hx, fun x hx => ?_, klL, fun x hx => ?_, ?_⟩
  · rw [crs_img hx, beside_lo (lo_lt s _)]
  · rw [lk _ (Am.img_lt x), ← hT, img_comp, ahd2_twice hs f hx]
  · have g0 : evb s (ahd2 b s G) = true ↔ ∀ y, y < 2 ^ (b - s) → img G y = 0 := by
      rw [ev_iff Am.len hs]
      constructor
      · intro e y hy
        have := e y hy
        rwa [ahd2_img (shl_lt hs hy), (lin_lo s).x, lo_shl, Nat.zero_xor, hi_shl, lo_of_lt (g_lt f _)] at this
      · intro e y hy
        rw [ahd2_img (shl_lt hs hy), hi_shl, e y hy, Nat.xor_zero, lo_shl]
    by_cases hd : rk (DD s M) = b - s
    · -- lanes alone: nothing is filled
      have gz := f.z hd
      have gi : ∀ y, y < 2 ^ (b - s) → img G y = 0 := fun y hy => by
        have := (img_in G (z := y) (by rw [f.len]; exact hy)).mono (vs := []) fun w hw => by rw [gz w hw]; exact .zero
        exact this.nil
      have ta : ∀ x, x < 2 ^ b → img T x = img M x := fun x hx => by rw [ti hx, gi _ (hi_lt hs hx), Nat.xor_zero]
      rw [if_pos (g0.mpr gi), Nat.zero_add]
      have el : evb s L = evb s M := by
        rw [Bool.eq_iff_iff, ev_iff Lm.len hs, ev_iff h.len hs]
        have al := (alone_lanes h.len hs).mp hd
        constructor
        · intro e y hy
          have hx := shl_lt hs hy
          have k1 := lk _ hx
          rw [crs_img hx, lo_shl, Nat.zero_xor, ta _ hx] at k1
          rw [← k1]
          exact e _ (hi_lt hs (h.img_lt _))
        · intro e y hy
          -- some lane leads to y
          have sp : Spn (DD s M) y := span_of_rk (b := b - s) (fun x hx => by
            obtain ⟨w, hw, rfl⟩ := List.mem_map.mp hx
            exact hi_lt hs (h.lt w (List.mem_of_mem_drop hw))) (by rw [hd]; exact Nat.le_refl _) hy
          obtain ⟨z, hz, ez⟩ := span_img (cols := DD s M) (Nat.le_refl _) (by rw [List.take_length]; exact sp)
          rw [DD_len h.len hs] at hz
          rw [DD_img h.len hs] at ez
          have hx := shl_lt hs hz
          have k1 := lk _ hx
          rw [crs_img hx, lo_shl, Nat.zero_xor, ta _ hx, ez] at k1
          rw [k1]
          exact e z hz
      rw [el]
      unfold unv
      by_cases ev : evb s M = true
      · rw [if_pos ev, if_pos ev]
      · rw [if_neg ev, if_neg ev]
        by_cases ha : rk (AA s M) = s
        · rw [if_pos ha]
        · rw [if_neg ha, if_pos hd]
    · have ha : ¬ rk (AA s M) = s := fun e => hd (hc e)
      have nev : ¬ evb s M = true := fun ev => hd ((alone_lanes h.len hs).mpr fun y hy e => by
        have e1 := (ev_iff h.len hs).mp ev y hy
        have := h.inj0 (shl_lt hs hy) (zero_of e1 e)
        have e2 := hi_shl s y
        rw [this, Nat.zero_shiftRight] at e2
        exact e2.symm)
      have n1 : ¬ evb s (ahd2 b s G) = true := fun ev => hd ((alone_lanes h.len hs).mpr fun y hy e => f.all y hy (by rw [g0.mp ev y hy, (lin_img M).z, e, Nat.zero_shiftRight]))
      have n2 : ¬ evb s L = true := fun ev => ha ((alone_slots h.len hs).mpr fun x hx e => by
        have hb : x < 2 ^ b := Nat.lt_of_lt_of_le hx (Nat.pow_le_pow_right (by decide) hs)
        have k1 := lk x hb
        rw [crs_img hb, lo_of_lt hx, ti hb, hi_of_lt hx, (lin_img G).z, Nat.xor_zero, (lin_img L).x] at k1
        have k2 := congrArg (lo s) k1
        rw [(lin_lo s).x, (ev_iff Lm.len hs).mp ev _ (hi_lt hs (h.img_lt x)), Nat.xor_zero, e] at k2
        have k3 := klL x hb
        rw [hi_of_lt hx] at k3
        exact Lm.inj0 hb (zero_of k2 k3))
      rw [if_neg n1, if_neg n2]
      unfold unv
      rw [if_neg nev, if_neg ha, if_neg hd]
end
end LaneX
set_option Elab.async false
set_option linter.all false
namespace LaneX
/-! ### words filled up to all words (k34) -/
/-- some words, and behind them others that make all -/
def fll (b : Nat) (W : List Nat) : List Nat := W ++ cmpl (spn W) (spn (units b))
theorem ulm {b x : Nat} (h : x ∈ units b) : x < 2 ^ b := by
  obtain ⟨i, hi, rfl⟩ := List.mem_map.mp h
  rw [Nat.one_shiftLeft]
  exact Nat.pow_lt_pow_right (by decide) (List.mem_range.mp hi)
theorem fll_lt {b : Nat} {W : List Nat} (h : ∀ x ∈ W, x < 2 ^ b) : ∀ x ∈ fll b W, x < 2 ^ b := fun x hx => by
  rcases List.mem_append.mp hx with z | z
  · exact h x z
  · exact spn_lt (ws := units b) (k := b) (fun y hy => ulm hy) x (cmpl_mem _ x z)
theorem fll_all {b : Nat} {W : List Nat} (h : ∀ x ∈ W, x < 2 ^ b) {x : Nat} (hx : x < 2 ^ b) : Spn (fll b W) x := by
  have B := base_of (A := spn W) (B := spn (units b)) (spn_rws W) fun y hy => (spn_span _ y).mpr (units_span (spn_lt h y hy))
  have := (B.1 x).mpr ((spn_span _ x).mpr (units_span hx))
  exact (span_app2 (fun z => spn_span W z) (fun _ => Iff.rfl)).mp this
theorem fll_len {b : Nat} {W : List Nat} (h : ∀ x ∈ W, x < 2 ^ b) (i : rk W = W.length) : (fll b W).length = b := by
  have c := cmpl_len (spn_rws W) (spn (units b))
  have e : rk (spn W ++ spn (units b)) = b := by
    rw [rk_eq (b := units b) fun x => ?_, units_rk]
    constructor
    · intro z
      exact units_span (z.lt fun y hy => (List.mem_append.mp hy).elim (fun q => spn_lt h y q) fun q => spn_lt (fun u hu => ulm hu) y q)
    · intro z
      exact ((spn_span _ x).mpr z).sub fun y hy => List.mem_append_right _ hy
  rw [rk_spn, e, i] at c
  unfold fll
  rw [List.length_append]
  omega
theorem fll_rk {b : Nat} {W : List Nat} (h : ∀ x ∈ W, x < 2 ^ b) : rk (fll b W) = b :=
  Nat.le_antisymm (rk_le_bits (fll_lt h)) (rk_full fun u hu => fll_all h (ulm hu))
theorem fll_mix {b : Nat} {W : List Nat} (h : ∀ x ∈ W, x < 2 ^ b) (i : rk W = W.length) : Mix b (fll b W) := ⟨fll_len h i, fll_lt h, fll_rk h⟩
theorem slv_lt {F : List Nat} {x : Nat} (h : Spn F x) : slv F x < 2 ^ F.length := (slv_ok h).1
theorem shrl_le (y m : Nat) : (y >>> m) <<< m ≤ y := by
  rw [Nat.shiftRight_eq_div_pow, Nat.shiftLeft_eq]
  exact Nat.div_mul_le_self y (2 ^ m)
end LaneX
set_option Elab.async false
set_option linter.all false
namespace LaneX
/-! ### the rounds of a plan, stage by stage (k34) -/
def strd (bits stage : Nat) : Nat := if stage < bits then 1 <<< (bits - 1 - stage) else 1
theorem strd_pos (bits stage : Nat) : 0 < strd bits stage := by
  unfold strd
  split
  · rw [Nat.one_shiftLeft]; exact Nat.two_pow_pos _
  · exact Nat.one_pos
def sumr (many : Nat) : Nat → Nat
  | 0 => 0
  | a + 1 => sumr many a + strd many a
theorem sumr_mono {many a b : Nat} (h : a ≤ b) : sumr many a ≤ sumr many b := by
  induction h with
  | refl => exact Nat.le_refl _
  | step _ ih => exact Nat.le_trans ih (Nat.le_add_right _ _)
theorem sumr_low {many : Nat} : ∀ {a : Nat}, a ≤ many → sumr many a + 2 ^ (many - a) = 2 ^ many
  | 0, _ => by simp [sumr]
  | a + 1, h => by
    have ih := sumr_low (many := many) (a := a) (by omega)
    have e : 2 ^ (many - a) = 2 ^ (many - (a + 1)) + 2 ^ (many - (a + 1)) := by
      rw [show many - a = many - (a + 1) + 1 by omega, Nat.pow_succ]; omega
    have s : strd many a = 2 ^ (many - (a + 1)) := by
      unfold strd
      rw [if_pos (by omega), Nat.one_shiftLeft, show many - 1 - a = many - (a + 1) by omega]
    show sumr many a + strd many a + _ = _
    rw [s]
    omega
theorem sumr_high {many : Nat} : ∀ {a : Nat}, many ≤ a → sumr many a + 1 + many = 2 ^ many + a := fun {a} h => by
  induction h with
  | refl =>
    have := sumr_low (many := many) (a := many) (Nat.le_refl _)
    rw [Nat.sub_self, Nat.pow_zero] at this
    omega
  | @step c hc ih =>
    have s : strd many c = 1 := by
      unfold strd
      exact if_neg (by have : many ≤ c := hc; omega)
    show sumr many c + strd many c + 1 + many = _
    rw [s]
    omega
theorem sumr_rdf (many a : Nat) : sumr many a = rdf many a := by
  unfold rdf
  rw [Nat.one_shiftLeft, Nat.one_shiftLeft]
  by_cases h : a ≤ many
  · rw [if_pos h]
    have := sumr_low h
    omega
  · rw [if_neg h]
    have := sumr_high (many := many) (a := a) (by omega)
    have := Nat.two_pow_pos many
    omega
/-- the stage of a round, and its number in the stage -/
def stg (many stage left : Nat) : Nat × Nat := if strd many stage ≤ left then stg many (stage + 1) (left - strd many stage) else (stage, left)
termination_by left
decreasing_by
  have := strd_pos many stage
  omega
theorem stg_step {many stage left : Nat} (h : strd many stage ≤ left) : stg many stage left = stg many (stage + 1) (left - strd many stage) := by
  rw [stg, if_pos h]
theorem stg_end {many stage left : Nat} (h : ¬ strd many stage ≤ left) : stg many stage left = (stage, left) := by
  rw [stg, if_neg h]
theorem stg_sum (many : Nat) : ∀ (left stage : Nat), sumr many stage + left = sumr many (stg many stage left).1 + (stg many stage left).2 ∧ (stg many stage left).2 < strd many (stg many stage left).1 := by
  intro left
  induction left using Nat.strongRecOn with
  | ind left ih =>
    intro stage
    by_cases h : strd many stage ≤ left
    · have p := strd_pos many stage
      have := ih (left - strd many stage) (by omega) (stage + 1)
      rw [stg_step h]
      refine ⟨?_, this.2⟩
      rw [← this.1]
      show _ = sumr many stage + strd many stage + _
      omega
    · rw [stg_end h]
      exact ⟨rfl, Nat.lt_of_not_le h⟩
theorem stg_lt {many a num : Nat} (h : num < rdf many a) : (stg many 0 num).1 < a := by
  rw [← sumr_rdf] at h
  have s := (stg_sum many num 0).1
  refine Nat.lt_of_not_le fun q => ?_
  have := sumr_mono (many := many) q
  have z : sumr many 0 = 0 := rfl
  omega
/-- the numbers of the sums of a round -/
def mrk (m sh num nit : Nat) : Nat := (nit &&& ((1 <<< (min m (sh + (stg (m - sh) 0 num).1 + 1))) - 1)) + ((stg (m - sh) 0 num).2 <<< (min m (sh + (stg (m - sh) 0 num).1 + 1)))
theorem mrk_lt {m sh num : Nat} (h : sh ≤ m) (nit : Nat) : mrk m sh num nit < 2 ^ m := by
  unfold mrk
  have l := (stg_sum (m - sh) num 0).2
  generalize (stg (m - sh) 0 num).1 = s at *
  generalize (stg (m - sh) 0 num).2 = t at *
  have lo : nit &&& ((1 <<< (min m (sh + s + 1))) - 1) < 2 ^ (min m (sh + s + 1)) := by
    rw [Nat.one_shiftLeft]
    have := Nat.and_le_right (n := nit) (m := 2 ^ (min m (sh + s + 1)) - 1)
    have := Nat.two_pow_pos (min m (sh + s + 1))
    omega
  unfold strd at l
  by_cases q : s < m - sh
  · rw [if_pos q, Nat.one_shiftLeft] at l
    have e : min m (sh + s + 1) = sh + s + 1 := by omega
    rw [e] at lo ⊢
    have pw : 2 ^ m = 2 ^ (m - sh - 1 - s) * 2 ^ (sh + s + 1) := by rw [← Nat.pow_add]; congr 1; omega
    have fin : ∀ x A B : Nat, x < A → t < B → x + t * A < B * A := fun x A B h1 h2 => by
      have z : (t + 1) * A ≤ B * A := Nat.mul_le_mul_right _ h2
      rw [Nat.add_mul, Nat.one_mul] at z
      omega
    rw [Nat.shiftLeft_eq t, pw]
    exact fin _ _ _ lo l
  · rw [if_neg q] at l
    have e : min m (sh + s + 1) = m := by omega
    rw [e] at lo ⊢
    rw [show t = 0 by omega, Nat.zero_shiftLeft]
    omega
theorem mks_len' {b : Nat} {ss rows : List Nat} (hs : ∀ x ∈ ss, x < 2 ^ b) : ((cmpl (spn (mtd b (spn ss) rows)) (spn ss)).length : Int) = kpt b ss rows := by
  unfold kpt
  have c := cmpl_len (spn_rws (mtd b (spn ss) rows)) (spn ss)
  rw [rk_spn] at c
  have e : rk (spn (mtd b (spn ss) rows) ++ spn ss) = rk ss := by
    rw [← rk_spn ss]
    refine rk_eq fun x => ⟨fun z => z.mono fun y hy => (List.mem_append.mp hy).elim (fun q => ?_) Spn.of, fun z => z.sub fun y hy => List.mem_append_right _ hy⟩
    exact ((mtd_span (spn_lt hs) y).mp ((spn_span _ y).mp (.of q))).1
  rw [e] at c
  have l1 : (spn ss).length = rk ss := rfl
  have l2 : (spn (mtd b (spn ss) rows)).length = rk (mtd b (spn ss) rows) := rfl
  omega
end LaneX
set_option Elab.async false
set_option linter.all false
set_option maxRecDepth 100000
set_option maxHeartbeats 4000000
namespace LaneX
open PySem PySem.Spec PyProof.Rows L2
/-! ### o.f(e), f a field that stands for an instance of C -/
def tOf (m : Str) (Co C : Addr) (sp : Sp) (to : TE) (t : TA) : TE := fun σ H Q => to σ H fun x H1 => ∃ (a dx b : Addr) (fs : List (Str × V)), x = V.ref a ∧ H1 a = some (.ins Co dx fs) ∧ fs.lookup m = some (.ref b) ∧ t σ H1 fun vs H2 => (∃ dy gs, H2 b = some (.ins C dy gs)) ∧ sp (V.ref b :: vs) H2 Q E0
section
variable {X : Cx}
theorem pe_of {k j : Nat} {Co C : Addr} {ps : List Str} {sp : Sp} {m : Str} {apos pos : Pos} {o e : Expr} {es : List Expr} {to : TE} {t : TA} {pl : Sem Bool} (ho : PE X o to) (c : Cls X.K Co) (n : NoAttr X.K Co m) (D : Mn X.prog X.w X.K X.mg X.base k C "__call__" ps sp) (hc : callFn X.K C = true) (hr : Room j X.A) (ha : PA X (e :: es) t) (hk : k ≤ j := by decide)
    (hst : starEach (e :: es) X.env = (false, eval e X.env) :: starEach es X.env := by rfl) (hpl : (backTo pos (starEach es X.env)).any (·.1) = false := by rfl)
    (ht : eval (.Call (.Attribute o m apos) (e :: es) [] pos) X.env = (do
      let ov ← eval o X.env
      standAt apos.atName
      let (f, first) ← holding [ov] (getMethod ov m pl)
      callWith pos f first (backTo pos (starEach (e :: es) X.env)) (backToKw pos (keywordEach [] X.env))) := by rfl) :
    PE X (.Call (.Attribute o m apos) (e :: es) [] pos) (tOf m Co C sp to t) := by
  refine ⟨fun pins s σ H Q I h => ?_⟩
  obtain ⟨f, fd, h1, h3, h4⟩ := D.ex
  refine PySem.W.methodCall_KW (pl := pl) (thn (ho.run pins s σ H _ I h) fun u s1 ⟨x, H1, I1, rx, a, dx, b, fs, ex, ea, l, q⟩ => ?_) ht
  subst ex
  obtain rfl : u = Value.ref a := rx
  refine getmeth_fld I1 ea c n l fun u s1' I1' ru => ?_
  obtain rfl : u = Value.ref b := ru
  refine StX.callO_with (thn (ha.run pos pins s1' σ H1 _ I1' q) fun us s2 ⟨vs, H2, I2, r, ⟨dy, gs, hi⟩, q2⟩ => ?_) hst hpl
  obtain ⟨mA, O, _⟩ := ins_get I2.hok hi
  obtain ⟨od, J, _⟩ := O.look
  refine ⟨⟨C, _, od, J, rfl⟩, wpAny_call (PySem.W.kco_code I2.kIn J rfl h1.at_ h1.fn (callFn_ok hc h1.at_) ?_)⟩
  have r2 : Vals (V.ref b :: vs) (Value.ref b :: us) := .cons rfl r
  have hl : (Value.ref b :: us).length = ps.length := by rw [← r2.length]; exact h4.len _ _ _ _ q2
  refine codeAny_mono (h4.run X.A X.stack s2 H2 ⟨Value.ref b :: us, []⟩ (Value.ref b :: us) (V.ref b :: vs) Q E0 (hr.mono hk) I2.env0 (by simpa using h3 s2 (Value.ref b :: us) I2.kIn (by simpa using hl)) r2 q2) fun r s' hq => ?_
  cases r with
  | error e => exact pass0 pins σ H2 s2 e s' I2 hq
  | ok fl =>
    cases fl with
    | ret u => exact I2.after hq
    | next => exact False.elim hq
    | brk => exact False.elim hq
    | cont => exact False.elim hq
end
/-! ### a pure comprehension over enumerate(l), with a condition -/
section
variable {K : PySem.W.Frag} {g : TG} {tt : TT} {te : TE} {vs : List Nat} {σ : L2.St} {H : Hp} {Q : Addr → Hp → Prop}
theorem lc_pureLF {a : Addr} {xs : List V} (p : Nat → Bool) (v : Nat → V) (hS : H a = some (.lst xs)) (hlen : xs.length ≤ 1000000) (hs : ∀ i x H' T, xs[i]? = some x → Same H H' → H' T = some (.tup [vN i, x]) → LcT g tt te vs σ (.ref T) H' (p i) (v i))
    (hd : ∀ D H', H D = none → Same H H' → H' D = some (.lst (((List.range xs.length).filter p).map v)) → Q D H') : LcR g tt te vs σ Q (Ite K a) H := by
  intro D hD
  refine lc_it walk_enum (fun i H' => Same H H' ∧ H' D = some (.lst ((((List.range xs.length).take i).filter p).map v))) ⟨same_new0 hD, by simpa using upd_same⟩ (fun i H' _ hp => SqL.of (hp.1 _ _ hS)) (fun i x H' H2 hi hp y => ?_) (fun H' hp => ?_)
  · obtain ⟨T, x1, x2, rfl, nT, rfl, e1, e2⟩ := y
    cases e1
    have s2 : Same H (upd H' T (.tup [vN i, x2])) := same_new hp.1 nT
    exact lc_turn (l := List.range xs.length) (ι := fun _ => .ref T) (p := p) (v := v) (by simpa using hlen) hD (range_get hi) s2 (upd_new nT hp.2) (hs i x2 _ T e2 s2 upd_same)
  · obtain ⟨h1, h2⟩ := hp
    rw [List.take_of_length_le (by simp)] at h2
    exact hd D H' hD h1 h2
end
end LaneX
set_option Elab.async false
set_option linter.all false
set_option maxRecDepth 100000
set_option maxHeartbeats 4000000
namespace LaneX
open PySem PySem.Spec PyProof.Rows L2
/-! ### tuples of whole numbers compared -/
section
variable {X : Cx}
theorem op_neT (hu : X.A.units + 64 < cLine) : OpR X (compareOp .NotEq) (fun x y H Q => ∃ (a b : Addr) (ns ms : List Nat), x = .ref a ∧ y = .ref b ∧ H a = some (.tup (ns.map vN)) ∧ H b = some (.tup (ms.map vN)) ∧ Q (.bl (!decide (ns = ms))) H) := by
  intro pins s σ H x y v u Q I rx ry h
  obtain ⟨a, b, ns, ms, rfl, rfl, ha, hb, q⟩ := h
  rw [vN_ints] at ha hb
  refine op_neD hu pins s σ H _ _ v u Q I rx ry ⟨.tuple ((ns.map Int.ofNat).map .int), .tuple ((ms.map Int.ofNat).map .int), .tup (SqT.of ha) (dpAll_ints _), .tup (SqT.of hb) (dpAll_ints _), shaped_tints _, shaped_tints _, ?_⟩
  show Q (.bl (!PyData.eqvAll ((ns.map Int.ofNat).map .int) ((ms.map Int.ofNat).map .int))) H
  rw [eqvAll_ints, dec_ofNat]
  exact q
theorem op_eqT (hu : X.A.units + 64 < cLine) : OpR X (compareOp .Eq) (fun x y H Q => ∃ (a b : Addr) (ns ms : List Nat), x = .ref a ∧ y = .ref b ∧ H a = some (.tup (ns.map vN)) ∧ H b = some (.tup (ms.map vN)) ∧ Q (.bl (decide (ns = ms))) H) := by
  intro pins s σ H x y v u Q I rx ry h
  obtain ⟨a, b, ns, ms, rfl, rfl, ha, hb, q⟩ := h
  rw [vN_ints] at ha hb
  refine op_eqD hu pins s σ H _ _ v u Q I rx ry ⟨.tuple ((ns.map Int.ofNat).map .int), .tuple ((ms.map Int.ofNat).map .int), .tup (SqT.of ha) (dpAll_ints _), .tup (SqT.of hb) (dpAll_ints _), shaped_tints _, shaped_tints _, ?_⟩
  show Q (.bl (PyData.eqvAll ((ns.map Int.ofNat).map .int) ((ms.map Int.ofNat).map .int))) H
  rw [eqvAll_ints, dec_ofNat]
  exact q
end
end LaneX
set_option Elab.async false
set_option linter.all false
set_option maxRecDepth 100000
set_option maxHeartbeats 4000000
namespace LaneX
open PySem PySem.Spec PyProof.Rows L2
/-! ### set(xs), xs a list of ints; sorted of it -/
abbrev nSet (w : World) : Obj := { cls := .type "set", dict := none, data := .set #[] 0 (.fresh 0 0 (!w.params.followText "set-order")) }
section
variable {P : Program} {w : World} {A : Around} {E : Value → Shared → Prop} {s : Shared}
/-- what stands behind set(l) -/
def SetDone (w : World) (s : Shared) (ns : List Int) (s₂ : Shared) : Prop := ∃ h' tk c, s₂ = { s with heap := h', toks := tk } ∧ SetR w h' s.heap.objs.size (fun j => decide (j ∈ ns)) c ∧ c ≤ ns.length ∧ ∀ b o, s.heap.get? b = some o → h'.get? b = some o
theorem call_setL {l : Addr} {items : Array Value} (ns : List Int) {Q : Value → Shared → Prop} (hh : A.handled = none) (hl : s.heap.IsList l items) (hit : IntsAre items.toList ns) (hb : ns.length + 1 < scanBound)
    (h : ∀ s₂, SetDone w s ns s₂ → Q (.ref s.heap.objs.size) s₂) : wpAny (model P w) A (call (.type "set") [.ref l]) Q E s := by
  have len : items.size = ns.length := (Array.length_toList ..).symm.trans hit.length
  have T := F.called_set
  have ⟨_, _, mr⟩ := T.mro; have m1 := T.made; have m2 := T.sub; have m3 := T.notType; have m4 := T.canCreate
  have m5 := F.typeCall_set_1 (.ref l)
  refine wpAny_call (codeAny_of_tree (show wpAny _ _ (callAny (.type "set") _) _ _ _ from wpAny_pure ⟨Code.quiet_builtin _ (by decide +kernel), codeAny_builtin F.entry_type_call ?_⟩))
  rw [Around.under_plain (weight_type_call_type "set" [.ref l] []) rfl]
  repeat (any_goals (first | assumption | wp_step))
  refine codeAny_mono (code_set_led1 (.ref l) (E := E) (Q₁ := fun x s₁ => x = .ref s.heap.objs.size ∧ s₁ = { s with heap := s.heap.push (nSet w) }) ⟨rfl, rfl⟩) fun r s₁ hr => ?_
  rcases r with e | fl
  · exact hr
  cases fl with
  | ret x =>
    obtain ⟨rfl, rfl⟩ := hr
    have g0 : (s.heap.push (nSet w)).get? s.heap.objs.size = some (nSet w) := Heap.get?_push_size _ rfl
    have ty : Shared.TypeIs { s with heap := s.heap.push (nSet w) } (.ref s.heap.objs.size) "set" := ⟨_, g0, rfl⟩
    have i1 := T.init.lookup; have i2 := T.init.bind (.ref s.heap.objs.size)
    repeat (any_goals (first | assumption | wp_step))
    refine codeAny_mono (codeAny_call_builtin (R := wants (fun r s₂ => r = .none ∧ SetDone w s ns s₂) E) T.init.plain F.entry_set_init (check_set_init_1 ty ?_)) fun r2 s2 hr2 => ?_
    · obtain ⟨⟨oc, od, dt, sl⟩, ho, hc, nl, hd⟩ := hl
      simp only at hc hd
      subst hc hd
      have lS : l < s.heap.objs.size := Heap.lt_size ho
      have z1 : (s.heap.push (nSet w)).objs.size = s.heap.objs.size + 1 := Heap.size_push ..
      have ho' : (s.heap.push (nSet w)).get? l = some { cls := .type "list", dict := od, data := .seq items nl, slots := sl } := Heap.get?_push_of_some _ ho
      have hl1 : (s.heap.push (nSet w)).IsList l items := ⟨_, ho', rfl, nl, rfl⟩
      have c1 := F.sub_list_set; have c2 := F.sub_list_frozenset
      have c3 : (Value.type "list" == Value.type "dict") = false := by decide
      unfold Builtin.«set.__init__» noKeywords Builtin.Frozenset.updateFrom
      generalize ep : pyIter = PI
      wp_walk
      subst ep
      refine wpAny_pyIter_list hl1 (wpAny_bind (wpAny_runValue ?_))
      have h3 : A.in1.in1.in1.handled = none := by simp [hh]
      have nI : l ≠ (s.heap.push (nSet w)).objs.size := by rw [z1]; exact Nat.ne_of_lt (Nat.lt_succ_of_lt lS)
      have nF : s.heap.objs.size ∉ [(s.heap.push (nSet w)).objs.size, l] := by
        rw [z1]; simp only [List.mem_cons, List.not_mem_nil, or_false, not_or]; exact ⟨Nat.ne_of_lt (Nat.lt_succ_self _), Nat.ne_of_gt lS⟩
      have at_ : ∀ (i : Nat) (v : Value), items[i]? = some v → ∃ k t, ns[i]? = some k ∧ v = .int k t := fun i v hv => by
        have hi : i < ns.length := len ▸ (Array.getElem?_eq_some_iff.mp hv).1
        obtain ⟨t, e⟩ := hit.int_at i v (by rw [Array.getElem?_toList]; exact hv)
        exact ⟨ns[i], t, List.getElem?_eq_getElem hi, by rw [e, List.getD_eq_getElem?_getD, List.getElem?_eq_getElem hi]; rfl⟩
      have gg : ∀ o, ((s.heap.push (nSet w)).push o).get? s.heap.objs.size = some (nSet w) := fun o => Heap.get?_push_of_some _ g0
      refine set_update_ints ((Walks.list h3 _ l nI items).toS) s.heap.objs.size nF ns len hb at_ _ 0 _ rfl (Nat.zero_le _) ⟨⟨_, Heap.get?_push_size _ rfl, rfl, rfl⟩, hl1.push _⟩ ⟨0, Nat.le_refl 0, setR_new_at (gg _)⟩ (fun s' c' hm hc' hS' => ?_)
      obtain ⟨h', g2, d', tk', os'⟩ := s'
      cases (show g2 = s.gens from hm.gens); cases (show d' = s.drawn from hm.drawn); cases (show os' = s.os from hm.os)
      refine show wpAny _ _ _ _ _ _ from wpAny_pure (show wpAny _ _ (ret Value.none) _ _ _ from wpAny_pure ⟨rfl, h', tk', c', rfl, hS', len ▸ hc', fun b o e => ?_⟩)
      have b0 : b < s.heap.objs.size := Heap.lt_size e
      refine hm.heap b o ?_ (Heap.get?_push_of_some _ (Heap.get?_push_of_some _ e))
      rw [z1]; simp only [List.mem_cons, List.not_mem_nil, or_false, not_or]; exact ⟨Nat.ne_of_lt b0, Nat.ne_of_lt (Nat.lt_succ_of_lt b0)⟩
    · rcases r2 with e | fl2
      · exact hr2
      cases fl2 with
      | ret y =>
        obtain ⟨rfl, hd⟩ := hr2
        repeat (any_goals (first | assumption | wp_step))
        exact h _ hd
      | _ => exact hr2.elim
  | _ => exact hr.elim
end
section
variable {X : Cx}
theorem cr_setL (hc : X.calm = true) : CallR X (.type "set") (fun xs H Q => ∃ (a : Addr) (ns : List Int), xs = [.ref a] ∧ SqL X.K H a (ns.map V.int) ∧ ns.length ≤ 1000 ∧ ∀ p c o, H p = none → c ≤ ns.length → o = SetO X.w p (fun j => decide (j ∈ ns)) c → Q (.ref p) (upd H p o)) := by
  intro pins s σ H xs us Q I r h
  obtain ⟨a, ns, rfl, hS, hl, q⟩ := h
  rw [Vals.ref1 r]
  obtain ⟨its, rv, p, hz⟩ := I.list hS
  refine call_setL ns (I.ok.hd hc) p.isList (by simpa using ints_of_vals rv) (by unfold scanBound; omega) (fun s2 hd => ?_)
  obtain ⟨h', tk, c, rfl, hR, hcn, hk⟩ := hd
  exact ⟨.ref _, _, I.laid (t' := tk) hk (Nat.le_refl _) (setO_new hR), rfl, q _ _ _ (I.hok.fresh (Nat.le_refl _)) hcn rfl⟩
/-- sorted(set(xs)): naturals, fewer than 64 -/
theorem cr_sortedSetN (hc : X.calm = true) : CallR X (.builtin "sorted") (fun xs H Q => ∃ (a : Addr) (ns : List Nat) (c : Nat), xs = [.ref a] ∧ H a = some (SetO X.w a (fun j => decide (j ∈ ns.map Int.ofNat)) c) ∧ c < 64 ∧ ∀ p (ms : List Nat), H p = none → ms.Pairwise (· < ·) → (∀ k, k ∈ ms ↔ k ∈ ns) → ms.length = c → Q (.ref p) (upd H p (.lst (ms.map vN)))) := by
  intro pins s σ H xs us Q I r h
  obtain ⟨a, ns, c, rfl, ha, h64, q⟩ := h
  refine cr_sortedSet hc pins s σ H _ us Q I r ⟨a, _, c, rfl, ha, h64, fun zs p hp hm hl hn => ?_⟩
  have nn : ∀ z ∈ zs, ((z.toNat : Nat) : Int) = z := fun z hz => by
    obtain ⟨k, _, rfl⟩ := List.mem_map.mp (of_decide_eq_true ((hm z).mp hz))
    rfl
  have e : zs.map V.int = (zs.map Int.toNat).map vN := by
    rw [List.map_map]
    exact List.map_congr_left fun z hz => by show V.int z = V.int ((z.toNat : Nat) : Int); rw [nn z hz]
  rw [e]
  refine q p _ hn ?_ (fun k => ?_) (by rw [List.length_map, hl])
  · rw [List.pairwise_map]
    exact hp.imp_of_mem fun {x y} hx hy h => by
      have := nn x hx; have := nn y hy
      omega
  · constructor
    · intro hk
      obtain ⟨z, hz, rfl⟩ := List.mem_map.mp hk
      obtain ⟨k, hk2, rfl⟩ := List.mem_map.mp (of_decide_eq_true ((hm z).mp hz))
      exact hk2
    · intro hk
      exact List.mem_map.mpr ⟨(k : Int), (hm _).mpr (decide_eq_true (List.mem_map.mpr ⟨k, hk, rfl⟩)), rfl⟩
end
end LaneX
set_option Elab.async false
set_option linter.all false
set_option maxRecDepth 100000
set_option maxHeartbeats 4000000
namespace LaneX
open PySem PySem.Spec PyProof.Rows L2
/-! ### dicts with naturals as keys -/
abbrev kn (x : Nat) : Key := .inl (x : Int)
theorem kn_inj {x y : Nat} (h : kn x = kn y) : x = y := by
  have : (x : Int) = (y : Int) := Sum.inl.inj h
  omega
theorem nodup_len {α : Type} [DecidableEq α] : ∀ {l m : List α}, l.Nodup → (∀ x ∈ l, x ∈ m) → l.length ≤ m.length
  | [], _, _, _ => Nat.zero_le _
  | x :: l, m, hn, hs => by
    have hn' := List.nodup_cons.mp hn
    have hx := hs x (.head _)
    have ih := nodup_len (l := l) (m := m.erase x) hn'.2 fun y hy => by
      have : y ≠ x := fun e => hn'.1 (e ▸ hy)
      exact (List.mem_erase_of_ne this).mpr (hs y (.tail _ hy))
    have := List.length_erase_of_mem hx
    have hp : 0 < m.length := List.length_pos_of_mem hx
    simp only [List.length_cons]
    omega
/-- the keys are those of S, each once -/
structure Sn (kvs : List (Key × V)) (S : Nat → Prop) : Prop where
  nd : (kvs.map Prod.fst).Nodup
  mem : ∀ k, k ∈ kvs.map Prod.fst ↔ ∃ x, S x ∧ k = kn x
open Classical in
theorem put_keys (kvs : List (Key × V)) (k : Key) (v : V) : (putK kvs k v).map Prod.fst = if k ∈ kvs.map Prod.fst then kvs.map Prod.fst else kvs.map Prod.fst ++ [k] := by
  unfold putK
  by_cases h : k ∈ kvs.map Prod.fst
  · obtain ⟨p, hp, rfl⟩ := List.mem_map.mp h
    have a : (kvs.any fun kv => decide (kv.1 = p.1)) = true := List.any_eq_true.mpr ⟨p, hp, by simp⟩
    rw [if_pos a, if_pos h, List.map_map]
    refine List.map_congr_left fun q _ => ?_
    show (if q.1 = p.1 then (q.1, v) else q).1 = q.1
    split <;> rfl
  · have a : ¬ (kvs.any fun kv => decide (kv.1 = k)) = true := fun z => by
      obtain ⟨p, hp, e⟩ := List.any_eq_true.mp z
      exact h (List.mem_map.mpr ⟨p, hp, of_decide_eq_true e⟩)
    rw [if_neg a, if_neg h, List.map_append]
    rfl
theorem Sn.nil : Sn [] (fun _ => False) := ⟨.nil, fun k => ⟨fun h => (by cases h), fun h => (by obtain ⟨_, z, _⟩ := h; exact z.elim)⟩⟩
theorem Sn.put {kvs : List (Key × V)} {S : Nat → Prop} (h : Sn kvs S) (x : Nat) (v : V) : Sn (putK kvs (kn x) v) (fun y => S y ∨ y = x) := by
  have e := put_keys kvs (kn x) v
  refine ⟨?_, fun k => ?_⟩
  · rw [e]
    split
    · exact h.nd
    · rename_i n
      refine List.nodup_append.mpr ⟨h.nd, by simp, fun a ha b hb => ?_⟩
      rcases List.mem_singleton.mp hb with rfl
      exact fun z => n (z ▸ ha)
  · rw [e]
    split
    · rename_i m
      constructor
      · intro hk
        obtain ⟨y, hy, rfl⟩ := (h.mem k).mp hk
        exact ⟨y, .inl hy, rfl⟩
      · rintro ⟨y, hy | rfl, rfl⟩
        · exact (h.mem _).mpr ⟨y, hy, rfl⟩
        · exact m
    · constructor
      · intro hk
        rcases List.mem_append.mp hk with hk | hk
        · obtain ⟨y, hy, rfl⟩ := (h.mem k).mp hk
          exact ⟨y, .inl hy, rfl⟩
        · rcases List.mem_singleton.mp hk with rfl
          exact ⟨x, .inr rfl, rfl⟩
      · rintro ⟨y, hy | rfl, rfl⟩
        · exact List.mem_append_left _ ((h.mem _).mpr ⟨y, hy, rfl⟩)
        · exact List.mem_append_right _ (List.mem_singleton_self _)
theorem Sn.le {kvs : List (Key × V)} {S : Nat → Prop} (h : Sn kvs S) {n : Nat} (hS : ∀ x, S x → x < n) : kvs.length ≤ n := by
  have := nodup_len h.nd (m := (List.range n).map kn) fun k hk => by
    obtain ⟨x, hx, rfl⟩ := (h.mem k).mp hk
    exact List.mem_map.mpr ⟨x, List.mem_range.mpr (hS x hx), rfl⟩
  simpa using this
theorem Sn.full {kvs : List (Key × V)} {S : Nat → Prop} (h : Sn kvs S) {n : Nat} (hS : ∀ x, S x → x < n) (hA : ∀ x, x < n → S x) : kvs.length = n := by
  refine Nat.le_antisymm (h.le hS) ?_
  have nd : ((List.range n).map kn).Nodup := by
    unfold List.Nodup
    rw [List.pairwise_map]
    exact List.nodup_range.imp fun h z => h (kn_inj z)
  have := nodup_len nd (m := kvs.map Prod.fst) fun k hk => by
    obtain ⟨x, hx, rfl⟩ := List.mem_map.mp hk
    exact (h.mem _).mpr ⟨x, hA x (List.mem_range.mp hx), rfl⟩
  simpa using this
theorem Sn.congr {kvs : List (Key × V)} {S S' : Nat → Prop} (h : Sn kvs S) (e : ∀ x, S x ↔ S' x) : Sn kvs S' := ⟨h.nd, fun k => by rw [h.mem]; constructor <;> rintro ⟨x, hx, rfl⟩ <;> exact ⟨x, by first | exact (e x).mp hx | exact (e x).mpr hx, rfl⟩⟩
theorem Sn.val {kvs : List (Key × V)} {S : Nat → Prop} (h : Sn kvs S) (c : Nat) : (∃ v, valV kvs (kn c) = some v) ↔ S c := by
  constructor
  · rintro ⟨v, hv⟩
    obtain ⟨x, hx, e⟩ := (h.mem _).mp (valV_in hv)
    rw [kn_inj e]; exact hx
  · intro hc
    cases e : valV kvs (kn c) with
    | some v => exact ⟨v, rfl⟩
    | none => exact absurd ((h.mem _).mpr ⟨c, hc, rfl⟩) (valV_not e)
theorem Sn.notD {kvs : List (Key × V)} {S : Nat → Prop} (h : Sn kvs S) : notD (.dK kvs) = true := by
  cases kvs with
  | nil => rfl
  | cons p r =>
    obtain ⟨k, v⟩ := p
    obtain ⟨x, _, rfl⟩ := (h.mem k).mp (List.mem_cons_self)
    rfl
/-! ### what a lane knows: for each coset the word of its entries, and True -/
structure LnAt (H : Hp) (rows : List Nat) (E : Nat → Prop) (kvs : List (Key × V)) : Prop where
  sn : Sn kvs (fun c => ∃ e, E e ∧ lft rows e = c)
  at_ : ∀ c v, valV kvs (kn c) = some v → ∃ t m, v = .ref t ∧ H t = some (.tup [vN m, .bl true]) ∧ Msk rows E c m
theorem LnAt.mono {H H' : Hp} {rows : List Nat} {E : Nat → Prop} {kvs : List (Key × V)} (h : LnAt H rows E kvs) (k : ∀ t vs, H t = some (.tup vs) → H' t = some (.tup vs)) : LnAt H' rows E kvs :=
  ⟨h.sn, fun c v hv => by obtain ⟨t, m, e1, e2, e3⟩ := h.at_ c v hv; exact ⟨t, m, e1, k _ _ e2, e3⟩⟩
theorem LnAt.nil (H : Hp) (rows : List Nat) : LnAt H rows (fun _ => False) [] :=
  ⟨Sn.nil.congr fun x => ⟨fun z => z.elim, fun z => z.elim fun _ q => q.1⟩, fun c v hv => by cases hv⟩
theorem LnAt.congr {H : Hp} {rows : List Nat} {E F : Nat → Prop} {kvs : List (Key × V)} (h : LnAt H rows E kvs) (g : ∀ e, E e ↔ F e) : LnAt H rows F kvs := by
  have : E = F := funext fun e => propext (g e)
  rwa [← this]
theorem LnAt.get {H : Hp} {rows : List Nat} {E : Nat → Prop} {kvs : List (Key × V)} (h : LnAt H rows E kvs) {x : Addr} (hx : H x = some (.tup [vN 0, .bl true])) (c : Nat) :
    ∃ t m, (valV kvs (kn c)).getD (.ref x) = .ref t ∧ H t = some (.tup [vN m, .bl true]) ∧ Msk rows E c m := by
  cases e : valV kvs (kn c) with
  | some v =>
    obtain ⟨t, m, rfl, h2, h3⟩ := h.at_ c v e
    exact ⟨t, m, rfl, h2, h3⟩
  | none =>
    refine ⟨x, 0, rfl, hx, Msk.zero fun e' he z => ?_⟩
    obtain ⟨v, hv⟩ := (h.sn.val c).mpr ⟨e', he, z⟩
    rw [e] at hv; cases hv
theorem LnAt.has {H : Hp} {rows : List Nat} {E : Nat → Prop} {kvs : List (Key × V)} (h : LnAt H rows E kvs) {c : Nat} (hc : ∃ e, E e ∧ lft rows e = c) :
    ∃ t m, valV kvs (kn c) = some (.ref t) ∧ H t = some (.tup [vN m, .bl true]) ∧ Msk rows E c m := by
  obtain ⟨v, hv⟩ := (h.sn.val c).mpr hc
  obtain ⟨t, m, rfl, h2, h3⟩ := h.at_ c v hv
  exact ⟨t, m, hv, h2, h3⟩
theorem LnAt.put {H H' : Hp} {rows : List Nat} {E F : Nat → Prop} {kvs : List (Key × V)} (h : LnAt H rows E kvs) (k : ∀ t vs, H t = some (.tup vs) → H' t = some (.tup vs)) {c m : Nat} {t : Addr} (ht : H' t = some (.tup [vN m, .bl true])) (hm : Msk rows F c m) (hF : ∃ e, F e ∧ lft rows e = c)
    (o : ∀ e, lft rows e ≠ c → (F e ↔ E e)) : LnAt H' rows F (putK kvs (kn c) (.ref t)) := by
  refine ⟨(h.sn.put c (.ref t)).congr fun x => ?_, fun c' v hv => ?_⟩
  · by_cases e : x = c
    · subst e; exact ⟨fun _ => hF, fun _ => .inr rfl⟩
    · constructor
      · rintro (⟨e', h1, h2⟩ | z)
        · exact ⟨e', (o e' (by rw [h2]; exact e)).mpr h1, h2⟩
        · exact absurd z e
      · rintro ⟨e', h1, h2⟩
        exact .inl ⟨e', (o e' (by rw [h2]; exact e)).mp h1, h2⟩
  · rw [valV_put] at hv
    by_cases e : c' = c
    · subst e
      rw [if_pos rfl] at hv
      cases hv
      exact ⟨t, m, rfl, ht, hm⟩
    · rw [if_neg (fun z => e (kn_inj z))] at hv
      obtain ⟨t', m', e1, e2, e3⟩ := h.at_ c' v hv
      refine ⟨t', m', e1, k _ _ e2, fun x => ?_⟩
      rw [e3 x]
      exact ⟨fun z => ⟨(o x (by rw [z.2]; exact e)).mpr z.1, z.2⟩, fun z => ⟨(o x (by rw [z.2]; exact e)).mp z.1, z.2⟩⟩
/-- the lanes, a dict each -/
def Lanes (H : Hp) (q : Addr) (rows : List Nat) (E : Nat → Nat → Prop) (n : Nat) : Prop := ∃ ds : List Addr, H q = some (.lst (ds.map V.ref)) ∧ ds.length = n ∧ ∀ L d, ds[L]? = some d → ∃ kvs, H d = some (.dK kvs) ∧ LnAt H rows (E L) kvs
theorem Lanes.kp {H H' : Hp} {q : Addr} {rows : List Nat} {E : Nat → Nat → Prop} {n : Nat} (h : Lanes H q rows E n) (s : Kp H H') : Lanes H' q rows E n := by
  obtain ⟨ds, h1, h2, h3⟩ := h
  refine ⟨ds, s _ _ h1 rfl, h2, fun L d hd => ?_⟩
  obtain ⟨kvs, g1, g2⟩ := h3 L d hd
  exact ⟨kvs, s _ _ g1 g2.sn.notD, g2.mono fun t vs ht => s _ _ ht rfl⟩
theorem Lanes.same {H H' : Hp} {q : Addr} {rows : List Nat} {E : Nat → Nat → Prop} {n : Nat} (h : Lanes H q rows E n) (s : Same H H') : Lanes H' q rows E n := h.kp (Kp.of s)
theorem Lanes.congr {H : Hp} {q : Addr} {rows : List Nat} {E F : Nat → Nat → Prop} {n : Nat} (h : Lanes H q rows E n) (g : ∀ L e, L < n → (E L e ↔ F L e)) : Lanes H q rows F n := by
  obtain ⟨ds, h1, h2, h3⟩ := h
  refine ⟨ds, h1, h2, fun L d hd => ?_⟩
  obtain ⟨kvs, g1, g2⟩ := h3 L d hd
  have : L < n := by rw [← h2]; exact (List.getElem?_eq_some_iff.mp hd).1
  exact ⟨kvs, g1, g2.congr fun e => g L e this⟩
end LaneX
set_option Elab.async false
set_option linter.all false
set_option maxRecDepth 100000
set_option maxHeartbeats 4000000
namespace LaneX
open PySem PySem.Spec PyProof.Rows L2

/-! ### what the checks promise, for values that are as described -/
def sp_is_whole : Sp := fun vs H Q _ => ∃ n : Nat, vs = [vN n] ∧ Q (.bl true) H
def sp_need_whole : Sp := fun vs H Q _ => ∃ n : Nat, vs = [vN n] ∧ Q .non H
def sp_need_items : Sp := fun vs H Q _ => ∃ (a : Addr) (xs : List V), vs = [.ref a] ∧ Tq H a xs ∧ ∀ H', Same H H' → Q .non H'
def sp_need_word : Sp := fun vs H Q _ => ∃ n b : Nat, vs = [vN n, vN b] ∧ blen n ≤ b ∧ Q .non H
def sp_need_words : Sp := fun vs H Q _ => ∃ (a : Addr) (ns : List Nat) (b : Nat), vs = [.ref a, vN b] ∧ Tq H a (ns.map vN) ∧ (∀ n ∈ ns, blen n ≤ b) ∧ ∀ H' p, Same H H' → H p = none → H' p = some (.lst (ns.map vN)) → Q (.ref p) H'
theorem ok_is_whole {P : Program} {w : World} {K : PySem.W.Frag} {mg : Str → Option Value} {base : Heap} {f : Addr} {fd : FuncData} (T : Bt mg) (F : FnP K "is_whole" "is_whole" s_is_whole f fd) : FnOk P w K mg base CX0 1 f fd ["value"] sp_is_whole := by
  have nd := sc_is_whole.nd
  refine fnok F sc_is_whole (fun vs H Q E h => ?_) (fun cdv A outer s H vs Q E hr h => ?_)
  · obtain ⟨n, rfl, _⟩ := h
    rfl
  · obtain ⟨n, rfl, k⟩ := h
    refine ⟨_, (pss_one (ps_ret (pe_and (pe_callB call_isi (by rfl) T.isinstance (by decide +kernel) (pa_cons (pv 0) (pa_cons (pe_bltn (v := .ty "int") (by rfl) T.int (by decide +kernel) rfl) pa_nil))) (pe_and (pe_not (pe_callB call_isi (by rfl) T.isinstance (by decide +kernel) (pa_cons (pv 0) (pa_cons (pe_bltn (v := .ty "bool") (by rfl) T.bool (by decide +kernel) rfl) pa_nil)))) (pe_one (pe_cmpR op_ge (pv 0) pe_int (nomark _))))))), ?_⟩
    refine ⟨_, rfl, _, _, _, _, _, rfl, .ty _, .base (.int _), kit_ty (r := true) (by decide +kernel), _, rfl, iteT ?_⟩
    refine ⟨_, rfl, _, _, _, _, _, rfl, .ty _, .base (.int _), kit_ty (r := false) (by decide +kernel), _, rfl, _, rfl, iteT ?_⟩
    refine ⟨_, rfl, _, _, rfl, rfl, ?_⟩
    have e : decide ((0 : Int) ≤ (n : Int)) = true := decide_eq_true (by omega)
    show Q (.bl (decide ((0 : Int) ≤ (n : Int)))) H
    rw [e]
    exact k
theorem ok_need_whole {P : Program} {w : World} {K : PySem.W.Frag} {mg : Str → Option Value} {base : Heap} {f : Addr} {fd : FuncData} (T : Bt mg) (F : FnP K "need_whole" "need_whole" s_need_whole f fd) (D_is_whole : Dn P w K mg base 1 "is_whole" ["value"] sp_is_whole) : FnOk P w K mg base CX0 2 f fd ["value"] sp_need_whole := by
  have nd := sc_need_whole.nd
  refine fnok F sc_need_whole (fun vs H Q E h => ?_) (fun cdv A outer s H vs Q E hr h => ?_)
  · obtain ⟨n, rfl, _⟩ := h
    rfl
  · obtain ⟨n, rfl, k⟩ := h
    refine ⟨_, (pss_one (ps_if (pt_not (pt_val (pe_d D_is_whole hr (pa_cons (pv 0) pa_nil))))
      (pss_one ps_never)
      pss_nil)), ?_⟩
    exact ⟨_, rfl, n, rfl, _, rfl, iteF k⟩
theorem ok_need_items {P : Program} {w : World} {K : PySem.W.Frag} {mg : Str → Option Value} {base : Heap} {f : Addr} {fd : FuncData} (T : Bt mg) (F : FnP K "need_items" "need_items" s_need_items f fd) : FnOk P w K mg base CX0 1 f fd ["value"] sp_need_items := by
  have nd := sc_need_items.nd
  refine fnok F sc_need_items (fun vs H Q E h => ?_) (fun cdv A outer s H vs Q E hr h => ?_)
  · obtain ⟨a, xs, rfl, _⟩ := h
    rfl
  · obtain ⟨a, xs, rfl, hS, k⟩ := h
    refine ⟨_, (pss_one (ps_if (pt_not (pt_val (pe_callB call_isiT (by rfl) T.isinstance (by decide +kernel) (pa_cons (pv 0) (pa_cons (pe_tup (pa_cons (pe_bltn (v := .ty "list") (by rfl) T.list (by decide +kernel) rfl) (pa_cons (pe_bltn (v := .ty "tuple") (by rfl) T.tuple (by decide +kernel) rfl) pa_nil))) pa_nil)))))
      (pss_one ps_never)
      pss_nil)), ?_⟩
    refine ⟨_, rfl, (by show 2 ≤ sizeLine; decide), fun p hp => ?_⟩
    obtain ⟨t, ht, hk⟩ := (hS.new (o := .tup [.ty "list", .ty "tuple"]) hp).ty (K := K)
    refine ⟨_, _, _, _, _, _, rfl, upd_same, .cons (.ty _) (.cons (.ty _) .nil), ht, hk, _, rfl, iteF ?_⟩
    exact k _ (same_new0 hp)
theorem ok_need_word {P : Program} {w : World} {K : PySem.W.Frag} {mg : Str → Option Value} {base : Heap} {f : Addr} {fd : FuncData} (T : Bt mg) (F : FnP K "need_word" "need_word" s_need_word f fd) (D_is_whole : Dn P w K mg base 1 "is_whole" ["value"] sp_is_whole) : FnOk P w K mg base CX0 2 f fd ["value", "bits"] sp_need_word := by
  have nd := sc_need_word.nd
  refine fnok F sc_need_word (fun vs H Q E h => ?_) (fun cdv A outer s H vs Q E hr h => ?_)
  · obtain ⟨n, b, rfl, _⟩ := h
    rfl
  · obtain ⟨n, b, rfl, hb, k⟩ := h
    refine ⟨_, (pss_one (ps_if (PW.pt (pw_or (pt_not (pt_val (pe_d D_is_whole hr (pa_cons (pv 0) pa_nil)))) (pw_or1 (pt_cmpR op_gt (pe_bits (pv 0)) (pv 1) (nomark _)))))
      (pss_one ps_never)
      pss_nil)), ?_⟩
    refine ⟨_, rfl, n, rfl, _, rfl, iteF ?_⟩
    refine ⟨_, rfl, _, rfl, _, rfl, _, _, rfl, rfl, _, rfl, ?_⟩
    rw [blen_bits]
    have e : decide ((b : Int) < (blen n : Int)) = false := decide_eq_false (by omega)
    rw [e]
    exact iteF k
theorem ok_need_words {P : Program} {w : World} {K : PySem.W.Frag} {mg : Str → Option Value} {base : Heap} {f : Addr} {fd : FuncData} (T : Bt mg) (F : FnP K "need_words" "need_words" s_need_words f fd) (D_need_items : Dn P w K mg base 1 "need_items" ["value"] sp_need_items) (D_need_word : Dn P w K mg base 2 "need_word" ["value", "bits"] sp_need_word) :
    FnOk P w K mg base CX0 3 f fd ["values", "bits"] sp_need_words := by
  have nd := sc_need_words.nd
  refine fnok F sc_need_words (fun vs H Q E h => ?_) (fun cdv A outer s H vs Q E hr h => ?_)
  · obtain ⟨a, ns, b, rfl, _⟩ := h
    rfl
  · obtain ⟨a, ns, b, rfl, hS, hb, k⟩ := h
    refine ⟨_, (pss_cons (ps_expr (pe_d D_need_items hr (pa_cons (pv 0) pa_nil)))
      (pss_cons (ps_for PassesOwn.never rfl (pi_seq (pv 0)) (pg_name (i := 2) nd rfl (Or.inl rfl))
        (pss_one (ps_expr (pe_d D_need_word hr (pa_cons (pv 2) (pa_cons (pv 1) pa_nil))))))
      (pss_one (ps_ret (pe_callTy call_listQ (by rfl) T.list (by decide +kernel) (pa_cons (pv 0) pa_nil)))))), ?_⟩
    refine ⟨_, rfl, a, _, rfl, hS, fun H1 s1 => ?_⟩
    refine ⟨_, rfl, for_seq (K := K) (same_tq s1 hS).sq (fun i σ H2 => ∃ v, σ = [some (.ref a), some (vN b), v] ∧ H2 = H1) ⟨none, rfl, rfl⟩ (fun i σ H2 hp => by obtain ⟨_, _, rfl⟩ := hp; exact Kp.refl _) ?_ ?_⟩
    · rintro i x σ H2 hx ⟨v, rfl, rfl⟩
      obtain ⟨n, hn, rfl⟩ := map_get hx
      exact ⟨_, rfl, _, rfl, n, b, rfl, hb n (List.mem_of_getElem? hn), _, rfl, rfl⟩
    · rintro σ H2 ⟨v, rfl, rfl⟩
      refine ⟨_, rfl, a, _, rfl, (same_tq s1 hS), fun l hl => ?_⟩
      exact k _ _ (same_new s1 hl) (same_free s1 hl) upd_same
end LaneX
set_option Elab.async false
set_option linter.all false
set_option maxRecDepth 100000
set_option maxHeartbeats 4000000
namespace LaneX
open PySem PySem.Spec PyProof.Rows L2
theorem dec_int {a b : Int} : decide (V.int a = V.int b) = decide (a = b) := by
  by_cases h : a = b
  · subst h; simp
  · rw [decide_eq_false h, decide_eq_false (fun e => h (by cases e; rfl))]
theorem dec_nat {a b : Nat} : decide (V.int (a : Int) = V.int (b : Int)) = decide (a = b) := by
  rw [dec_int]
  by_cases h : a = b
  · subst h; simp
  · rw [decide_eq_false h, decide_eq_false (by omega)]
theorem clr_snoc (a : List Nat) (r w : Nat) : clr (a ++ [r]) w = if (clr a w).testBit (blen r - 1) = true then clr a w ^^^ r else clr a w := clr_append a [r] w
theorem dec_zero {n : Nat} (h : decide (V.int (n : Int) = V.int 0) = true) : n = 0 := by
  rw [show (V.int 0 : V) = V.int ((0 : Nat) : Int) from rfl, dec_nat] at h
  exact of_decide_eq_true h
theorem dec_nz {n : Nat} (h : decide (V.int (n : Int) = V.int 0) = false) : n ≠ 0 := by
  rw [show (V.int 0 : V) = V.int ((0 : Nat) : Int) from rfl, dec_nat] at h
  exact of_decide_eq_false h
theorem dec_bit (n b : Nat) : decide (V.int ((n >>> b &&& 1 : Nat) : Int) = V.int 1) = n.testBit b := by
  rw [show (V.int 1 : V) = V.int ((1 : Nat) : Int) from rfl, dec_nat]
  cases q : n.testBit b with
  | true => exact decide_eq_true ((shr_and_one _ _).mpr q)
  | false => exact decide_eq_false fun z => by rw [(shr_and_one _ _).mp z] at q; cases q
theorem size6'' {n : Nat} (h : n ≤ 1000000) : n + 1 ≤ sizeLine := by rw [sizeLine_eq]; omega
def sp_spanned : Sp := fun vs H Q _ => ∃ (a : Addr) (ws : List Nat), vs = [.ref a] ∧ Tq H a (ws.map vN) ∧ ws.length ≤ 1000000 ∧
  ∀ H' p, Same H H' → H p = none → H' p = some (.lst ((spn ws).map vN)) → Q (.ref p) H'
def sp_cleared : Sp := fun vs H Q _ => ∃ (a : Addr) (rows : List Nat) (x : Nat), vs = [.ref a, vN x] ∧ Tq H a (rows.map vN) ∧ (∀ r ∈ rows, r ≠ 0) ∧ Q (vN (clr rows x)) H
def sp_grown : Sp := fun vs H Q _ => ∃ (a : Addr) (rows : List Nat) (x : Nat), vs = [.ref a, vN x] ∧ Tq H a (rows.map vN) ∧ (∀ r ∈ rows, r ≠ 0) ∧ rows.length ≤ 1000000 ∧
  ∀ H' p, Same H H' → H p = none → H' p = some (.lst ((grw rows x).map vN)) → Q (.ref p) H'
section
variable {P : Program} {w : World} {K : PySem.W.Frag} {mg : Str → Option Value} {base : Heap} {f : Addr} {fd : FuncData} (T : Bt mg)
include T
theorem ok_cleared (F : FnP K "cleared" "cleared" s_cleared f fd) : FnOk P w K mg base CX0 1 f fd ["rows", "word"] sp_cleared := by
  have nd := sc_cleared.nd
  refine fnok F sc_cleared (fun vs H Q E h => ?_) (fun cdv A outer s H vs Q E hr h => ?_)
  · obtain ⟨a, rows, x, rfl, _⟩ := h
    rfl
  · obtain ⟨a, rows, x, rfl, hS, hn, k⟩ := h
    refine ⟨_, (pss_cons (ps_set (i := 2) nd rfl (Or.inl rfl) (pv 1))
      (pss_cons (ps_for PassesOwn.never rfl (pi_seq (pv 0)) (pg_name (i := 3) nd rfl (Or.inl rfl))
        (pss_one (ps_if (pt_cmpR op_eq (pe_op on_and (pe_op on_shr (pv 2) (pe_op on_sub (pe_bits (pv 3)) pe_int)) pe_int) pe_int (nomark _))
          (pss_one (ps_set (i := 2) nd rfl (Or.inl rfl) (pe_op on_xor (pv 2) (pv 3))))
          pss_nil)))
      (pss_one (ps_ret (pv 2))))), ?_⟩
    refine ⟨_, rfl, _, rfl, for_seq (K := K) hS.sq (fun i σ H2 => ∃ v, σ = [some (.ref a), some (vN x), some (vN (clr (rows.take i) x)), v] ∧ H2 = H) ⟨none, rfl, rfl⟩ (fun i σ H2 hp => by obtain ⟨_, _, rfl⟩ := hp; exact Kp.refl _) ?_ ?_⟩
    · rintro i y σ H2 hy ⟨v, rfl, rfl⟩
      obtain ⟨r, hr', rfl⟩ := map_get hy
      have rn := hn r (List.mem_of_getElem? hr')
      have rb := blen_pos rn
      refine ⟨_, rfl, _, rfl, _, rfl, _, 1, rfl, rfl, (by show 1 ≤ Builtin.Int.intBits (r : Int); rw [blen_bits]; exact rb), _, _, rfl, rfl, _, 1, rfl, rfl, rfl, _, rfl, ?_⟩
      rw [take_succ hr', clr_snoc]
      rw [blen_bits]
      have e : decide (V.int ((clr (rows.take i) x >>> (blen r - 1) &&& 1 : Nat) : Int) = V.int 1) = (clr (rows.take i) x).testBit (blen r - 1) := by
        rw [show (V.int 1 : V) = V.int ((1 : Nat) : Int) from rfl, dec_nat]
        cases q : (clr (rows.take i) x).testBit (blen r - 1) with
        | true => exact decide_eq_true ((shr_and_one _ _).mpr q)
        | false => exact decide_eq_false fun z => by rw [(shr_and_one _ _).mp z] at q; cases q
      rw [e]
      cases q : (clr (rows.take i) x).testBit (blen r - 1) with
      | true => exact iteT ⟨_, rfl, _, rfl, _, _, rfl, rfl, _, rfl, rfl⟩
      | false => exact iteF ⟨_, rfl, rfl⟩
    · rintro σ H2 ⟨v, rfl, rfl⟩
      refine ⟨_, rfl, ?_⟩
      rw [List.length_map, List.take_length]
      exact k
theorem ok_grown (F : FnP K "grown" "grown" s_grown f fd) (D_cleared : Dn P w K mg base 1 "cleared" ["rows", "word"] sp_cleared) : FnOk P w K mg base CX0 2 f fd ["rows", "word"] sp_grown := by
  have nd := sc_grown.nd
  refine fnok F sc_grown (fun vs H Q E h => ?_) (fun cdv A outer s H vs Q E hr h => ?_)
  · obtain ⟨a, rows, x, rfl, _⟩ := h
    rfl
  · obtain ⟨a, rows, x, rfl, hS, hn, hl, k⟩ := h
    refine ⟨_, (pss_cons (ps_set (i := 2) nd rfl (Or.inr rfl) (pe_d D_cleared hr (pa_cons (pv 0) (pa_cons (pv 1) pa_nil))))
  (pss_cons (ps_if (pt_cmpR op_eq (pv 2) pe_int (nomark _))
    (pss_one (ps_ret (pe_callTy call_listQ (by rfl) T.list (by decide +kernel) (pa_cons (pv 0) pa_nil))))
    pss_nil)
  (pss_cons (ps_set (i := 3) nd rfl (Or.inr rfl) (pe_op on_sub (pe_bits (pv 2)) pe_int))
  (pss_one (ps_ret (pe_callB cr_sortedN (by rfl) T.sorted (by decide +kernel) (pa_cons (pe_op op_cat (pe_lc (own := [("row", 4)]) (g := gName 4) (by rfl) nd (pi_seq (pv 0)) (blkOk_by (own := [("row", 4)]) (N := ["rows", "word", "left", "top", "row"]) (sc := defScope s_grown) (by decide +kernel)) (fun _ _ _ _ _ => (pg_name (i := 4) nd rfl (Or.inl rfl))) (fun _ _ _ _ _ => pts_nil) (fun _ _ _ _ _ => (pe_ifExp (pt_cmpR op_eq (pe_op on_and (pe_op on_shr (pv 4) (pv 3)) pe_int) pe_int (nomark _)) (pe_op on_xor (pv 4) (pv 2)) (pv 4)))) (pe_lst (pa_cons (pv 2) pa_nil))) pa_nil))))))), ?_⟩
    refine ⟨_, rfl, _, rfl, a, rows, x, rfl, hS, hn, ?_⟩
    refine ⟨_, rfl, rfl, _, rfl, ?_⟩
    refine br (fun e => ?_) (fun e => ?_)
    · have e0 : clr rows x = 0 := dec_zero e
      refine ⟨_, rfl, a, _, rfl, hS, fun l hl' => ?_⟩
      refine k _ _ (same_new0 hl') hl' ?_
      rw [grw_eq, if_pos e0]
      exact upd_same
    · have e0 : clr rows x ≠ 0 := dec_nz e
      have eb := blen_pos e0
      refine ⟨_, rfl, _, rfl, _, 1, rfl, rfl, (by show 1 ≤ Builtin.Int.intBits (clr rows x : Int); rw [blen_bits]; exact eb), ?_⟩
      refine ⟨_, rfl, lc_pure rows vN (fun _ => true) (fun r => vN (chg (clr rows x) r)) hS hl (fun n H' hn' s => ?_) (fun D H1 hD s1 h1 => ?_)⟩
      · intro Z Nx h1 h2
        refine ⟨rfl, _, rfl, _, rfl, _, _, rfl, rfl, _, 1, rfl, rfl, rfl, _, rfl, ?_⟩
        rw [blen_bits, dec_bit]
        have z := h1 rfl H' (Same.refl H')
        unfold chg at z
        cases q : n.testBit (blen (clr rows x) - 1) with
        | true =>
          rw [q] at z
          exact iteT ⟨_, rfl, _, rfl, _, _, rfl, rfl, z⟩
        | false =>
          rw [q] at z
          exact iteF ⟨_, rfl, z⟩
      · rw [List.filter_eq_self.mpr (fun _ _ => rfl)] at h1
        refine ⟨_, rfl, (by show 1 ≤ sizeLine; decide), fun l hl' => ?_⟩
        refine ⟨_, _, _, _, rfl, rfl, upd_new hl' h1, upd_same, (by show (rows.map _).length + 1 ≤ _; rw [List.length_map]; exact size6'' hl), fun q hq => ?_⟩
        refine ⟨q, rows.map (chg (clr rows x)) ++ [clr rows x], rfl, ?_, fun p hp => ?_⟩
        · rw [upd_same]
          simp [List.map_append]
        · have s3 := same_new (o := .lst [vN (clr rows x)]) s1 hl'
          have s4 := same_new (o := .lst (rows.map (fun r => vN (chg (clr rows x) r)) ++ [vN (clr rows x)])) s3 hq
          refine k _ _ (same_new s4 hp) (same_free s4 hp) ?_
          rw [upd_same, grw_eq, if_neg e0]
theorem ok_spanned (F : FnP K "spanned" "spanned" s_spanned f fd) (D_grown : Dn P w K mg base 2 "grown" ["rows", "word"] sp_grown) : FnOk P w K mg base CX0 3 f fd ["words"] sp_spanned := by
  have nd := sc_spanned.nd
  refine fnok F sc_spanned (fun vs H Q E h => ?_) (fun cdv A outer s H vs Q E hr h => ?_)
  · obtain ⟨a, ws, rfl, _⟩ := h
    rfl
  · obtain ⟨a, ws, rfl, hS, hl, k⟩ := h
    refine ⟨_, (pss_cons (ps_set (i := 1) nd rfl (Or.inl rfl) (pe_lst pa_nil))
      (pss_cons (ps_for PassesOwn.never rfl (pi_seq (pv 0)) (pg_name (i := 2) nd rfl (Or.inl rfl))
        (pss_one (ps_set (i := 1) nd rfl (Or.inl rfl) (pe_d D_grown hr (pa_cons (pv 1) (pa_cons (pv 2) pa_nil))))))
      (pss_one (ps_ret (pv 1))))), ?_⟩
    refine ⟨(by show 0 ≤ sizeLine; decide), fun l0 hl0 => ?_⟩
    have s0 : Same H (upd H l0 (.lst [])) := same_new0 hl0
    refine ⟨_, rfl, for_seq (K := K) (same_tq s0 hS).sq (fun i σ H2 => ∃ v l, σ = [some (.ref a), some (.ref l), v] ∧ Same (upd H l0 (.lst [])) H2 ∧ H l = none ∧ H2 l = some (.lst ((spn (ws.take i)).map vN))) ⟨none, l0, rfl, Same.refl _, hl0, upd_same⟩ (fun i σ H2 hp => ?_) ?_ ?_⟩
    · obtain ⟨_, l, _, s2, hn, h2⟩ := hp
      exact Kp.of s2
    · rintro i y σ H2 hy ⟨v, l, rfl, s2, hn, h2⟩
      obtain ⟨r, hr', rfl⟩ := map_get hy
      refine ⟨_, rfl, _, rfl, l, _, r, rfl, .inl h2, (spn_rws _).nz, Nat.le_trans (spn_len _) (Nat.le_trans (by rw [List.length_take]; omega) hl), fun H3 p s3 hp h3 => ?_⟩
      refine ⟨_, p, rfl, s2.trans s3, same_free s0 (same_free s2 hp), ?_⟩
      rw [take_succ hr', spn_append]
      exact h3
    · rintro σ H2 ⟨v, l, rfl, s2, hn, h2⟩
      rw [List.length_map, List.take_length] at h2
      exact ⟨_, rfl, k _ _ (s0.trans s2) hn h2⟩
end
end LaneX
set_option Elab.async false
set_option linter.all false
set_option maxRecDepth 100000
set_option maxHeartbeats 4000000
namespace LaneX
open PySem PySem.Spec PyProof.Rows L2
def sp_paired : Sp := fun vs H Q _ => ∃ (a : Addr) (cs : List Nat), vs = [.ref a] ∧ Tq H a (cs.map vN) ∧ cs.length ≤ 1000000 ∧ (∀ c ∈ cs, blen c ≤ 1000000) ∧
  ∀ H' p, Same H H' → H p = none → H' p = some (.lst ((prd cs).map vN)) → Q (.ref p) H'
def sp_kernel_rows : Sp := fun vs H Q _ => ∃ (a : Addr) (cs : List Nat), vs = [.ref a] ∧ Tq H a (cs.map vN) ∧ cs.length ≤ 1000000 ∧ (∀ c ∈ cs, blen c ≤ 1000000) ∧
  ∀ H' p, Same H H' → H p = none → H' p = some (.lst ((ker cs).map vN)) → Q (.ref p) H'
def sp_met : Sp := fun vs H Q _ => ∃ (b : Nat) (a c : Addr) (rs os : List Nat), vs = [vN b, .ref a, .ref c] ∧ Tq H a (rs.map vN) ∧ Tq H c (os.map vN) ∧ b ≤ 1000000 ∧ rs.length ≤ 400000 ∧ os.length ≤ 400000 ∧ (∀ r ∈ rs, blen r ≤ 1000000) ∧ (∀ r ∈ os, blen r ≤ 1000000) ∧
  ∀ H' p, Same H H' → H p = none → H' p = some (.lst ((mtd b rs os).map vN)) → Q (.ref p) H'
theorem shl_ok1 {n m : Nat} (h1 : blen n ≤ 1000000) (h2 : m ≤ 1000000) : CShN n m := by unfold CShN; omega
theorem blen_one : blen 1 = 1 := by decide
theorem dec_le (a b : Nat) : decide ((a : Int) ≤ (b : Int)) = decide (a ≤ b) := by
  by_cases h : a ≤ b
  · rw [decide_eq_true h, decide_eq_true (by omega)]
  · rw [decide_eq_false h, decide_eq_false (by omega)]
theorem filt_true {α : Type} (l : List α) : l.filter (fun _ => true) = l := List.filter_eq_self.mpr fun _ _ => rfl
section
variable {P : Program} {w : World} {K : PySem.W.Frag} {mg : Str → Option Value} {base : Heap} {f : Addr} {fd : FuncData} (T : Bt mg)
include T
theorem ok_paired (F : FnP K "paired" "paired" s_paired f fd) (D_spanned : Dn P w K mg base 3 "spanned" ["words"] sp_spanned) : FnOk P w K mg base CX0 4 f fd ["columns"] sp_paired := by
  have nd := sc_paired.nd
  refine fnok F sc_paired (fun vs H Q E h => ?_) (fun cdv A outer s H vs Q E hr h => ?_)
  · obtain ⟨a, cs, rfl, _⟩ := h
    rfl
  · obtain ⟨a, cs, rfl, hS, hl, hc, k⟩ := h
    refine ⟨_, (pss_cons (ps_set (i := 1) nd rfl (Or.inr rfl) (pe_callB call_lenQ (by rfl) T.len PySem.boot_len (pa_cons (pv 0) pa_nil)))
  (pss_one (ps_ret (pe_d D_spanned hr (pa_cons (pe_lc (own := [("bit", 2)]) (g := gName 2) (by rfl) nd (pi_range1 (by rfl) T.range (pa_cons (pv 1) pa_nil)) (blkOk_by (own := [("bit", 2)]) (N := ["columns", "source", "bit"]) (sc := defScope s_paired) (by decide +kernel)) (fun _ _ _ _ _ => (pg_name (i := 2) nd rfl (Or.inl rfl))) (fun _ _ _ _ _ => pts_nil) (fun _ _ _ _ _ => (pe_op on_add (pe_op on_shl (pe_ix ix_q (pv 0) (pv 2) (fun _ _ => rfl)) (pv 1)) (pe_op on_shl pe_int (pv 2))))) pa_nil))))), ?_⟩
    refine ⟨_, rfl, a, _, rfl, hS, _, rfl, _, rfl, (by omega), (by rw [List.length_map]; omega), lc_pureR (n := (cs.map vN).length) (fun _ => true) (fun i => vN ((cs.getD i 0 <<< cs.length) + (1 <<< i))) (by rw [List.length_map]; exact hl) (fun i H' hi s => ?_) (fun D H1 hD s1 h1 => ?_)⟩
    · intro Z Nx h1 h2
      rw [List.length_map] at hi
      have hg : (cs.map vN)[i]? = some (vN (cs.getD i 0)) := by
        rw [List.getElem?_map, List.getElem?_eq_getElem hi, List.getD_eq_getElem?_getD, List.getElem?_eq_getElem hi]
        rfl
      have hm : cs.getD i 0 ∈ cs := by
        rw [List.getD_eq_getElem?_getD, List.getElem?_eq_getElem hi]
        exact List.getElem_mem hi
      have z := h1 rfl H' (Same.refl H')
      rw [← List.length_map (f := vN)] at z
      exact ⟨rfl, _, rfl, _, rfl, a, _, i, _, rfl, rfl, same_tq s hS, hg, _, rfl, _, _, rfl, rfl, shl_ok1 (hc _ hm) (by rw [List.length_map]; exact hl), _, rfl, 1, _, rfl, rfl, shl_ok1 (by rw [blen_one]; decide) (by omega), _, _, rfl, rfl, z⟩
    · rw [filt_true, List.length_map] at h1
      refine ⟨D, prs cs, rfl, .inl ?_, by simp [prs]; omega, fun H2 p s2 hp h2 => k _ _ (s1.trans s2) (same_free s1 hp) h2⟩
      rw [h1]
      simp [prs]
theorem ok_kernel_rows (F : FnP K "kernel_rows" "kernel_rows" s_kernel_rows f fd) (D_paired : Dn P w K mg base 4 "paired" ["columns"] sp_paired) : FnOk P w K mg base CX0 5 f fd ["columns"] sp_kernel_rows := by
  have nd := sc_kernel_rows.nd
  refine fnok F sc_kernel_rows (fun vs H Q E h => ?_) (fun cdv A outer s H vs Q E hr h => ?_)
  · obtain ⟨a, cs, rfl, _⟩ := h
    rfl
  · obtain ⟨a, cs, rfl, hS, hl, hc, k⟩ := h
    refine ⟨_, (pss_one (ps_ret (pe_lc (own := [("row", 1)]) (g := gName 1) (by rfl) nd (pi_seq (pe_d D_paired hr (pa_cons (pv 0) pa_nil))) (blkOk_by (own := [("row", 1)]) (N := ["columns", "row"]) (sc := defScope s_kernel_rows) (by decide +kernel)) (fun _ _ _ _ _ => (pg_name (i := 1) nd rfl (Or.inl rfl))) (fun _ _ _ _ _ => (pts_one (pt_cmpR op_le (pe_bits (pv 1)) (pe_callB call_lenQ (by rfl) T.len PySem.boot_len (pa_cons (pv 0) pa_nil)) (nomark _)))) (fun _ _ _ _ _ => (pv 1))))), ?_⟩
    refine ⟨_, rfl, a, cs, rfl, hS, hl, hc, fun H1 p s1 hp h1 => ?_⟩
    have hlp : (prd cs).length ≤ 1000000 := Nat.le_trans (spn_len _) (by simp [prs]; exact hl)
    refine lc_pure (prd cs) vN (fun r => decide (blen r ≤ cs.length)) vN (.inl h1) hlp (fun n H' hn s => ?_) (fun D H2 hD s2 h2 => ?_)
    · intro Z Nx z1 z2
      refine ⟨rfl, _, rfl, _, rfl, _, rfl, a, _, rfl, (same_tq (s1.trans s) hS), _, _, rfl, rfl, _, rfl, ?_⟩
      rw [blen_bits, List.length_map, dec_le]
      exact br (fun e => ⟨_, rfl, z1 e _ (Same.refl _)⟩) (fun e => z2 e _ (Same.refl _))
    · exact k _ _ (s1.trans s2) (same_free s1 hD) h2
theorem ok_met (F : FnP K "met" "met" s_met f fd) (D_spanned : Dn P w K mg base 3 "spanned" ["words"] sp_spanned) : FnOk P w K mg base CX0 4 f fd ["bits", "rows", "others"] sp_met := by
  have nd := sc_met.nd
  refine fnok F sc_met (fun vs H Q E h => ?_) (fun cdv A outer s H vs Q E hr h => ?_)
  · obtain ⟨b, a, c, rs, os, rfl, _⟩ := h
    rfl
  · obtain ⟨b, a, c, rs, os, rfl, hA, hC, hb, hl1, hl2, hr1, hr2, k⟩ := h
    refine ⟨_, (pss_cons (ps_set (i := 3) nd rfl (Or.inl rfl) (pe_op op_cat (pe_lc (own := [("row", 4)]) (g := gName 4) (by rfl) nd (pi_seq (pv 1)) (blkOk_by (own := [("row", 4)]) (N := ["bits", "rows", "others", "both", "row"]) (sc := defScope s_met) (by decide +kernel)) (fun _ _ _ _ _ => (pg_name (i := 4) nd rfl (Or.inl rfl))) (fun _ _ _ _ _ => pts_nil) (fun _ _ _ _ _ => (pe_op on_add (pe_op on_shl (pv 4) (pv 0)) (pv 4)))) (pe_lc (own := [("row", 4)]) (g := gName 4) (by rfl) nd (pi_seq (pv 2)) (blkOk_by (own := [("row", 4)]) (N := ["bits", "rows", "others", "both", "row"]) (sc := defScope s_met) (by decide +kernel)) (fun _ _ _ _ _ => (pg_name (i := 4) nd rfl (Or.inl rfl))) (fun _ _ _ _ _ => pts_nil) (fun _ _ _ _ _ => (pe_op on_shl (pv 4) (pv 0))))))
  (pss_one (ps_ret (pe_lc (own := [("row", 4)]) (g := gName 4) (by rfl) nd (pi_seq (pe_d D_spanned hr (pa_cons (pv 3) pa_nil))) (blkOk_by (own := [("row", 4)]) (N := ["bits", "rows", "others", "both", "row"]) (sc := defScope s_met) (by decide +kernel)) (fun _ _ _ _ _ => (pg_name (i := 4) nd rfl (Or.inl rfl))) (fun _ _ _ _ _ => (pts_one (pt_cmpR op_le (pe_bits (pv 4)) (pv 0) (nomark _)))) (fun _ _ _ _ _ => (pv 4)))))), ?_⟩
    refine ⟨_, rfl, lc_pure rs vN (fun _ => true) (fun r => vN ((r <<< b) + r)) hA (by omega) (fun n H' hn s => ?_) (fun D1 H1 hD1 s1 h1 => ?_)⟩
    · intro Z Nx z1 z2
      exact ⟨rfl, _, rfl, _, rfl, _, _, rfl, rfl, shl_ok1 (hr1 n hn) hb, _, rfl, _, _, rfl, rfl, z1 rfl _ (Same.refl _)⟩
    · rw [filt_true] at h1
      refine ⟨_, rfl, lc_pure os vN (fun _ => true) (fun r => vN (r <<< b)) (same_tq s1 hC) (by omega) (fun n H' hn s => ?_) (fun D2 H2 hD2 s2 h2 => ?_)⟩
      · intro Z Nx z1 z2
        exact ⟨rfl, _, rfl, _, rfl, _, _, rfl, rfl, shl_ok1 (hr2 n hn) hb, z1 rfl _ (Same.refl _)⟩
      · rw [filt_true] at h2
        refine ⟨_, _, _, _, rfl, rfl, s2 _ _ h1, h2, (by rw [List.length_map, List.length_map, sizeLine_eq]; omega), fun q hq => ?_⟩
        have s3 := same_new (o := .lst (rs.map (fun r => vN ((r <<< b) + r)) ++ os.map (fun r => vN (r <<< b)))) (s1.trans s2) hq
        refine ⟨_, rfl, q, mts b rs os, rfl, .inl ?_, (by simp [mts]; omega), fun H3 p s4 hp h3 => ?_⟩
        · rw [upd_same]
          simp [mts]
          rfl
        · have hlp : (spn (mts b rs os)).length ≤ 1000000 := Nat.le_trans (spn_len _) (by simp [mts]; omega)
          refine lc_pure (spn (mts b rs os)) vN (fun r => decide (blen r ≤ b)) vN (.inl h3) hlp (fun n H' hn s => ?_) (fun D H4 hD s5 h4 => ?_)
          · intro Z Nx z1 z2
            refine ⟨rfl, _, rfl, _, rfl, _, rfl, _, _, rfl, rfl, _, rfl, ?_⟩
            rw [blen_bits, dec_le]
            exact br (fun e => ⟨_, rfl, z1 e _ (Same.refl _)⟩) (fun e => z2 e _ (Same.refl _))
          · exact k _ _ ((s3.trans s4).trans s5) (same_free (s3.trans s4) hD) h4
end
end LaneX
set_option Elab.async false
set_option linter.all false
set_option maxRecDepth 100000
set_option maxHeartbeats 4000000
namespace LaneX
open PySem PySem.Spec PyProof.Rows L2
/-! ### objects -/
structure ObjT (K : PySem.W.Frag) (C : Addr) : Prop where
  cl : Cls K C
  ha : PySem.W.findIn K (.ref C) "__class__" = some (some (.builtin "object.__class__"))
  hn : PySem.W.specialIn K (.builtin "object.__class__") "__get__" = some (some (.builtin "getset_descriptor.__get__"))
  htk : PySem.W.takesIn K (.builtin "object.__class__") = some true
  hm : PySem.W.mroIn K C (.type "object") = some true
  me : PySem.W.kitOne K (.ref C) (.ref C) = some true
theorem ObjT.ty {K : PySem.W.Frag} {C : Addr} (T : ObjT K C) {H : Hp} {a dx : Addr} {fs : List (Str × V)} (e : H a = some (.ins C dx fs)) : TyX K H (.ref a) (.ref C) := .base (.ins e T.cl T.ha T.hn T.htk T.hm)
structure SpaceT (K : PySem.W.Frag) (mg : Str → Option Value) (C : Addr) : Prop extends ObjT K C where
  gl : mg "Space" = some (.ref C)
  nb : NoAttr K C "bits"
  nr : NoAttr K C "rows"
  nd : NoAttr K C "dimension"
structure SpreadT (K : PySem.W.Frag) (mg : Str → Option Value) (C : Addr) : Prop extends ObjT K C where
  gl : mg "Spread" = some (.ref C)
  nb : NoAttr K C "bits"
  ns : NoAttr K C "slots"
  nl : NoAttr K C "lanes"
def spf (b : Nat) (t : Addr) (d : Nat) : List (Str × V) := [("bits", vN b), ("rows", .ref t), ("dimension", vN d)]
def srf (b : Nat) (s l : Addr) : List (Str × V) := [("bits", vN b), ("slots", .ref s), ("lanes", .ref l)]
theorem spf_b (b : Nat) (t : Addr) (d : Nat) : (spf b t d).lookup ("bits" : Str) = some (vN b) := rfl
theorem spf_r (b : Nat) (t : Addr) (d : Nat) : (spf b t d).lookup ("rows" : Str) = some (.ref t) := rfl
theorem spf_d (b : Nat) (t : Addr) (d : Nat) : (spf b t d).lookup ("dimension" : Str) = some (vN d) := rfl
theorem srf_b (b : Nat) (t d : Addr) : (srf b t d).lookup ("bits" : Str) = some (vN b) := rfl
theorem srf_s (b : Nat) (t d : Addr) : (srf b t d).lookup ("slots" : Str) = some (.ref t) := rfl
theorem srf_l (b : Nat) (t d : Addr) : (srf b t d).lookup ("lanes" : Str) = some (.ref d) := rfl
theorem spf_p (b : Nat) (t : Addr) (d : Nat) : putF "dimension" (vN d) (putF "rows" (.ref t) (putF "bits" (vN b) [])) = spf b t d := rfl
theorem srf_p (b : Nat) (t d : Addr) : putF "lanes" (.ref d) (putF "slots" (.ref t) (putF "bits" (vN b) [])) = srf b t d := rfl
def SpaceAt (C : Addr) (H : Hp) (p : Addr) (b : Nat) (rows : List Nat) : Prop := ∃ dx t, H p = some (.ins C dx (spf b t rows.length)) ∧ H t = some (.tup (rows.map vN))
def SpreadAt (C : Addr) (H : Hp) (p : Addr) (b : Nat) (ss ls : List Nat) : Prop := ∃ dx s l, H p = some (.ins C dx (srf b s l)) ∧ H s = some (.tup (ss.map vN)) ∧ H l = some (.tup (ls.map vN))
theorem SpaceAt.same {C : Addr} {H H' : Hp} {p : Addr} {b : Nat} {rows : List Nat} (h : SpaceAt C H p b rows) (s : Same H H') : SpaceAt C H' p b rows := by
  obtain ⟨dx, t, h1, h2⟩ := h
  exact ⟨dx, t, s _ _ h1, s _ _ h2⟩
theorem SpaceAt.kp {C : Addr} {H H' : Hp} {p : Addr} {b : Nat} {rows : List Nat} (h : SpaceAt C H p b rows) (s : Kp H H') : SpaceAt C H' p b rows := by
  obtain ⟨dx, t, h1, h2⟩ := h
  exact ⟨dx, t, s _ _ h1 rfl, s _ _ h2 rfl⟩
theorem SpreadAt.same {C : Addr} {H H' : Hp} {p : Addr} {b : Nat} {ss ls : List Nat} (h : SpreadAt C H p b ss ls) (s : Same H H') : SpreadAt C H' p b ss ls := by
  obtain ⟨dx, a, l, h1, h2, h3⟩ := h
  exact ⟨dx, a, l, s _ _ h1, s _ _ h2, s _ _ h3⟩
theorem SpreadAt.kp {C : Addr} {H H' : Hp} {p : Addr} {b : Nat} {ss ls : List Nat} (h : SpreadAt C H p b ss ls) (s : Kp H H') : SpreadAt C H' p b ss ls := by
  obtain ⟨dx, a, l, h1, h2, h3⟩ := h
  exact ⟨dx, a, l, s _ _ h1 rfl, s _ _ h2 rfl, s _ _ h3 rfl⟩

/-- a new instance, filled -/
theorem made_same {H H1 : Hp} {x dx C : Addr} (nx : H x = none) (nd : H dx = none) (k : ∀ b o, (upd (upd H dx (.own x)) x (.ins C dx [])) b = some o → b ≠ x → H1 b = some o) : Same H H1 := Same.made nx nd k
def sp_Space (C : Addr) : Sp := fun vs H Q _ => ∃ (p dx : Addr) (b : Nat) (a : Addr) (ws : List Nat), vs = [.ref p, vN b, .ref a] ∧ H p = some (.ins C dx []) ∧ Tq H a (ws.map vN) ∧ (∀ x ∈ ws, blen x ≤ b) ∧ ws.length ≤ 1000000 ∧
  ∀ H', SpaceAt C H' p b (spn ws) → (∀ c o, H c = some o → c ≠ p → H' c = some o) → Q .non H'
def sp_Spread (C : Addr) : Sp := fun vs H Q _ => ∃ (p dx : Addr) (b : Nat) (a c : Addr) (ss ls : List Nat), vs = [.ref p, vN b, .ref a, .ref c] ∧ H p = some (.ins C dx []) ∧ Tq H a (ss.map vN) ∧ Tq H c (ls.map vN) ∧ (∀ x ∈ ss, blen x ≤ b) ∧ (∀ x ∈ ls, blen x ≤ b) ∧
  ss.length ≤ 400000 ∧ ls.length ≤ 400000 ∧ b ≤ rk (ss ++ ls) ∧ ∀ H', SpreadAt C H' p b ss ls → (∀ c o, H c = some o → c ≠ p → H' c = some o) → Q .non H'
def sp_need_space (C : Addr) : Sp := fun vs H Q _ => ∃ (p : Addr) (b : Nat) (rows : List Nat), vs = [.ref p, vN b] ∧ SpaceAt C H p b rows ∧ Q .non H
def sp_any_spread (C : Addr) : Sp := fun vs H Q _ => ∃ (p : Addr) (b : Nat) (ss ls : List Nat), vs = [.ref p] ∧ SpreadAt C H p b ss ls ∧ Q .non H
theorem upd_put {H : Hp} {p a : Addr} {o u : HO} (h : H a = some u) (n : a ≠ p) : upd H p o a = some u := (upd_ne n).trans h
section
variable {P : Program} {w : World} {K : PySem.W.Frag} {mg : Str → Option Value} {base : Heap} {f : Addr} {fd : FuncData} {CS CR : Addr} (T : Bt mg) (TS : SpaceT K mg CS) (TR : SpreadT K mg CR)
include T
include TS in
theorem ok_Space (F : FnP K "__init__" "Space.__init__" s_Space_init f fd) (D_need_whole : Dn P w K mg base 2 "need_whole" ["value"] sp_need_whole) (D_need_words : Dn P w K mg base 3 "need_words" ["values", "bits"] sp_need_words) (D_spanned : Dn P w K mg base 3 "spanned" ["words"] sp_spanned) :
    FnOk P w K mg base CX0 4 f fd ["self", "bits", "words"] (sp_Space CS) := by
  have nd := sc_Space_init.nd
  refine fnok F sc_Space_init (fun vs H Q E h => ?_) (fun cdv A outer s H vs Q E hr h => ?_)
  · obtain ⟨p, dx, b, a, ws, rfl, _⟩ := h
    rfl
  · obtain ⟨p, dx, b, a, ws, rfl, hp, hS, hb, hl, k⟩ := h
    refine ⟨_, (pss_cons (ps_expr (pe_d D_need_whole hr (pa_cons (pv 1) pa_nil)))
  (pss_cons (ps_fld (pv 0) (pv 1) rfl)
  (pss_cons (ps_fld (pv 0) (pe_callTy call_tupleQ (by rfl) T.tuple (by decide +kernel) (pa_cons (pe_d D_spanned hr (pa_cons (pe_d D_need_words hr (pa_cons (pv 2) (pa_cons (pv 1) pa_nil))) pa_nil)) pa_nil)) rfl)
  (pss_one (ps_fld (pv 0) (pe_callB call_lenQ (by rfl) T.len PySem.boot_len (pa_cons (pe_fld (pv 0) rfl) pa_nil)) rfl))))), ?_⟩
    have nap : a ≠ p := by
      rcases hS with h | h
      · exact ne_of h hp (by intro z; cases z)
      · exact ne_of h hp (by intro z; cases z)
    have hS1 : Tq (upd H p (.ins CS dx (putF "bits" (vN b) []))) a (ws.map vN) := hS.elim (fun h => .inl (upd_put h nap)) fun h => .inr (upd_put h nap)
    refine ⟨_, rfl, b, rfl, _, rfl, _, rfl, p, CS, dx, [], rfl, hp, TS.cl, TS.nb, (by decide), ?_⟩
    refine ⟨_, rfl, _, rfl, a, ws, b, rfl, hS1, hb, fun H1 q1 s1 hq1 h1 => ?_⟩
    refine ⟨q1, ws, rfl, .inl h1, hl, fun H2 q2 s2 hq2 h2 => ?_⟩
    refine ⟨q2, _, rfl, h2, fun t ht => ?_⟩
    have hpt : p ≠ t := ne_of_none (s2 _ _ (s1 _ _ upd_same)) ht
    have hp3 : upd H2 t (.tup ((spn ws).map vN)) p = some (.ins CS dx (putF "bits" (vN b) [])) := upd_put (s2 _ _ (s1 _ _ upd_same)) hpt
    refine ⟨_, rfl, p, CS, dx, _, rfl, hp3, TS.cl, TS.nr, (by show 1 < 1000; decide), ?_⟩
    refine ⟨_, rfl, p, CS, dx, _, .ref t, rfl, upd_same, TS.cl, TS.nr, rfl, t, _, rfl, .inr (upd_put upd_same hpt.symm), ?_⟩
    refine ⟨_, rfl, p, CS, dx, _, rfl, upd_same, TS.cl, TS.nd, (by show 2 < 1000; decide), ?_⟩
    refine k _ ⟨dx, t, ?_, upd_put (upd_put upd_same hpt.symm) hpt.symm⟩ fun c o hc hcp => ?_
    · rw [upd_same, List.length_map]
      rfl
    · have e1 : upd H p (.ins CS dx (putF "bits" (vN b) [])) c = some o := upd_put hc hcp
      have e2 := s2 _ _ (s1 _ _ e1)
      exact upd_put (upd_put (upd_put e2 (ne_of_none e2 ht)) hcp) hcp
include TR in
theorem ok_Spread (F : FnP K "__init__" "Spread.__init__" s_Spread_init f fd) (D_need_whole : Dn P w K mg base 2 "need_whole" ["value"] sp_need_whole) (D_need_words : Dn P w K mg base 3 "need_words" ["values", "bits"] sp_need_words) (D_spanned : Dn P w K mg base 3 "spanned" ["words"] sp_spanned) :
    FnOk P w K mg base CX0 4 f fd ["self", "bits", "slots", "lanes"] (sp_Spread CR) := by
  have nd := sc_Spread_init.nd
  refine fnok F sc_Spread_init (fun vs H Q E h => ?_) (fun cdv A outer s H vs Q E hr h => ?_)
  · obtain ⟨p, dx, b, a, c, ss, ls, rfl, _⟩ := h
    rfl
  · obtain ⟨p, dx, b, a, c, ss, ls, rfl, hp, hS, hL, hb1, hb2, hl1, hl2, hk, k⟩ := h
    refine ⟨_, (pss_cons (ps_expr (pe_d D_need_whole hr (pa_cons (pv 1) pa_nil)))
  (pss_cons (ps_fld (pv 0) (pv 1) rfl)
  (pss_cons (ps_fld (pv 0) (pe_callTy call_tupleQ (by rfl) T.tuple (by decide +kernel) (pa_cons (pe_d D_need_words hr (pa_cons (pv 2) (pa_cons (pv 1) pa_nil))) pa_nil)) rfl)
  (pss_cons (ps_fld (pv 0) (pe_callTy call_tupleQ (by rfl) T.tuple (by decide +kernel) (pa_cons (pe_d D_need_words hr (pa_cons (pv 3) (pa_cons (pv 1) pa_nil))) pa_nil)) rfl)
  (pss_cons (ps_set (i := 4) nd rfl (Or.inl rfl) (pe_d D_spanned hr (pa_cons (pe_op op_cat (pe_callTy call_listQ (by rfl) T.list (by decide +kernel) (pa_cons (pe_fld (pv 0) rfl) pa_nil)) (pe_callTy call_listQ (by rfl) T.list (by decide +kernel) (pa_cons (pe_fld (pv 0) rfl) pa_nil))) pa_nil)))
  (pss_one (ps_if (pt_cmpR op_lt (pe_callB call_lenQ (by rfl) T.len PySem.boot_len (pa_cons (pv 4) pa_nil)) (pv 1) (nomark _))
    (pss_one ps_never)
    pss_nil))))))), ?_⟩
    have tqp : ∀ {H0 : Hp} {o : HO} {d : Addr} {fs : List (Str × V)} {e : Addr} {xs : List V}, Tq H0 e xs → H0 p = some (.ins CR d fs) → Tq (upd H0 p o) e xs := fun {H0 o d fs e xs} h hp => by
      rcases h with h | h
      · exact .inl (upd_put h (ne_of h hp (by intro z; cases z)))
      · exact .inr (upd_put h (ne_of h hp (by intro z; cases z)))
    refine ⟨_, rfl, b, rfl, _, rfl, _, rfl, p, CR, dx, [], rfl, hp, TR.cl, TR.nb, (by decide), ?_⟩
    refine ⟨_, rfl, _, rfl, a, ss, b, rfl, tqp hS hp, hb1, fun H1 q1 s1 hq1 h1 => ?_⟩
    refine ⟨q1, _, rfl, h1, fun t ht => ?_⟩
    have hpt : p ≠ t := ne_of_none (s1 _ _ upd_same) ht
    have hp1 : upd H1 t (.tup (ss.map vN)) p = some (.ins CR dx (putF "bits" (vN b) [])) := upd_put (s1 _ _ upd_same) hpt
    refine ⟨_, rfl, p, CR, dx, _, rfl, hp1, TR.cl, TR.ns, (by show 1 < 1000; decide), ?_⟩
    refine ⟨_, rfl, _, rfl, c, ls, b, rfl, tqp (same_tq (same_new s1 ht) (tqp hL hp)) hp1, hb2, fun H2 q2 s2 hq2 h2 => ?_⟩
    refine ⟨q2, _, rfl, h2, fun u hu => ?_⟩
    have hpu : p ≠ u := ne_of_none (s2 _ _ upd_same) hu
    have htu : t ≠ u := ne_of_none (s2 _ _ (upd_put upd_same hpt.symm)) hu
    have hp2 : upd H2 u (.tup (ls.map vN)) p = some (.ins CR dx (putF "slots" (.ref t) (putF "bits" (vN b) []))) := upd_put (s2 _ _ upd_same) hpu
    refine ⟨_, rfl, p, CR, dx, _, rfl, hp2, TR.cl, TR.nl, (by show 2 < 1000; decide), ?_⟩
    have ht3 : upd (upd H2 u (.tup (ls.map vN))) p (.ins CR dx (srf b t u)) t = some (.tup (ss.map vN)) := upd_put (upd_put (s2 _ _ (upd_put upd_same hpt.symm)) htu) hpt.symm
    have hu3 : upd (upd H2 u (.tup (ls.map vN))) p (.ins CR dx (srf b t u)) u = some (.tup (ls.map vN)) := upd_put upd_same hpu.symm
    have fin : ∀ cc o, H cc = some o → cc ≠ p → upd (upd H2 u (.tup (ls.map vN))) p (.ins CR dx (srf b t u)) cc = some o := fun cc o hc hcp => by
      have e1 : upd H p (.ins CR dx (putF "bits" (vN b) [])) cc = some o := upd_put hc hcp
      have e2 := s1 _ _ e1
      have e3 : upd (upd H1 t (.tup (ss.map vN))) p (.ins CR dx (putF "slots" (.ref t) (putF "bits" (vN b) []))) cc = some o := upd_put (upd_put e2 (ne_of_none e2 ht)) hcp
      have e4 := s2 _ _ e3
      exact upd_put (upd_put e4 (ne_of_none e4 hu)) hcp
    refine ⟨_, rfl, p, CR, dx, srf b t u, .ref t, rfl, upd_same, TR.cl, TR.ns, rfl, t, _, rfl, .inr ht3, fun l1 hl1' => ?_⟩
    refine ⟨_, rfl, p, CR, dx, srf b t u, .ref u, rfl, upd_new hl1' upd_same, TR.cl, TR.nl, rfl, u, _, rfl, .inr (upd_new hl1' hu3), fun l2 hl2' => ?_⟩
    refine ⟨l1, l2, _, _, rfl, rfl, upd_new hl2' upd_same, upd_same, (by rw [List.length_map, List.length_map, sizeLine_eq]; omega), fun l3 hl3' => ?_⟩
    refine ⟨l3, ss ++ ls, rfl, .inl (by rw [upd_same, List.map_append]), (by rw [List.length_append]; omega), fun H4 q4 s4 hq4 h4 => ?_⟩
    refine ⟨_, rfl, q4, _, rfl, .inl h4, _, rfl, _, _, rfl, rfl, _, rfl, ?_⟩
    have e : decide ((((spn (ss ++ ls)).map vN).length : Int) < (b : Int)) = false := decide_eq_false (by rw [List.length_map]; have : b ≤ (spn (ss ++ ls)).length := hk; omega)
    rw [e]
    refine iteF ?_
    have sN : Same (upd (upd H2 u (.tup (ls.map vN))) p (.ins CR dx (srf b t u))) H4 := ((same_new (same_new (same_new0 hl1') hl2') hl3').trans s4)
    exact k _ ⟨dx, t, u, sN _ _ upd_same, sN _ _ ht3, sN _ _ hu3⟩ fun cc o hc hcp => sN _ _ (fin cc o hc hcp)
end
end LaneX
set_option Elab.async false
set_option linter.all false
set_option maxRecDepth 100000
set_option maxHeartbeats 4000000
namespace LaneX
open PySem PySem.Spec PyProof.Rows L2
theorem mk_Space {C : Addr} {H1 : Hp} {b : Nat} {a : Addr} {ws : List Nat} {Q : VK} {E : XK} (hS : Tq H1 a (ws.map vN)) (hb : ∀ x ∈ ws, blen x ≤ b) (hl : ws.length ≤ 1000000) (k : ∀ H' p, Same H1 H' → H1 p = none → SpaceAt C H' p b (spn ws) → Q (.ref p) H') :
    ∀ x dx, H1 x = none → H1 dx = none → dx ≠ x → sp_Space C (.ref x :: ([vN b, .ref a] ++ [])) (upd (upd H1 dx (.own x)) x (.ins C dx [])) (fun v H2 => v = .non ∧ Q (.ref x) H2) E := by
  intro x dx nx ndx ne
  have nx' : upd H1 dx (.own x) x = none := (upd_ne ne.symm).trans nx
  refine ⟨x, dx, b, a, ws, rfl, upd_same, (hS.new ndx).new nx', hb, hl, fun H' hA kp => ⟨rfl, k _ _ (made_same nx ndx kp) nx hA⟩⟩
theorem mk_Spread {C : Addr} {H1 : Hp} {b : Nat} {a c : Addr} {ss ls : List Nat} {Q : VK} {E : XK} (hS : Tq H1 a (ss.map vN)) (hL : Tq H1 c (ls.map vN)) (wf : WfR b ss ls) (hk : b ≤ rk (ss ++ ls)) (k : ∀ H' p, Same H1 H' → H1 p = none → SpreadAt C H' p b ss ls → Q (.ref p) H') :
    ∀ x dx, H1 x = none → H1 dx = none → dx ≠ x → sp_Spread C (.ref x :: ([vN b, .ref a, .ref c] ++ [])) (upd (upd H1 dx (.own x)) x (.ins C dx [])) (fun v H2 => v = .non ∧ Q (.ref x) H2) E := by
  intro x dx nx ndx ne
  have nx' : upd H1 dx (.own x) x = none := (upd_ne ne.symm).trans nx
  refine ⟨x, dx, b, a, c, ss, ls, rfl, upd_same, (hS.new ndx).new nx', (hL.new ndx).new nx', wf.s, wf.l, wf.sl, wf.ll, hk, fun H' hA kp => ⟨rfl, k _ _ (made_same nx ndx kp) nx hA⟩⟩
/-- a def that gives a new Space -/
def spNewSpace (C : Addr) (b : Nat) (rows : List Nat) (H : Hp) (Q : VK) : Prop := ∀ H' p, Same H H' → H p = none → SpaceAt C H' p b rows → Q (.ref p) H'
def sp_every (C : Addr) : Sp := fun vs H Q _ => ∃ b : Nat, vs = [vN b] ∧ b ≤ 400000 ∧ spNewSpace C b (spn ((List.range b).map fun i => 1 <<< i)) H Q
def sp_and (C : Addr) : Sp := fun vs H Q _ => ∃ (p q : Addr) (b : Nat) (rs os : List Nat), vs = [.ref p, .ref q] ∧ SpaceAt C H p b rs ∧ SpaceAt C H q b os ∧ WfS b rs ∧ WfS b os ∧ spNewSpace C b (spn (mtd b rs os)) H Q
def sp_completing (C : Addr) : Sp := fun vs H Q _ => ∃ (p q : Addr) (b : Nat) (rs os : List Nat), vs = [.ref p, .ref q] ∧ SpaceAt C H p b rs ∧ SpaceAt C H q b os ∧ WfS b rs ∧ WfS b os ∧ ∀ H' t, Same H H' → H t = none → H' t = some (.tup ((cmpl rs os).map vN)) → Q (.ref t) H'
def sp_slot_space (CS CR : Addr) : Sp := fun vs H Q _ => ∃ (p : Addr) (b : Nat) (ss ls : List Nat), vs = [.ref p] ∧ SpreadAt CR H p b ss ls ∧ WfR b ss ls ∧ spNewSpace CS b (spn ss) H Q
def sp_twins (CS CR : Addr) : Sp := fun vs H Q _ => ∃ (p : Addr) (b : Nat) (ss ls : List Nat), vs = [.ref p] ∧ SpreadAt CR H p b ss ls ∧ WfR b ss ls ∧ spNewSpace CS ls.length (twn ss ls) H Q
def sp_need_pair (CS CR : Addr) : Sp := fun vs H Q _ => ∃ (p q : Addr) (b : Nat) (ss ls rows : List Nat), vs = [.ref p, .ref q] ∧ SpreadAt CR H p b ss ls ∧ SpaceAt CS H q b rows ∧ Q .non H
/-- what a spread and a space ask -/
def spPair (CS CR : Addr) (k : Nat → List Nat → List Nat → List Nat → Hp → VK → Prop) : Sp := fun vs H Q _ => ∃ (p q : Addr) (b : Nat) (ss ls rows : List Nat), vs = [.ref p, .ref q] ∧ SpreadAt CR H p b ss ls ∧ SpaceAt CS H q b rows ∧ WfR b ss ls ∧ WfS b rows ∧ k b ss ls rows H Q
def sp_partner_rows (CS CR : Addr) : Sp := spPair CS CR fun b ss ls rows H Q => ∀ H' t, Same H H' → H t = none → H' t = some (.lst ((prw ss ls rows).map vN)) → Q (.ref t) H'
def sp_partners (CS CR : Addr) : Sp := spPair CS CR fun b ss ls rows H Q => spNewSpace CS ls.length (prt ss ls rows) H Q
def sp_leaders (CS CR : Addr) : Sp := spPair CS CR fun b ss ls rows H Q => ∀ H' t, Same H H' → H t = none → H' t = some (.lst ((ldr ss ls rows).map vN)) → Q (.ref t) H'
def sp_kept_bits (CS CR : Addr) : Sp := spPair CS CR fun b ss ls rows H Q => ∀ H', Same H H' → Q (.int (kpt b ss rows)) H'
def sp_sum_rounds (CS CR : Addr) : Sp := spPair CS CR fun b ss ls rows H Q => ∀ H', Same H H' → Q (vN (smr b ss ls rows)) H'
def sp_sum_steps (CS CR : Addr) : Sp := spPair CS CR fun b ss ls rows H Q => ∀ H' t, Same H H' → H t = none → H' t = some (.tup ((ldr ss ls rows).map vN)) → Q (.ref t) H'
def sp_rounds_for : Sp := fun vs H Q _ => ∃ n m : Nat, vs = [vN n, vN m] ∧ n ≤ 400000 ∧ m ≤ 400000 ∧ Q (vN (rdf n m)) H
theorem dec_ne0 {n : Nat} : (!decide (V.int (n : Int) = V.int 0)) = !decide (n = 0) := by
  rw [show (V.int 0 : V) = V.int ((0 : Nat) : Int) from rfl, dec_nat]
section
variable {P : Program} {w : World} {K : PySem.W.Frag} {mg : Str → Option Value} {base : Heap} {f : Addr} {fd : FuncData} {CS CR : Addr} (T : Bt mg) (TS : SpaceT K mg CS) (TR : SpreadT K mg CR)
include T
include TS in
theorem ok_need_space (F : FnP K "need_space" "need_space" s_need_space f fd) : FnOk P w K mg base CX0 1 f fd ["value", "bits"] (sp_need_space CS) := by
  have nd := sc_need_space.nd
  refine fnok F sc_need_space (fun vs H Q E h => ?_) (fun cdv A outer s H vs Q E hr h => ?_)
  · obtain ⟨p, b, rows, rfl, _⟩ := h
    rfl
  · obtain ⟨p, b, rows, rfl, ⟨dx, t, h1, h2⟩, k⟩ := h
    refine ⟨_, (pss_one (ps_if (PW.pt (pw_or (pt_not (pt_val (pe_callB call_isi (by rfl) T.isinstance (by decide +kernel) (pa_cons (pv 0) (pa_cons (pe_glob (v := .ref CS) (by rfl) TS.gl rfl) pa_nil))))) (pw_or1 (pt_cmpR op_ne (pe_fld (pv 0) rfl) (pv 1) (nomark _)))))
    (pss_one ps_never)
    pss_nil)), ?_⟩
    refine ⟨_, rfl, _, _, _, _, _, rfl, .own _, TS.ty h1, TS.me, _, rfl, iteF ?_⟩
    refine ⟨_, rfl, p, CS, dx, _, vN b, rfl, h1, TS.cl, TS.nb, rfl, _, rfl, rfl, _, rfl, ?_⟩
    rw [show (!decide (vN b = vN b)) = false by simp]
    exact iteF k
include TR in
theorem ok_any_spread (F : FnP K "any_spread" "any_spread" s_any_spread f fd) : FnOk P w K mg base CX0 1 f fd ["value"] (sp_any_spread CR) := by
  have nd := sc_any_spread.nd
  refine fnok F sc_any_spread (fun vs H Q E h => ?_) (fun cdv A outer s H vs Q E hr h => ?_)
  · obtain ⟨p, b, ss, ls, rfl, _⟩ := h
    rfl
  · obtain ⟨p, b, ss, ls, rfl, ⟨dx, t, u, h1, h2, h3⟩, k⟩ := h
    refine ⟨_, (pss_one (ps_if (pt_not (pt_val (pe_callB call_isi (by rfl) T.isinstance (by decide +kernel) (pa_cons (pv 0) (pa_cons (pe_glob (v := .ref CR) (by rfl) TR.gl rfl) pa_nil)))))
    (pss_one ps_never)
    pss_nil)), ?_⟩
    exact ⟨_, rfl, _, _, _, _, _, rfl, .own _, TR.ty h1, TR.me, _, rfl, iteF k⟩
theorem ok_every (F : FnP K "every" "every" s_every f fd) (D_need_whole : Dn P w K mg base 2 "need_whole" ["value"] sp_need_whole) (K_Space : Kn P w K mg base 4 CS "Space" ["self", "bits", "words"] (sp_Space CS)) : FnOk P w K mg base CX0 6 f fd ["bits"] (sp_every CS) := by
  have nd := sc_every.nd
  refine fnok F sc_every (fun vs H Q E h => ?_) (fun cdv A outer s H vs Q E hr h => ?_)
  · obtain ⟨b, rfl, _⟩ := h
    rfl
  · obtain ⟨b, rfl, hb, k⟩ := h
    refine ⟨_, (pss_cons (ps_expr (pe_d D_need_whole hr (pa_cons (pv 0) pa_nil)))
  (pss_one (ps_ret (pe_k K_Space hr (pa_cons (pv 0) (pa_cons (pe_lc (own := [("bit", 1)]) (g := gName 1) (by rfl) nd (pi_range1 (by rfl) T.range (pa_cons (pv 0) pa_nil)) (blkOk_by (own := [("bit", 1)]) (N := ["bits", "bit"]) (sc := defScope s_every) (by decide +kernel)) (fun _ _ _ _ _ => (pg_name (i := 1) nd rfl (Or.inl rfl))) (fun _ _ _ _ _ => pts_nil) (fun _ _ _ _ _ => (pe_op on_shl pe_int (pv 1)))) pa_nil)))))), ?_⟩
    refine ⟨_, rfl, b, rfl, _, rfl, _, rfl, _, rfl, (by omega), (by omega), lc_pureR (n := b) (fun _ => true) (fun i => vN (1 <<< i)) (by omega) (fun i H' hi s => ?_) (fun D H1 hD s1 h1 => ?_)⟩
    · intro Z Nx z1 z2
      exact ⟨rfl, _, rfl, 1, _, rfl, rfl, shl_ok1 (by rw [blen_one]; decide) (by omega), z1 rfl _ (Same.refl _)⟩
    · rw [filt_true] at h1
      refine mk_Space (ws := (List.range b).map fun i => 1 <<< i) (.inl ?_) ?_ (by simp; omega) (fun H' p s2 hp hA => k _ _ (s1.trans s2) (same_free s1 hp) hA)
      · rw [h1]
        simp
      · intro x hx
        obtain ⟨i, hi, rfl⟩ := List.mem_map.mp hx
        rw [blen_le, Nat.one_shiftLeft]
        exact Nat.pow_lt_pow_right (by decide) (List.mem_range.mp hi)
include TS in
theorem ok_and (F : FnP K "__and__" "Space.__and__" s_Space_and f fd) (D_need_space : Dn P w K mg base 1 "need_space" ["value", "bits"] (sp_need_space CS)) (D_met : Dn P w K mg base 4 "met" ["bits", "rows", "others"] sp_met) (K_Space : Kn P w K mg base 4 CS "Space" ["self", "bits", "words"] (sp_Space CS)) :
    FnOk P w K mg base CX0 6 f fd ["self", "other"] (sp_and CS) := by
  have nd := sc_Space_and.nd
  refine fnok F sc_Space_and (fun vs H Q E h => ?_) (fun cdv A outer s H vs Q E hr h => ?_)
  · obtain ⟨p, q, b, rs, os, rfl, _⟩ := h
    rfl
  · obtain ⟨p, q, b, rs, os, rfl, hp, hq, w1, w2, k⟩ := h
    refine ⟨_, (pss_cons (ps_expr (pe_d D_need_space hr (pa_cons (pv 1) (pa_cons (pe_fld (pv 0) rfl) pa_nil))))
  (pss_one (ps_ret (pe_k K_Space hr (pa_cons (pe_fld (pv 0) rfl) (pa_cons (pe_d D_met hr (pa_cons (pe_fld (pv 0) rfl) (pa_cons (pe_fld (pv 0) rfl) (pa_cons (pe_fld (pv 1) rfl) pa_nil)))) pa_nil)))))), ?_⟩
    obtain ⟨dx, t, h1, h2⟩ := hp
    have hq' := hq
    obtain ⟨dy, u, g1, g2⟩ := hq
    refine ⟨_, rfl, _, rfl, p, CS, dx, _, vN b, rfl, h1, TS.cl, TS.nb, rfl, q, b, os, rfl, hq', ?_⟩
    refine ⟨_, rfl, p, CS, dx, _, vN b, rfl, h1, TS.cl, TS.nb, rfl, _, rfl, p, CS, dx, _, vN b, rfl, h1, TS.cl, TS.nb, rfl, _, rfl, p, CS, dx, _, .ref t, rfl, h1, TS.cl, TS.nr, rfl, _, rfl, q, CS, dy, _, .ref u, rfl, g1, TS.cl, TS.nr, rfl, ?_⟩
    have bb := w1.bb
    refine ⟨b, t, u, rs, os, rfl, .inr h2, .inr g2, by omega, w1.len, w2.len, fun r hr => Nat.le_trans (w1.b r hr) (by omega), fun r hr => Nat.le_trans (w2.b r hr) (by omega), fun H1 q1 s1 hq1 h3 => ?_⟩
    exact mk_Space (.inl h3) (mtd_blen _ _ _) (Nat.le_trans ((mtd_rws b rs os).len_le (mtd_blen _ _ _)) (by omega)) (fun H' p s2 hp hA => k _ _ (s1.trans s2) (same_free s1 hp) hA)
end
end LaneX
set_option Elab.async false
set_option linter.all false
set_option maxRecDepth 100000
set_option maxHeartbeats 4000000
namespace LaneX
open PySem PySem.Spec PyProof.Rows L2
section
variable {P : Program} {w : World} {K : PySem.W.Frag} {mg : Str → Option Value} {base : Heap} {f : Addr} {fd : FuncData} {CS CR : Addr} (T : Bt mg) (TS : SpaceT K mg CS) (TR : SpreadT K mg CR)
include T
include TS in
theorem ok_completing (F : FnP K "completing" "Space.completing" s_Space_completing f fd) (D_need_space : Dn P w K mg base 1 "need_space" ["value", "bits"] (sp_need_space CS)) (D_cleared : Dn P w K mg base 1 "cleared" ["rows", "word"] sp_cleared) (D_grown : Dn P w K mg base 2 "grown" ["rows", "word"] sp_grown) :
    FnOk P w K mg base CX0 3 f fd ["self", "other"] (sp_completing CS) := by
  have nd := sc_Space_completing.nd
  refine fnok F sc_Space_completing (fun vs H Q E h => ?_) (fun cdv A outer s H vs Q E hr h => ?_)
  · obtain ⟨p, q, b, rs, os, rfl, _⟩ := h
    rfl
  · obtain ⟨p, q, b, rs, os, rfl, hp, hq, w1, w2, k⟩ := h
    refine ⟨_, (pss_cons (ps_expr (pe_d D_need_space hr (pa_cons (pv 1) (pa_cons (pe_fld (pv 0) rfl) pa_nil))))
  (pss_cons (ps_par (i := 2) (j := 3) (by rfl) nd rfl rfl (by decide) rfl rfl (pa_cons (pe_callTy call_listQ (by rfl) T.list (by decide +kernel) (pa_cons (pe_fld (pv 0) rfl) pa_nil)) (pa_cons (pe_lst pa_nil) pa_nil)) (by rfl))
  (pss_cons (ps_for PassesOwn.never rfl (pi_seq (pe_fld (pv 1) rfl)) (pg_name (i := 4) nd rfl (Or.inl rfl))
    (pss_one (ps_if (pt_cmpR op_ne (pe_d D_cleared hr (pa_cons (pv 2) (pa_cons (pv 4) pa_nil))) pe_int (nomark _))
      (pss_cons (ps_set (i := 2) nd rfl (Or.inl rfl) (pe_d D_grown hr (pa_cons (pv 2) (pa_cons (pv 4) pa_nil))))
      (pss_one (ps_expr (pe_bm PySem.F.plainAttrs_list PySem.F.slot_list_append PySem.F.type_list_append mt_append (pv 3) (pa_cons (pv 4) pa_nil)))))
      pss_nil)))
  (pss_one (ps_ret (pe_callTy call_tupleQ (by rfl) T.tuple (by decide +kernel) (pa_cons (pv 3) pa_nil))))))), ?_⟩
    have l1 := w1.len
    have l2 := w2.len
    obtain ⟨dx, t, h1, h2⟩ := hp
    have hq' := hq
    obtain ⟨dy, u, g1, g2⟩ := hq
    refine ⟨_, rfl, _, rfl, p, CS, dx, _, vN b, rfl, h1, TS.cl, TS.nb, rfl, q, b, os, rfl, hq', ?_⟩
    refine ⟨_, rfl, p, CS, dx, _, .ref t, rfl, h1, TS.cl, TS.nr, rfl, t, _, rfl, .inr h2, fun a0 ha0 => ?_⟩
    refine ⟨(by decide), fun c0 hc0 => ⟨_, _, rfl, ?_⟩⟩
    have na : a0 ≠ c0 := ne_of_none upd_same hc0
    have hc0' : H c0 = none := same_free (same_new0 ha0) hc0
    generalize hHB : upd (upd H a0 (.lst (rs.map vN))) c0 (.lst []) = HB at *
    have s0 : Same H HB := by rw [← hHB]; exact same_new (same_new0 ha0) hc0
    have hB1 : HB a0 = some (.lst (rs.map vN)) := by rw [← hHB]; exact upd_new hc0 upd_same
    have hB2 : HB c0 = some (.lst []) := by rw [← hHB]; exact upd_same
    refine ⟨_, rfl, q, CS, dy, _, .ref u, rfl, s0 _ _ g1, TS.cl, TS.nr, rfl, for_sq2 (K := K) (Tq.t (s0 _ _ g2)) (fun i σ H2 => ∃ v a, σ = [some (.ref p), some (.ref q), some (.ref a), some (.ref c0), v] ∧ (∀ c o, H c = some o → H2 c = some o) ∧ H a = none ∧ a ≠ c0 ∧ H2 a = some (.lst ((cms rs (os.take i)).1.map vN)) ∧ H2 c0 = some (.lst ((cms rs (os.take i)).2.map vN)))
      ⟨none, a0, rfl, s0, ha0, na, hB1, hB2⟩ (fun i σ H2 hp => ?_) ?_ ?_⟩
    · obtain ⟨_, _, _, s2, _⟩ := hp
      exact stay_of g2 s0 s2
    · rintro i y σ H2 hy ⟨v, a, rfl, s2, han, nac, h3, h4⟩
      obtain ⟨r, hr', rfl⟩ := map_get hy
      have R := cms_rws w1.r (os.take i)
      have L := cms_len rs (os.take i)
      have tl : (os.take i).length ≤ 400000 := Nat.le_trans (by rw [List.length_take]; omega) l2
      refine ⟨_, rfl, _, rfl, a, _, r, rfl, .inl h3, R.nz, rfl, _, rfl, ?_⟩
      rw [dec_ne0, take_succ hr', cms_snoc]
      refine br (fun e => ?_) (fun e => ?_)
      · have e0 : clr (cms rs (os.take i)).1 r ≠ 0 := by simpa using e
        rw [if_neg e0]
        refine ⟨_, rfl, _, rfl, a, _, r, rfl, .inl h3, R.nz, (by omega), fun H3 a1 s3 ha1 h5 => ?_⟩
        have na1 : a1 ≠ c0 := (ne_of_none h4 ha1).symm
        refine ⟨_, rfl, .inl ⟨rfl, _, SqL.of (s3 _ _ h4)⟩, _, rfl, c0, _, _, rfl, rfl, s3 _ _ h4, (by rw [List.length_map]; exact size6 (by omega)), ?_⟩
        refine ⟨_, a1, rfl, fun c o hc => upd_put (s3 _ _ (s2 _ _ hc)) (ne_of_none hc hc0'), ?_, na1, upd_put h5 na1, ?_⟩
        · cases z : H a1 with
          | none => rfl
          | some o => rw [s2 _ _ z] at ha1; cases ha1
        · rw [upd_same, List.map_append]
          rfl
      · have e0 : clr (cms rs (os.take i)).1 r = 0 := by simpa using e
        rw [if_pos e0]
        exact ⟨_, a, rfl, s2, han, nac, h3, h4⟩
    · rintro σ H2 ⟨v, a, rfl, s2, han, nac, h3, h4⟩
      rw [List.length_map, List.take_length] at h4
      refine ⟨_, rfl, c0, _, rfl, h4, fun t' ht' => ?_⟩
      refine k _ _ (same_new s2 ht') ?_ upd_same
      cases z : H t' with
      | none => rfl
      | some o => rw [s2 _ _ z] at ht'; cases ht'
include TR in
theorem ok_slot_space (F : FnP K "slot_space" "Spread.slot_space" s_Spread_slot_space f fd) (K_Space : Kn P w K mg base 4 CS "Space" ["self", "bits", "words"] (sp_Space CS)) : FnOk P w K mg base CX0 6 f fd ["self"] (sp_slot_space CS CR) := by
  have nd := sc_Spread_slot_space.nd
  refine fnok F sc_Spread_slot_space (fun vs H Q E h => ?_) (fun cdv A outer s H vs Q E hr h => ?_)
  · obtain ⟨p, b, ss, ls, rfl, _⟩ := h
    rfl
  · obtain ⟨p, b, ss, ls, rfl, ⟨dx, t, u, h1, h2, h3⟩, wf, k⟩ := h
    refine ⟨_, (pss_one (ps_ret (pe_k K_Space hr (pa_cons (pe_fld (pv 0) rfl) (pa_cons (pe_fld (pv 0) rfl) pa_nil))))), ?_⟩
    refine ⟨_, rfl, p, CR, dx, _, vN b, rfl, h1, TR.cl, TR.nb, rfl, _, rfl, p, CR, dx, _, .ref t, rfl, h1, TR.cl, TR.ns, rfl, ?_⟩
    have := wf.sl
    exact mk_Space (.inr h2) wf.s (by omega) (fun H' p s2 hp hA => k _ _ s2 hp hA)
include TR in
theorem ok_twins (F : FnP K "twins" "Spread.twins" s_Spread_twins f fd) (D_spanned : Dn P w K mg base 3 "spanned" ["words"] sp_spanned) (D_cleared : Dn P w K mg base 1 "cleared" ["rows", "word"] sp_cleared) (D_kernel_rows : Dn P w K mg base 5 "kernel_rows" ["columns"] sp_kernel_rows)
    (K_Space : Kn P w K mg base 4 CS "Space" ["self", "bits", "words"] (sp_Space CS)) : FnOk P w K mg base CX0 6 f fd ["self"] (sp_twins CS CR) := by
  have nd := sc_Spread_twins.nd
  refine fnok F sc_Spread_twins (fun vs H Q E h => ?_) (fun cdv A outer s H vs Q E hr h => ?_)
  · obtain ⟨p, b, ss, ls, rfl, _⟩ := h
    rfl
  · obtain ⟨p, b, ss, ls, rfl, ⟨dx, t, u, h1, h2, h3⟩, wf, k⟩ := h
    obtain ⟨bb, ws, wl, wsl, wll⟩ := id wf
    refine ⟨_, (pss_cons (ps_set (i := 1) nd rfl (Or.inr rfl) (pe_d D_spanned hr (pa_cons (pe_fld (pv 0) rfl) pa_nil)))
  (pss_one (ps_ret (pe_k K_Space hr (pa_cons (pe_callB call_lenQ (by rfl) T.len PySem.boot_len (pa_cons (pe_fld (pv 0) rfl) pa_nil)) (pa_cons (pe_d D_kernel_rows hr (pa_cons (pe_lc (own := [("word", 2)]) (g := gName 2) (by rfl) nd (pi_seq (pe_fld (pv 0) rfl)) (blkOk_by (own := [("word", 2)]) (N := ["self", "rows", "word"]) (sc := defScope s_Spread_twins) (by decide +kernel)) (fun _ _ _ _ _ => (pg_name (i := 2) nd rfl (Or.inl rfl))) (fun _ _ _ _ _ => pts_nil) (fun _ _ _ _ _ => (pe_d D_cleared hr (pa_cons (pv 1) (pa_cons (pv 2) pa_nil))))) pa_nil)) pa_nil)))))), ?_⟩
    refine ⟨_, rfl, p, CR, dx, _, .ref t, rfl, h1, TR.cl, TR.ns, rfl, t, ss, rfl, .inr h2, (by omega), fun H1 q1 s1 hq1 g1 => ?_⟩
    refine ⟨_, rfl, p, CR, dx, _, .ref u, rfl, s1 _ _ h1, TR.cl, TR.nl, rfl, u, _, rfl, .inr (s1 _ _ h3), ?_⟩
    refine ⟨_, rfl, p, CR, dx, _, .ref u, rfl, s1 _ _ h1, TR.cl, TR.nl, rfl, lc_pure ls vN (fun _ => true) (fun x => vN (clr (spn ss) x)) (.inr (s1 _ _ h3)) (by omega) (fun n H' hn s => ?_) (fun D H2 hD s2 g2 => ?_)⟩
    · intro Z Nx z1 z2
      exact ⟨rfl, _, rfl, _, rfl, q1, _, n, rfl, .inl (s _ _ g1), (spn_rws ss).nz, z1 rfl _ (Same.refl _)⟩
    · rw [filt_true] at g2
      refine ⟨D, ls.map (clr (spn ss)), rfl, .inl (by rw [g2, List.map_map]; rfl), (by rw [List.length_map]; omega), ?_, fun H3 q3 s3 hq3 g3 => ?_⟩
      · intro c hc
        obtain ⟨x, hx, rfl⟩ := List.mem_map.mp hc
        exact Nat.le_trans (clr_blen (spn_blen ws) (wl x hx)) (by omega)
      · rw [List.length_map]
        refine mk_Space (.inl g3) (fun x hx => ?_) ?_ (fun H' p s4 hp hA => k _ _ ((s1.trans s2).trans (s3.trans s4)) (same_free ((s1.trans s2).trans s3) hp) hA)
        · have := ker_blen _ x hx
          simpa using this
        · have := ker_len (ls.map (clr (spn ss)))
          rw [List.length_map] at this
          omega
end
end LaneX
set_option Elab.async false
set_option linter.all false
set_option maxRecDepth 100000
set_option maxHeartbeats 4000000
namespace LaneX
open PySem PySem.Spec PyProof.Rows L2
theorem ldr_len {b : Nat} {ss ls : List Nat} (wf : WfR b ss ls) (rows : List Nat) : (ldr ss ls rows).length ≤ 400000 :=
  Nat.le_trans (cms_len (twn ss ls) (prt ss ls rows)).2 (prt_wf wf rows).len
section
variable {P : Program} {w : World} {K : PySem.W.Frag} {mg : Str → Option Value} {base : Heap} {f : Addr} {fd : FuncData} {CS CR : Addr} (T : Bt mg) (TS : SpaceT K mg CS) (TR : SpreadT K mg CR)
include T
include TR in
theorem ok_need_pair (F : FnP K "need_pair" "need_pair" s_need_pair f fd) (D_any_spread : Dn P w K mg base 1 "any_spread" ["value"] (sp_any_spread CR)) (D_need_space : Dn P w K mg base 1 "need_space" ["value", "bits"] (sp_need_space CS)) : FnOk P w K mg base CX0 2 f fd ["spread", "space"] (sp_need_pair CS CR) := by
  have nd := sc_need_pair.nd
  refine fnok F sc_need_pair (fun vs H Q E h => ?_) (fun cdv A outer s H vs Q E hr h => ?_)
  · obtain ⟨p, q, b, ss, ls, rows, rfl, _⟩ := h
    rfl
  · obtain ⟨p, q, b, ss, ls, rows, rfl, hp, hq, k⟩ := h
    refine ⟨_, (pss_cons (ps_expr (pe_d D_any_spread hr (pa_cons (pv 0) pa_nil)))
  (pss_one (ps_expr (pe_d D_need_space hr (pa_cons (pv 1) (pa_cons (pe_fld (pv 0) rfl) pa_nil)))))), ?_⟩
    have hp' := hp
    obtain ⟨dx, t, u, h1, h2, h3⟩ := hp'
    exact ⟨_, rfl, p, b, ss, ls, rfl, hp, _, rfl, _, rfl, p, CR, dx, _, vN b, rfl, h1, TR.cl, TR.nb, rfl, q, b, rows, rfl, hq, k⟩
include TS TR in
theorem ok_partner_rows (F : FnP K "partner_rows" "partner_rows" s_partner_rows f fd) (D_spanned : Dn P w K mg base 3 "spanned" ["words"] sp_spanned) (D_cleared : Dn P w K mg base 1 "cleared" ["rows", "word"] sp_cleared) (D_kernel_rows : Dn P w K mg base 5 "kernel_rows" ["columns"] sp_kernel_rows) :
    FnOk P w K mg base CX0 6 f fd ["spread", "space"] (sp_partner_rows CS CR) := by
  have nd := sc_partner_rows.nd
  refine fnok F sc_partner_rows (fun vs H Q E h => ?_) (fun cdv A outer s H vs Q E hr h => ?_)
  · obtain ⟨p, q, b, ss, ls, rows, rfl, _⟩ := h
    rfl
  · obtain ⟨p, q, b, ss, ls, rows, rfl, ⟨dx, t, u, h1, h2, h3⟩, ⟨dy, z, g1, g2⟩, wf, wfs, k⟩ := h
    obtain ⟨bb, ws, wl, wsl, wll⟩ := id wf
    have wrl := wfs.len
    refine ⟨_, (pss_cons (ps_set (i := 2) nd rfl (Or.inr rfl) (pe_d D_spanned hr (pa_cons (pe_op op_cat (pe_callTy call_listQ (by rfl) T.list (by decide +kernel) (pa_cons (pe_fld (pv 0) rfl) pa_nil)) (pe_callTy call_listQ (by rfl) T.list (by decide +kernel) (pa_cons (pe_fld (pv 1) rfl) pa_nil))) pa_nil)))
  (pss_one (ps_ret (pe_d D_kernel_rows hr (pa_cons (pe_lc (own := [("word", 3)]) (g := gName 3) (by rfl) nd (pi_seq (pe_fld (pv 0) rfl)) (blkOk_by (own := [("word", 3)]) (N := ["spread", "space", "rows", "word"]) (sc := defScope s_partner_rows) (by decide +kernel)) (fun _ _ _ _ _ => (pg_name (i := 3) nd rfl (Or.inl rfl))) (fun _ _ _ _ _ => pts_nil) (fun _ _ _ _ _ => (pe_d D_cleared hr (pa_cons (pv 2) (pa_cons (pv 3) pa_nil))))) pa_nil))))), ?_⟩
    refine ⟨_, rfl, p, CR, dx, _, .ref t, rfl, h1, TR.cl, TR.ns, rfl, t, _, rfl, .inr h2, fun a1 ha1 => ?_⟩
    have s1 : Same H (upd H a1 (.lst (ss.map vN))) := same_new0 ha1
    refine ⟨_, rfl, q, CS, dy, _, .ref z, rfl, s1 _ _ g1, TS.cl, TS.nr, rfl, z, _, rfl, .inr (s1 _ _ g2), fun a2 ha2 => ?_⟩
    have s2 := same_new (o := .lst (rows.map vN)) s1 ha2
    refine ⟨_, _, _, _, rfl, rfl, upd_new ha2 upd_same, upd_same, (by rw [List.length_map, List.length_map, sizeLine_eq]; omega), fun a3 ha3 => ?_⟩
    have s3 := same_new (o := .lst (ss.map vN ++ rows.map vN)) s2 ha3
    refine ⟨a3, ss ++ rows, rfl, .inl (by rw [upd_same, List.map_append]), (by rw [List.length_append]; omega), fun H4 q4 s4 hq4 g4 => ?_⟩
    have s5 := s3.trans s4
    refine ⟨_, rfl, p, CR, dx, _, .ref u, rfl, s5 _ _ h1, TR.cl, TR.nl, rfl, lc_pure ls vN (fun _ => true) (fun x => vN (clr (spn (ss ++ rows)) x)) (.inr (s5 _ _ h3)) (by omega) (fun n H' hn s => ?_) (fun D H6 hD s6 g6 => ?_)⟩
    · intro Z Nx z1 z2
      exact ⟨rfl, _, rfl, _, rfl, q4, _, n, rfl, .inl (s _ _ g4), (spn_rws _).nz, z1 rfl _ (Same.refl _)⟩
    · rw [filt_true] at g6
      refine ⟨D, ls.map (clr (spn (ss ++ rows))), rfl, .inl (by rw [g6, List.map_map]; rfl), (by rw [List.length_map]; omega), ?_, fun H7 q7 s7 hq7 g7 => ?_⟩
      · intro c hc
        obtain ⟨x, hx, rfl⟩ := List.mem_map.mp hc
        refine Nat.le_trans (clr_blen (k := b) (spn_blen fun y hy => ?_) (wl x hx)) (by omega)
        rcases List.mem_append.mp hy with hy | hy
        · exact ws y hy
        · exact wfs.b y hy
      · exact k _ _ ((s5.trans s6).trans s7) (same_free (s5.trans s6) hq7) g7
include TR in
theorem ok_partners (F : FnP K "partners" "partners" s_partners f fd) (D_need_pair : Dn P w K mg base 2 "need_pair" ["spread", "space"] (sp_need_pair CS CR)) (D_partner_rows : Dn P w K mg base 6 "partner_rows" ["spread", "space"] (sp_partner_rows CS CR))
    (K_Space : Kn P w K mg base 4 CS "Space" ["self", "bits", "words"] (sp_Space CS)) : FnOk P w K mg base CX0 7 f fd ["spread", "space"] (sp_partners CS CR) := by
  have nd := sc_partners.nd
  refine fnok F sc_partners (fun vs H Q E h => ?_) (fun cdv A outer s H vs Q E hr h => ?_)
  · obtain ⟨p, q, b, ss, ls, rows, rfl, _⟩ := h
    rfl
  · obtain ⟨p, q, b, ss, ls, rows, rfl, hp, hq, wf, wfs, k⟩ := h
    refine ⟨_, (pss_cons (ps_expr (pe_d D_need_pair hr (pa_cons (pv 0) (pa_cons (pv 1) pa_nil))))
  (pss_one (ps_ret (pe_k K_Space hr (pa_cons (pe_callB call_lenQ (by rfl) T.len PySem.boot_len (pa_cons (pe_fld (pv 0) rfl) pa_nil)) (pa_cons (pe_d D_partner_rows hr (pa_cons (pv 0) (pa_cons (pv 1) pa_nil))) pa_nil)))))), ?_⟩
    have hp' := hp
    obtain ⟨dx, t, u, h1, h2, h3⟩ := hp'
    refine ⟨_, rfl, _, rfl, p, q, b, ss, ls, rows, rfl, hp, hq, ?_⟩
    refine ⟨_, rfl, p, CR, dx, _, .ref u, rfl, h1, TR.cl, TR.nl, rfl, u, _, rfl, .inr h3, _, rfl, _, rfl, p, q, b, ss, ls, rows, rfl, hp, hq, wf, wfs, fun H1 a1 s1 ha1 g1 => ?_⟩
    rw [List.length_map]
    have := wf.ll
    refine mk_Space (.inl g1) (fun x hx => ?_) ?_ (fun H' p s4 hp hA => k _ _ (s1.trans s4) (same_free s1 hp) hA)
    · have := ker_blen _ x hx
      simpa using this
    · have := ker_len (ls.map (clr (spn (ss ++ rows))))
      rw [List.length_map] at this
      show (ker _).length ≤ _
      omega
theorem ok_leaders (F : FnP K "leaders" "leaders" s_leaders f fd) (D_partners : Dn P w K mg base 7 "partners" ["spread", "space"] (sp_partners CS CR)) (M_Spread_twins : Mn P w K mg base 6 CR "twins" ["self"] (sp_twins CS CR)) (M_Space_completing : Mn P w K mg base 3 CS "completing" ["self", "other"] (sp_completing CS)) :
    FnOk P w K mg base CX0 8 f fd ["spread", "space"] (sp_leaders CS CR) := by
  have nd := sc_leaders.nd
  refine fnok F sc_leaders (fun vs H Q E h => ?_) (fun cdv A outer s H vs Q E hr h => ?_)
  · obtain ⟨p, q, b, ss, ls, rows, rfl, _⟩ := h
    rfl
  · obtain ⟨p, q, b, ss, ls, rows, rfl, hp, hq, wf, wfs, k⟩ := h
    refine ⟨_, (pss_one (ps_ret (pe_callTy call_listQ (by rfl) T.list (by decide +kernel) (pa_cons (pe_m (pe_m0 (pv 0) M_Spread_twins hr) M_Space_completing hr (pa_cons (pe_d D_partners hr (pa_cons (pv 0) (pa_cons (pv 1) pa_nil))) pa_nil)) pa_nil)))), ?_⟩
    have hp' := hp
    obtain ⟨dx, t, u, h1, h2, h3⟩ := hp'
    refine ⟨_, rfl, p, dx, _, rfl, h1, rfl, p, b, ss, ls, rfl, hp, wf, fun H1 x1 s1 hx1 g1 => ?_⟩
    have g1' := g1
    obtain ⟨dz, z, g2, g3⟩ := g1'
    refine ⟨x1, dz, _, rfl, g2, rfl, _, rfl, _, rfl, p, q, b, ss, ls, rows, rfl, hp.same s1, hq.same s1, wf, wfs, fun H2 x2 s2 hx2 g4 => ?_⟩
    refine ⟨x1, x2, ls.length, _, _, rfl, g1.same s2, g4, twn_wf wf, prt_wf wf rows, fun H3 t3 s3 ht3 g5 => ?_⟩
    refine ⟨t3, _, rfl, .inr g5, fun l hl => ?_⟩
    exact k _ _ (same_new ((s1.trans s2).trans s3) hl) (same_free ((s1.trans s2).trans s3) hl) upd_same
include TS in
theorem ok_kept_bits (F : FnP K "kept_bits" "kept_bits" s_kept_bits f fd) (M_Spread_slot_space : Mn P w K mg base 6 CR "slot_space" ["self"] (sp_slot_space CS CR)) (M_Space_and : Mn P w K mg base 6 CS "__and__" ["self", "other"] (sp_and CS)) (hsf : PySem.W.selfFirst K CS = true) :
    FnOk P w K mg base CX0 7 f fd ["spread", "space"] (sp_kept_bits CS CR) := by
  have nd := sc_kept_bits.nd
  refine fnok F sc_kept_bits (fun vs H Q E h => ?_) (fun cdv A outer s H vs Q E hr h => ?_)
  · obtain ⟨p, q, b, ss, ls, rows, rfl, _⟩ := h
    rfl
  · obtain ⟨p, q, b, ss, ls, rows, rfl, hp, hq, wf, wfs, k⟩ := h
    refine ⟨_, (pss_cons (ps_set (i := 2) nd rfl (Or.inl rfl) (pe_m0 (pv 0) M_Spread_slot_space hr))
  (pss_one (ps_ret (pe_op op_sub (pe_fld (pv 2) rfl) (pe_fld (pe_op (op_own (by rfl) M_Space_and hsf hr) (pv 2) (pv 1)) rfl))))), ?_⟩
    have hp' := hp
    obtain ⟨dx, t, u, h1, h2, h3⟩ := hp'
    refine ⟨_, rfl, p, dx, _, rfl, h1, rfl, p, b, ss, ls, rfl, hp, wf, fun H1 x1 s1 hx1 g1 => ?_⟩
    have g1' := g1
    obtain ⟨dz, z, g2, g3⟩ := g1'
    have q1 := hq.same s1
    have q1' := q1
    obtain ⟨dy, y, g4, g5⟩ := q1'
    refine ⟨_, rfl, x1, CS, dz, _, vN (spn ss).length, rfl, g2, TS.cl, TS.nd, rfl, _, rfl, _, rfl, x1, q, dz, dy, _, _, rfl, rfl, g2, g4, x1, q, b, spn ss, rows, rfl, g1, q1, WfS.of wf.bb wf.s, wfs, fun H2 x2 s2 hx2 g6 => ?_⟩
    obtain ⟨dv, v, g7, g8⟩ := g6
    exact ⟨x2, CS, dv, _, vN (spn (mtd b (spn ss) rows)).length, rfl, g7, TS.cl, TS.nd, rfl, _, _, rfl, rfl, k _ (s1.trans s2)⟩
theorem ok_rounds_for (F : FnP K "rounds_for" "rounds_for" s_rounds_for f fd) : FnOk P w K mg base CX0 1 f fd ["bits", "apart"] sp_rounds_for := by
  have nd := sc_rounds_for.nd
  refine fnok F sc_rounds_for (fun vs H Q E h => ?_) (fun cdv A outer s H vs Q E hr h => ?_)
  · obtain ⟨n, m, rfl, _⟩ := h
    rfl
  · obtain ⟨n, m, rfl, hn, hm, k⟩ := h
    refine ⟨_, (pss_cons (ps_if (pt_cmpR op_ge (pv 0) (pv 1) (nomark _))
    (pss_one (ps_ret (pe_op on_sub (pe_op on_shl pe_int (pv 0)) (pe_op on_shl pe_int (pe_op on_sub (pv 0) (pv 1))))))
    pss_nil)
  (pss_one (ps_ret (pe_op on_sub (pe_op on_add (pe_op on_sub (pe_op on_shl pe_int (pv 0)) pe_int) (pv 1)) (pv 0))))), ?_⟩
    have o1 : CShN 1 n := shl_ok1 (by rw [blen_one]; decide) (by omega)
    have p1 : 1 ≤ 1 <<< n := by rw [Nat.one_shiftLeft]; exact Nat.two_pow_pos n
    have p2 : n < 1 <<< n := by rw [Nat.one_shiftLeft]; exact Nat.lt_two_pow_self
    refine ⟨_, rfl, _, rfl, _, _, rfl, rfl, _, rfl, ?_⟩
    rw [dec_le]
    unfold rdf at k
    refine br (fun e => ?_) (fun e => ?_)
    · have e0 : m ≤ n := of_decide_eq_true e
      rw [if_pos e0] at k
      refine ⟨_, rfl, 1, _, rfl, rfl, o1, _, rfl, _, rfl, _, _, rfl, rfl, e0, 1, _, rfl, rfl, shl_ok1 (by rw [blen_one]; decide) (by show n - m ≤ 1000000; omega), _, _, rfl, rfl, ?_, k⟩
      show 1 <<< (n - m) ≤ 1 <<< n
      rw [Nat.one_shiftLeft, Nat.one_shiftLeft]
      exact Nat.pow_le_pow_right (by decide) (by omega)
    · have e0 : ¬ m ≤ n := of_decide_eq_false e
      rw [if_neg e0] at k
      exact ⟨_, rfl, 1, _, rfl, rfl, o1, _, 1, rfl, rfl, p1, _, rfl, _, _, rfl, rfl, _, rfl, _, _, rfl, rfl, (by show n ≤ 1 <<< n - 1 + m; omega), k⟩
include TS in
theorem ok_sum_rounds (F : FnP K "sum_rounds" "sum_rounds" s_sum_rounds f fd) (D_need_pair : Dn P w K mg base 2 "need_pair" ["spread", "space"] (sp_need_pair CS CR)) (D_kept_bits : Dn P w K mg base 7 "kept_bits" ["spread", "space"] (sp_kept_bits CS CR)) (M_Spread_twins : Mn P w K mg base 6 CR "twins" ["self"] (sp_twins CS CR))
    (D_leaders : Dn P w K mg base 8 "leaders" ["spread", "space"] (sp_leaders CS CR)) (D_rounds_for : Dn P w K mg base 1 "rounds_for" ["bits", "apart"] sp_rounds_for) : FnOk P w K mg base CX0 9 f fd ["spread", "space"] (sp_sum_rounds CS CR) := by
  have nd := sc_sum_rounds.nd
  refine fnok F sc_sum_rounds (fun vs H Q E h => ?_) (fun cdv A outer s H vs Q E hr h => ?_)
  · obtain ⟨p, q, b, ss, ls, rows, rfl, _⟩ := h
    rfl
  · obtain ⟨p, q, b, ss, ls, rows, rfl, hp, hq, wf, wfs, k⟩ := h
    refine ⟨_, (pss_cons (ps_expr (pe_d D_need_pair hr (pa_cons (pv 0) (pa_cons (pv 1) pa_nil))))
  (pss_cons (ps_set (i := 2) nd rfl (Or.inl rfl) (pe_callB (call_max2 rfl) (by rfl) T.max (by decide +kernel) (pa_cons pe_int (pa_cons (pe_op op_sub (pe_d D_kept_bits hr (pa_cons (pv 0) (pa_cons (pv 1) pa_nil))) (pe_fld (pe_m0 (pv 0) M_Spread_twins hr) rfl)) pa_nil))))
  (pss_one (ps_ret (pe_d D_rounds_for hr (pa_cons (pv 2) (pa_cons (pe_callB call_lenQ (by rfl) T.len PySem.boot_len (pa_cons (pe_d D_leaders hr (pa_cons (pv 0) (pa_cons (pv 1) pa_nil))) pa_nil)) pa_nil))))))), ?_⟩
    refine ⟨_, rfl, _, rfl, p, q, b, ss, ls, rows, rfl, hp, hq, ?_⟩
    refine ⟨_, rfl, _, rfl, p, q, b, ss, ls, rows, rfl, hp, hq, wf, wfs, fun H1 s1 => ?_⟩
    have p1 := hp.same s1
    have p1' := p1
    obtain ⟨dx, t, u, h1, h2, h3⟩ := p1'
    refine ⟨_, rfl, p, dx, _, rfl, h1, rfl, p, b, ss, ls, rfl, p1, wf, fun H2 x2 s2 hx2 g2 => ?_⟩
    obtain ⟨dv, v, g3, g4⟩ := g2
    refine ⟨x2, CS, dv, _, vN (twn ss ls).length, rfl, g3, TS.cl, TS.nd, rfl, _, _, rfl, rfl, _, _, rfl, ?_⟩
    have s3 := s1.trans s2
    have em : (if kpt b ss rows - ((twn ss ls).length : Int) > 0 then kpt b ss rows - ((twn ss ls).length : Int) else 0) = (((kpt b ss rows - ((twn ss ls).length : Int)).toNat : Nat) : Int) := by
      split <;> omega
    have kb : kpt b ss rows ≤ 400000 := by
      have := (WfS.of wf.bb wf.s).len
      unfold kpt
      omega
    rw [em]
    refine ⟨_, rfl, _, rfl, _, rfl, p, q, b, ss, ls, rows, rfl, hp.same s3, hq.same s3, wf, wfs, fun H4 t4 s4 ht4 g4 => ?_⟩
    refine ⟨t4, _, rfl, .inl g4, ?_⟩
    rw [List.length_map]
    exact ⟨_, _, rfl, (by omega), ldr_len wf rows, k _ (s3.trans s4)⟩
end
end LaneX
set_option Elab.async false
set_option linter.all false
set_option maxRecDepth 100000
set_option maxHeartbeats 4000000
namespace LaneX
open PySem PySem.Spec PyProof.Rows L2
/-! ### draws -/
abbrev ka : Str := "cells"
abbrev kb : Str := "stop"
abbrev kc : Str := "left"
theorem kN : PenN ka kb kc := ⟨by decide +kernel, by decide +kernel, by decide +kernel⟩
abbrev Pn (H : Hp) (p lc : Addr) (N : Nat) : Prop := PenAt ka kb kc H p lc N
/-- the most draws -/
abbrev TOP : Nat := 1099511627776
theorem md_lt {i : Int} {m : Nat} (h : 0 < m) (hm : m ≤ 2 ^ 64) : (i % (m : Int)).toNat < 2 ^ 64 := by
  have := Int.emod_lt_of_pos i (b := (m : Int)) (by omega)
  have h2 := Int.emod_nonneg i (b := (m : Int)) (by omega)
  have h3 : m ≤ 18446744073709551616 := hm
  show _ < 18446744073709551616
  omega
theorem mn_lt {i m : Nat} (h : 0 < m) (hm : m ≤ 2 ^ 64) : i % m < 2 ^ 64 := Nat.lt_of_lt_of_le (Nat.mod_lt _ h) hm
def sp_draw : Sp := fun vs H Q _ => ∃ (p lc : Addr) (N sp : Nat), vs = [.ref p, vN sp] ∧ Pn H p lc N ∧ 0 < sp ∧ sp < 1073741824 ∧ N + 1 ≤ TOP ∧ ∀ H' r, r < sp → Pn H' p lc (N + 1) → Kp H H' → Q (vN r) H'
section
variable {P : Program} {w : World} {K : PySem.W.Frag} {mg : Str → Option Value} {base : Heap} {f : Addr} {fd : FuncData} (T : Bt mg)
include T
theorem ok_draw (F : FnP K "_law_draw" "_law_draw" s_drawL f fd) : FnOk P w K mg base CX0 1 f fd ["_law_pen", "_law_span"] sp_draw := by
  have nd := sc_drawL.nd
  refine fnok F sc_drawL (fun vs H Q E h => ?_) (fun cdv A outer s H vs Q E hr h => ?_)
  · obtain ⟨p, lc, N, sp, rfl, _⟩ := h
    rfl
  · obtain ⟨p, lc, N, sp, rfl, ⟨cs, n, m, hp, hlc, hn⟩, hs0, hs1, hN, k⟩ := h
    have hu := hu_of hr
    refine ⟨_, (pss_cons (ps_if (pt_cmpR op_gt (pe_dget hu (pv 0) pe_str (fun _ _ => rfl)) pe_int (nomark _))
    (pss_cons (ps_set (i := 2) nd rfl (Or.inl rfl) (pe_op on_mod (pe_callTy call_intQ (by rfl) T.int (by decide +kernel) (pa_cons (pe_dget hu (pv 0) pe_str (fun _ _ => rfl)) pa_nil)) (pv 1)))
    (pss_cons (ps_dput hu (pv 0) pe_str (pe_op on_fdiv (pe_dget hu (pv 0) pe_str (fun _ _ => rfl)) (pv 1)) rfl)
    (pss_one (ps_ret (pv 2)))))
    pss_nil)
  (pss_cons (ps_set (i := 3) nd rfl (Or.inl rfl) (pe_dget hu (pv 0) pe_str (fun _ _ => rfl)))
  (pss_cons (ps_dput hu (pv 0) pe_str (pe_op on_add (pv 3) pe_int) rfl)
  (pss_cons (ps_set (i := 4) nd rfl (Or.inl rfl) (pe_op on_add (pe_op on_mul pe_int (pv 3)) pe_int))
  (pss_cons (ps_if (pt_cmpR (op_neL hr.units) (pe_dget hu (pv 0) pe_str (fun _ _ => rfl)) (pe_lst pa_nil) (nomark _))
    (pss_one (ps_set (i := 4) nd rfl (Or.inl rfl) (pe_ix ix_q (pe_dget hu (pv 0) pe_str (fun _ _ => rfl)) (pe_op on_mod (pe_callTy call_intQ (by rfl) T.int (by decide +kernel) (pa_cons (pv 3) pa_nil)) (pe_callB call_lenQ (by rfl) T.len PySem.boot_len (pa_cons (pe_dget hu (pv 0) pe_str (fun _ _ => rfl)) pa_nil))) (fun _ _ => rfl))))
    pss_nil)
  (pss_cons (ps_if (PW.pt (pw_and (pt_cmpR op_lt (pv 3) (pe_callB call_lenQ (by rfl) T.len PySem.boot_len (pa_cons (pe_dget hu (pv 0) pe_str (fun _ _ => rfl)) pa_nil)) (nomark _)) (pw_and1 (pt_cmpR op_ge (pe_callB call_absN (by rfl) T.abs (by decide +kernel) (pa_cons (pv 4) pa_nil)) (pe_op on_pow pe_int pe_int) (nomark _)))))
    (pss_cons (ps_dput hu (pv 0) pe_str (pe_op on_fdiv (pe_op on_sub (pe_callB call_absN (by rfl) T.abs (by decide +kernel) (pa_cons (pv 4) pa_nil)) (pe_op on_pow pe_int pe_int)) (pv 1)) rfl)
    (pss_one (ps_ret (pe_op on_mod (pe_callTy call_intQ (by rfl) T.int (by decide +kernel) (pa_cons (pe_op on_sub (pe_callB call_absN (by rfl) T.abs (by decide +kernel) (pa_cons (pv 4) pa_nil)) (pe_op on_pow pe_int pe_int)) pa_nil)) (pv 1)))))
    pss_nil)
  (pss_cons (ps_set (i := 5) nd rfl (Or.inl rfl) (pe_op on_add (pe_op on_mul (pe_op on_modI (pe_callTy call_intQ (by rfl) T.int (by decide +kernel) (pa_cons (pv 4) pa_nil)) pe_int) pe_int) (pe_op on_mul (pe_op on_mul pe_int (pv 3)) (pv 3))))
  (pss_cons (ps_set (i := 5) nd rfl (Or.inl rfl) (pe_op on_mod (pe_callTy call_intQ (by rfl) T.int (by decide +kernel) (pa_cons (pe_op on_add (pe_op on_add (pv 5) (pe_op on_mul pe_int (pv 3))) pe_int) pa_nil)) pe_int))
  (pss_cons (ps_set (i := 5) nd rfl (Or.inl rfl) (pe_op on_mod (pe_callTy call_intQ (by rfl) T.int (by decide +kernel) (pa_cons (pe_op on_add (pe_op on_add (pe_op on_add (pe_op on_mul (pv 5) (pv 5)) (pe_op on_mul pe_int (pv 5))) (pe_op on_mul pe_int (pv 3))) pe_int) pa_nil)) pe_int))
  (pss_cons (ps_set (i := 5) nd rfl (Or.inl rfl) (pe_op on_mod (pe_callTy call_intQ (by rfl) T.int (by decide +kernel) (pa_cons (pe_op on_add (pe_op on_add (pe_op on_mul (pv 5) (pv 5)) (pe_op on_mul pe_int (pv 5))) (pv 3)) pa_nil)) pe_int))
  (pss_one (ps_ret (pe_op on_mod (pe_callTy call_intQ (by rfl) T.int (by decide +kernel) (pa_cons (pe_op on_fdiv (pe_op on_mod (pe_callTy call_intQ (by rfl) T.int (by decide +kernel) (pa_cons (pe_op on_mul (pv 5) (pe_op on_add (pv 5) pe_int)) pa_nil)) pe_int) pe_int) pa_nil)) (pv 1)))))))))))))), ?_⟩
    have gA : ∀ (H0 : Hp) (n0 m0 : Nat), H0 p = some (.dK (pen ka kb kc lc n0 m0)) → DGet H0 p (.str ka) (some (.ref lc)) := fun H0 n0 m0 h => by have z := DGet.k (k := .inr ka) h; rw [pen_a] at z; exact z
    have gB : ∀ (H0 : Hp) (n0 m0 : Nat), H0 p = some (.dK (pen ka kb kc lc n0 m0)) → DGet H0 p (.str kb) (some (vN n0)) := fun H0 n0 m0 h => by have z := DGet.k (k := .inr kb) h; rw [pen_b kN] at z; exact z
    have gC : ∀ (H0 : Hp) (n0 m0 : Nat), H0 p = some (.dK (pen ka kb kc lc n0 m0)) → DGet H0 p (.str kc) (some (vN m0)) := fun H0 n0 m0 h => by have z := DGet.k (k := .inr kc) h; rw [pen_c kN] at z; exact z
    have pB : ∀ (H0 : Hp) (n0 m0 k0 : Nat), H0 p = some (.dK (pen ka kb kc lc n0 m0)) → DPut H0 p (.str kb) (vN k0) (upd H0 p (.dK (pen ka kb kc lc k0 m0))) := fun H0 n0 m0 k0 h => by have z := DPut.k (k := .inr kb) (v := vN k0) h (pen_len n0 m0); rw [pen_pb kN] at z; exact z
    have pC : ∀ (H0 : Hp) (n0 m0 k0 : Nat), H0 p = some (.dK (pen ka kb kc lc n0 m0)) → DPut H0 p (.str kc) (vN k0) (upd H0 p (.dK (pen ka kb kc lc n0 k0))) := fun H0 n0 m0 k0 h => by have z := DPut.k (k := .inr kc) (v := vN k0) h (pen_len n0 m0); rw [pen_pc kN] at z; exact z
    have hlp : lc ≠ p := ne_of hlc hp (by intro z; cases z)
    have kpU : ∀ (H0 : Hp) (n0 m0 n1 m1 : Nat), H0 p = some (.dK (pen ka kb kc lc n0 m0)) → Kp H0 (upd H0 p (.dK (pen ka kb kc lc n1 m1))) := fun H0 n0 m0 n1 m1 h => by
      refine ⟨fun b o hb ho => ?_, fun b hb => upd_free hb⟩
      refine (upd_ne fun z => ?_).trans hb
      rw [z, h] at hb
      cases hb
      cases ho
    refine ⟨_, rfl, p, vN m, rfl, gC _ _ _ hp, _, _, rfl, rfl, _, rfl, br (fun e => ?_) (fun e => ?_)⟩
    · -- a digit is left
      refine ⟨_, rfl, p, vN m, rfl, gC _ _ _ hp, _, rfl, _, rfl, m, sp, rfl, rfl, hs0, ?_⟩
      refine ⟨_, rfl, p, vN m, rfl, gC _ _ _ hp, _, rfl, m, sp, rfl, rfl, ⟨hs0, hs1⟩, _, rfl, p, _, rfl, pC _ _ _ _ hp, ?_⟩
      exact ⟨_, rfl, k _ _ (Nat.mod_lt _ hs0) ⟨cs, n, m / sp, upd_same, (upd_ne hlp).trans hlc, by omega⟩ (kpU _ _ _ _ _ hp)⟩
    · have hN' : N + 1 ≤ 1099511627776 := hN
      refine ⟨_, rfl, p, vN n, rfl, gB _ _ _ hp, ?_⟩
      refine ⟨_, rfl, n, 1, rfl, rfl, _, rfl, p, _, rfl, pB _ _ _ _ hp, ?_⟩
      refine ⟨_, rfl, 83, n, rfl, rfl, (by decide), 83 * n, 59, rfl, rfl, ?_⟩
      generalize hH1 : upd H p (.dK (pen ka kb kc lc (n + 1) m)) = H1
      have kp1 : Kp H H1 := by rw [← hH1]; exact kpU _ _ _ _ _ hp
      have hp1 : H1 p = some (.dK (pen ka kb kc lc (n + 1) m)) := by rw [← hH1]; exact upd_same
      have hl1 : H1 lc = some (.lst (cs.map V.int)) := kp1 _ _ hlc rfl
      refine ⟨_, rfl, p, .ref lc, rfl, gA _ _ _ hp1, (by decide), fun q hq => ?_⟩
      have hp2 : upd H1 q (.lst []) p = some (.dK (pen ka kb kc lc (n + 1) m)) := upd_new hq hp1
      have hl2 : upd H1 q (.lst []) lc = some (.lst (cs.map V.int)) := upd_new hq hl1
      have kp2 : Kp H (upd H1 q (.lst [])) := kp_new kp1 hq
      refine ⟨lc, q, cs, [], rfl, rfl, hl2, upd_same, _, rfl, br (fun e1 => ?_) (fun e1 => ?_)⟩
      · have hne : 0 < cs.length := List.length_pos_iff.mpr (by simpa using e1)
        have hix : n % cs.length < cs.length := Nat.mod_lt _ hne
        refine ⟨_, rfl, p, .ref lc, rfl, gA _ _ _ hp2, _, rfl, _, rfl, _, rfl, p, .ref lc, rfl, gA _ _ _ hp2, lc, _, rfl, .inl hl2, n, (cs.map V.int).length, rfl, rfl, (by rw [List.length_map]; exact hne), lc, _, n % (cs.map V.int).length, .int cs[n % cs.length], rfl, rfl, .inl hl2, ?_, ?_⟩
        · rw [List.length_map, List.getElem?_map, List.getElem?_eq_getElem hix]
          rfl
        · refine ⟨_, rfl, _, rfl, p, .ref lc, rfl, gA _ _ _ hp2, lc, _, rfl, .inl hl2, _, _, rfl, rfl, _, rfl, br (fun e2 => ?_) (fun e2 => ?_)⟩
          · refine ⟨_, rfl, _, rfl, 10, 18, rfl, rfl, ⟨by decide, by decide⟩, _, _, rfl, rfl, _, rfl, br (fun e3 => ?_) (fun e3 => ?_)⟩
            · have e4 := of_decide_eq_true e3
              have e5 : 10 ^ 18 ≤ Int.natAbs _ := Int.ofNat_le.mp e4
              refine ⟨_, rfl, _, rfl, 10, 18, rfl, rfl, ⟨by decide, by decide⟩, _, _, rfl, rfl, e5, _, rfl, _, sp, rfl, rfl, ⟨hs0, hs1⟩, _, rfl, p, _, rfl, pC _ _ _ _ hp2, ?_⟩
              refine ⟨_, rfl, _, rfl, 10, 18, rfl, rfl, ⟨by decide, by decide⟩, _, _, rfl, rfl, e5, _, rfl, _, rfl, _, sp, rfl, rfl, hs0, ?_⟩
              exact k _ _ (Nat.mod_lt _ hs0) ⟨cs, _, _, upd_same, (upd_ne hlp).trans hl2, by omega⟩ (kp2.trans (kpU _ _ _ _ _ hp2))
            · refine ⟨_, rfl, _, rfl, _, 2147483549, rfl, rfl, (by decide), _, 48611, rfl, rfl, md_lt (by decide) (by decide), _, rfl, 30029, n, rfl, rfl, (by decide), _, rfl, _, n, rfl, rfl, (by show 30029 * n < 18446744073709551616; omega), _, _, rfl, rfl, ?_⟩
              refine ⟨_, rfl, _, rfl, 701, n, rfl, rfl, (by decide), _, _, rfl, rfl, _, 83, rfl, rfl, _, rfl, _, 2147483543, rfl, rfl, (by decide), ?_⟩
              refine ⟨_, rfl, _, rfl, _, _, rfl, rfl, mn_lt (by decide) (by decide), _, rfl, 40111, _, rfl, rfl, (by decide), _, _, rfl, rfl, _, rfl, 73, n, rfl, rfl, (by decide), _, _, rfl, rfl, _, 19, rfl, rfl, _, rfl, _, 2147483497, rfl, rfl, (by decide), ?_⟩
              refine ⟨_, rfl, _, rfl, _, _, rfl, rfl, mn_lt (by decide) (by decide), _, rfl, 31013, _, rfl, rfl, (by decide), _, _, rfl, rfl, _, rfl, _, n, rfl, rfl, _, rfl, _, 2147483489, rfl, rfl, (by decide), ?_⟩
              refine ⟨_, rfl, _, rfl, _, 44017, rfl, rfl, _, _, rfl, rfl, mn_lt (by decide) (by decide), _, rfl, _, 2147483477, rfl, rfl, (by decide), _, 64, rfl, rfl, ⟨by decide, by decide⟩, _, rfl, _, rfl, _, sp, rfl, rfl, hs0, ?_⟩
              exact k _ _ (Nat.mod_lt _ hs0) ⟨cs, n + 1, m, hp2, hl2, by omega⟩ kp2
          · refine ⟨_, rfl, _, rfl, _, 2147483549, rfl, rfl, (by decide), _, 48611, rfl, rfl, md_lt (by decide) (by decide), _, rfl, 30029, n, rfl, rfl, (by decide), _, rfl, _, n, rfl, rfl, (by show 30029 * n < 18446744073709551616; omega), _, _, rfl, rfl, ?_⟩
            refine ⟨_, rfl, _, rfl, 701, n, rfl, rfl, (by decide), _, _, rfl, rfl, _, 83, rfl, rfl, _, rfl, _, 2147483543, rfl, rfl, (by decide), ?_⟩
            refine ⟨_, rfl, _, rfl, _, _, rfl, rfl, mn_lt (by decide) (by decide), _, rfl, 40111, _, rfl, rfl, (by decide), _, _, rfl, rfl, _, rfl, 73, n, rfl, rfl, (by decide), _, _, rfl, rfl, _, 19, rfl, rfl, _, rfl, _, 2147483497, rfl, rfl, (by decide), ?_⟩
            refine ⟨_, rfl, _, rfl, _, _, rfl, rfl, mn_lt (by decide) (by decide), _, rfl, 31013, _, rfl, rfl, (by decide), _, _, rfl, rfl, _, rfl, _, n, rfl, rfl, _, rfl, _, 2147483489, rfl, rfl, (by decide), ?_⟩
            refine ⟨_, rfl, _, rfl, _, 44017, rfl, rfl, _, _, rfl, rfl, mn_lt (by decide) (by decide), _, rfl, _, 2147483477, rfl, rfl, (by decide), _, 64, rfl, rfl, ⟨by decide, by decide⟩, _, rfl, _, rfl, _, sp, rfl, rfl, hs0, ?_⟩
            exact k _ _ (Nat.mod_lt _ hs0) ⟨cs, n + 1, m, hp2, hl2, by omega⟩ kp2
      · refine ⟨_, rfl, _, rfl, p, .ref lc, rfl, gA _ _ _ hp2, lc, _, rfl, .inl hl2, _, _, rfl, rfl, _, rfl, br (fun e2 => ?_) (fun e2 => ?_)⟩
        · refine ⟨_, rfl, _, rfl, 10, 18, rfl, rfl, ⟨by decide, by decide⟩, _, _, rfl, rfl, _, rfl, br (fun e3 => ?_) (fun e3 => ?_)⟩
          · have e4 := of_decide_eq_true e3
            have e5 : 10 ^ 18 ≤ Int.natAbs _ := Int.ofNat_le.mp e4
            refine ⟨_, rfl, _, rfl, 10, 18, rfl, rfl, ⟨by decide, by decide⟩, _, _, rfl, rfl, e5, _, rfl, _, sp, rfl, rfl, ⟨hs0, hs1⟩, _, rfl, p, _, rfl, pC _ _ _ _ hp2, ?_⟩
            refine ⟨_, rfl, _, rfl, 10, 18, rfl, rfl, ⟨by decide, by decide⟩, _, _, rfl, rfl, e5, _, rfl, _, rfl, _, sp, rfl, rfl, hs0, ?_⟩
            exact k _ _ (Nat.mod_lt _ hs0) ⟨cs, _, _, upd_same, (upd_ne hlp).trans hl2, by omega⟩ (kp2.trans (kpU _ _ _ _ _ hp2))
          · refine ⟨_, rfl, _, rfl, _, 2147483549, rfl, rfl, (by decide), _, 48611, rfl, rfl, md_lt (by decide) (by decide), _, rfl, 30029, n, rfl, rfl, (by decide), _, rfl, _, n, rfl, rfl, (by show 30029 * n < 18446744073709551616; omega), _, _, rfl, rfl, ?_⟩
            refine ⟨_, rfl, _, rfl, 701, n, rfl, rfl, (by decide), _, _, rfl, rfl, _, 83, rfl, rfl, _, rfl, _, 2147483543, rfl, rfl, (by decide), ?_⟩
            refine ⟨_, rfl, _, rfl, _, _, rfl, rfl, mn_lt (by decide) (by decide), _, rfl, 40111, _, rfl, rfl, (by decide), _, _, rfl, rfl, _, rfl, 73, n, rfl, rfl, (by decide), _, _, rfl, rfl, _, 19, rfl, rfl, _, rfl, _, 2147483497, rfl, rfl, (by decide), ?_⟩
            refine ⟨_, rfl, _, rfl, _, _, rfl, rfl, mn_lt (by decide) (by decide), _, rfl, 31013, _, rfl, rfl, (by decide), _, _, rfl, rfl, _, rfl, _, n, rfl, rfl, _, rfl, _, 2147483489, rfl, rfl, (by decide), ?_⟩
            refine ⟨_, rfl, _, rfl, _, 44017, rfl, rfl, _, _, rfl, rfl, mn_lt (by decide) (by decide), _, rfl, _, 2147483477, rfl, rfl, (by decide), _, 64, rfl, rfl, ⟨by decide, by decide⟩, _, rfl, _, rfl, _, sp, rfl, rfl, hs0, ?_⟩
            exact k _ _ (Nat.mod_lt _ hs0) ⟨cs, n + 1, m, hp2, hl2, by omega⟩ kp2
        · refine ⟨_, rfl, _, rfl, _, 2147483549, rfl, rfl, (by decide), _, 48611, rfl, rfl, md_lt (by decide) (by decide), _, rfl, 30029, n, rfl, rfl, (by decide), _, rfl, _, n, rfl, rfl, (by show 30029 * n < 18446744073709551616; omega), _, _, rfl, rfl, ?_⟩
          refine ⟨_, rfl, _, rfl, 701, n, rfl, rfl, (by decide), _, _, rfl, rfl, _, 83, rfl, rfl, _, rfl, _, 2147483543, rfl, rfl, (by decide), ?_⟩
          refine ⟨_, rfl, _, rfl, _, _, rfl, rfl, mn_lt (by decide) (by decide), _, rfl, 40111, _, rfl, rfl, (by decide), _, _, rfl, rfl, _, rfl, 73, n, rfl, rfl, (by decide), _, _, rfl, rfl, _, 19, rfl, rfl, _, rfl, _, 2147483497, rfl, rfl, (by decide), ?_⟩
          refine ⟨_, rfl, _, rfl, _, _, rfl, rfl, mn_lt (by decide) (by decide), _, rfl, 31013, _, rfl, rfl, (by decide), _, _, rfl, rfl, _, rfl, _, n, rfl, rfl, _, rfl, _, 2147483489, rfl, rfl, (by decide), ?_⟩
          refine ⟨_, rfl, _, rfl, _, 44017, rfl, rfl, _, _, rfl, rfl, mn_lt (by decide) (by decide), _, rfl, _, 2147483477, rfl, rfl, (by decide), _, 64, rfl, rfl, ⟨by decide, by decide⟩, _, rfl, _, rfl, _, sp, rfl, rfl, hs0, ?_⟩
          exact k _ _ (Nat.mod_lt _ hs0) ⟨cs, n + 1, m, hp2, hl2, by omega⟩ kp2
end
end LaneX
set_option Elab.async false
set_option linter.all false
set_option maxRecDepth 100000
set_option maxHeartbeats 4000000
namespace LaneX
open PySem PySem.Spec PyProof.Rows L2
def sp_begin (K : PySem.W.Frag) : Sp := fun vs H Q _ => ∃ (a : Addr) (ns : List Int), vs = [.ref a] ∧ SqL K H a (ns.map V.int) ∧ ∀ H' p lc, Same H H' → H p = none → Pn H' p lc 0 → Q (.ref p) H'
/-- one of some values -/
def sp_pick : Sp := fun vs H Q _ => ∃ (p lc a : Addr) (N : Nat) (xs : List V), vs = [.ref p, .ref a] ∧ Pn H p lc N ∧ Tq H a xs ∧ 0 < xs.length ∧ xs.length ≤ 1000000 ∧ N + 1 ≤ TOP ∧ ∀ H' v, v ∈ xs → Pn H' p lc (N + 1) → Kp H H' → Q v H'
def sp_word : Sp := fun vs H Q _ => ∃ (p lc : Addr) (N b : Nat), vs = [.ref p, vN b] ∧ Pn H p lc N ∧ b ≤ 1000 ∧ N + 1000 ≤ TOP ∧ ∀ H' x, x < 2 ^ b → Pn H' p lc (N + 1000) → Kp H H' → Q (vN x) H'
def sp_mixed : Sp := fun vs H Q _ => ∃ (p lc a : Addr) (N : Nat) (xs : List Nat), vs = [.ref p, .ref a] ∧ Pn H p lc N ∧ Tq H a (xs.map vN) ∧ xs.length ≤ 1000 ∧ N + 1000 ≤ TOP ∧ ∀ (H' : Hp) (q : Addr) (ys : List Nat), ys.Perm xs → H q = none → H' q = some (.lst (ys.map vN)) → Pn H' p lc (N + 1000) → Kp H H' → Q (.ref q) H'
def sp_left : Sp := fun vs H Q _ => ∃ (a : Addr) (rows : List Nat) (x : Nat), vs = [.ref a, vN x] ∧ Tq H a (rows.map vN) ∧ (∀ r ∈ rows, r ≠ 0) ∧ Q (vN (lft rows x)) H
def sp_basis : Sp := fun vs H Q _ => ∃ (a : Addr) (ws : List Nat), vs = [.ref a] ∧ Tq H a (ws.map vN) ∧ ws.length ≤ 1000000 ∧ ∀ H' q, Same H H' → H q = none → H' q = some (.lst ((bas ws).map vN)) → Q (.ref q) H'
def sp_size : Sp := fun vs H Q _ => ∃ (a : Addr) (ws : List Nat), vs = [.ref a] ∧ Tq H a (ws.map vN) ∧ ws.length ≤ 1000000 ∧ ∀ H', Same H H' → Q (vN (rk ws)) H'
def sp_image : Sp := fun vs H Q _ => ∃ (a : Addr) (cs : List Nat) (x : Nat), vs = [.ref a, vN x] ∧ Tq H a (cs.map vN) ∧ cs.length ≤ 1000000 ∧ Q (vN (img cs x)) H
def cutI (xs : List Int) (lo hi : Option Int) : List Int := (xs.drop (HT.sIx xs.length 0 lo)).take (HT.sIx xs.length xs.length hi - HT.sIx xs.length 0 lo)
theorem cut_map (xs : List Int) (lo hi : Option Int) : cutV (xs.map V.int) lo hi = (cutI xs lo hi).map V.int := by
  unfold cutV cutI
  rw [List.length_map, List.map_take, List.map_drop]
theorem seq_nat {r n : Nat} (h : r < n) : seqIndex? (r : Int) n = some r := by
  unfold seqIndex?
  have h1 : ¬ (r : Int) < 0 := by omega
  simp only [h1, if_false]
  have h2 : (decide (0 ≤ (r : Int)) && decide ((r : Int) < (n : Int))) = true := by
    rw [decide_eq_true (by omega), decide_eq_true (by omega)]
    rfl
  rw [if_pos h2]
  simp
theorem eraseIdx_map {α β : Type} (g : α → β) : ∀ (l : List α) (r : Nat), (l.map g).eraseIdx r = (l.eraseIdx r).map g
  | [], _ => rfl
  | _ :: _, 0 => rfl
  | a :: l, r + 1 => by
    show g a :: (l.map g).eraseIdx r = g a :: (l.eraseIdx r).map g
    rw [eraseIdx_map g l r]
theorem perm_erase {α : Type} : ∀ {l : List α} {r : Nat} (h : r < l.length), (l[r] :: l.eraseIdx r).Perm l
  | [], r, h => by cases h
  | a :: l, 0, _ => .refl _
  | a :: l, r + 1, h => by
    have := perm_erase (l := l) (r := r) (by simpa using h)
    exact (List.Perm.swap _ _ _).trans (this.cons a)
section
variable {P : Program} {w : World} {K : PySem.W.Frag} {mg : Str → Option Value} {base : Heap} {f : Addr} {fd : FuncData} (T : Bt mg)
include T
theorem ok_begin (F : FnP K "_law_begin" "_law_begin" s_beginL f fd) : FnOk P w K mg base CX0 1 f fd ["_law_script"] (sp_begin K) := by
  have nd := sc_beginL.nd
  refine fnok F sc_beginL (fun vs H Q E h => ?_) (fun cdv A outer s H vs Q E hr h => ?_)
  · obtain ⟨a, ns, rfl, _⟩ := h
    rfl
  · obtain ⟨a, ns, rfl, hS, k⟩ := h
    refine ⟨_, (pss_one (ps_ret (pe_disp (pps_cons pe_str (pe_callTy call_listQ (by rfl) T.list (by decide +kernel) (pa_cons (pe_slice sl_list (pv 0) po_none (po_some pe_int)) pa_nil)) (pps_cons pe_str pe_int (pps_cons pe_str pe_int pps_nil))) (by rfl) (by rfl) (fun z => by cases z) (by decide)))), ?_⟩
    intro p hp
    refine ⟨_, rfl, _, rfl, a, _, rfl, Same.seq (same_new0 hp) hS, fun l1 hl1 => ?_⟩
    refine ⟨l1, _, rfl, .inl upd_same, fun l2 hl2 => ?_⟩
    have np1 : p ≠ l1 := ne_of_none upd_same hl1
    have np2 : p ≠ l2 := ne_of_none (upd_put upd_same np1) hl2
    refine ⟨upd_put (upd_put upd_same np1) np2, [(.inr ka, .ref l2), (.inr kb, .int 0), (.inr kc, .int 0)], rfl, (by show 3 ≤ 15; decide), ?_⟩
    have em : mergeK [] [((.inr ka : Key), V.ref l2), (.inr kb, .int 0), (.inr kc, .int 0)] = pen ka kb kc l2 0 0 := by
      unfold mergeK pen putK
      simp [kN.ab, kN.ac, kN.bc]
    rw [em]
    refine k _ _ l2 (fun b o hb => ?_) hp ⟨cutI ns none (some 63), 0, 0, upd_same, ?_, Nat.le_refl _⟩
    · have hb1 := upd_new (o := .dK []) hp hb
      have hb2 := upd_new (o := .lst (cutV (ns.map V.int) none (some 63))) hl1 hb1
      have hb3 := upd_new (o := .lst (cutV (ns.map V.int) none (some 63))) hl2 hb2
      exact upd_put hb3 (ne_of_none hb hp)
    · rw [← cut_map]
      exact upd_put upd_same np2.symm
theorem ok_pick (F : FnP K "_law_pick" "_law_pick" s_pickL f fd) (D_drawL : Dn P w K mg base 1 "_law_draw" ["_law_pen", "_law_span"] sp_draw) : FnOk P w K mg base CX0 2 f fd ["_law_pen", "_law_some"] sp_pick := by
  have nd := sc_pickL.nd
  refine fnok F sc_pickL (fun vs H Q E h => ?_) (fun cdv A outer s H vs Q E hr h => ?_)
  · obtain ⟨p, lc, a, N, xs, rfl, _⟩ := h
    rfl
  · obtain ⟨p, lc, a, N, xs, rfl, hp, hS, h0, h1, hN, k⟩ := h
    refine ⟨_, (pss_one (ps_ret (pe_ix ix_q (pv 1) (pe_d D_drawL hr (pa_cons (pv 0) (pa_cons (pe_callB call_lenQ (by rfl) T.len PySem.boot_len (pa_cons (pv 1) pa_nil)) pa_nil))) (fun _ _ => rfl)))), ?_⟩
    refine ⟨_, rfl, _, rfl, _, rfl, a, xs, rfl, hS, p, lc, N, xs.length, rfl, hp, h0, (by omega), hN, fun H' r hr' hp' kp => ?_⟩
    exact ⟨a, xs, r, _, rfl, rfl, kp_tq kp hS, List.getElem?_eq_getElem hr', k _ _ (List.getElem_mem hr') hp' kp⟩
theorem ok_word (F : FnP K "_law_word" "_law_word" s_wordL f fd) (D_drawL : Dn P w K mg base 1 "_law_draw" ["_law_pen", "_law_span"] sp_draw) : FnOk P w K mg base CX0 2 f fd ["_law_pen", "_law_bits"] sp_word := by
  have nd := sc_wordL.nd
  refine fnok F sc_wordL (fun vs H Q E h => ?_) (fun cdv A outer s H vs Q E hr h => ?_)
  · obtain ⟨p, lc, N, b, rfl, _⟩ := h
    rfl
  · obtain ⟨p, lc, N, b, rfl, hp, hb, hN, k⟩ := h
    refine ⟨_, (pss_cons (ps_set (i := 2) nd rfl (Or.inl rfl) pe_int)
  (pss_cons (ps_for PassesOwn.never rfl (pi_range1 (by rfl) T.range (pa_cons (pv 1) pa_nil)) (pg_name (i := 3) nd rfl (Or.inl rfl))
    (pss_one (ps_set (i := 2) nd rfl (Or.inl rfl) (pe_op on_add (pe_op on_mul pe_int (pv 2)) (pe_d D_drawL hr (pa_cons (pv 0) (pa_cons pe_int pa_nil)))))))
  (pss_one (ps_ret (pv 2))))), ?_⟩
    have hN' : N + 1000 ≤ 1099511627776 := hN
    refine ⟨_, rfl, _, rfl, (by omega), (by omega), for_range (n := b) (fun i σ H2 => ∃ x v, σ = [some (.ref p), some (vN b), some (vN x), v] ∧ x < 2 ^ i ∧ Pn H2 p lc (N + i) ∧ Kp H H2) ⟨0, none, rfl, by decide, hp, Kp.refl H⟩ ?_ ?_⟩
    · rintro i σ H2 hi ⟨x, v, rfl, hx, hp2, kp2⟩
      refine ⟨_, rfl, 2, x, rfl, rfl, (by decide), _, rfl, p, lc, N + i, 2, rfl, hp2, (by decide), (by decide), (by show N + i + 1 ≤ 1099511627776; omega), fun H3 r hr3 hp3 kp3 => ?_⟩
      refine ⟨_, _, rfl, rfl, 2 * x + r, _, rfl, ?_, hp3, kp2.trans kp3⟩
      rw [Nat.pow_succ]
      omega
    · rintro σ H2 ⟨x, v, rfl, hx, hp2, kp2⟩
      exact ⟨_, rfl, k _ _ hx (hp2.mono (by omega)) kp2⟩
theorem ok_mixed (F : FnP K "_law_mixed" "_law_mixed" s_mixedL f fd) (D_drawL : Dn P w K mg base 1 "_law_draw" ["_law_pen", "_law_span"] sp_draw) : FnOk P w K mg base CX0 2 f fd ["_law_pen", "_law_some"] sp_mixed := by
  have nd := sc_mixedL.nd
  refine fnok F sc_mixedL (fun vs H Q E h => ?_) (fun cdv A outer s H vs Q E hr h => ?_)
  · obtain ⟨p, lc, a, N, xs, rfl, _⟩ := h
    rfl
  · obtain ⟨p, lc, a, N, xs, rfl, hp, hS, hl, hN, k⟩ := h
    refine ⟨_, (pss_cons (ps_par (i := 2) (j := 3) (by rfl) nd rfl rfl (by decide) rfl rfl (pa_cons (pe_callTy call_listQ (by rfl) T.list (by decide +kernel) (pa_cons (pv 1) pa_nil)) (pa_cons (pe_lst pa_nil) pa_nil)) (by rfl))
  (pss_cons (ps_for PassesOwn.never rfl (pi_range1 (by rfl) T.range (pa_cons (pe_callB call_lenQ (by rfl) T.len PySem.boot_len (pa_cons (pv 1) pa_nil)) pa_nil)) (pg_name (i := 4) nd rfl (Or.inl rfl))
    (pss_one (ps_expr (pe_bm PySem.F.plainAttrs_list PySem.F.slot_list_append PySem.F.type_list_append mt_append (pv 3) (pa_cons (pe_bm PySem.F.plainAttrs_list PySem.F.slot_list_pop PySem.F.type_list_pop mt_popAt (pv 2) (pa_cons (pe_d D_drawL hr (pa_cons (pv 0) (pa_cons (pe_callB call_lenQ (by rfl) T.len PySem.boot_len (pa_cons (pv 2) pa_nil)) pa_nil))) pa_nil)) pa_nil)))))
  (pss_one (ps_ret (pv 3))))), ?_⟩
    have hN' : N + 1000 ≤ 1099511627776 := hN
    refine ⟨_, rfl, a, _, rfl, hS, fun l1 hl1 => ?_⟩
    refine ⟨(by decide), fun l2 hl2 => ⟨_, _, rfl, ?_⟩⟩
    have hl2' : H l2 = none := same_free (same_new0 hl1) hl2
    have n12 : l1 ≠ l2 := ne_of_none upd_same hl2
    have ne1 := hp.ne hl1
    have ne2 := hp.ne hl2'
    have s0 : Same H (upd (upd H l1 (.lst (xs.map vN))) l2 (.lst [])) := same_new (same_new0 hl1) hl2
    refine ⟨_, rfl, a, _, rfl, same_tq s0 hS, _, rfl, (by omega), (by rw [List.length_map]; omega), for_range (n := (xs.map vN).length) (fun i σ H2 => ∃ v ys zs, σ = [some (.ref p), some (.ref a), some (.ref l1), some (.ref l2), v] ∧ Pn H2 p lc (N + i) ∧ Kp H H2 ∧ H2 l1 = some (.lst (ys.map vN)) ∧ H2 l2 = some (.lst (zs.map vN)) ∧ ys.length + i = xs.length ∧ (ys ++ zs).Perm xs)
      ⟨none, xs, [], rfl, (hp.put ne1).put ne2, Kp.of s0, upd_put upd_same n12, upd_same, rfl, by simp⟩ ?_ ?_⟩
    · rintro i σ H2 hi ⟨v, ys, zs, rfl, hp2, kp2, h1, h2, hlen, hperm⟩
      rw [List.length_map] at hi
      have hy : 0 < ys.length := by omega
      refine ⟨_, rfl, .inl ⟨rfl, _, SqL.of h2⟩, _, rfl, .inl ⟨rfl, _, SqL.of h1⟩, _, rfl, _, rfl, l1, _, rfl, .inl h1, p, lc, N + i, (ys.map vN).length, rfl, hp2, (by rw [List.length_map]; exact hy), (by rw [List.length_map]; omega), (by show N + i + 1 ≤ 1099511627776; omega), fun H3 r hr3 hp3 kp3 => ?_⟩
      rw [List.length_map] at hr3
      have g1 := kp3 _ _ h1 rfl
      have g2 := kp3 _ _ h2 rfl
      refine ⟨l1, _, (r : Int), r, vN ys[r], rfl, rfl, g1, (by omega), (by omega), ?_, ?_, ?_⟩
      · rw [List.length_map]
        exact seq_nat hr3
      · rw [List.getElem?_map, List.getElem?_eq_getElem hr3]
        rfl
      · refine ⟨l2, _, _, rfl, rfl, upd_put g2 n12.symm, (by rw [List.length_map]; refine size6 ?_; have := hperm.length_eq; rw [List.length_append] at this; omega), ?_⟩
        refine ⟨_, ys.eraseIdx r, zs ++ [ys[r]], rfl, (hp3.put ne1).put ne2, ?_, ?_, ?_, ?_, ?_⟩
        · exact kp_put (kp_put (kp2.trans kp3) hl1) hl2'
        · rw [upd_ne n12, upd_same, eraseIdx_map]
        · rw [upd_same, List.map_append]
          rfl
        · rw [List.length_eraseIdx, if_pos hr3]
          omega
        · refine List.Perm.trans ?_ hperm
          have e1 : (ys[r] :: ys.eraseIdx r).Perm ys := perm_erase hr3
          have e2 : (ys.eraseIdx r ++ (zs ++ [ys[r]])).Perm (ys[r] :: (ys.eraseIdx r ++ zs)) := by
            rw [← List.append_assoc]
            exact List.perm_append_comm
          exact e2.trans (e1.append_right zs)
    · rintro σ H2 ⟨v, ys, zs, rfl, hp2, kp2, h1, h2, hlen, hperm⟩
      rw [List.length_map] at hlen hp2
      have e : ys = [] := List.length_eq_zero_iff.mp (by omega)
      subst e
      exact ⟨_, rfl, k _ _ zs hperm hl2' h2 (hp2.mono (by omega)) kp2⟩
end
end LaneX
set_option Elab.async false
set_option linter.all false
set_option maxRecDepth 100000
set_option maxHeartbeats 4000000
namespace LaneX
open PySem PySem.Spec PyProof.Rows L2
theorem dec_low {x r : Nat} (h : r ≠ 0) : (!decide (V.int ((x &&& lwb r : Nat) : Int) = V.int 0)) = x.testBit (low r) := by
  rw [dec_ne0]
  cases q : x.testBit (low r) with
  | true =>
    have := (and_lwb (w := x) h).mpr q
    simp [this]
  | false =>
    have : x &&& lwb r = 0 := Classical.byContradiction fun z => by rw [(and_lwb h).mp z] at q; cases q
    simp [this]
/-- pairs of a row and its tag -/
def PrsAt (H : Hp) (ts : List Addr) (ps : List (Nat × Nat)) : Prop := ts.length = ps.length ∧ ∀ (i : Nat) (t : Addr), ts[i]? = some t → ∃ p, ps[i]? = some p ∧ H t = some (.tup [vN p.1, vN p.2])
theorem PrsAt.keep {H H' : Hp} {ts : List Addr} {ps : List (Nat × Nat)} (h : PrsAt H ts ps) (k : ∀ b xs, H b = some (.tup xs) → H' b = some (.tup xs)) : PrsAt H' ts ps :=
  ⟨h.1, fun i t ht => by obtain ⟨p, h1, h2⟩ := h.2 i t ht; exact ⟨p, h1, k _ _ h2⟩⟩
theorem PrsAt.snoc {H : Hp} {ts : List Addr} {ps : List (Nat × Nat)} (h : PrsAt H ts ps) {t : Addr} {p : Nat × Nat} (ht : H t = some (.tup [vN p.1, vN p.2])) : PrsAt H (ts ++ [t]) (ps ++ [p]) := by
  refine ⟨by simp [h.1], fun i t' hi => ?_⟩
  by_cases hl : i < ts.length
  · rw [List.getElem?_append_left hl] at hi
    obtain ⟨p', h1, h2⟩ := h.2 i t' hi
    exact ⟨p', by rw [List.getElem?_append_left (by rw [← h.1]; exact hl)]; exact h1, h2⟩
  · rw [List.getElem?_append_right (by omega)] at hi
    have e : i - ts.length = 0 := by
      cases q : i - ts.length with
      | zero => rfl
      | succ n => rw [q] at hi; simp at hi
    rw [e] at hi
    have e2 : t = t' := Option.some.inj hi
    subst e2
    refine ⟨p, ?_, ht⟩
    rw [List.getElem?_append_right (by rw [← h.1]; omega), ← h.1, e]
    rfl
def sp_tagged : Sp := fun vs H Q _ => ∃ (a : Addr) (cs : List Nat), vs = [.ref a] ∧ Tq H a (cs.map vN) ∧ cs.length ≤ 1000000 ∧ ∀ H' q l1 l2, Same H H' → H' q = some (.tup [.ref l1, .ref l2]) → H l2 = none → H' l2 = some (.lst ((tgd cs).2.map vN)) → Q (.ref q) H'
def sp_kernel : Sp := fun vs H Q _ => ∃ (a : Addr) (cs : List Nat), vs = [.ref a] ∧ Tq H a (cs.map vN) ∧ cs.length ≤ 1000000 ∧ ∀ H' q, Same H H' → H q = none → H' q = some (.lst ((tgd cs).2.map vN)) → Q (.ref q) H'
def sp_is_word : Sp := fun vs H Q _ => ∃ n b : Nat, vs = [vN n, vN b] ∧ b ≤ 1000000 ∧ Q (.bl (decide (n < 2 ^ b))) H
def sp_is_space (C : Addr) : Sp := fun vs H Q _ => ∃ (p a : Addr) (b : Nat) (rows ws : List Nat), vs = [.ref p, vN b, .ref a] ∧ SpaceAt C H p b rows ∧ Tq H a (ws.map vN) ∧ ws.length ≤ 400000 ∧ rows.length ≤ 400000 ∧ rows.length = rk ws ∧ rk (ws ++ rows) = rows.length ∧ ∀ H', Same H H' → Q (.bl true) H'
theorem tgl_snoc (a : List (Nat × Nat)) (r : Nat × Nat) (st : Nat × Nat) : tgl (a ++ [r]) st = if (tgl a st).1.testBit (low r.1) = true then ((tgl a st).1 ^^^ r.1, (tgl a st).2 ^^^ r.2) else tgl a st := List.foldl_append ..
theorem tgs_nz (cols : List Nat) : ∀ n, ∀ p ∈ (tgs cols n).1, p.1 ≠ 0
  | 0, p, h => by cases h
  | n + 1, p, h => by
    rw [tgs_succ] at h
    split at h
    · exact tgs_nz cols n p h
    · rename_i hz
      rcases List.mem_append.mp h with h | h
      · exact tgs_nz cols n p h
      · rcases List.mem_singleton.mp h with rfl; exact hz
section
variable {P : Program} {w : World} {K : PySem.W.Frag} {mg : Str → Option Value} {base : Heap} {f : Addr} {fd : FuncData} {CS : Addr} (T : Bt mg) (TS : SpaceT K mg CS)
include T
theorem ok_left (F : FnP K "_law_left" "_law_left" s_leftL f fd) : FnOk P w K mg base CX0 1 f fd ["_law_rows", "_law_word_here"] sp_left := by
  have nd := sc_leftL.nd
  refine fnok F sc_leftL (fun vs H Q E h => ?_) (fun cdv A outer s H vs Q E hr h => ?_)
  · obtain ⟨a, rows, x, rfl, _⟩ := h
    rfl
  · obtain ⟨a, rows, x, rfl, hS, hn, k⟩ := h
    refine ⟨_, (pss_cons (ps_for PassesOwn.never rfl (pi_seq (pv 0)) (pg_name (i := 2) nd rfl (Or.inl rfl))
    (pss_one (ps_if (pt_cmpR op_ne (pe_op on_and (pv 1) (pe_op on_low (pv 2) (pe_un un_neg (pv 2)))) pe_int (nomark _))
      (pss_one (ps_set (i := 1) nd rfl (Or.inl rfl) (pe_op on_xor (pv 1) (pv 2))))
      pss_nil)))
  (pss_one (ps_ret (pv 1)))), ?_⟩
    refine ⟨_, rfl, for_seq (K := K) hS.sq (fun i σ H2 => ∃ v, σ = [some (.ref a), some (vN (lft (rows.take i) x)), v] ∧ H2 = H) ⟨none, rfl, rfl⟩ (fun i σ H2 hp => by obtain ⟨_, _, rfl⟩ := hp; exact Kp.refl _) ?_ ?_⟩
    · rintro i y σ H2 hy ⟨v, rfl, rfl⟩
      obtain ⟨r, hr', rfl⟩ := map_get hy
      refine ⟨_, rfl, _, rfl, _, rfl, _, rfl, r, rfl, rfl, _, _, rfl, rfl, rfl, _, rfl, ?_⟩
      rw [take_succ hr', lft_snoc, dec_low (hn r (List.mem_of_getElem? hr'))]
      cases q : (lft (rows.take i) x).testBit (low r) with
      | true => exact iteT ⟨_, rfl, _, rfl, _, _, rfl, rfl, _, rfl, rfl⟩
      | false => exact iteF ⟨_, rfl, rfl⟩
    · rintro σ H2 ⟨v, rfl, rfl⟩
      refine ⟨_, rfl, ?_⟩
      rw [List.length_map, List.take_length]
      exact k
theorem ok_basis (F : FnP K "_law_basis" "_law_basis" s_basisL f fd) (D_leftL : Dn P w K mg base 1 "_law_left" ["_law_rows", "_law_word_here"] sp_left) : FnOk P w K mg base CX0 2 f fd ["_law_words"] sp_basis := by
  have nd := sc_basisL.nd
  refine fnok F sc_basisL (fun vs H Q E h => ?_) (fun cdv A outer s H vs Q E hr h => ?_)
  · obtain ⟨a, ws, rfl, _⟩ := h
    rfl
  · obtain ⟨a, ws, rfl, hS, hl, k⟩ := h
    refine ⟨_, (pss_cons (ps_set (i := 1) nd rfl (Or.inl rfl) (pe_lst pa_nil))
  (pss_cons (ps_for PassesOwn.never rfl (pi_seq (pv 0)) (pg_name (i := 2) nd rfl (Or.inl rfl))
    (pss_cons (ps_set (i := 2) nd rfl (Or.inl rfl) (pe_d D_leftL hr (pa_cons (pv 1) (pa_cons (pv 2) pa_nil))))
    (pss_one (ps_if (pt_cmpR op_ne (pv 2) pe_int (nomark _))
      (pss_one (ps_expr (pe_bm PySem.F.plainAttrs_list PySem.F.slot_list_append PySem.F.type_list_append mt_append (pv 1) (pa_cons (pv 2) pa_nil))))
      pss_nil))))
  (pss_one (ps_ret (pv 1))))), ?_⟩
    refine ⟨(by decide), fun l0 hl0 => ?_⟩
    have s0 : Same H (upd H l0 (.lst [])) := same_new0 hl0
    have an : a ≠ l0 := by
      rcases hS with h | h
      · exact ne_of_none h hl0
      · exact ne_of_none h hl0
    refine ⟨_, rfl, for_sq2 (K := K) (same_tq s0 hS) (fun i σ H2 => ∃ v, σ = [some (.ref a), some (.ref l0), v] ∧ Same H H2 ∧ H2 l0 = some (.lst ((bas (ws.take i)).map vN))) ⟨none, rfl, s0, upd_same⟩ (fun i σ H2 hp o ho => ?_) ?_ ?_⟩
    · obtain ⟨_, _, s2, _⟩ := hp
      rw [upd_ne an] at ho
      exact s2 _ _ ho
    · rintro i y σ H2 hy ⟨v, rfl, s2, h2⟩
      obtain ⟨r, hr', rfl⟩ := map_get hy
      refine ⟨_, rfl, _, rfl, l0, _, r, rfl, .inl h2, (bas_lws _).nz, ?_⟩
      refine ⟨_, rfl, rfl, _, rfl, ?_⟩
      rw [dec_ne0, take_succ hr', bas_snoc]
      unfold bstep
      refine br (fun e => ?_) (fun e => ?_)
      · have e0 : lft (bas (ws.take i)) r ≠ 0 := by simpa using e
        rw [if_neg e0]
        have tl : (bas (ws.take i)).length ≤ 1000000 := Nat.le_trans (bas_len_le _) (Nat.le_trans (by rw [List.length_take]; omega) hl)
        refine ⟨_, rfl, .inl ⟨rfl, _, SqL.of h2⟩, _, rfl, l0, _, _, rfl, rfl, h2, (by rw [List.length_map]; exact size6 tl), ?_⟩
        refine ⟨_, rfl, same_put s2 hl0, ?_⟩
        rw [upd_same, List.map_append]
        rfl
      · have e0 : lft (bas (ws.take i)) r = 0 := by simpa using e
        rw [if_pos e0]
        exact ⟨_, rfl, s2, h2⟩
    · rintro σ H2 ⟨v, rfl, s2, h2⟩
      rw [List.length_map, List.take_length] at h2
      exact ⟨_, rfl, k _ _ s2 hl0 h2⟩
theorem ok_size (F : FnP K "_law_size" "_law_size" s_sizeL f fd) (D_basisL : Dn P w K mg base 2 "_law_basis" ["_law_words"] sp_basis) : FnOk P w K mg base CX0 3 f fd ["_law_words"] sp_size := by
  have nd := sc_sizeL.nd
  refine fnok F sc_sizeL (fun vs H Q E h => ?_) (fun cdv A outer s H vs Q E hr h => ?_)
  · obtain ⟨a, ws, rfl, _⟩ := h
    rfl
  · obtain ⟨a, ws, rfl, hS, hl, k⟩ := h
    refine ⟨_, (pss_one (ps_ret (pe_callB call_lenQ (by rfl) T.len PySem.boot_len (pa_cons (pe_d D_basisL hr (pa_cons (pv 0) pa_nil)) pa_nil)))), ?_⟩
    refine ⟨_, rfl, a, ws, rfl, hS, hl, fun H1 q s1 hq h1 => ⟨q, _, rfl, .inl h1, ?_⟩⟩
    rw [List.length_map, bas_len]
    exact k _ s1
theorem ok_image (F : FnP K "_law_image" "_law_image" s_imageL f fd) : FnOk P w K mg base CX0 1 f fd ["_law_columns", "_law_word_here"] sp_image := by
  have nd := sc_imageL.nd
  refine fnok F sc_imageL (fun vs H Q E h => ?_) (fun cdv A outer s H vs Q E hr h => ?_)
  · obtain ⟨a, cs, x, rfl, _⟩ := h
    rfl
  · obtain ⟨a, cs, x, rfl, hS, hl, k⟩ := h
    refine ⟨_, (pss_cons (ps_set (i := 2) nd rfl (Or.inl rfl) pe_int)
  (pss_cons (ps_for PassesOwn.never rfl (pi_range1 (by rfl) T.range (pa_cons (pe_callB call_lenQ (by rfl) T.len PySem.boot_len (pa_cons (pv 0) pa_nil)) pa_nil)) (pg_name (i := 3) nd rfl (Or.inl rfl))
    (pss_one (ps_if (pt_cmpR op_eq (pe_op on_and (pe_op on_shr (pv 1) (pv 3)) pe_int) pe_int (nomark _))
      (pss_one (ps_set (i := 2) nd rfl (Or.inl rfl) (pe_op on_xor (pv 2) (pe_ix ix_q (pv 0) (pv 3) (fun _ _ => rfl)))))
      pss_nil)))
  (pss_one (ps_ret (pv 2))))), ?_⟩
    refine ⟨_, rfl, a, _, rfl, hS, _, rfl, (by omega), (by rw [List.length_map]; omega), for_range (n := (cs.map vN).length) (fun i σ H2 => ∃ v, σ = [some (.ref a), some (vN x), some (vN (imf cs x i)), v] ∧ H2 = H) ⟨none, rfl, rfl⟩ ?_ ?_⟩
    · rintro i σ H2 hi ⟨v, rfl, rfl⟩
      rw [List.length_map] at hi
      rw [show (0 : Int) + (i : Int) = (i : Int) by omega]
      have hg : (cs.map vN)[i]? = some (vN (cs.getD i 0)) := by
        rw [List.getElem?_map, List.getElem?_eq_getElem hi, List.getD_eq_getElem?_getD, List.getElem?_eq_getElem hi]
        rfl
      refine ⟨_, rfl, _, rfl, _, _, rfl, rfl, _, 1, rfl, rfl, rfl, _, rfl, ?_⟩
      rw [dec_bit, imf_succ]
      cases q : x.testBit i with
      | true => exact iteT ⟨_, rfl, _, rfl, _, rfl, a, _, i, _, rfl, rfl, hS, hg, _, _, rfl, rfl, _, rfl, rfl⟩
      | false => exact iteF ⟨_, rfl, rfl⟩
    · rintro σ H2 ⟨v, rfl, rfl⟩
      refine ⟨_, rfl, ?_⟩
      rw [List.length_map]
      exact k
end
end LaneX
set_option Elab.async false
set_option linter.all false
set_option maxRecDepth 100000
set_option maxHeartbeats 4000000
namespace LaneX
open PySem PySem.Spec PyProof.Rows L2
section
variable {P : Program} {w : World} {K : PySem.W.Frag} {mg : Str → Option Value} {base : Heap} {f : Addr} {fd : FuncData} {CS : Addr} (T : Bt mg) (TS : SpaceT K mg CS)
include T
theorem ok_tagged (F : FnP K "_law_tagged" "_law_tagged" s_taggedL f fd) : FnOk P w K mg base CX0 1 f fd ["_law_columns"] sp_tagged := by
  have nd := sc_taggedL.nd
  refine fnok F sc_taggedL (fun vs H Q E h => ?_) (fun cdv A outer s H vs Q E hr h => ?_)
  · obtain ⟨a, cs, rfl, _⟩ := h
    rfl
  · obtain ⟨a, cs, rfl, hS, hl, k⟩ := h
    refine ⟨_, (pss_cons (ps_par (i := 1) (j := 2) (by rfl) nd rfl rfl (by decide) rfl rfl (pa_cons (pe_lst pa_nil) (pa_cons (pe_lst pa_nil) pa_nil)) (by rfl))
  (pss_cons (ps_for PassesOwn.never rfl (pi_range1 (by rfl) T.range (pa_cons (pe_callB call_lenQ (by rfl) T.len PySem.boot_len (pa_cons (pv 0) pa_nil)) pa_nil)) (pg_name (i := 3) nd rfl (Or.inl rfl))
    (pss_cons (ps_par (i := 4) (j := 5) (by rfl) nd rfl rfl (by decide) rfl rfl (pa_cons (pe_ix ix_q (pv 0) (pv 3) (fun _ _ => rfl)) (pa_cons (pe_op on_shl pe_int (pv 3)) pa_nil)) (by rfl))
    (pss_cons (ps_for PassesOwn.never rfl (pi_seq (pv 1)) (pg_tup (by rfl) (pgs_cons (pg_name (i := 6) nd rfl (Or.inl rfl)) (pgs_cons (pg_name (i := 7) nd rfl (Or.inl rfl)) pgs_nil)))
      (pss_one (ps_if (pt_cmpR op_ne (pe_op on_and (pv 4) (pe_op on_low (pv 6) (pe_un un_neg (pv 6)))) pe_int (nomark _))
        (pss_one (ps_par (i := 4) (j := 5) (by rfl) nd rfl rfl (by decide) rfl rfl (pa_cons (pe_op on_xor (pv 4) (pv 6)) (pa_cons (pe_op on_xor (pv 5) (pv 7)) pa_nil)) (by rfl)))
        pss_nil)))
    (pss_one (ps_if (pt_cmpR op_eq (pv 4) pe_int (nomark _))
      (pss_one (ps_expr (pe_bm PySem.F.plainAttrs_list PySem.F.slot_list_append PySem.F.type_list_append mt_append (pv 2) (pa_cons (pv 5) pa_nil))))
      (pss_one (ps_expr (pe_bm PySem.F.plainAttrs_list PySem.F.slot_list_append PySem.F.type_list_append mt_append (pv 1) (pa_cons (pe_tup (pa_cons (pv 4) (pa_cons (pv 5) pa_nil))) pa_nil)))))))))
  (pss_one (ps_ret (pe_tup (pa_cons (pv 1) (pa_cons (pv 2) pa_nil))))))), ?_⟩
    refine ⟨(by decide), fun l1 hl1 => ⟨(by decide), fun l2 hl2 => ⟨_, _, rfl, ?_⟩⟩⟩
    have hl2' : H l2 = none := same_free (same_new0 hl1) hl2
    have n12 : l1 ≠ l2 := ne_of_none upd_same hl2
    have s0 : Same H (upd (upd H l1 (.lst [])) l2 (.lst [])) := same_new (same_new0 hl1) hl2
    refine ⟨_, rfl, a, _, rfl, same_tq s0 hS, _, rfl, (by omega), (by rw [List.length_map]; omega), for_range (n := (cs.map vN).length) (fun i σ H2 => ∃ v3 v4 v5 v6 v7 ts, σ = [some (.ref a), some (.ref l1), some (.ref l2), v3, v4, v5, v6, v7] ∧ Same H H2 ∧ H2 l1 = some (.lst (ts.map V.ref)) ∧ PrsAt H2 ts (tgs cs i).1 ∧ H2 l2 = some (.lst ((tgs cs i).2.map vN)))
      ⟨none, none, none, none, none, [], rfl, s0, upd_put upd_same n12, ⟨rfl, fun i t h => by simp at h⟩, upd_same⟩ ?_ ?_⟩
    · rintro i σ H2 hi ⟨v3, v4, v5, v6, v7, ts, rfl, s2, h1, hps, h2⟩
      rw [List.length_map] at hi
      rw [show (0 : Int) + (i : Int) = (i : Int) by omega]
      have hg : (cs.map vN)[i]? = some (vN (cs.getD i 0)) := by
        rw [List.getElem?_map, List.getElem?_eq_getElem hi, List.getD_eq_getElem?_getD, List.getElem?_eq_getElem hi]
        rfl
      refine ⟨_, rfl, _, rfl, a, _, i, _, rfl, rfl, same_tq s2 hS, hg, _, rfl, 1, i, rfl, rfl, shl_ok1 (by rw [blen_one]; decide) (by omega), _, _, rfl, ?_⟩
      have L := tgs_len cs i
      refine ⟨_, rfl, for_sq2 (K := K) (Tq.l h1) (fun j σ H3 => ∃ v6 v7, σ = [some (.ref a), some (.ref l1), some (.ref l2), some (vN i), some (vN (tgl ((tgs cs i).1.take j) (cs.getD i 0, 1 <<< i)).1), some (vN (tgl ((tgs cs i).1.take j) (cs.getD i 0, 1 <<< i)).2), v6, v7] ∧ H3 = H2)
        ⟨v6, v7, rfl, rfl⟩ (fun j σ H3 hp o ho => by obtain ⟨_, _, _, rfl⟩ := hp; exact ho) ?_ ?_⟩
      · rintro j y σ H3 hy ⟨u6, u7, rfl, rfl⟩
        obtain ⟨t, ht, rfl⟩ := map_get hy
        obtain ⟨p, hp, hH⟩ := hps.2 j t ht
        have pn := tgs_nz cs i p (List.mem_of_getElem? hp)
        refine ⟨t, _, rfl, SqT.of hH, rfl, ?_⟩
        refine ⟨_, _, rfl, _, _, rfl, rfl, _, rfl, _, rfl, _, rfl, _, rfl, p.1, rfl, rfl, _, _, rfl, rfl, rfl, _, rfl, ?_⟩
        rw [take_succ hp, tgl_snoc, dec_low pn]
        cases q : (tgl ((tgs cs i).1.take j) (cs.getD i 0, 1 <<< i)).1.testBit (low p.1) with
        | true => exact iteT ⟨_, rfl, _, rfl, _, _, rfl, rfl, _, rfl, _, rfl, _, _, rfl, rfl, _, _, rfl, _, _, rfl, rfl⟩
        | false => exact iteF ⟨_, _, rfl, rfl⟩
      · rintro σ H3 ⟨u6, u7, rfl, rfl⟩
        rw [List.length_map, hps.1, List.take_length]
        refine ⟨_, rfl, rfl, _, rfl, ?_⟩
        rw [tgs_succ]
        refine br (fun e => ?_) (fun e => ?_)
        · have e0 := dec_zero e
          rw [if_pos e0]
          refine ⟨_, rfl, .inl ⟨rfl, _, SqL.of h2⟩, _, rfl, l2, _, _, rfl, rfl, h2, (by rw [List.length_map]; exact size6 (by omega)), ?_⟩
          refine ⟨_, _, _, _, _, ts, rfl, same_put s2 hl2', upd_put h1 n12, hps.keep (fun b xs hb => upd_put hb fun z => by rw [z, h2] at hb; cases hb), ?_⟩
          rw [upd_same, List.map_append]
          rfl
        · have e0 := dec_nz e
          rw [if_neg e0]
          refine ⟨_, rfl, .inl ⟨rfl, _, SqL.of h1⟩, _, rfl, _, rfl, (by show 2 ≤ sizeLine; decide), fun t ht => ?_⟩
          have nt1 : l1 ≠ t := ne_of_none h1 ht
          refine ⟨l1, _, _, rfl, rfl, upd_put h1 nt1, (by rw [List.length_map, hps.1]; exact size6 (by omega)), ?_⟩
          refine ⟨_, _, _, _, _, ts ++ [t], rfl, same_put (same_new s2 ht) hl1, ?_, ?_, upd_put (upd_put h2 (ne_of_none h2 ht)) n12.symm⟩
          · rw [upd_same, List.map_append]
            rfl
          · refine PrsAt.snoc (hps.keep fun b xs hb => upd_put (upd_put hb (ne_of_none hb ht)) fun z => by rw [z, h1] at hb; cases hb) ?_
            exact upd_put upd_same nt1.symm
    · rintro σ H2 ⟨v3, v4, v5, v6, v7, ts, rfl, s2, h1, hps, h2⟩
      rw [List.length_map] at h2
      refine ⟨_, rfl, _, rfl, (by show 2 ≤ sizeLine; decide), fun q hq => ?_⟩
      exact k _ _ l1 l2 (same_new s2 hq) upd_same hl2' (upd_put h2 (ne_of_none h2 hq))
theorem ok_kernel (F : FnP K "_law_kernel" "_law_kernel" s_kernelL f fd) (D_taggedL : Dn P w K mg base 1 "_law_tagged" ["_law_columns"] sp_tagged) : FnOk P w K mg base CX0 2 f fd ["_law_columns"] sp_kernel := by
  have nd := sc_kernelL.nd
  refine fnok F sc_kernelL (fun vs H Q E h => ?_) (fun cdv A outer s H vs Q E hr h => ?_)
  · obtain ⟨a, cs, rfl, _⟩ := h
    rfl
  · obtain ⟨a, cs, rfl, hS, hl, k⟩ := h
    refine ⟨_, (pss_one (ps_ret (pe_ix ix_q (pe_d D_taggedL hr (pa_cons (pv 0) pa_nil)) pe_int (fun _ _ => rfl)))), ?_⟩
    refine ⟨_, rfl, a, cs, rfl, hS, hl, fun H1 q l1 l2 s1 hq hl2 h2 => ?_⟩
    exact ⟨q, _, 1, _, rfl, rfl, .inr hq, rfl, k _ _ s1 hl2 h2⟩
theorem ok_is_wholeL (F : FnP K "_law_is_whole" "_law_is_whole" s_is_wholeL f fd) : FnOk P w K mg base CX0 1 f fd ["_law_value"] sp_is_whole := by
  have nd := sc_is_wholeL.nd
  refine fnok F sc_is_wholeL (fun vs H Q E h => ?_) (fun cdv A outer s H vs Q E hr h => ?_)
  · obtain ⟨n, rfl, _⟩ := h
    rfl
  · obtain ⟨n, rfl, k⟩ := h
    refine ⟨_, (pss_one (ps_ret (pe_and (pe_callB call_isi (by rfl) T.isinstance (by decide +kernel) (pa_cons (pv 0) (pa_cons (pe_bltn (v := .ty "int") (by rfl) T.int (by decide +kernel) rfl) pa_nil))) (pe_and (pe_not (pe_callB call_isi (by rfl) T.isinstance (by decide +kernel) (pa_cons (pv 0) (pa_cons (pe_bltn (v := .ty "bool") (by rfl) T.bool (by decide +kernel) rfl) pa_nil)))) (pe_one (pe_cmpR op_ge (pv 0) pe_int (nomark _))))))), ?_⟩
    refine ⟨_, rfl, _, _, _, _, _, rfl, .ty _, .base (.int _), kit_ty (r := true) (by decide +kernel), _, rfl, iteT ?_⟩
    refine ⟨_, rfl, _, _, _, _, _, rfl, .ty _, .base (.int _), kit_ty (r := false) (by decide +kernel), _, rfl, _, rfl, iteT ?_⟩
    refine ⟨_, rfl, _, _, rfl, rfl, ?_⟩
    have e : decide ((0 : Int) ≤ (n : Int)) = true := decide_eq_true (by omega)
    show Q (.bl (decide ((0 : Int) ≤ (n : Int)))) H
    rw [e]
    exact k
theorem ok_is_word (F : FnP K "_law_is_word" "_law_is_word" s_is_wordL f fd) (D_is_wholeL : Dn P w K mg base 1 "_law_is_whole" ["_law_value"] sp_is_whole) : FnOk P w K mg base CX0 2 f fd ["_law_value", "_law_bits"] sp_is_word := by
  have nd := sc_is_wordL.nd
  refine fnok F sc_is_wordL (fun vs H Q E h => ?_) (fun cdv A outer s H vs Q E hr h => ?_)
  · obtain ⟨n, b, rfl, _⟩ := h
    rfl
  · obtain ⟨n, b, rfl, hb, k⟩ := h
    refine ⟨_, (pss_one (ps_ret (pe_and (pe_d D_is_wholeL hr (pa_cons (pv 0) pa_nil)) (pe_one (pe_cmpR op_lt (pv 0) (pe_op on_shl pe_int (pv 1)) (nomark _)))))), ?_⟩
    refine ⟨_, rfl, n, rfl, _, rfl, iteT ?_⟩
    refine ⟨_, rfl, _, rfl, 1, b, rfl, rfl, shl_ok1 (by rw [blen_one]; decide) (by omega), _, _, rfl, rfl, ?_⟩
    have e : decide ((n : Int) < ((1 <<< b : Nat) : Int)) = decide (n < 2 ^ b) := by
      rw [Nat.one_shiftLeft]
      by_cases h : n < 2 ^ b
      · rw [decide_eq_true h, decide_eq_true (by omega)]
      · rw [decide_eq_false h, decide_eq_false (by omega)]
    show Q (.bl (decide ((n : Int) < ((1 <<< b : Nat) : Int)))) H
    rw [e]
    exact k
end
end LaneX
set_option Elab.async false
set_option linter.all false
set_option maxRecDepth 100000
set_option maxHeartbeats 4000000
namespace LaneX
open PySem PySem.Spec PyProof.Rows L2
def sp_words_for : Sp := fun vs H Q _ => ∃ (p lc : Addr) (N b m st : Nat), vs = [.ref p, vN b, vN m, vN st] ∧ Pn H p lc N ∧ b ≤ 1000 ∧ m ≤ 1000 ∧ N + 3000000 ≤ TOP ∧
  ∀ (H' : Hp) (q : Addr) (ws : List Nat), ws.length = m → (∀ x ∈ ws, x < 2 ^ b) → H q = none → H' q = some (.lst (ws.map vN)) → Pn H' p lc (N + 3000000) → Kp H H' → Q (.ref q) H'
def sp_spread_words : Sp := fun vs H Q _ => ∃ (p lc : Addr) (N b m n : Nat), vs = [.ref p, vN b, vN m, vN n] ∧ Pn H p lc N ∧ b ≤ 200 ∧ m ≤ 200 ∧ n ≤ 200 ∧ N + 7000000 ≤ TOP ∧
  ∀ (H' : Hp) (q a c : Addr) (ss ls : List Nat), ss.length ≤ 600 → ls.length ≤ 600 → (∀ x ∈ ss, x < 2 ^ b) → (∀ x ∈ ls, x < 2 ^ b) → b ≤ rk (ss ++ ls) → H' q = some (.tup [.ref a, .ref c]) → H' a = some (.lst (ss.map vN)) → H' c = some (.lst (ls.map vN)) → Pn H' p lc (N + 7000000) → Kp H H' → Q (.ref q) H'
theorem dec_eqn {a b : Nat} : decide (V.int (a : Int) = V.int (b : Int)) = decide (a = b) := dec_nat
section
variable {P : Program} {w : World} {K : PySem.W.Frag} {mg : Str → Option Value} {base : Heap} {f : Addr} {fd : FuncData} {CS : Addr} (T : Bt mg) (TS : SpaceT K mg CS)
include T
theorem ok_words_for (F : FnP K "_law_words_for" "_law_words_for" s_words_forL f fd) (D_drawL : Dn P w K mg base 1 "_law_draw" ["_law_pen", "_law_span"] sp_draw) (D_pickL : Dn P w K mg base 2 "_law_pick" ["_law_pen", "_law_some"] sp_pick) (D_wordL : Dn P w K mg base 2 "_law_word" ["_law_pen", "_law_bits"] sp_word) :
    FnOk P w K mg base CX0 3 f fd ["_law_pen", "_law_bits", "_law_many", "_law_style"] sp_words_for := by
  have nd := sc_words_forL.nd
  refine fnok F sc_words_forL (fun vs H Q E h => ?_) (fun cdv A outer s H vs Q E hr h => ?_)
  · obtain ⟨p, lc, N, b, m, st, rfl, _⟩ := h
    rfl
  · obtain ⟨p, lc, N, b, m, st, rfl, hp, hb, hm, hN, k⟩ := h
    refine ⟨_, (pss_cons (ps_set (i := 4) nd rfl (Or.inl rfl) (pe_lst pa_nil))
  (pss_cons (ps_for PassesOwn.never rfl (pi_range1 (by rfl) T.range (pa_cons (pv 2) pa_nil)) (pg_name (i := 5) nd rfl (Or.inl rfl))
    (pss_one (ps_if (PW.pt (pw_and (pt_cmpR op_eq (pv 3) pe_int (nomark _)) (pw_and1 (pt_cmpR op_gt (pv 1) pe_int (nomark _)))))
      (pss_one (ps_expr (pe_bm PySem.F.plainAttrs_list PySem.F.slot_list_append PySem.F.type_list_append mt_append (pv 4) (pa_cons (pe_op on_shl pe_int (pe_d D_drawL hr (pa_cons (pv 0) (pa_cons (pv 1) pa_nil)))) pa_nil))))
      (pss_one (ps_if (PW.pt (pw_and (pt_cmpR op_eq (pv 3) pe_int (nomark _)) (pw_and (pt_cmpR (op_neE hr.units) (pv 4) (pe_lst pa_nil) (nomark _)) (pw_and1 (pt_cmpR op_eq (pe_d D_drawL hr (pa_cons (pv 0) (pa_cons pe_int pa_nil))) pe_int (nomark _))))))
        (pss_one (ps_expr (pe_bm PySem.F.plainAttrs_list PySem.F.slot_list_append PySem.F.type_list_append mt_append (pv 4) (pa_cons (pe_d D_pickL hr (pa_cons (pv 0) (pa_cons (pe_op op_cat (pv 4) (pe_lst (pa_cons pe_int pa_nil))) pa_nil))) pa_nil))))
        (pss_one (ps_expr (pe_bm PySem.F.plainAttrs_list PySem.F.slot_list_append PySem.F.type_list_append mt_append (pv 4) (pa_cons (pe_d D_wordL hr (pa_cons (pv 0) (pa_cons (pv 1) pa_nil))) pa_nil)))))))))
  (pss_one (ps_ret (pv 4))))), ?_⟩
    have hN' : N + 3000000 ≤ 1099511627776 := hN
    refine ⟨(by decide), fun l0 hl0 => ?_⟩
    have ne0 := hp.ne hl0
    refine ⟨_, rfl, _, rfl, (by omega), (by omega), for_range (n := m) (fun i σ H2 => ∃ v ws, σ = [some (.ref p), some (vN b), some (vN m), some (vN st), some (.ref l0), v] ∧ Pn H2 p lc (N + i * 2000) ∧ Kp H H2 ∧ H2 l0 = some (.lst (ws.map vN)) ∧ ws.length = i ∧ ∀ x ∈ ws, x < 2 ^ b)
      ⟨none, [], rfl, (hp.put ne0).mono (by omega), Kp.of (same_new0 hl0), upd_same, rfl, fun x hx => by cases hx⟩ ?_ ?_⟩
    · rintro i σ H2 hi ⟨v, ws, rfl, hp2, kp2, h2, hlen, hws⟩
      -- what is appended
      have fin : ∀ {H3 : Hp} {x : Nat}, x < 2 ^ b → Pn H3 p lc (N + (i + 1) * 2000) → Kp H H3 → H3 l0 = some (.lst (ws.map vN)) → (ws.map vN).length < sizeLine ∧ ∃ (v : Option V) (ws' : List Nat), [some (V.ref p), some (vN b), some (vN m), some (vN st), some (.ref l0), some (V.int (0 + (i : Int)))] = [some (.ref p), some (vN b), some (vN m), some (vN st), some (.ref l0), v] ∧ Pn (upd H3 l0 (.lst (ws.map vN ++ [vN x]))) p lc (N + (i + 1) * 2000) ∧ Kp H (upd H3 l0 (.lst (ws.map vN ++ [vN x]))) ∧ upd H3 l0 (.lst (ws.map vN ++ [vN x])) l0 = some (.lst (ws'.map vN)) ∧ ws'.length = i + 1 ∧ ∀ x ∈ ws', x < 2 ^ b := fun {H3 x} hx hp3 kp3 h3 => by
        refine ⟨by rw [List.length_map, hlen]; exact size6 (by omega), _, ws ++ [x], rfl, hp3.put ne0, kp_put kp3 hl0, by rw [upd_same, List.map_append]; rfl, by rw [List.length_append, hlen]; rfl, fun y hy => ?_⟩
        rcases List.mem_append.mp hy with hy | hy
        · exact hws y hy
        · rcases List.mem_singleton.mp hy with rfl; exact hx
      have word : ∀ {H3 : Hp}, Pn H3 p lc (N + i * 2000 + 10) → Kp H H3 → H3 l0 = some (.lst (ws.map vN)) → True := fun _ _ _ => trivial
      refine ⟨_, rfl, rfl, _, rfl, br (fun e => ?_) (fun e => ?_)⟩
      · refine ⟨_, rfl, _, _, rfl, rfl, _, rfl, br (fun e2 => ?_) (fun e2 => ?_)⟩
        · have hb0 : 0 < b := by have := of_decide_eq_true e2; omega
          refine ⟨_, rfl, .inl ⟨rfl, _, SqL.of h2⟩, _, rfl, _, rfl, p, lc, N + i * 2000, b, rfl, hp2, hb0, (by omega), (by show N + i * 2000 + 1 ≤ 1099511627776; omega), fun H3 r hr3 hp3 kp3 => ?_⟩
          obtain ⟨z1, z2⟩ := fin (H3 := H3) (x := 1 <<< r) (by rw [Nat.one_shiftLeft]; exact Nat.pow_lt_pow_right (by decide) hr3) (hp3.mono (by omega)) (kp2.trans kp3) (kp3 _ _ h2 rfl)
          exact ⟨1, r, rfl, rfl, shl_ok1 (by rw [blen_one]; decide) (by omega), l0, _, _, rfl, rfl, kp3 _ _ h2 rfl, z1, z2⟩
        · refine ⟨_, rfl, rfl, _, rfl, br (fun e3 => ?_) (fun e3 => ?_)⟩
          · refine ⟨_, rfl, (by decide), fun q hq => ?_⟩
            refine ⟨l0, q, ws, rfl, rfl, upd_new hq h2, upd_same, _, rfl, br (fun e4 => ?_) (fun e4 => ?_)⟩
            · have hp2' : Pn (upd H2 q (.lst [])) p lc (N + i * 2000) := hp2.put (hp2.ne hq)
              refine ⟨_, rfl, p, lc, N + i * 2000, 3, rfl, hp2', (by decide), (by decide), (by show N + i * 2000 + 1 ≤ 1099511627776; omega), fun H3 r hr3 hp3 kp3 => ?_⟩
              have kp3' : Kp H H3 := (kp_new kp2 hq).trans kp3
              have g3 : H3 l0 = some (.lst (ws.map vN)) := kp3 _ _ (upd_new hq h2) rfl
              refine ⟨rfl, _, rfl, br (fun e5 => ?_) (fun e5 => ?_)⟩
              · refine ⟨_, rfl, .inl ⟨rfl, _, SqL.of g3⟩, _, rfl, _, rfl, (by decide), fun q1 hq1 => ?_⟩
                refine ⟨l0, q1, _, _, rfl, rfl, upd_new hq1 g3, upd_same, (by rw [List.length_map, hlen]; show i + 1 ≤ _; rw [sizeLine_eq]; omega), fun q2 hq2 => ?_⟩
                have hp4 : Pn (upd (upd H3 q1 (.lst [.int 0])) q2 (.lst (ws.map vN ++ [.int 0]))) p lc (N + i * 2000 + 1) := (hp3.put (hp3.ne hq1)).put ((hp3.put (hp3.ne hq1)).ne hq2)
                refine ⟨p, lc, q2, N + i * 2000 + 1, _, rfl, hp4, .inl upd_same, (by simp), (by simp; omega), (by show N + i * 2000 + 1 + 1 ≤ 1099511627776; omega), fun H5 v5 hv5 hp5 kp5 => ?_⟩
                obtain ⟨x, rfl, hx⟩ : ∃ x, v5 = vN x ∧ x < 2 ^ b := by
                  rcases List.mem_append.mp hv5 with hv | hv
                  · obtain ⟨x, hx, rfl⟩ := List.mem_map.mp hv
                    exact ⟨x, rfl, hws x hx⟩
                  · rcases List.mem_singleton.mp hv with rfl
                    exact ⟨0, rfl, Nat.two_pow_pos b⟩
                have g5 : H5 l0 = some (.lst (ws.map vN)) := kp5 _ _ (upd_new hq2 (upd_new hq1 g3)) rfl
                obtain ⟨z1, z2⟩ := fin (H3 := H5) (x := x) hx (hp5.mono (by omega)) ((kp_new (kp_new kp3' hq1) hq2).trans kp5) g5
                exact ⟨l0, _, _, rfl, rfl, g5, z1, z2⟩
              · refine ⟨_, rfl, .inl ⟨rfl, _, SqL.of g3⟩, _, rfl, _, rfl, p, lc, N + i * 2000 + 1, b, rfl, hp3, hb, (by show N + i * 2000 + 1 + 1000 ≤ 1099511627776; omega), fun H4 x hx hp4 kp4 => ?_⟩
                obtain ⟨z1, z2⟩ := fin (H3 := H4) (x := x) hx (hp4.mono (by omega)) (kp3'.trans kp4) (kp4 _ _ g3 rfl)
                exact ⟨l0, _, _, rfl, rfl, kp4 _ _ g3 rfl, z1, z2⟩
            · have hp2' : Pn (upd H2 q (.lst [])) p lc (N + i * 2000) := hp2.put (hp2.ne hq)
              have g2 : upd H2 q (.lst []) l0 = some (.lst (ws.map vN)) := upd_new hq h2
              refine ⟨_, rfl, .inl ⟨rfl, _, SqL.of g2⟩, _, rfl, _, rfl, p, lc, N + i * 2000, b, rfl, hp2', hb, (by show N + i * 2000 + 1000 ≤ 1099511627776; omega), fun H4 x hx hp4 kp4 => ?_⟩
              obtain ⟨z1, z2⟩ := fin (H3 := H4) (x := x) hx (hp4.mono (by omega)) ((kp_new kp2 hq).trans kp4) (kp4 _ _ g2 rfl)
              exact ⟨l0, _, _, rfl, rfl, kp4 _ _ g2 rfl, z1, z2⟩
          · refine ⟨_, rfl, .inl ⟨rfl, _, SqL.of h2⟩, _, rfl, _, rfl, p, lc, N + i * 2000, b, rfl, hp2, hb, (by show N + i * 2000 + 1000 ≤ 1099511627776; omega), fun H4 x hx hp4 kp4 => ?_⟩
            obtain ⟨z1, z2⟩ := fin (H3 := H4) (x := x) hx (hp4.mono (by omega)) (kp2.trans kp4) (kp4 _ _ h2 rfl)
            exact ⟨l0, _, _, rfl, rfl, kp4 _ _ h2 rfl, z1, z2⟩
      · refine ⟨_, rfl, rfl, _, rfl, br (fun e3 => ?_) (fun e3 => ?_)⟩
        · refine ⟨_, rfl, (by decide), fun q hq => ?_⟩
          refine ⟨l0, q, ws, rfl, rfl, upd_new hq h2, upd_same, _, rfl, br (fun e4 => ?_) (fun e4 => ?_)⟩
          · have hp2' : Pn (upd H2 q (.lst [])) p lc (N + i * 2000) := hp2.put (hp2.ne hq)
            refine ⟨_, rfl, p, lc, N + i * 2000, 3, rfl, hp2', (by decide), (by decide), (by show N + i * 2000 + 1 ≤ 1099511627776; omega), fun H3 r hr3 hp3 kp3 => ?_⟩
            have kp3' : Kp H H3 := (kp_new kp2 hq).trans kp3
            have g3 : H3 l0 = some (.lst (ws.map vN)) := kp3 _ _ (upd_new hq h2) rfl
            refine ⟨rfl, _, rfl, br (fun e5 => ?_) (fun e5 => ?_)⟩
            · refine ⟨_, rfl, .inl ⟨rfl, _, SqL.of g3⟩, _, rfl, _, rfl, (by decide), fun q1 hq1 => ?_⟩
              refine ⟨l0, q1, _, _, rfl, rfl, upd_new hq1 g3, upd_same, (by rw [List.length_map, hlen]; show i + 1 ≤ _; rw [sizeLine_eq]; omega), fun q2 hq2 => ?_⟩
              have hp4 : Pn (upd (upd H3 q1 (.lst [.int 0])) q2 (.lst (ws.map vN ++ [.int 0]))) p lc (N + i * 2000 + 1) := (hp3.put (hp3.ne hq1)).put ((hp3.put (hp3.ne hq1)).ne hq2)
              refine ⟨p, lc, q2, N + i * 2000 + 1, _, rfl, hp4, .inl upd_same, (by simp), (by simp; omega), (by show N + i * 2000 + 1 + 1 ≤ 1099511627776; omega), fun H5 v5 hv5 hp5 kp5 => ?_⟩
              obtain ⟨x, rfl, hx⟩ : ∃ x, v5 = vN x ∧ x < 2 ^ b := by
                rcases List.mem_append.mp hv5 with hv | hv
                · obtain ⟨x, hx, rfl⟩ := List.mem_map.mp hv
                  exact ⟨x, rfl, hws x hx⟩
                · rcases List.mem_singleton.mp hv with rfl
                  exact ⟨0, rfl, Nat.two_pow_pos b⟩
              have g5 : H5 l0 = some (.lst (ws.map vN)) := kp5 _ _ (upd_new hq2 (upd_new hq1 g3)) rfl
              obtain ⟨z1, z2⟩ := fin (H3 := H5) (x := x) hx (hp5.mono (by omega)) ((kp_new (kp_new kp3' hq1) hq2).trans kp5) g5
              exact ⟨l0, _, _, rfl, rfl, g5, z1, z2⟩
            · refine ⟨_, rfl, .inl ⟨rfl, _, SqL.of g3⟩, _, rfl, _, rfl, p, lc, N + i * 2000 + 1, b, rfl, hp3, hb, (by show N + i * 2000 + 1 + 1000 ≤ 1099511627776; omega), fun H4 x hx hp4 kp4 => ?_⟩
              obtain ⟨z1, z2⟩ := fin (H3 := H4) (x := x) hx (hp4.mono (by omega)) (kp3'.trans kp4) (kp4 _ _ g3 rfl)
              exact ⟨l0, _, _, rfl, rfl, kp4 _ _ g3 rfl, z1, z2⟩
          · have hp2' : Pn (upd H2 q (.lst [])) p lc (N + i * 2000) := hp2.put (hp2.ne hq)
            have g2 : upd H2 q (.lst []) l0 = some (.lst (ws.map vN)) := upd_new hq h2
            refine ⟨_, rfl, .inl ⟨rfl, _, SqL.of g2⟩, _, rfl, _, rfl, p, lc, N + i * 2000, b, rfl, hp2', hb, (by show N + i * 2000 + 1000 ≤ 1099511627776; omega), fun H4 x hx hp4 kp4 => ?_⟩
            obtain ⟨z1, z2⟩ := fin (H3 := H4) (x := x) hx (hp4.mono (by omega)) ((kp_new kp2 hq).trans kp4) (kp4 _ _ g2 rfl)
            exact ⟨l0, _, _, rfl, rfl, kp4 _ _ g2 rfl, z1, z2⟩
        · refine ⟨_, rfl, .inl ⟨rfl, _, SqL.of h2⟩, _, rfl, _, rfl, p, lc, N + i * 2000, b, rfl, hp2, hb, (by show N + i * 2000 + 1000 ≤ 1099511627776; omega), fun H4 x hx hp4 kp4 => ?_⟩
          obtain ⟨z1, z2⟩ := fin (H3 := H4) (x := x) hx (hp4.mono (by omega)) (kp2.trans kp4) (kp4 _ _ h2 rfl)
          exact ⟨l0, _, _, rfl, rfl, kp4 _ _ h2 rfl, z1, z2⟩
    · rintro σ H2 ⟨v, ws, rfl, hp2, kp2, h2, hlen, hws⟩
      exact ⟨_, rfl, k _ _ ws hlen hws hl0 h2 (hp2.mono (by omega)) kp2⟩
end
end LaneX
set_option Elab.async false
set_option linter.all false
set_option maxRecDepth 100000
set_option maxHeartbeats 4000000
namespace LaneX
open PySem PySem.Spec PyProof.Rows L2
section
variable {P : Program} {w : World} {K : PySem.W.Frag} {mg : Str → Option Value} {base : Heap} {f : Addr} {fd : FuncData} {CS : Addr} (T : Bt mg) (TS : SpaceT K mg CS)
include T
theorem ok_spread_words (F : FnP K "_law_spread_words" "_law_spread_words" s_spread_wordsL f fd) (D_drawL : Dn P w K mg base 1 "_law_draw" ["_law_pen", "_law_span"] sp_draw) (D_words_forL : Dn P w K mg base 3 "_law_words_for" ["_law_pen", "_law_bits", "_law_many", "_law_style"] sp_words_for)
    (D_basisL : Dn P w K mg base 2 "_law_basis" ["_law_words"] sp_basis) (D_mixedL : Dn P w K mg base 2 "_law_mixed" ["_law_pen", "_law_some"] sp_mixed) (D_leftL : Dn P w K mg base 1 "_law_left" ["_law_rows", "_law_word_here"] sp_left) :
    FnOk P w K mg base CX0 4 f fd ["_law_pen", "_law_bits", "_law_slots", "_law_lanes"] sp_spread_words := by
  have nd := sc_spread_wordsL.nd
  refine fnok F sc_spread_wordsL (fun vs H Q E h => ?_) (fun cdv A outer s H vs Q E hr h => ?_)
  · obtain ⟨p, lc, N, b, m, n, rfl, _⟩ := h
    rfl
  · obtain ⟨p, lc, N, b, m, n, rfl, hp, hb, hm, hn, hN, k⟩ := h
    refine ⟨_, (pss_cons (ps_set (i := 4) nd rfl (Or.inl rfl) (pe_d D_drawL hr (pa_cons (pv 0) (pa_cons pe_int pa_nil))))
  (pss_cons (ps_par (i := 5) (j := 6) (by rfl) nd rfl rfl (by decide) rfl rfl (pa_cons (pe_d D_words_forL hr (pa_cons (pv 0) (pa_cons (pv 1) (pa_cons (pv 2) (pa_cons (pv 4) pa_nil))))) (pa_cons (pe_d D_words_forL hr (pa_cons (pv 0) (pa_cons (pv 1) (pa_cons (pv 3) (pa_cons (pv 4) pa_nil))))) pa_nil)) (by rfl))
  (pss_cons (ps_set (i := 7) nd rfl (Or.inl rfl) (pe_d D_basisL hr (pa_cons (pe_op op_cat (pv 5) (pv 6)) pa_nil)))
  (pss_cons (ps_for PassesOwn.never rfl (pi_seq (pe_d D_mixedL hr (pa_cons (pv 0) (pa_cons (pe_lc (own := [("_law_bit", 10)]) (g := gName 10) (by rfl) nd (pi_range1 (by rfl) T.range (pa_cons (pv 1) pa_nil)) (blkOk_by (own := [("_law_bit", 10)]) (N := ["_law_pen", "_law_bits", "_law_slots", "_law_lanes", "_law_style", "_law_some", "_law_others", "_law_rows", "_law_word_here", "_law_left_here", "_law_bit"]) (sc := defScope s_spread_wordsL) (by decide +kernel)) (fun _ _ _ _ _ => (pg_name (i := 10) nd rfl (Or.inl rfl))) (fun _ _ _ _ _ => pts_nil) (fun _ _ _ _ _ => (pe_op on_shl pe_int (pv 10)))) pa_nil)))) (pg_name (i := 8) nd rfl (Or.inl rfl))
    (pss_cons (ps_set (i := 9) nd rfl (Or.inl rfl) (pe_d D_leftL hr (pa_cons (pv 7) (pa_cons (pv 8) pa_nil))))
    (pss_one (ps_if (pt_cmpR op_ne (pv 9) pe_int (nomark _))
      (pss_cons (ps_expr (pe_bm PySem.F.plainAttrs_list PySem.F.slot_list_append PySem.F.type_list_append mt_append (pv 7) (pa_cons (pv 9) pa_nil)))
      (pss_one (ps_if (pt_cmpR op_eq (pe_d D_drawL hr (pa_cons (pv 0) (pa_cons pe_int pa_nil))) pe_int (nomark _))
        (pss_one (ps_expr (pe_bm PySem.F.plainAttrs_list PySem.F.slot_list_append PySem.F.type_list_append mt_append (pv 5) (pa_cons (pv 8) pa_nil))))
        (pss_one (ps_expr (pe_bm PySem.F.plainAttrs_list PySem.F.slot_list_append PySem.F.type_list_append mt_append (pv 6) (pa_cons (pv 8) pa_nil)))))))
      pss_nil))))
  (pss_one (ps_ret (pe_tup (pa_cons (pe_d D_mixedL hr (pa_cons (pv 0) (pa_cons (pv 5) pa_nil))) (pa_cons (pe_d D_mixedL hr (pa_cons (pv 0) (pa_cons (pv 6) pa_nil))) pa_nil))))))))), ?_⟩
    have hN' : N + 7000000 ≤ 1099511627776 := hN
    refine ⟨_, rfl, p, lc, N, 3, rfl, hp, (by decide), (by decide), (by show N + 1 ≤ 1099511627776; omega), fun H1 st hst hp1 kp1 => ?_⟩
    refine ⟨_, rfl, _, rfl, _, rfl, _, rfl, p, lc, N + 1, b, m, st, rfl, hp1, (by omega), (by omega), (by show N + 1 + 3000000 ≤ 1099511627776; omega), fun H2 a ws hws hwb ha h2 hp2 kp2 => ?_⟩
    refine ⟨_, rfl, _, rfl, _, rfl, _, rfl, p, lc, N + 1 + 3000000, b, n, st, rfl, hp2, (by omega), (by omega), (by show N + 1 + 3000000 + 3000000 ≤ 1099511627776; omega), fun H3 c us hus hub hc h3 hp3 kp3 => ⟨_, _, rfl, ?_⟩⟩
    have h2' := kp3 _ _ h2 rfl
    have kp13 : Kp H H3 := (kp1.trans kp2).trans kp3
    have ha0 : H a = none := kp1.free _ ha
    have hc0 : H c = none := kp1.free _ (kp2.free _ hc)
    have nac : a ≠ c := ne_of_none h2 hc
    refine ⟨_, rfl, _, rfl, a, c, _, _, rfl, rfl, h2', h3, (by rw [List.length_map, List.length_map, sizeLine_eq]; omega), fun d hd => ?_⟩
    have s4 : Same H3 (upd H3 d (.lst (ws.map vN ++ us.map vN))) := same_new0 hd
    refine ⟨d, ws ++ us, rfl, .inl (by rw [upd_same, List.map_append]), (by rw [List.length_append]; omega), fun H5 e s5 he h5 => ?_⟩
    have s45 := s4.trans s5
    have he3 : H3 e = none := same_free s4 he
    have he0 : H e = none := kp13.free _ he3
    have h5a := s45 _ _ h2'
    have h5c := s45 _ _ h3
    have hp5 := hp3.same s45
    have kp5 := kp13.trans (Kp.of s45)
    -- the units, mixed
    refine ⟨_, rfl, _, rfl, _, rfl, (by omega), (by omega), lc_pureR (n := b) (fun _ => true) (fun i => vN (1 <<< i)) (by omega) (fun i H' hi s => ?_) (fun D H6 hD s6 h6 => ?_)⟩
    · intro Z Nx z1 z2
      exact ⟨rfl, _, rfl, 1, _, rfl, rfl, shl_ok1 (by rw [blen_one]; decide) (by omega), z1 rfl _ (Same.refl _)⟩
    rw [filt_true] at h6
    have ul : (units b).length = b := by simp [units]
    have h6' : H6 D = some (.lst ((units b).map vN)) := by rw [h6]; simp [units]
    refine ⟨p, lc, D, N + 1 + 3000000 + 3000000, units b, rfl, hp5.same s6, .inl h6', by omega, (by show N + 1 + 3000000 + 3000000 + 1000 ≤ 1099511627776; omega), fun H7 g vs hperm hg h7 hp7 kp7 => ?_⟩
    have kp67 : Kp H H7 := (kp5.trans (Kp.of s6)).trans kp7
    have h7a := kp7 _ _ (s6 _ _ h5a) rfl
    have h7c := kp7 _ _ (s6 _ _ h5c) rfl
    have h7e := kp7 _ _ (s6 _ _ h5) rfl
    have nae : a ≠ e := ne_of_none h2' he3
    have nce : c ≠ e := ne_of_none h3 he3
    have hg6 : H6 g = none := hg
    have nga : g ≠ a := (ne_of_none (s6 _ _ h5a) hg6).symm
    have ngc : g ≠ c := (ne_of_none (s6 _ _ h5c) hg6).symm
    have nge : g ≠ e := (ne_of_none (s6 _ _ h5) hg6).symm
    have pa := hp.ne ha0
    have pc := hp.ne hc0
    have pe := hp.ne he0
    have lv : vs.length = b := by rw [hperm.length_eq, ul]
    have vlt : ∀ x ∈ vs, x < 2 ^ b := fun x hx => by
      obtain ⟨i, hi, rfl⟩ := List.mem_map.mp (hperm.mem_iff.mp hx)
      rw [Nat.one_shiftLeft]
      exact Nat.pow_lt_pow_right (by decide) (List.mem_range.mp hi)
    refine for_sq2 (K := K) (Tq.l h7) (fun i σ H2 => ∃ v8 v9 so ot rs, σ = [some (.ref p), some (vN b), some (vN m), some (vN n), some (vN st), some (.ref a), some (.ref c), some (.ref e), v8, v9, none] ∧ Pn H2 p lc (N + 6001001 + i) ∧ Kp H H2 ∧ H2 g = some (.lst (vs.map vN)) ∧ H2 a = some (.lst (so.map vN)) ∧ H2 c = some (.lst (ot.map vN)) ∧ H2 e = some (.lst (rs.map vN)) ∧
      Lws rs ∧ (∀ x, Spn rs x ↔ Spn (so ++ ot) x) ∧ (∀ u ∈ vs.take i, Spn (so ++ ot) u) ∧ (∀ x ∈ so, x < 2 ^ b) ∧ (∀ x ∈ ot, x < 2 ^ b) ∧ so.length ≤ 200 + i ∧ ot.length ≤ 200 + i ∧ rs.length ≤ 400 + i)
      ⟨none, none, ws, us, bas (ws ++ us), rfl, hp7.mono (by omega), kp67, h7, h7a, h7c, h7e, bas_lws _, bas_span _, fun u hu => (by cases hu), hwb, hub, by omega, by omega, Nat.le_trans (bas_len_le _) (by rw [List.length_append]; omega)⟩ (fun i σ H2 hp o ho => ?_) ?_ ?_
    · obtain ⟨_, _, _, _, _, _, _, _, z, _⟩ := hp
      rw [h7] at ho
      cases ho
      exact z
    · rintro i y σ H2 hy ⟨v8, v9, so, ot, rs, rfl, q1, q2, q3, q4, q5, q6, q7, q8, q9, q10, q11, q12, q13, q14⟩
      obtain ⟨u, hu, rfl⟩ := map_get hy
      have hib : i < b := by
        have := (List.getElem?_eq_some_iff.mp hu).1
        omega
      have ult := vlt u (List.mem_of_getElem? hu)
      refine ⟨_, rfl, _, rfl, e, rs, u, rfl, .inl q6, q7.nz, ?_⟩
      refine ⟨_, rfl, rfl, _, rfl, ?_⟩
      rw [dec_ne0]
      refine br (fun z => ?_) (fun z => ?_)
      · have z0 : lft rs u ≠ 0 := by simpa using z
        have bs : bstep rs u = rs ++ [lft rs u] := by unfold bstep; rw [if_neg z0]
        have L2' : Lws (rs ++ [lft rs u]) := by rw [← bs]; exact q7.step u
        have S2' : ∀ x, Spn (rs ++ [lft rs u]) x ↔ Spn (rs ++ [u]) x := fun x => by rw [← bs]; exact bstep_span rs u x
        refine ⟨_, rfl, .inl ⟨rfl, _, SqL.of q6⟩, _, rfl, e, _, _, rfl, rfl, q6, (by rw [List.length_map]; exact size6 (by omega)), ?_⟩
        have r1 : Pn (upd H2 e (.lst (rs.map vN ++ [vN (lft rs u)]))) p lc (N + 6001001 + i) := q1.put pe
        refine ⟨_, rfl, p, lc, N + 6001001 + i, 2, rfl, r1, (by decide), (by decide), (by show N + 6001001 + i + 1 ≤ 1099511627776; omega), fun H8 r hr8 hp8 kp8 => ?_⟩
        have k8 : Kp H H8 := (kp_put q2 he0).trans kp8
        have t3 : H8 g = some (.lst (vs.map vN)) := kp8 _ _ (upd_put q3 nge) rfl
        have t4 : H8 a = some (.lst (so.map vN)) := kp8 _ _ (upd_put q4 nae) rfl
        have t5 : H8 c = some (.lst (ot.map vN)) := kp8 _ _ (upd_put q5 nce) rfl
        have t6 : H8 e = some (.lst ((rs ++ [lft rs u]).map vN)) := kp8 _ _ (by rw [upd_same, List.map_append]; rfl) rfl
        refine ⟨rfl, _, rfl, br (fun _ => ?_) (fun _ => ?_)⟩
        · refine ⟨_, rfl, .inl ⟨rfl, _, SqL.of t4⟩, _, rfl, a, _, _, rfl, rfl, t4, (by rw [List.length_map]; exact size6 (by omega)), ?_⟩
          have sp2 : ∀ x, Spn (rs ++ [lft rs u]) x ↔ Spn (so ++ [u] ++ ot) x := fun x => by
            rw [S2' x, span_app q8]
            have : (so ++ ot ++ [u]).Perm (so ++ [u] ++ ot) := by
              rw [List.append_assoc, List.append_assoc]
              exact List.perm_append_comm.append_left so
            exact ⟨fun h => h.sub fun w hw => this.mem_iff.mp hw, fun h => h.sub fun w hw => this.mem_iff.mpr hw⟩
          refine ⟨_, _, so ++ [u], ot, rs ++ [lft rs u], rfl, (hp8.put pa).mono (by omega), kp_put k8 ha0, upd_put t3 nga, by rw [upd_same, List.map_append]; rfl, upd_put t5 nac.symm, upd_put t6 nae.symm, L2', sp2, ?_, ?_, q11, by simp; omega, by omega, by simp; omega⟩
          · intro x hx
            rw [take_succ hu] at hx
            rcases List.mem_append.mp hx with hx | hx
            · exact (q9 x hx).sub fun w hw => by simp at hw ⊢; rcases hw with h | h <;> simp [h]
            · rcases List.mem_singleton.mp hx with rfl
              exact .of (by simp)
          · intro x hx
            rcases List.mem_append.mp hx with hx | hx
            · exact q10 x hx
            · rcases List.mem_singleton.mp hx with rfl; exact ult
        · refine ⟨_, rfl, .inl ⟨rfl, _, SqL.of t5⟩, _, rfl, c, _, _, rfl, rfl, t5, (by rw [List.length_map]; exact size6 (by omega)), ?_⟩
          have sp2 : ∀ x, Spn (rs ++ [lft rs u]) x ↔ Spn (so ++ (ot ++ [u])) x := fun x => by
            rw [S2' x, span_app q8, List.append_assoc]
          refine ⟨_, _, so, ot ++ [u], rs ++ [lft rs u], rfl, (hp8.put pc).mono (by omega), kp_put k8 hc0, upd_put t3 ngc, upd_put t4 nac, by rw [upd_same, List.map_append]; rfl, upd_put t6 nce.symm, L2', sp2, ?_, q10, ?_, by omega, by simp; omega, by simp; omega⟩
          · intro x hx
            rw [take_succ hu] at hx
            rcases List.mem_append.mp hx with hx | hx
            · exact (q9 x hx).sub fun w hw => by simp at hw ⊢; rcases hw with h | h <;> simp [h]
            · rcases List.mem_singleton.mp hx with rfl
              exact .of (by simp)
          · intro x hx
            rcases List.mem_append.mp hx with hx | hx
            · exact q11 x hx
            · rcases List.mem_singleton.mp hx with rfl; exact ult
      · have z0 : lft rs u = 0 := by simpa using z
        refine ⟨_, _, so, ot, rs, rfl, q1.mono (by omega), q2, q3, q4, q5, q6, q7, q8, ?_, q10, q11, by omega, by omega, by omega⟩
        intro x hx
        rw [take_succ hu] at hx
        rcases List.mem_append.mp hx with hx | hx
        · exact q9 x hx
        · rcases List.mem_singleton.mp hx with rfl
          exact (q8 _).mp (q7.span.mpr z0)
    · rintro σ H2 ⟨v8, v9, so, ot, rs, rfl, q1, q2, q3, q4, q5, q6, q7, q8, q9, q10, q11, q12, q13, q14⟩
      rw [List.length_map, lv] at q1 q12 q13
      rw [List.length_map, List.take_length] at q9
      refine ⟨_, rfl, _, rfl, p, lc, a, N + 6001001 + b, so, rfl, q1, .inl q4, (by omega), (by show N + 6001001 + b + 1000 ≤ 1099511627776; omega), fun H9 x9 s9 pm9 hx9 h9 hp9 kp9 => ?_⟩
      refine ⟨_, rfl, _, rfl, p, lc, c, N + 6001001 + b + 1000, ot, rfl, hp9, .inl (kp9 _ _ q5 rfl), (by omega), (by show N + 6001001 + b + 1000 + 1000 ≤ 1099511627776; omega), fun Hx y9 t9 pn9 hy9 hh9 hpx kpx => ?_⟩
      refine ⟨(by show 2 ≤ sizeLine; decide), fun q hq => ?_⟩
      refine k _ q x9 y9 s9 t9 (by rw [pm9.length_eq]; omega) (by rw [pn9.length_eq]; omega) (fun x hx => q10 x (pm9.mem_iff.mp hx)) (fun x hx => q11 x (pn9.mem_iff.mp hx)) ?_ upd_same (upd_new hq (kpx _ _ h9 rfl)) (upd_new hq hh9) ((hpx.put (hpx.ne hq)).mono (by omega)) (kp_new ((q2.trans kp9).trans kpx) hq)
      rw [rk_perm (pm9.append pn9)]
      exact rk_full fun u hu => q9 u (hperm.mem_iff.mpr hu)
end
end LaneX
set_option Elab.async false
set_option linter.all false
set_option maxRecDepth 100000
set_option maxHeartbeats 4000000
namespace LaneX
open PySem PySem.Spec PyProof.Rows L2
/-- the law's own tags -/
def tag (ss ls : List Nat) : List Nat := (tgd (ls.map (lft (bas ss)))).2
def sp_counts : Sp := fun vs H Q _ => ∃ (a c d : Addr) (ss ls ws : List Nat), vs = [.ref a, .ref c, .ref d] ∧ H a = some (.lst (ss.map vN)) ∧ H c = some (.lst (ls.map vN)) ∧ H d = some (.lst (ws.map vN)) ∧ ss.length ≤ 100000 ∧ ls.length ≤ 100000 ∧ ws.length ≤ 100000 ∧
  ∀ H' q, Same H H' → H' q = some (.tup [vN (rk (ss ++ ws) - rk ws), vN (rk (ss ++ ws) - rk ss), vN (tag ss ls).length]) → Q (.ref q) H'
def sp_space_words : Sp := fun vs H Q _ => ∃ (p lc a : Addr) (N b : Nat) (ss : List Nat), vs = [.ref p, vN b, .ref a] ∧ Pn H p lc N ∧ H a = some (.lst (ss.map vN)) ∧ b ≤ 1000 ∧ ss.length ≤ 1000 ∧ (∀ x ∈ ss, x < 2 ^ b) ∧ N + 20000 ≤ TOP ∧
  ∀ (H' : Hp) (q : Addr) (ws : List Nat), ws.length ≤ 6 → (∀ x ∈ ws, x < 2 ^ b) → H' q = some (.lst (ws.map vN)) → Pn H' p lc (N + 20000) → Kp H H' → Q (.ref q) H'
def sp_fewest : Sp := fun vs H Q _ => ∃ b l t r : Nat, vs = [vN b, vN l, vN t] ∧ b ≤ 1000 ∧ l ≤ 100000 ∧ t ≤ 100000 ∧ r < 400 ∧ 1 <<< (b + l) ≤ rch b l t r ∧ (∀ i, i < r → rch b l t i < 1 <<< (b + l)) ∧ Q (vN r) H
def sp_rounds_due : Sp := fun vs H Q _ => ∃ b l t : Nat, vs = [vN b, vN l, vN t] ∧ b ≤ 100000 ∧ l ≤ 100000 ∧ t ≤ 100000 ∧ (b ≤ 5 → rdf (b - t) l < 400 ∧ 1 <<< (b + l) ≤ rch b l t (rdf (b - t) l) ∧ ∀ i, i < rdf (b - t) l → rch b l t i < 1 <<< (b + l)) ∧ Q (vN (rdf (b - t) l)) H
def sp_steps_right : Sp := fun vs H Q _ => ∃ (q c a d : Addr) (xs ls ss ws : List Nat) (n : Nat), vs = [.ref q, .ref c, .ref a, .ref d, vN n] ∧ H q = some (.tup (xs.map vN)) ∧ H c = some (.lst (ls.map vN)) ∧ H a = some (.lst (ss.map vN)) ∧ H d = some (.lst (ws.map vN)) ∧ ss.length ≤ 100000 ∧ ls.length ≤ 100000 ∧ ws.length ≤ 100000 ∧ xs.length ≤ 100000 ∧ xs.length = n ∧
  (∀ x ∈ xs, x < 2 ^ ls.length ∧ lft (bas (ss ++ ws)) (img ls x) = 0) ∧ rk (xs.map fun x => lft (bas ss) (img ls x)) = n ∧ ∀ H', Same H H' → Q (.bl true) H'
theorem img_lt {b : Nat} {cs : List Nat} (h : ∀ c ∈ cs, c < 2 ^ b) (x : Nat) : img cs x < 2 ^ b := by
  have : ∀ n, imf cs x n < 2 ^ b := by
    intro n
    induction n with
    | zero => exact Nat.two_pow_pos b
    | succ n ih =>
      rw [imf_succ]
      split
      · refine Nat.xor_lt_two_pow ih ?_
        rw [List.getD_eq_getElem?_getD]
        cases q : cs[n]? with
        | none => exact Nat.two_pow_pos b
        | some c => exact h c (List.mem_of_getElem? q)
      · exact ih
  exact this _
section
variable {P : Program} {w : World} {K : PySem.W.Frag} {mg : Str → Option Value} {base : Heap} {f : Addr} {fd : FuncData} {CS : Addr} (T : Bt mg) (TS : SpaceT K mg CS)
include T
theorem ok_counts (F : FnP K "_law_counts" "_law_counts" s_countsL f fd) (D_basisL : Dn P w K mg base 2 "_law_basis" ["_law_words"] sp_basis) (D_sizeL : Dn P w K mg base 3 "_law_size" ["_law_words"] sp_size) (D_kernelL : Dn P w K mg base 2 "_law_kernel" ["_law_columns"] sp_kernel) (D_leftL : Dn P w K mg base 1 "_law_left" ["_law_rows", "_law_word_here"] sp_left) :
    FnOk P w K mg base CX0 4 f fd ["_law_slots", "_law_lanes", "_law_words"] sp_counts := by
  have nd := sc_countsL.nd
  refine fnok F sc_countsL (fun vs H Q E h => ?_) (fun cdv A outer s H vs Q E hr h => ?_)
  · obtain ⟨a, c, d, ss, ls, ws, rfl, _⟩ := h
    rfl
  · obtain ⟨a, c, d, ss, ls, ws, rfl, ha, hc, hd, l1, l2, l3, k⟩ := h
    refine ⟨_, (pss_cons (ps_asg (pe_tup (pa_cons (pe_d D_basisL hr (pa_cons (pv 0) pa_nil)) (pa_cons (pe_op op_cat (pe_callTy call_listQ (by rfl) T.list (by decide +kernel) (pa_cons (pv 0) pa_nil)) (pe_callTy call_listQ (by rfl) T.list (by decide +kernel) (pa_cons (pv 2) pa_nil))) pa_nil))) (pg_tup (by rfl) (pgs_cons (pg_name (i := 3) nd rfl (Or.inr rfl)) (pgs_cons (pg_name (i := 4) nd rfl (Or.inl rfl)) pgs_nil))))
  (pss_cons (ps_set (i := 5) nd rfl (Or.inl rfl) (pe_op on_sub (pe_op on_add (pe_callB call_lenQ (by rfl) T.len PySem.boot_len (pa_cons (pv 3) pa_nil)) (pe_d D_sizeL hr (pa_cons (pv 2) pa_nil))) (pe_d D_sizeL hr (pa_cons (pv 4) pa_nil))))
  (pss_cons (ps_set (i := 6) nd rfl (Or.inl rfl) (pe_callB call_lenQ (by rfl) T.len PySem.boot_len (pa_cons (pe_d D_kernelL hr (pa_cons (pe_lc (own := [("_law_word_here", 7)]) (g := gName 7) (by rfl) nd (pi_seq (pv 1)) (blkOk_by (own := [("_law_word_here", 7)]) (N := ["_law_slots", "_law_lanes", "_law_words", "_law_rows", "_law_both", "_law_shared", "_law_twins", "_law_word_here"]) (sc := defScope s_countsL) (by decide +kernel)) (fun _ _ _ _ _ => (pg_name (i := 7) nd rfl (Or.inl rfl))) (fun _ _ _ _ _ => pts_nil) (fun _ _ _ _ _ => (pe_d D_leftL hr (pa_cons (pv 3) (pa_cons (pv 7) pa_nil))))) pa_nil)) pa_nil)))
  (pss_one (ps_ret (pe_tup (pa_cons (pe_op on_sub (pe_callB call_lenQ (by rfl) T.len PySem.boot_len (pa_cons (pv 3) pa_nil)) (pv 5)) (pa_cons (pe_op on_sub (pe_d D_sizeL hr (pa_cons (pv 4) pa_nil)) (pe_callB call_lenQ (by rfl) T.len PySem.boot_len (pa_cons (pv 3) pa_nil))) (pa_cons (pv 6) pa_nil))))))))), ?_⟩
    refine ⟨_, rfl, a, ss, rfl, .inl ha, by omega, fun H1 e s1 he h1 => ?_⟩
    refine ⟨_, rfl, a, _, rfl, .inl (s1 _ _ ha), fun x1 hx1 => ?_⟩
    have s2 := same_new (o := .lst (ss.map vN)) s1 hx1
    refine ⟨_, rfl, d, _, rfl, .inl (s2 _ _ hd), fun x2 hx2 => ?_⟩
    have s3 := same_new (o := .lst (ws.map vN)) s2 hx2
    refine ⟨_, _, _, _, rfl, rfl, upd_new hx2 upd_same, upd_same, (by rw [List.length_map, List.length_map, sizeLine_eq]; omega), fun x3 hx3 => ?_⟩
    have s4 := same_new (o := .lst (ss.map vN ++ ws.map vN)) s3 hx3
    have h4 : upd (upd (upd H1 x1 (.lst (ss.map vN))) x2 (.lst (ws.map vN))) x3 (.lst (ss.map vN ++ ws.map vN)) e = some (.lst ((bas ss).map vN)) := upd_new hx3 (upd_new hx2 (upd_new hx1 h1))
    have g4 : upd (upd (upd H1 x1 (.lst (ss.map vN))) x2 (.lst (ws.map vN))) x3 (.lst (ss.map vN ++ ws.map vN)) x3 = some (.lst ((ss ++ ws).map vN)) := by rw [upd_same, List.map_append]
    refine ⟨(by show 2 ≤ sizeLine; decide), fun x4 hx4 => ?_⟩
    refine ⟨x4, _, rfl, SqT.of upd_same, rfl, _, _, rfl, _, _, rfl, rfl, ?_⟩
    have s5 := same_new (o := .tup [.ref e, .ref x3]) s4 hx4
    have h5 := upd_new (o := .tup [.ref e, .ref x3]) hx4 h4
    have g5 := upd_new (o := .tup [.ref e, .ref x3]) hx4 g4
    have b1 := rk_app ss ws
    have b2 := rk_left ss ws
    have b3 := rk_right ss ws
    refine ⟨_, rfl, e, _, rfl, .inl h5, _, rfl, d, ws, rfl, .inl (s5 _ _ hd), by omega, fun H6 s6 => ?_⟩
    rw [List.length_map, bas_len]
    refine ⟨_, _, rfl, rfl, _, rfl, x3, ss ++ ws, rfl, .inl (s6 _ _ g5), (by rw [List.length_append]; omega), fun H7 s7 => ?_⟩
    refine ⟨_, _, rfl, rfl, b1, ?_⟩
    have s57 := s5.trans (s6.trans s7)
    have h7 := (s6.trans s7) _ _ h5
    have g7 := (s6.trans s7) _ _ g5
    refine ⟨_, rfl, lc_pure ls vN (fun _ => true) (fun x => vN (lft (bas ss) x)) (.inl (s57 _ _ hc)) (by omega) (fun n H' hn s => ?_) (fun D H8 hD s8 h8 => ?_)⟩
    · intro Z Nx z1 z2
      exact ⟨rfl, _, rfl, _, rfl, e, _, n, rfl, .inl (s _ _ h7), (bas_lws ss).nz, z1 rfl _ (Same.refl _)⟩
    · rw [filt_true] at h8
      refine ⟨D, ls.map (lft (bas ss)), rfl, .inl (by rw [h8, List.map_map]; rfl), (by rw [List.length_map]; omega), fun H9 q9 s9 hq9 h9 => ?_⟩
      refine ⟨q9, _, rfl, .inl h9, ?_⟩
      rw [List.length_map]
      have sF := s57.trans (s8.trans s9)
      have hF := (s8.trans s9) _ _ h7
      have gF := (s8.trans s9) _ _ g7
      refine ⟨_, rfl, e, _, rfl, .inl hF, ?_⟩
      rw [List.length_map, bas_len]
      refine ⟨_, rfl, _, _, rfl, rfl, (by omega), _, rfl, x3, ss ++ ws, rfl, .inl gF, (by rw [List.length_append]; omega), fun Ha sa => ?_⟩
      refine ⟨_, rfl, e, _, rfl, .inl (sa _ _ hF), ?_⟩
      rw [List.length_map, bas_len]
      refine ⟨_, _, rfl, rfl, b2, _, rfl, (by show 3 ≤ sizeLine; decide), fun q hq => ?_⟩
      refine k _ q (same_new (sF.trans sa) hq) ?_
      rw [upd_same]
      have ek : rk ss - (rk ss + rk ws - rk (ss ++ ws)) = rk (ss ++ ws) - rk ws := by omega
      rw [ek]
      rfl
theorem ok_fewest (F : FnP K "_law_fewest" "_law_fewest" s_fewestL f fd) : FnOk P w K mg base CX0 1 f fd ["_law_bits", "_law_lots", "_law_twins"] sp_fewest := by
  have nd := sc_fewestL.nd
  refine fnok F sc_fewestL (fun vs H Q E h => ?_) (fun cdv A outer s H vs Q E hr h => ?_)
  · obtain ⟨b, l, t, r, rfl, _⟩ := h
    rfl
  · obtain ⟨b, l, t, r, rfl, hb, hl, ht, hr4, h1, h2, k⟩ := h
    refine ⟨_, (pss_cons (ps_par (i := 3) (j := 4) (by rfl) nd rfl rfl (by decide) rfl rfl (pa_cons (pe_op on_shl pe_int (pv 0)) (pa_cons pe_int pa_nil)) (by rfl))
  (pss_cons (ps_for PassesOwn.never rfl (pi_range1 (by rfl) T.range (pa_cons pe_int pa_nil)) (pg_name (i := 5) nd rfl (Or.inl rfl))
    (pss_cons (ps_if (pt_cmpR op_ge (pv 3) (pe_op on_shl pe_int (pe_op on_add (pv 0) (pv 1))) (nomark _))
      (pss_one (ps_ret (pv 4)))
      pss_nil)
    (pss_cons (ps_set (i := 3) nd rfl (Or.inl rfl) (pe_op on_add (pv 3) (pe_callB (call_minN rfl) (by rfl) T.min (by decide +kernel) (pa_cons (pe_callTy call_intQ (by rfl) T.int (by decide +kernel) (pa_cons (pv 3) pa_nil)) (pa_cons (pe_op on_shl pe_int (pe_op on_add (pv 1) (pv 2))) pa_nil)))))
    (pss_one (ps_aug (i := 4) nd rfl (.inl rfl) pe_int iop_addN)))))
  (pss_one (ps_ret pe_non)))), ?_⟩
    have o1 : blen 1 ≤ 1000000 := by rw [blen_one]; decide
    refine ⟨_, rfl, 1, b, rfl, rfl, shl_ok1 o1 (by omega), _, _, rfl, ?_⟩
    refine ⟨400, rfl, by decide, by decide, for_range (n := 400) (fun i σ H2 => ∃ v, σ = [some (vN b), some (vN l), some (vN t), some (vN (rch b l t i)), some (vN i), v] ∧ H2 = H ∧ i ≤ r) ⟨none, rfl, rfl, Nat.zero_le _⟩ ?_ ?_⟩
    · rintro i σ H2 hi ⟨v, rfl, rfl, hir⟩
      refine ⟨_, rfl, _, rfl, _, rfl, _, _, rfl, rfl, 1, _, rfl, rfl, shl_ok1 o1 (by omega), _, _, rfl, rfl, _, rfl, ?_⟩
      rw [dec_le]
      refine br (fun e => ?_) (fun e => ?_)
      · have e0 : 1 <<< (b + l) ≤ rch b l t i := of_decide_eq_true e
        have er : i = r := Classical.byContradiction fun hn => by have := h2 i (by omega); omega
        subst er
        exact ⟨_, rfl, k⟩
      · have e0 : ¬ 1 <<< (b + l) ≤ rch b l t i := of_decide_eq_false e
        have er : i ≠ r := fun z => e0 (by rw [z]; exact h1)
        refine ⟨_, rfl, _, rfl, _, rfl, _, rfl, _, rfl, _, _, rfl, rfl, 1, _, rfl, rfl, shl_ok1 o1 (by omega), _, _, rfl, _, _, rfl, rfl, ?_⟩
        exact ⟨_, rfl, i, 1, rfl, rfl, _, rfl, rfl, by omega⟩
    · rintro σ H2 ⟨v, rfl, rfl, hir⟩
      omega
theorem ok_rounds_due (F : FnP K "_law_rounds_due" "_law_rounds_due" s_rounds_dueL f fd) (D_fewestL : Dn P w K mg base 1 "_law_fewest" ["_law_bits", "_law_lots", "_law_twins"] sp_fewest) : FnOk P w K mg base CX0 2 f fd ["_law_bits", "_law_lots", "_law_twins"] sp_rounds_due := by
  have nd := sc_rounds_dueL.nd
  refine fnok F sc_rounds_dueL (fun vs H Q E h => ?_) (fun cdv A outer s H vs Q E hr h => ?_)
  · obtain ⟨b, l, t, rfl, _⟩ := h
    rfl
  · obtain ⟨b, l, t, rfl, hb, hl, ht, h5, k⟩ := h
    refine ⟨_, (pss_cons (ps_if (pt_cmpR op_le (pv 0) pe_int (nomark _))
    (pss_one (ps_ret (pe_d D_fewestL hr (pa_cons (pv 0) (pa_cons (pv 1) (pa_cons (pv 2) pa_nil))))))
    pss_nil)
  (pss_cons (ps_set (i := 3) nd rfl (Or.inl rfl) (pe_callB (call_max2 rfl) (by rfl) T.max (by decide +kernel) (pa_cons pe_int (pa_cons (pe_op op_sub (pv 0) (pv 2)) pa_nil))))
  (pss_one (ps_ret (pe_ifExp (pt_cmpR op_ge (pv 3) (pv 1) (nomark _)) (pe_op on_sub (pe_op on_shl pe_int (pv 3)) (pe_op on_shl pe_int (pe_op on_sub (pv 3) (pv 1)))) (pe_op on_sub (pe_op on_add (pe_op on_sub (pe_op on_shl pe_int (pv 3)) pe_int) (pv 1)) (pv 3))))))), ?_⟩
    have o1 : blen 1 ≤ 1000000 := by rw [blen_one]; decide
    refine ⟨_, rfl, _, _, rfl, rfl, _, rfl, br (fun e => ?_) (fun e => ?_)⟩
    · have e0 : b ≤ 5 := by have := of_decide_eq_true e; omega
      obtain ⟨z1, z2, z3⟩ := h5 e0
      exact ⟨_, rfl, _, rfl, _, rfl, b, l, t, _, rfl, by omega, hl, ht, z1, z2, z3, k⟩
    · refine ⟨_, rfl, _, rfl, _, _, rfl, rfl, _, _, rfl, ?_⟩
      have em : (if (b : Int) - (t : Int) > 0 then (b : Int) - (t : Int) else 0) = ((b - t : Nat) : Int) := by split <;> omega
      rw [em]
      generalize hn : b - t = n at *
      have p1 : 1 ≤ 1 <<< n := by rw [Nat.one_shiftLeft]; exact Nat.two_pow_pos n
      have p2 : n < 1 <<< n := by rw [Nat.one_shiftLeft]; exact Nat.lt_two_pow_self
      refine ⟨_, rfl, _, rfl, _, _, rfl, rfl, _, rfl, ?_⟩
      rw [dec_le]
      unfold rdf at k
      refine br (fun e1 => ?_) (fun e1 => ?_)
      · have e0 : l ≤ n := of_decide_eq_true e1
        rw [if_pos e0] at k
        refine ⟨_, rfl, 1, _, rfl, rfl, shl_ok1 o1 (by omega), _, rfl, _, rfl, _, _, rfl, rfl, e0, 1, _, rfl, rfl, shl_ok1 o1 (by omega), _, _, rfl, rfl, ?_, k⟩
        rw [Nat.one_shiftLeft, Nat.one_shiftLeft]
        exact Nat.pow_le_pow_right (by decide) (by omega)
      · have e0 : ¬ l ≤ n := of_decide_eq_false e1
        rw [if_neg e0] at k
        exact ⟨_, rfl, 1, _, rfl, rfl, shl_ok1 o1 (by omega), _, 1, rfl, rfl, p1, _, rfl, _, _, rfl, rfl, _, rfl, _, _, rfl, rfl, (by omega), k⟩
end
end LaneX
set_option Elab.async false
set_option linter.all false
set_option maxRecDepth 100000
set_option maxHeartbeats 4000000
namespace LaneX
open PySem PySem.Spec PyProof.Rows L2
section
variable {P : Program} {w : World} {K : PySem.W.Frag} {mg : Str → Option Value} {base : Heap} {f : Addr} {fd : FuncData} {CS : Addr} (T : Bt mg) (TS : SpaceT K mg CS)
include T
theorem ok_space_words (F : FnP K "_law_space_words" "_law_space_words" s_space_wordsL f fd) (D_drawL : Dn P w K mg base 1 "_law_draw" ["_law_pen", "_law_span"] sp_draw) (D_wordL : Dn P w K mg base 2 "_law_word" ["_law_pen", "_law_bits"] sp_word) (D_imageL : Dn P w K mg base 1 "_law_image" ["_law_columns", "_law_word_here"] sp_image) :
    FnOk P w K mg base CX0 3 f fd ["_law_pen", "_law_bits", "_law_slots"] sp_space_words := by
  have nd := sc_space_wordsL.nd
  refine fnok F sc_space_wordsL (fun vs H Q E h => ?_) (fun cdv A outer s H vs Q E hr h => ?_)
  · obtain ⟨p, lc, a, N, b, ss, rfl, _⟩ := h
    rfl
  · obtain ⟨p, lc, a, N, b, ss, rfl, hp, ha, hb, hl, hss, hN, k⟩ := h
    refine ⟨_, (pss_cons (ps_set (i := 3) nd rfl (Or.inl rfl) (pe_lst pa_nil))
  (pss_cons (ps_for PassesOwn.never rfl (pi_range1 (by rfl) T.range (pa_cons (pe_d D_drawL hr (pa_cons (pv 0) (pa_cons (pe_op on_add pe_int (pe_callB (call_minN rfl) (by rfl) T.min (by decide +kernel) (pa_cons (pe_callTy call_intQ (by rfl) T.int (by decide +kernel) (pa_cons (pv 1) pa_nil)) (pa_cons pe_int pa_nil)))) pa_nil))) pa_nil)) (pg_name (i := 4) nd rfl (Or.inl rfl))
    (pss_cons (ps_set (i := 5) nd rfl (Or.inl rfl) (pe_d D_drawL hr (pa_cons (pv 0) (pa_cons pe_int pa_nil))))
    (pss_cons (ps_set (i := 6) nd rfl (Or.inl rfl) (pe_ifExp (PW.pt (pw_or (pt_cmpR op_gt (pv 5) pe_int (nomark _)) (pw_or1 (pt_cmpR (op_eqE hr.units) (pv 2) (pe_lst pa_nil) (nomark _))))) (pe_d D_wordL hr (pa_cons (pv 0) (pa_cons (pv 1) pa_nil))) pe_int))
    (pss_cons (ps_if (PW.pt (pw_and (pt_cmpR (op_neE hr.units) (pv 2) (pe_lst pa_nil) (nomark _)) (pw_and1 (pt_cmpR op_lt (pv 5) pe_int (nomark _)))))
      (pss_one (ps_set (i := 6) nd rfl (Or.inl rfl) (pe_op on_xor (pv 6) (pe_d D_imageL hr (pa_cons (pv 2) (pa_cons (pe_d D_wordL hr (pa_cons (pv 0) (pa_cons (pe_callB call_lenQ (by rfl) T.len PySem.boot_len (pa_cons (pv 2) pa_nil)) pa_nil))) pa_nil))))))
      pss_nil)
    (pss_one (ps_expr (pe_bm PySem.F.plainAttrs_list PySem.F.slot_list_append PySem.F.type_list_append mt_append (pv 3) (pa_cons (pv 6) pa_nil))))))))
  (pss_one (ps_ret (pv 3))))), ?_⟩
    have hN' : N + 20000 ≤ 1099511627776 := hN
    refine ⟨(by decide), fun l0 hl0 => ?_⟩
    have ne0 := hp.ne hl0
    have nal : a ≠ l0 := ne_of_none ha hl0
    have hp0 : Pn (upd H l0 (.lst [])) p lc N := hp.put ne0
    refine ⟨_, rfl, _, rfl, _, rfl, b, 6, rfl, 1, min b 6, rfl, rfl, p, lc, N, 1 + min b 6, rfl, hp0, (by omega), (by omega), (by show N + 1 ≤ 1099511627776; omega), fun H1 r hr1 hp1 kp1 => ?_⟩
    have h1 : H1 l0 = some (.lst []) := kp1 _ _ upd_same rfl
    have k1 : Kp H H1 := (Kp.of (same_new0 hl0)).trans kp1
    refine ⟨_, rfl, (by omega), (by omega), for_range (n := r) (fun i σ H2 => ∃ v4 v5 v6 ws, σ = [some (.ref p), some (vN b), some (.ref a), some (.ref l0), v4, v5, v6] ∧ Pn H2 p lc (N + 1 + i * 2001) ∧ Kp H H2 ∧ H2 l0 = some (.lst (ws.map vN)) ∧ ws.length = i ∧ ∀ x ∈ ws, x < 2 ^ b)
      ⟨none, none, none, [], rfl, hp1.mono (by omega), k1, h1, rfl, fun x hx => by cases hx⟩ ?_ ?_⟩
    · rintro i σ H2 hi ⟨v4, v5, v6, ws, rfl, hp2, kp2, h2, hlen, hws⟩
      refine ⟨_, rfl, p, lc, N + 1 + i * 2001, 3, rfl, hp2, (by decide), (by decide), (by show N + 1 + i * 2001 + 1 ≤ 1099511627776; omega), fun H3 kd hkd hp3 kp3 => ?_⟩
      have k3 := kp2.trans kp3
      have h3 := kp3 _ _ h2 rfl
      -- the first word: any word of b bits
      have STEP : ∀ {H4 : Hp} {x : Nat}, x < 2 ^ b → Pn H4 p lc (N + 1 + i * 2001 + 1 + 1000) → Kp H H4 → H4 l0 = some (.lst (ws.map vN)) → True := fun _ _ _ _ => trivial
      have fin : ∀ {H4 : Hp} {x : Nat} {u4 u5 : Option V}, x < 2 ^ b → Pn H4 p lc (N + 1 + (i + 1) * 2001) → Kp H H4 → H4 l0 = some (.lst (ws.map vN)) → (ws.map vN).length < sizeLine ∧ ∃ (v4 v5 v6 : Option V) (ws' : List Nat), [some (V.ref p), some (vN b), some (.ref a), some (.ref l0), u4, u5, some (vN x)] = [some (V.ref p), some (vN b), some (.ref a), some (.ref l0), v4, v5, v6] ∧ Pn (upd H4 l0 (.lst (ws.map vN ++ [vN x]))) p lc (N + 1 + (i + 1) * 2001) ∧ Kp H (upd H4 l0 (.lst (ws.map vN ++ [vN x]))) ∧ upd H4 l0 (.lst (ws.map vN ++ [vN x])) l0 = some (.lst (ws'.map vN)) ∧ ws'.length = i + 1 ∧ ∀ x ∈ ws', x < 2 ^ b := fun {H4 x u4 u5} hx hp4 kp4 h4 => by
        refine ⟨by rw [List.length_map, hlen]; exact size6 (by omega), _, _, _, ws ++ [x], rfl, hp4.put ne0, kp_put kp4 hl0, by rw [upd_same, List.map_append]; rfl, by rw [List.length_append, hlen]; rfl, fun y hy => ?_⟩
        rcases List.mem_append.mp hy with hy | hy
        · exact hws y hy
        · rcases List.mem_singleton.mp hy with rfl; exact hx
      refine ⟨_, rfl, _, _, rfl, rfl, _, rfl, br (fun e1 => ?_) (fun e1 => ?_)⟩
      · refine ⟨_, rfl, _, rfl, p, lc, N + 1 + i * 2001 + 1, b, rfl, hp3, hb, (by show N + 1 + i * 2001 + 1 + 1000 ≤ 1099511627776; omega), fun H4 x hx hp4 kp4 => ?_⟩
        have k4 := k3.trans kp4
        have h4 := kp4 _ _ h3 rfl
        refine ⟨_, rfl, (by decide), fun q5 hq5 => ?_⟩
        have k5 := kp_new (o := .lst []) k4 hq5
        have hp5 := hp4.put (o := .lst []) (hp4.ne hq5)
        have h5 := upd_new (o := .lst []) hq5 h4
        have a5 := upd_new (o := .lst []) hq5 (k4 _ _ ha rfl)
        refine ⟨a, q5, ss, rfl, rfl, a5, upd_same, _, rfl, br (fun e3 => ?_) (fun e3 => ?_)⟩
        · refine ⟨_, rfl, _, _, rfl, rfl, _, rfl, br (fun e4 => ?_) (fun e4 => ?_)⟩
          · refine ⟨_, rfl, _, rfl, _, rfl, _, rfl, a, _, rfl, .inl a5, p, lc, N + 1 + i * 2001 + 1 + 1000, (ss.map vN).length, rfl, hp5, (by rw [List.length_map]; exact hl), (by show N + 1 + i * 2001 + 1 + 1000 + 1000 ≤ 1099511627776; omega), fun H6 y hy hp6 kp6 => ?_⟩
            refine ⟨a, ss, y, rfl, .inl (kp6 _ _ a5 rfl), by (rw [List.length_map] at hy); omega, _, _, rfl, rfl, ?_⟩
            have h6 := kp6 _ _ h5 rfl
            obtain ⟨z1, z2⟩ := fin (H4 := H6) (Nat.xor_lt_two_pow hx (img_lt hss y)) (hp6.mono (by omega)) (k5.trans kp6) h6
            exact ⟨_, rfl, .inl ⟨rfl, _, SqL.of h6⟩, _, rfl, l0, _, _, rfl, rfl, h6, z1, z2⟩
          · obtain ⟨z1, z2⟩ := fin hx (hp5.mono (by omega)) k5 h5
            exact ⟨_, rfl, .inl ⟨rfl, _, SqL.of h5⟩, _, rfl, l0, _, _, rfl, rfl, h5, z1, z2⟩
        · obtain ⟨z1, z2⟩ := fin hx (hp5.mono (by omega)) k5 h5
          exact ⟨_, rfl, .inl ⟨rfl, _, SqL.of h5⟩, _, rfl, l0, _, _, rfl, rfl, h5, z1, z2⟩
      · refine ⟨_, rfl, (by decide), fun q hq => ?_⟩
        have k4' := kp_new (o := .lst []) k3 hq
        have hp3' : Pn (upd H3 q (.lst [])) p lc (N + 1 + i * 2001 + 1) := hp3.put (hp3.ne hq)
        refine ⟨a, q, ss, rfl, rfl, upd_new hq (k3 _ _ ha rfl), upd_same, _, rfl, br (fun e2 => ?_) (fun e2 => ?_)⟩
        · refine ⟨_, rfl, _, rfl, p, lc, N + 1 + i * 2001 + 1, b, rfl, hp3', hb, (by show N + 1 + i * 2001 + 1 + 1000 ≤ 1099511627776; omega), fun H4 x hx hp4 kp4 => ?_⟩
          have k4 := k4'.trans kp4
          have h4 := kp4 _ _ (upd_new hq h3) rfl
          refine ⟨_, rfl, (by decide), fun q5 hq5 => ?_⟩
          have k5 := kp_new (o := .lst []) k4 hq5
          have hp5 := hp4.put (o := .lst []) (hp4.ne hq5)
          have h5 := upd_new (o := .lst []) hq5 h4
          have a5 := upd_new (o := .lst []) hq5 (k4 _ _ ha rfl)
          refine ⟨a, q5, ss, rfl, rfl, a5, upd_same, _, rfl, br (fun e3 => ?_) (fun e3 => ?_)⟩
          · refine ⟨_, rfl, _, _, rfl, rfl, _, rfl, br (fun e4 => ?_) (fun e4 => ?_)⟩
            · refine ⟨_, rfl, _, rfl, _, rfl, _, rfl, a, _, rfl, .inl a5, p, lc, N + 1 + i * 2001 + 1 + 1000, (ss.map vN).length, rfl, hp5, (by rw [List.length_map]; exact hl), (by show N + 1 + i * 2001 + 1 + 1000 + 1000 ≤ 1099511627776; omega), fun H6 y hy hp6 kp6 => ?_⟩
              refine ⟨a, ss, y, rfl, .inl (kp6 _ _ a5 rfl), by (rw [List.length_map] at hy); omega, _, _, rfl, rfl, ?_⟩
              have h6 := kp6 _ _ h5 rfl
              obtain ⟨z1, z2⟩ := fin (H4 := H6) (Nat.xor_lt_two_pow hx (img_lt hss y)) (hp6.mono (by omega)) (k5.trans kp6) h6
              exact ⟨_, rfl, .inl ⟨rfl, _, SqL.of h6⟩, _, rfl, l0, _, _, rfl, rfl, h6, z1, z2⟩
            · obtain ⟨z1, z2⟩ := fin hx (hp5.mono (by omega)) k5 h5
              exact ⟨_, rfl, .inl ⟨rfl, _, SqL.of h5⟩, _, rfl, l0, _, _, rfl, rfl, h5, z1, z2⟩
          · obtain ⟨z1, z2⟩ := fin hx (hp5.mono (by omega)) k5 h5
            exact ⟨_, rfl, .inl ⟨rfl, _, SqL.of h5⟩, _, rfl, l0, _, _, rfl, rfl, h5, z1, z2⟩
        · have hx : 0 < 2 ^ b := Nat.two_pow_pos b
          have k4 := k4'
          have h4 := upd_new (o := .lst []) hq h3
          have hp4 := hp3'.mono (M := N + 1 + i * 2001 + 1 + 1000) (by omega)
          refine ⟨_, rfl, (by decide), fun q5 hq5 => ?_⟩
          have k5 := kp_new (o := .lst []) k4 hq5
          have hp5 := hp4.put (o := .lst []) (hp4.ne hq5)
          have h5 := upd_new (o := .lst []) hq5 h4
          have a5 := upd_new (o := .lst []) hq5 (k4 _ _ ha rfl)
          refine ⟨a, q5, ss, rfl, rfl, a5, upd_same, _, rfl, br (fun e3 => ?_) (fun e3 => ?_)⟩
          · refine ⟨_, rfl, _, _, rfl, rfl, _, rfl, br (fun e4 => ?_) (fun e4 => ?_)⟩
            · refine ⟨_, rfl, _, rfl, _, rfl, _, rfl, a, _, rfl, .inl a5, p, lc, N + 1 + i * 2001 + 1 + 1000, (ss.map vN).length, rfl, hp5, (by rw [List.length_map]; exact hl), (by show N + 1 + i * 2001 + 1 + 1000 + 1000 ≤ 1099511627776; omega), fun H6 y hy hp6 kp6 => ?_⟩
              refine ⟨a, ss, y, rfl, .inl (kp6 _ _ a5 rfl), by (rw [List.length_map] at hy); omega, _, _, rfl, rfl, ?_⟩
              have h6 := kp6 _ _ h5 rfl
              obtain ⟨z1, z2⟩ := fin (H4 := H6) (Nat.xor_lt_two_pow hx (img_lt hss y)) (hp6.mono (by omega)) (k5.trans kp6) h6
              exact ⟨_, rfl, .inl ⟨rfl, _, SqL.of h6⟩, _, rfl, l0, _, _, rfl, rfl, h6, z1, z2⟩
            · obtain ⟨z1, z2⟩ := fin hx (hp5.mono (by omega)) k5 h5
              exact ⟨_, rfl, .inl ⟨rfl, _, SqL.of h5⟩, _, rfl, l0, _, _, rfl, rfl, h5, z1, z2⟩
          · obtain ⟨z1, z2⟩ := fin hx (hp5.mono (by omega)) k5 h5
            exact ⟨_, rfl, .inl ⟨rfl, _, SqL.of h5⟩, _, rfl, l0, _, _, rfl, rfl, h5, z1, z2⟩
    · rintro σ H2 ⟨v4, v5, v6, ws, rfl, hp2, kp2, h2, hlen, hws⟩
      exact ⟨_, rfl, k _ _ ws (by omega) hws h2 (hp2.mono (by omega)) kp2⟩
end
end LaneX
set_option Elab.async false
set_option linter.all false
set_option maxRecDepth 100000
set_option maxHeartbeats 4000000
namespace LaneX
open PySem PySem.Spec PyProof.Rows L2
/-! ### the bits of a word -/
theorem lwb_le {n : Nat} : lwb n ≤ n := Nat.sub_le _ _
theorem lt_of_bit : ∀ (i : Nat) {n m : Nat}, n.testBit i = false → m.testBit i = true → (∀ j, i < j → n.testBit j = m.testBit j) → n < m
  | 0, n, m, h1, h2, h => by
    have e : n / 2 = m / 2 := Nat.eq_of_testBit_eq fun j => by
      have := h (j + 1) (Nat.succ_pos j)
      rwa [Nat.testBit_succ, Nat.testBit_succ] at this
    rw [Nat.testBit_zero] at h1 h2
    have := of_decide_eq_false h1
    have := of_decide_eq_true h2
    omega
  | i + 1, n, m, h1, h2, h => by
    rw [Nat.testBit_succ] at h1 h2
    have := lt_of_bit i h1 h2 fun j hj => by
      have := h (j + 1) (by omega)
      rwa [Nat.testBit_succ, Nat.testBit_succ] at this
    omega
theorem xor_lwb_lt {n : Nat} (h : n ≠ 0) : n ^^^ lwb n < n := by
  have hb := low_bit h
  rw [lwb_eq h]
  refine lt_of_bit (low n) ?_ hb fun j hj => ?_
  · rw [Nat.testBit_xor, hb, Nat.testBit_two_pow_self]; rfl
  · rw [Nat.testBit_xor, Nat.testBit_two_pow, decide_eq_false (by omega), Bool.xor_false]
def ons (n : Nat) : List Nat := if h : n = 0 then [] else low n :: ons (n ^^^ lwb n)
termination_by n
decreasing_by exact xor_lwb_lt h
theorem ons_zero : ons 0 = [] := by unfold ons; rfl
theorem ons_pos {n : Nat} (h : n ≠ 0) : ons n = low n :: ons (n ^^^ lwb n) := by
  conv => lhs; unfold ons
  rw [dif_neg h]
theorem low_lt {n k : Nat} (h : n ≠ 0) (hk : n < 2 ^ k) : low n < k := by
  refine Classical.byContradiction fun z => ?_
  have := low_bit h
  rw [Nat.testBit_lt_two_pow (Nat.lt_of_lt_of_le hk (Nat.pow_le_pow_right (by decide) (by omega)))] at this
  cases this
theorem lwb_lt {n k : Nat} (h : n ≠ 0) (hk : n < 2 ^ k) : n ^^^ lwb n < 2 ^ k := Nat.lt_trans (xor_lwb_lt h) hk
theorem ons_lt {k : Nat} : ∀ {n : Nat}, n < 2 ^ k → ∀ i ∈ ons n, i < k := by
  intro n
  induction n using Nat.strongRecOn with
  | _ n ih =>
    intro hk i hi
    by_cases h : n = 0
    · subst h; rw [ons_zero] at hi; cases hi
    · rw [ons_pos h] at hi
      rcases List.mem_cons.mp hi with rfl | hi
      · exact low_lt h hk
      · exact ih _ (xor_lwb_lt h) (lwb_lt h hk) i hi
theorem ons_len {k : Nat} : ∀ {n : Nat}, n < 2 ^ k → (ons n).length ≤ n := by
  intro n
  induction n using Nat.strongRecOn with
  | _ n ih =>
    intro hk
    by_cases h : n = 0
    · subst h; rw [ons_zero]; exact Nat.le_refl _
    · rw [ons_pos h]
      have := ih _ (xor_lwb_lt h) (lwb_lt h hk)
      have := xor_lwb_lt h
      simp only [List.length_cons]
      omega
theorem low_le_low {n i : Nat} (h : n.testBit i = true) : low n ≤ i := by
  induction n using Nat.strongRecOn generalizing i with
  | _ n ih =>
    have hn : n ≠ 0 := fun e => by rw [e] at h; simp at h
    unfold low
    rw [dif_neg hn]
    split
    · exact Nat.zero_le _
    · rename_i ho
      cases i with
      | zero => rw [Nat.testBit_zero] at h; exact absurd (of_decide_eq_true h) ho
      | succ i =>
        rw [Nat.testBit_succ] at h
        have := ih (n / 2) (by omega) h
        omega
theorem ons_sorted : ∀ {n : Nat}, (ons n).Pairwise (· < ·) := by
  intro n
  induction n using Nat.strongRecOn with
  | _ n ih =>
    by_cases h : n = 0
    · subst h; rw [ons_zero]; exact .nil
    · rw [ons_pos h]
      refine List.pairwise_cons.mpr ⟨fun i hi => ?_, ih _ (xor_lwb_lt h)⟩
      have bit : ∀ {m j : Nat}, j ∈ ons m → m.testBit j = true := by
        intro m
        induction m using Nat.strongRecOn with
        | _ m ihm =>
          intro j hj
          by_cases hm : m = 0
          · subst hm; rw [ons_zero] at hj; cases hj
          · rw [ons_pos hm] at hj
            rcases List.mem_cons.mp hj with rfl | hj
            · exact low_bit hm
            · have := ihm _ (xor_lwb_lt hm) hj
              rw [Nat.testBit_xor, lwb_eq hm, Nat.testBit_two_pow] at this
              by_cases e : low m = j
              · subst e; exact low_bit hm
              · simpa [e] using this
      have b := bit hi
      rw [Nat.testBit_xor, lwb_eq h, Nat.testBit_two_pow] at b
      by_cases e : low n = i
      · subst e
        rw [low_bit h] at b
        simp at b
      · have b2 : n.testBit i = true := by simpa [e] using b
        have := low_le_low b2
        omega
theorem pw_len : ∀ {l : List Nat} {b k : Nat}, l.Pairwise (· < ·) → (∀ i ∈ l, b ≤ i ∧ i < k) → l.length ≤ k - b
  | [], _, _, _, _ => Nat.zero_le _
  | x :: l, b, k, hp, h => by
    have hp' := List.pairwise_cons.mp hp
    have hx := h x (.head _)
    have := pw_len (b := x + 1) (k := k) hp'.2 fun i hi => ⟨hp'.1 i hi, (h i (.tail _ hi)).2⟩
    simp only [List.length_cons]
    omega
theorem ons_len2 {n k : Nat} (h : n < 2 ^ k) : (ons n).length ≤ k := by
  have := pw_len (b := 0) (k := k) (ons_sorted (n := n)) fun i hi => ⟨Nat.zero_le _, ons_lt h i hi⟩
  omega
/-- what image_of sums -/
def ims (cols : List Nat) (l : List Nat) : Nat := l.foldl (fun t i => t ^^^ cols.getD i 0) 0
theorem ims_from (cols : List Nat) : ∀ (l : List Nat) (t : Nat), l.foldl (fun t i => t ^^^ cols.getD i 0) t = t ^^^ ims cols l
  | [], t => by show t = t ^^^ 0; rw [Nat.xor_zero]
  | i :: l, t => by
    show l.foldl _ (t ^^^ cols.getD i 0) = t ^^^ (l.foldl _ (0 ^^^ cols.getD i 0))
    rw [ims_from cols l, ims_from cols l, Nat.zero_xor, Nat.xor_assoc]
theorem ims_ons (cols : List Nat) : ∀ {n : Nat}, n < 2 ^ cols.length → ims cols (ons n) = img cols n := by
  intro n
  induction n using Nat.strongRecOn with
  | _ n ih =>
    intro hk
    by_cases h : n = 0
    · subst h; rw [ons_zero, (lin_img cols).z]; rfl
    · rw [ons_pos h]
      have e := ih _ (xor_lwb_lt h) (lwb_lt h hk)
      show (ons (n ^^^ lwb n)).foldl _ (0 ^^^ cols.getD (low n) 0) = _
      rw [ims_from, e, Nat.zero_xor, (lin_img cols).x, lwb_eq h, img_unit cols (low_lt h hk), Nat.xor_comm (img cols n), xor_cancel]
def sp_ones : Sp := fun vs H Q _ => ∃ n k : Nat, vs = [vN n] ∧ n < 2 ^ k ∧ k ≤ 1000000 ∧ ∀ H' q, Same H H' → H q = none → H' q = some (.tup ((ons n).map vN)) → Q (.ref q) H'
def sp_image_of : Sp := fun vs H Q _ => ∃ (a : Addr) (cs : List Nat) (n : Nat), vs = [.ref a, vN n] ∧ Tq H a (cs.map vN) ∧ cs.length ≤ 1000000 ∧ n < 2 ^ cs.length ∧ ∀ H', Same H H' → Q (vN (img cs n)) H'
def sp_solved : Sp := fun vs H Q _ => ∃ (a : Addr) (ss : List Nat) (b g : Nat), vs = [.ref a, vN ss.length, vN g] ∧ Tq H a ((prd ss).map vN) ∧ ss.length ≤ 400000 ∧ g < 2 ^ b ∧ b ≤ 400000 ∧ Spn ss g ∧ Q (vN (slv ss g)) H
def sp_write_count (CR : Addr) : Sp := fun vs H Q _ => ∃ (p : Addr) (b : Nat) (ss ls : List Nat), vs = [.ref p] ∧ SpreadAt CR H p b ss ls ∧ b ≤ 400000 ∧ Q (vN (1 <<< (b - ls.length))) H
section
variable {P : Program} {w : World} {K : PySem.W.Frag} {mg : Str → Option Value} {base : Heap} {f : Addr} {fd : FuncData} {CS CR : Addr} (T : Bt mg) (TR : SpreadT K mg CR)
include T
theorem ok_ones (F : FnP K "ones" "ones" s_ones f fd) (D_need_whole : Dn P w K mg base 2 "need_whole" ["value"] sp_need_whole) : FnOk P w K mg base CX0 3 f fd ["word"] sp_ones := by
  have nd := sc_ones.nd
  refine fnok F sc_ones (fun vs H Q E h => ?_) (fun cdv A outer s H vs Q E hr h => ?_)
  · obtain ⟨n, k, rfl, _⟩ := h
    rfl
  · obtain ⟨n, k, rfl, hn, hk, q⟩ := h
    refine ⟨_, (pss_cons (ps_expr (pe_d D_need_whole hr (pa_cons (pv 0) pa_nil)))
  (pss_cons (ps_set (i := 1) nd rfl (Or.inl rfl) (pe_lst pa_nil))
  (pss_cons (ps_set (i := 2) nd rfl (Or.inl rfl) (pv 0))
  (pss_cons (ps_while PassesOwn.never (pt_cmpR op_gt (pv 2) pe_int (nomark _))
    (pss_cons (ps_set (i := 3) nd rfl (Or.inl rfl) (pe_op on_low (pv 2) (pe_un un_neg (pv 2))))
    (pss_cons (ps_expr (pe_bm PySem.F.plainAttrs_list PySem.F.slot_list_append PySem.F.type_list_append mt_append (pv 1) (pa_cons (pe_op on_sub (pe_bits (pv 3)) pe_int) pa_nil)))
    (pss_one (ps_set (i := 2) nd rfl (Or.inl rfl) (pe_op on_xor (pv 2) (pv 3)))))))
  (pss_one (ps_ret (pe_callTy call_tupleQ (by rfl) T.tuple (by decide +kernel) (pa_cons (pv 1) pa_nil)))))))), ?_⟩
    refine ⟨_, rfl, n, rfl, (by decide), fun l hl => ⟨_, rfl, ?_⟩⟩
    refine ⟨fun m σ H2 => ∃ v3 ds, σ = [some (vN n), some (.ref l), some (vN m), v3] ∧ Same H H2 ∧ H2 l = some (.lst (ds.map vN)) ∧ ds ++ ons m = ons n ∧ m < 2 ^ k, ⟨n, none, [], rfl, same_new0 hl, upd_same, rfl, hn⟩, ?_⟩
    rintro m σ H2 ⟨v3, ds, rfl, s2, h2, e, hm⟩
    have ld : ds.length ≤ k := by
      have := ons_len2 hn
      rw [← e, List.length_append] at this
      omega
    refine ⟨_, rfl, _, _, rfl, rfl, _, rfl, br (fun z => ?_) (fun z => ?_)⟩
    · have z0 : m ≠ 0 := by have := of_decide_eq_true z; omega
      refine ⟨fun σ' H' => ∃ v3 ds, σ' = [some (vN n), some (.ref l), some (vN (m ^^^ lwb m)), v3] ∧ Same H H' ∧ H' l = some (.lst (ds.map vN)) ∧ ds ++ ons (m ^^^ lwb m) = ons n ∧ (m ^^^ lwb m) < 2 ^ k, fun σ' H' hN => ⟨_, xor_lwb_lt z0, hN⟩, ?_⟩
      refine ⟨_, rfl, _, rfl, _, rfl, m, rfl, rfl, ?_⟩
      have bl : blen (lwb m) = low m + 1 := by rw [lwb_eq z0, ← Nat.one_shiftLeft]; exact blen_unit _
      refine ⟨_, rfl, .inl ⟨rfl, _, SqL.of h2⟩, _, rfl, lwb m, rfl, Builtin.Int.intBits (lwb m : Int), 1, rfl, rfl, (by rw [blen_bits]; omega), l, _, _, rfl, rfl, h2, (by rw [List.length_map, sizeLine_eq]; omega), ?_⟩
      refine ⟨_, rfl, _, rfl, m, lwb m, rfl, rfl, _, ds ++ [low m], rfl, same_put s2 hl, ?_, ?_, lwb_lt z0 hm⟩
      · rw [upd_same, List.map_append, blen_bits, bl, Nat.add_sub_cancel]; rfl
      · rw [List.append_assoc, ← e, ons_pos z0]; rfl
    · have z0 : m = 0 := by
        have := of_decide_eq_false z
        omega
      subst z0
      rw [ons_zero, List.append_nil] at e
      subst e
      exact ⟨_, rfl, l, _, rfl, h2, fun q' hq' => q _ _ (same_new s2 hq') (same_free s2 hq') upd_same⟩
theorem ok_image_of (F : FnP K "image_of" "image_of" s_image_of f fd) (D_ones : Dn P w K mg base 3 "ones" ["word"] sp_ones) : FnOk P w K mg base CX0 4 f fd ["columns", "word"] sp_image_of := by
  have nd := sc_image_of.nd
  refine fnok F sc_image_of (fun vs H Q E h => ?_) (fun cdv A outer s H vs Q E hr h => ?_)
  · obtain ⟨a, cs, n, rfl, _⟩ := h
    rfl
  · obtain ⟨a, cs, n, rfl, hS, hl, hn, k⟩ := h
    refine ⟨_, (pss_cons (ps_set (i := 2) nd rfl (Or.inl rfl) pe_int)
  (pss_cons (ps_for PassesOwn.never rfl (pi_seq (pe_d D_ones hr (pa_cons (pv 1) pa_nil))) (pg_name (i := 3) nd rfl (Or.inl rfl))
    (pss_one (ps_set (i := 2) nd rfl (Or.inl rfl) (pe_op on_xor (pv 2) (pe_ix ix_q (pv 0) (pv 3) (fun _ _ => rfl))))))
  (pss_one (ps_ret (pv 2))))), ?_⟩
    refine ⟨_, rfl, n, cs.length, rfl, hn, hl, fun H1 q s1 hq h1 => ?_⟩
    refine for_sq2 (K := K) (.inr h1) (fun i σ H2 => ∃ v3, σ = [some (.ref a), some (vN n), some (vN (ims cs ((ons n).take i))), v3] ∧ H2 = H1) ⟨none, rfl, rfl⟩ (fun i σ H2 hp o ho => by obtain ⟨_, _, rfl⟩ := hp; exact ho) ?_ ?_
    · rintro i y σ H2 hy ⟨v3, rfl, rfl⟩
      obtain ⟨d, hd, rfl⟩ := map_get hy
      have dl := ons_lt hn d (List.mem_of_getElem? hd)
      have hg : (cs.map vN)[d]? = some (vN (cs.getD d 0)) := by
        rw [List.getElem?_map, List.getElem?_eq_getElem dl, List.getD_eq_getElem?_getD, List.getElem?_eq_getElem dl]
        rfl
      refine ⟨_, rfl, _, rfl, _, rfl, a, _, d, _, rfl, rfl, same_tq s1 hS, hg, _, _, rfl, rfl, some (vN d), ?_, rfl⟩
      rw [take_succ hd]
      unfold ims
      rw [List.foldl_append]
      rfl
    · rintro σ H2 ⟨v3, rfl, rfl⟩
      rw [List.length_map, List.take_length, ims_ons cs hn]
      exact ⟨_, rfl, k _ s1⟩
theorem ok_solved (F : FnP K "solved" "solved" s_solved f fd) (D_cleared : Dn P w K mg base 1 "cleared" ["rows", "word"] sp_cleared) : FnOk P w K mg base CX0 2 f fd ["pairs", "source", "word"] sp_solved := by
  have nd := sc_solved.nd
  refine fnok F sc_solved (fun vs H Q E h => ?_) (fun cdv A outer s H vs Q E hr h => ?_)
  · obtain ⟨a, ss, b, g, rfl, _⟩ := h
    rfl
  · obtain ⟨a, ss, b, g, rfl, hS, hl, hg, hb, hs, k⟩ := h
    refine ⟨_, (pss_cons (ps_set (i := 3) nd rfl (Or.inl rfl) (pe_d D_cleared hr (pa_cons (pv 0) (pa_cons (pe_op on_shl (pv 2) (pv 1)) pa_nil))))
  (pss_cons (ps_if (pt_cmpR op_gt (pe_bits (pv 3)) (pv 1) (nomark _))
    (pss_one (ps_ret pe_non))
    pss_nil)
  (pss_one (ps_ret (pv 3))))), ?_⟩
    have R := spn_rws (prs ss)
    have bg : blen g ≤ b := blen_le.mpr hg
    obtain ⟨o1, o2⟩ := slv_ok hs
    have o3 : blen (slv ss g) ≤ ss.length := blen_le.mpr o1
    refine ⟨_, rfl, _, rfl, _, rfl, g, ss.length, rfl, rfl, shl_ok1 (by omega) (by omega), a, prd ss, g <<< ss.length, rfl, hS, R.nz, ?_⟩
    refine ⟨_, rfl, slv ss g, rfl, _, rfl, _, _, rfl, rfl, _, rfl, br (fun z => ?_) (fun _ => ⟨_, rfl, k⟩)⟩
    have e9 : slv ss g = clr (prd ss) (g <<< ss.length) := rfl
    rw [blen_bits] at z
    have := of_decide_eq_true z
    omega
end
end LaneX
set_option Elab.async false
set_option linter.all false
set_option maxRecDepth 100000
set_option maxHeartbeats 4000000
namespace LaneX
open PySem PySem.Spec PyProof.Rows L2
def sp_begun : Sp := fun vs H Q _ => ∃ (a c r : Addr) (ss ls rows : List Nat), vs = [.ref a, .ref c, .ref r] ∧ H a = some (.lst (ss.map vN)) ∧ H c = some (.lst (ls.map vN)) ∧ H r = some (.lst (rows.map vN)) ∧ ss.length ≤ 4 ∧ ls.length ≤ 5 ∧ (∀ x ∈ ss, x < 2 ^ 5) ∧ (∀ x ∈ ls, x < 2 ^ 5) ∧ (∀ x ∈ rows, x < 2 ^ 5 ∧ x ≠ 0) ∧
  ∀ H' q, Same H H' → H q = none → Lanes H' q rows (Ent ss ls []) (2 ^ ls.length) → Q (.ref q) H'
theorem Same.tups {H H' : Hp} (s : Same H H') : ∀ t vs, H t = some (.tup vs) → H' t = some (.tup vs) := fun t vs h => s _ _ h
section
variable {P : Program} {w : World} {K : PySem.W.Frag} {mg : Str → Option Value} {base : Heap} {f : Addr} {fd : FuncData} (T : Bt mg)
include T
theorem ok_begun (F : FnP K "_law_begun" "_law_begun" s_begunL f fd) (D_imageL : Dn P w K mg base 1 "_law_image" ["_law_columns", "_law_word_here"] sp_image) (D_leftL : Dn P w K mg base 1 "_law_left" ["_law_rows", "_law_word_here"] sp_left) :
    FnOk P w K mg base CX0 2 f fd ["_law_slots", "_law_lanes", "_law_rows"] sp_begun := by
  have nd := sc_begunL.nd
  refine fnok F sc_begunL (fun vs H Q E h => ?_) (fun cdv A outer s H vs Q E hr h => ?_)
  · obtain ⟨a, c, r, ss, ls, rows, rfl, _⟩ := h
    rfl
  · obtain ⟨a, c, r, ss, ls, rows, rfl, ha, hc, hrw, l1, l2, hs, hl, hrr, k⟩ := h
    have hu := hu_of hr
    refine ⟨_, (pss_cons (ps_set (i := 3) nd rfl (Or.inl rfl) (pe_lst pa_nil))
  (pss_cons (ps_for PassesOwn.never rfl (pi_range1 (by rfl) T.range (pa_cons (pe_op on_shl pe_int (pe_callB call_lenQ (by rfl) T.len PySem.boot_len (pa_cons (pv 1) pa_nil))) pa_nil)) (pg_name (i := 4) nd rfl (Or.inl rfl))
    (pss_cons (ps_asg (pe_tup (pa_cons pe_dnewK (pa_cons (pe_d D_imageL hr (pa_cons (pv 1) (pa_cons (pv 4) pa_nil))) pa_nil))) (pg_tup (by rfl) (pgs_cons (pg_name (i := 5) nd rfl (Or.inl rfl)) (pgs_cons (pg_name (i := 6) nd rfl (Or.inr rfl)) pgs_nil))))
    (pss_cons (ps_for PassesOwn.never rfl (pi_seq (pe_callB (cr_sortedSetN rfl) (by rfl) T.sorted (by decide +kernel) (pa_cons (pe_callTy (cr_setL rfl) (by rfl) T.set (by decide +kernel) (pa_cons (pe_lc (own := [("_law_slot", 9)]) (g := gName 9) (by rfl) nd (pi_range1 (by rfl) T.range (pa_cons (pe_op on_shl pe_int (pe_callB call_lenQ (by rfl) T.len PySem.boot_len (pa_cons (pv 0) pa_nil))) pa_nil)) (blkOk_by (own := [("_law_slot", 9)]) (N := ["_law_slots", "_law_lanes", "_law_rows", "_law_found", "_law_lane", "_law_values", "_law_base", "_law_entry", "_law_coset", "_law_slot"]) (sc := defScope s_begunL) (by decide +kernel)) (fun _ _ _ _ _ => (pg_name (i := 9) nd rfl (Or.inl rfl))) (fun _ _ _ _ _ => pts_nil) (fun _ _ _ _ _ => (pe_op on_xor (pv 6) (pe_d D_imageL hr (pa_cons (pv 0) (pa_cons (pv 9) pa_nil)))))) pa_nil)) pa_nil))) (pg_name (i := 7) nd rfl (Or.inl rfl))
      (pss_cons (ps_set (i := 8) nd rfl (Or.inl rfl) (pe_d D_leftL hr (pa_cons (pv 2) (pa_cons (pv 7) pa_nil))))
      (pss_one (ps_asg (pe_tup (pa_cons (pe_op on_or (pe_ix ix_q (pe_dget2 hu (pv 5) (pv 8) (pe_tup (pa_cons pe_int (pa_cons pe_bl pa_nil))) ⟨rfl, rfl, rfl, rfl⟩) pe_int (fun _ _ => rfl)) (pe_op on_shl pe_int (pv 7))) (pa_cons pe_bl pa_nil))) (pg_sub (pv 5) (pv 8) (set_dict hu))))))
    (pss_one (ps_expr (pe_bm PySem.F.plainAttrs_list PySem.F.slot_list_append PySem.F.type_list_append mt_append (pv 3) (pa_cons (pv 5) pa_nil)))))))
  (pss_one (ps_ret (pv 3))))), ?_⟩
    have o1 : blen 1 ≤ 1000000 := by rw [blen_one]; decide
    refine ⟨(by show 0 ≤ sizeLine; decide), fun g hg => ?_⟩
    refine ⟨_, rfl, c, _, rfl, .inl (upd_new hg hc), 1, _, rfl, rfl, shl_ok1 o1 (by rw [List.length_map]; omega), ?_⟩
    rw [List.length_map]
    generalize hT : 1 <<< ls.length = TT
    have eT : TT = 2 ^ ls.length := by rw [← hT, Nat.one_shiftLeft]
    have tl : TT ≤ 32 := by rw [eT]; exact Nat.pow_le_pow_right (n := 2) (by decide) l2
    have g0 : Same H (upd H g (.lst [])) := same_new0 hg
    refine ⟨_, rfl, (by omega), (by omega), for_range (n := TT) (fun i σ H9 => ∃ v4 v5 v6 v7 v8 ds, σ = [some (.ref a), some (.ref c), some (.ref r), some (.ref g), v4, v5, v6, v7, v8, none] ∧ Same H H9 ∧ H9 g = some (.lst (ds.map V.ref)) ∧ ds.length = i ∧ ∀ L d, ds[L]? = some d → ∃ kvs, H9 d = some (.dK kvs) ∧ LnAt H9 rows (Ent ss ls [] L) kvs)
      ⟨none, none, none, none, none, [], rfl, g0, upd_same, rfl, fun L d hd => by simp at hd⟩ ?_ ?_⟩
    · rintro i σ H9 hi ⟨v4, v5, v6, v7, v8, ds, rfl, s9, hg9, hdl, hds⟩
      rw [show (0 : Int) + (i : Int) = (i : Int) by omega]
      intro sd hsd
      refine ⟨_, rfl, _, rfl, c, ls, i, rfl, .inl (upd_new hsd (s9 _ _ hc)), (by omega), (by show 2 ≤ sizeLine; decide), fun x5 hx5 => ⟨x5, _, rfl, SqT.of upd_same, rfl, _, _, rfl, _, _, rfl, rfl, ?_⟩⟩
      have s10 : Same H9 (upd (upd H9 sd (.dK [])) x5 (.tup [.ref sd, vN (img ls i)])) := same_new (same_new0 hsd) hx5
      have d10 : upd (upd H9 sd (.dK [])) x5 (.tup [.ref sd, vN (img ls i)]) sd = some (.dK []) := upd_new hx5 upd_same
      generalize upd (upd H9 sd (.dK [])) x5 (.tup [.ref sd, vN (img ls i)]) = H10 at *
      refine ⟨_, rfl, a, _, rfl, .inl (s10 _ _ (s9 _ _ ha)), 1, _, rfl, rfl, shl_ok1 o1 (by rw [List.length_map]; omega), ?_⟩
      rw [List.length_map]
      have el : 1 <<< ss.length = 2 ^ ss.length := Nat.one_shiftLeft _
      have sl : 1 <<< ss.length ≤ 16 := by rw [el]; exact Nat.pow_le_pow_right (n := 2) (by decide) l1
      generalize hU : 1 <<< ss.length = UU at el sl ⊢
      refine ⟨_, rfl, (by omega), (by omega), lc_pureR (n := UU) (fun _ => true) (fun z => vN (img ls i ^^^ img ss z)) (by omega) (fun z H' hz s => ?_) (fun D H11 hD s11 h11 => ?_)⟩
      · intro Z Nx z1 z2
        exact ⟨rfl, _, rfl, _, rfl, _, rfl, a, ss, z, rfl, .inl (s _ _ (s10 _ _ (s9 _ _ ha))), by omega, _, _, rfl, rfl, z1 rfl _ (Same.refl _)⟩
      rw [filt_true] at h11
      generalize hns : (List.range UU).map (fun z => img ls i ^^^ img ss z) = ns
      have h11' : H11 D = some (.lst ((ns.map Int.ofNat).map V.int)) := by
        rw [h11, ← hns, List.map_map, List.map_map]; rfl
      have nl : ns.length ≤ 16 := by rw [← hns]; simpa using sl
      have nm : ∀ e, e ∈ ns ↔ Ent ss ls [] i e := fun e => by
        rw [ent_nil, ← hns, List.mem_map]
        constructor
        · rintro ⟨z, hz, rfl⟩
          exact ⟨z, by rw [← el]; exact List.mem_range.mp hz, rfl⟩
        · rintro ⟨z, hz, rfl⟩
          exact ⟨z, List.mem_range.mpr (by rw [el]; exact hz), rfl⟩
      refine ⟨D, ns.map Int.ofNat, rfl, SqL.of h11', (by rw [List.length_map]; omega), fun st cn ob hst hcn hob => ?_⟩
      rw [List.length_map] at hcn
      refine ⟨st, ns, cn, rfl, upd_same.trans (congrArg some hob), (by omega), fun so ms hso hpw hmem hlen => ?_⟩
      have s12 : Same H11 (upd (upd H11 st ob) so (.lst (ms.map vN))) := same_new (same_new0 hst) hso
      have h12 : upd (upd H11 st ob) so (.lst (ms.map vN)) so = some (.lst (ms.map vN)) := upd_same
      have nso : so ≠ sd := fun z => by
        have := upd_new (o := ob) hst (s11 _ _ d10)
        rw [z] at hso; rw [hso] at this; cases this
      generalize upd (upd H11 st ob) so (.lst (ms.map vN)) = H12 at *
      have s912 : Same H9 H12 := (s10.trans s11).trans s12
      have d12 : H12 sd = some (.dK []) := s12 _ _ (s11 _ _ d10)
      have mlt : ∀ e ∈ ms, e < 32 := fun e he => ent_lt (b := 5) hs hl ((nm e).mp ((hmem e).mp he))
      have lft32 : ∀ e, e < 32 → lft rows e < 32 := fun e he => lft_lt (k := 5) (fun x hx => (hrr x hx).1) he
      refine for_sq2 (K := K) (Tq.l h12) (fun j σ H2 => ∃ v7 v8 kvs, σ = [some (.ref a), some (.ref c), some (.ref r), some (.ref g), some (vN i), some (.ref sd), some (vN (img ls i)), v7, v8, none] ∧ Same H9 H2 ∧ H2 so = some (.lst (ms.map vN)) ∧ H2 sd = some (.dK kvs) ∧ LnAt H2 rows (fun e => e ∈ ms.take j) kvs)
        ⟨v7, v8, [], rfl, s912, h12, d12, (LnAt.nil H12 rows).congr fun e => by simp⟩ (fun j σ H2 hp o ho => ?_) ?_ ?_
      · obtain ⟨_, _, _, _, _, z, _⟩ := hp
        rw [h12] at ho; cases ho; exact z
      · rintro j y σ H2 hy ⟨v7, v8, kvs, rfl, s2, hso2, hd2, A2⟩
        obtain ⟨e, he, rfl⟩ := map_get hy
        have e32 := mlt e (List.mem_of_getElem? he)
        refine ⟨_, rfl, _, rfl, r, rows, e, rfl, .inl (s2 _ _ (s9 _ _ hrw)), (fun x hx => (hrr x hx).2), ?_⟩
        refine ⟨_, rfl, sd, rfl, .inl ⟨kvs, .inl hd2⟩, _, rfl, (by show 2 ≤ sizeLine; decide), fun x0 hx0 => ?_⟩
        have A3 : LnAt (upd H2 x0 (.tup [vN 0, .bl true])) rows (fun e => e ∈ ms.take j) kvs := A2.mono (Same.tups (same_new0 hx0))
        obtain ⟨t, m, et, ht, hm⟩ := A3.get upd_same (lft rows e)
        refine ⟨_, DGet.k (k := kn (lft rows e)) (upd_new hx0 hd2), ?_⟩
        rw [et]
        refine ⟨t, _, 0, _, rfl, rfl, .inr ht, rfl, ?_⟩
        refine ⟨_, rfl, 1, e, rfl, rfl, shl_ok1 o1 (by omega), m, 1 <<< e, rfl, rfl, (by show 2 ≤ sizeLine; decide), fun x1 hx1 => ?_⟩
        have s3 : Same H2 (upd (upd H2 x0 (.tup [vN 0, .bl true])) x1 (.tup [vN (m ||| 1 <<< e), .bl true])) := same_new (same_new0 hx0) hx1
        have h3 : upd (upd H2 x0 (.tup [vN 0, .bl true])) x1 (.tup [vN (m ||| 1 <<< e), .bl true]) x1 = some (.tup [vN (m ||| 1 <<< e), .bl true]) := upd_same
        have A4 := A3.mono (Same.tups (same_new0 (o := .tup [vN (m ||| 1 <<< e), .bl true]) hx1))
        generalize upd (upd H2 x0 (.tup [vN 0, .bl true])) x1 (.tup [vN (m ||| 1 <<< e), .bl true]) = H3 at *
        have hd3 := s3 _ _ hd2
        have lk : kvs.length ≤ 32 := A2.sn.le (n := 32) fun c' hc' => by
          obtain ⟨e', h1, rfl⟩ := hc'
          exact lft32 _ (mlt e' (List.mem_of_mem_take h1))
        refine ⟨_, rfl, _, rfl, sd, _, rfl, DPut.k (k := kn (lft rows e)) hd3 (by rw [sizeLine_eq]; omega), ?_⟩
        have nt : ∀ t vs, H3 t = some (.tup vs) → t ≠ sd := fun t vs h z => by rw [z, hd3] at h; cases h
        refine ⟨_, _, _, rfl, same_put (s2.trans s3) hsd, (upd_ne nso).trans (s3 _ _ hso2), upd_same, A4.put (fun t vs h => (upd_ne (nt t vs h)).trans h) (m := m ||| 1 <<< e) ((upd_ne (nt _ _ h3)).trans h3) ?_ ⟨e, ?_, rfl⟩ (fun e' hne => ?_)⟩
        · refine (hm.or (Msk.unit e)).congr fun e' => ?_
          rw [take_succ he]; simp
        · rw [take_succ he]; simp
        · rw [take_succ he]
          constructor
          · intro h
            rcases List.mem_append.mp h with h | h
            · exact h
            · rcases List.mem_singleton.mp h with rfl
              exact absurd rfl hne
          · exact List.mem_append_left _
      · rintro σ H2 ⟨v7, v8, kvs, rfl, s2, hso2, hd2, A2⟩
        rw [List.length_map, List.take_length] at A2
        have A3 : LnAt H2 rows (Ent ss ls [] i) kvs := A2.congr fun e => by rw [hmem, nm]
        have hg2 := s2 _ _ hg9
        refine ⟨_, rfl, .inl ⟨rfl, _, SqL.of hg2⟩, _, rfl, g, _, _, rfl, rfl, hg2, (by rw [List.length_map]; exact size6 (by omega)), ?_⟩
        have keep : ∀ {b : Addr} {kv : List (Key × V)}, H2 b = some (.dK kv) → upd H2 g (.lst (ds.map V.ref ++ [.ref sd])) b = some (.dK kv) := fun {b kv} h => (upd_ne (fun z => by rw [z, hg2] at h; cases h)).trans h
        have tk : ∀ t vs, H2 t = some (.tup vs) → upd H2 g (.lst (ds.map V.ref ++ [.ref sd])) t = some (.tup vs) := fun t vs h => (upd_ne (fun z => by rw [z, hg2] at h; cases h)).trans h
        refine ⟨_, _, _, _, _, ds ++ [sd], rfl, same_put (s9.trans s2) hg, ?_, ?_, fun L d hd => ?_⟩
        · rw [upd_same, List.map_append]; rfl
        · rw [List.length_append, hdl]; rfl
        · by_cases hL : L < ds.length
          · rw [List.getElem?_append_left hL] at hd
            obtain ⟨kv, k1, k2⟩ := hds L d hd
            exact ⟨kv, keep (s2 _ _ k1), (k2.mono (Same.tups s2)).mono tk⟩
          · rw [List.getElem?_append_right (by omega)] at hd
            have hz : L - ds.length = 0 := by
              have := (List.getElem?_eq_some_iff.mp hd).1
              simp at this; omega
            rw [hz] at hd
            cases hd
            have : L = i := by omega
            subst this
            exact ⟨kvs, keep hd2, A3.mono tk⟩
    · rintro σ H9 ⟨v4, v5, v6, v7, v8, ds, rfl, s9, hg9, hdl, hds⟩
      exact ⟨_, rfl, k _ _ s9 hg ⟨ds, hg9, by rw [hdl, eT], hds⟩⟩
end
end LaneX
set_option Elab.async false
set_option linter.all false
set_option maxRecDepth 100000
set_option maxHeartbeats 4000000
namespace LaneX
open PySem PySem.Spec PyProof.Rows L2
/-! ### plans of sums -/
structure SumT (K : PySem.W.Frag) (mg : Str → Option Value) (C : Addr) : Prop extends ObjT K C where
  gl : mg "SumPlan" = some (.ref C)
  np : NoAttr K C "spread"
  ne : NoAttr K C "space"
  nr : NoAttr K C "rounds"
  nm : NoAttr K C "own_marks"
  nl : NoAttr K C "own_leaders"
  nh : NoAttr K C "own_shared"
  na : NoAttr K C "own_lanes"
  nt : NoAttr K C "own_entries"
/-- all but p stays -/
def SmB (p : Addr) (H H' : Hp) : Prop := ∀ c o, H c = some o → c ≠ p → H' c = some o
theorem SmB.refl (p : Addr) (H : Hp) : SmB p H H := fun _ _ h _ => h
theorem SmB.put {p : Addr} {H H' : Hp} (h : SmB p H H') (o : HO) : SmB p H (upd H' p o) := fun c u e n => (upd_ne n).trans (h c u e n)
theorem SmB.same {p : Addr} {H H1 H' : Hp} (h : SmB p H H1) (s : Same H1 H') : SmB p H H' := fun c u e n => s _ _ (h c u e n)
theorem SmB.trans {p : Addr} {H H1 H' : Hp} (h : SmB p H H1) (s : SmB p H1 H') : SmB p H H' := fun c u e n => s _ _ (h c u e n) n
theorem SpreadAt.smb {C CP p dx : Addr} {fs : List (Str × V)} {H H' : Hp} {q : Addr} {b : Nat} {ss ls : List Nat} (h : SpreadAt C H q b ss ls) (hp : H p = some (.ins CP dx fs)) (n : q ≠ p) (s : SmB p H H') : SpreadAt C H' q b ss ls := by
  obtain ⟨d, a, l, h1, h2, h3⟩ := h
  exact ⟨d, a, l, s _ _ h1 n, s _ _ h2 (ne_of h2 hp (by intro z; cases z)), s _ _ h3 (ne_of h3 hp (by intro z; cases z))⟩
theorem SpaceAt.smb {C CP p dx : Addr} {fs : List (Str × V)} {H H' : Hp} {q : Addr} {b : Nat} {rows : List Nat} (h : SpaceAt C H q b rows) (hp : H p = some (.ins CP dx fs)) (n : q ≠ p) (s : SmB p H H') : SpaceAt C H' q b rows := by
  obtain ⟨d, a, h1, h2⟩ := h
  exact ⟨d, a, s _ _ h1 n, s _ _ h2 (ne_of h2 hp (by intro z; cases z))⟩
/-- words told by others: (the words, their pairs) -/
def ToldAt (H : Hp) (t : Addr) (F : List Nat) : Prop := ∃ f q, H t = some (.tup [.ref f, .ref q]) ∧ H f = some (.lst (F.map vN)) ∧ H q = some (.lst ((prd F).map vN))
theorem ToldAt.same {H H' : Hp} {t : Addr} {F : List Nat} (h : ToldAt H t F) (s : Same H H') : ToldAt H' t F := by
  obtain ⟨f, q, h1, h2, h3⟩ := h
  exact ⟨f, q, s _ _ h1, s _ _ h2, s _ _ h3⟩
theorem ToldAt.kp {H H' : Hp} {t : Addr} {F : List Nat} (h : ToldAt H t F) (s : Kp H H') : ToldAt H' t F := by
  obtain ⟨f, q, h1, h2, h3⟩ := h
  exact ⟨f, q, s _ _ h1 rfl, s _ _ h2 rfl, s _ _ h3 rfl⟩
theorem ToldAt.smb {CP p dx : Addr} {fs : List (Str × V)} {H H' : Hp} {t : Addr} {F : List Nat} (h : ToldAt H t F) (hp : H p = some (.ins CP dx fs)) (s : SmB p H H') : ToldAt H' t F := by
  obtain ⟨f, q, h1, h2, h3⟩ := h
  exact ⟨f, q, s _ _ h1 (ne_of h1 hp (by intro z; cases z)), s _ _ h2 (ne_of h2 hp (by intro z; cases z)), s _ _ h3 (ne_of h3 hp (by intro z; cases z))⟩
theorem mk_SpaceP {C : Addr} {H1 : Hp} {b : Nat} {a : Addr} {ws : List Nat} {R : Addr → Hp → Prop} {E : XK} (hS : Tq H1 a (ws.map vN)) (hb : ∀ x ∈ ws, blen x ≤ b) (hl : ws.length ≤ 1000000) (k : ∀ H' p, Same H1 H' → H1 p = none → SpaceAt C H' p b (spn ws) → R p H') :
    ∀ x dx, H1 x = none → H1 dx = none → dx ≠ x → sp_Space C (.ref x :: ([vN b, .ref a] ++ [])) (upd (upd H1 dx (.own x)) x (.ins C dx [])) (fun v H2 => v = .non ∧ R x H2) E := by
  intro x dx nx ndx ne
  have nx' : upd H1 dx (.own x) x = none := (upd_ne ne.symm).trans nx
  refine ⟨x, dx, b, a, ws, rfl, upd_same, (hS.new ndx).new nx', hb, hl, fun H' hA kp => ⟨rfl, k _ _ (made_same nx ndx kp) nx hA⟩⟩
def mks (b : Nat) (ss rows : List Nat) : List Nat := cmpl (spn (mtd b (spn ss) rows)) (spn ss)
def shd (b : Nat) (ss ls rows : List Nat) : Nat := min (mks b ss rows).length (twn ss ls).length
def fla (b : Nat) (ss ls rows : List Nat) : List Nat := fll ls.length ((twn ss ls).take (shd b ss ls rows) ++ ldr ss ls rows)
def fle (b : Nat) (ss rows : List Nat) : List Nat := fll b (mks b ss rows ++ rows)
def smf (sp so mk ld la le : Addr) (n h : Nat) : List (Str × V) := [("spread", .ref sp), ("space", .ref so), ("rounds", vN n), ("own_marks", .ref mk), ("own_leaders", .ref ld), ("own_shared", vN h), ("own_lanes", .ref la), ("own_entries", .ref le)]
structure PlanAt (CP CS CR : Addr) (H : Hp) (p : Addr) (b : Nat) (ss ls rows : List Nat) : Prop where
  at_ : ∃ dx sp so mk ld la le, H p = some (.ins CP dx (smf sp so mk ld la le (smr b ss ls rows) (shd b ss ls rows))) ∧ SpreadAt CR H sp b ss ls ∧ SpaceAt CS H so b rows ∧ H mk = some (.lst ((mks b ss rows).map vN)) ∧ H ld = some (.lst ((ldr ss ls rows).map vN)) ∧ ToldAt H la (fla b ss ls rows) ∧ ToldAt H le (fle b ss rows)
  wr : WfR b ss ls
  ws : WfS b rows
  bb : b ≤ 1000
  lb : ls.length ≤ 1000
  sb : ss.length ≤ 1000
theorem PlanAt.same {CP CS CR : Addr} {H H' : Hp} {p : Addr} {b : Nat} {ss ls rows : List Nat} (h : PlanAt CP CS CR H p b ss ls rows) (s : Same H H') : PlanAt CP CS CR H' p b ss ls rows := by
  obtain ⟨dx, sp, so, mk, ld, la, le, h1, h2, h3, h4, h5, h6, h7⟩ := h.at_
  exact ⟨⟨dx, sp, so, mk, ld, la, le, s _ _ h1, h2.same s, h3.same s, s _ _ h4, s _ _ h5, h6.same s, h7.same s⟩, h.wr, h.ws, h.bb, h.lb, h.sb⟩
theorem PlanAt.kp {CP CS CR : Addr} {H H' : Hp} {p : Addr} {b : Nat} {ss ls rows : List Nat} (h : PlanAt CP CS CR H p b ss ls rows) (s : Kp H H') : PlanAt CP CS CR H' p b ss ls rows := by
  obtain ⟨dx, sp, so, mk, ld, la, le, h1, h2, h3, h4, h5, h6, h7⟩ := h.at_
  exact ⟨⟨dx, sp, so, mk, ld, la, le, s _ _ h1 rfl, h2.kp s, h3.kp s, s _ _ h4 rfl, s _ _ h5 rfl, h6.kp s, h7.kp s⟩, h.wr, h.ws, h.bb, h.lb, h.sb⟩
def sp_own_words : Sp := fun vs H Q _ => ∃ (p a : Addr) (b : Nat) (W : List Nat), vs = [.ref p, vN b, .ref a] ∧ H a = some (.lst (W.map vN)) ∧ (∀ x ∈ W, x < 2 ^ b) ∧ W.length ≤ 3000 ∧ b ≤ 1000 ∧ ∀ H' t, Same H H' → H t = none → ToldAt H' t (fll b W) → Q (.ref t) H'
def sp_told : Sp := fun vs H Q _ => ∃ (p t : Addr) (F : List Nat) (x : Nat), vs = [.ref p, .ref t, vN x] ∧ ToldAt H t F ∧ Spn F x ∧ F.length ≤ 100000 ∧ x < 2 ^ 1000 ∧ Q (vN (slv F x)) H
section
variable {P : Program} {w : World} {K : PySem.W.Frag} {mg : Str → Option Value} {base : Heap} {f : Addr} {fd : FuncData} {CS CR CP : Addr} (T : Bt mg) (TS : SpaceT K mg CS) (TR : SpreadT K mg CR) (TU : SumT K mg CP)
include T
theorem ok_own_words (F : FnP K "own_words" "SumPlan.own_words" s_SumPlan_own_words f fd) (K_Space : Kn P w K mg base 4 CS "Space" ["self", "bits", "words"] (sp_Space CS)) (M_Space_completing : Mn P w K mg base 3 CS "completing" ["self", "other"] (sp_completing CS)) (D_every : Dn P w K mg base 6 "every" ["bits"] (sp_every CS)) (D_paired : Dn P w K mg base 4 "paired" ["columns"] sp_paired) : FnOk P w K mg base CX0 7 f fd ["self", "bits", "words"] sp_own_words := by
  have nd := sc_SumPlan_own_words.nd
  refine fnok F sc_SumPlan_own_words (fun vs H Q E h => ?_) (fun cdv A outer s H vs Q E hr h => ?_)
  · obtain ⟨p, a, b, W, rfl, _⟩ := h
    rfl
  · obtain ⟨p, a, b, W, rfl, hS, lt, hl, hb, k⟩ := h
    refine ⟨_, (pss_cons (ps_set (i := 3) nd rfl (Or.inl rfl) (pe_op op_cat (pv 2) (pe_callTy call_listQ (by rfl) T.list (by decide +kernel) (pa_cons (pe_m (pe_k K_Space hr (pa_cons (pv 1) (pa_cons (pv 2) pa_nil))) M_Space_completing hr (pa_cons (pe_d D_every hr (pa_cons (pv 1) pa_nil)) pa_nil)) pa_nil))))
  (pss_one (ps_ret (pe_tup (pa_cons (pv 3) (pa_cons (pe_d D_paired hr (pa_cons (pv 3) pa_nil)) pa_nil)))))), ?_⟩
    refine ⟨_, rfl, _, rfl, _, rfl, mk_SpaceP (ws := W) (.inl hS) (fun x hx => blen_le.mpr (lt x hx)) (by omega) (fun H1 q s1 hq a1 => ?_)⟩
    obtain ⟨d1, t1, e1, e2⟩ := id a1
    refine ⟨q, d1, _, rfl, e1, rfl, _, rfl, b, rfl, (by omega), fun H2 u s2 hu a2 => ?_⟩
    have w1 : WfS b (spn W) := WfS.of (by omega) (fun x hx => blen_le.mpr (lt x hx))
    have ult : ∀ x ∈ units b, x < 2 ^ b := fun x hx => by
      obtain ⟨i, hi, rfl⟩ := List.mem_map.mp hx
      rw [Nat.one_shiftLeft]
      exact Nat.pow_lt_pow_right (by decide) (List.mem_range.mp hi)
    have w2 : WfS b (spn (units b)) := WfS.of (by omega) (fun x hx => blen_le.mpr (ult x hx))
    have a2 : SpaceAt CS H2 u b (spn (units b)) := a2
    refine ⟨q, u, b, spn W, spn (units b), rfl, a1.same s2, a2, w1, w2, fun H3 t s3 ht e3 => ?_⟩
    have s13 := (s1.trans s2).trans s3
    refine ⟨t, _, rfl, .inr e3, fun l hl => ?_⟩
    have cl : (cmpl (spn W) (spn (units b))).length ≤ 1000 := Nat.le_trans (cms_len _ _).2 (Nat.le_trans (spn_len _) (by simp [units]; omega))
    refine ⟨a, l, _, _, rfl, rfl, upd_new hl (s13 _ _ hS), upd_same, (by rw [List.length_map, List.length_map, sizeLine_eq]; omega), fun c hc => ?_⟩
    have s4 := same_new (same_new s13 hl) (o := .lst (W.map vN ++ (cmpl (spn W) (spn (units b))).map vN)) hc
    have e4 : upd (upd H3 l (.lst ((cmpl (spn W) (spn (units b))).map vN))) c (.lst (W.map vN ++ (cmpl (spn W) (spn (units b))).map vN)) c = some (.lst ((fll b W).map vN)) := by
      rw [upd_same]; unfold fll; rw [List.map_append]
    generalize upd (upd H3 l _) c _ = H4 at *
    have fl : (fll b W).length ≤ 4000 := by unfold fll; rw [List.length_append]; omega
    refine ⟨_, rfl, _, rfl, c, fll b W, rfl, .inl e4, (by omega), fun x hx => Nat.le_trans (blen_le.mpr (fll_lt lt x hx)) (by omega), fun H5 d s5 hd e5 => ⟨(by show 2 ≤ sizeLine; decide), fun y hy => ?_⟩⟩
    have s6 := same_new0 (o := .tup [.ref c, .ref d]) hy
    exact k _ y ((s4.trans s5).trans s6) ((s4.trans s5).free hy) ⟨c, d, upd_same, s6 _ _ (s5 _ _ e4), s6 _ _ e5⟩
theorem ok_told (F : FnP K "told_by" "SumPlan.told_by" s_SumPlan_told_by f fd) (D_solved : Dn P w K mg base 2 "solved" ["pairs", "source", "word"] sp_solved) : FnOk P w K mg base CX0 3 f fd ["self", "told", "word"] sp_told := by
  have nd := sc_SumPlan_told_by.nd
  refine fnok F sc_SumPlan_told_by (fun vs H Q E h => ?_) (fun cdv A outer s H vs Q E hr h => ?_)
  · obtain ⟨p, t, F, x, rfl, _⟩ := h
    rfl
  · obtain ⟨p, t, F, x, rfl, ⟨f1, q1, h1, h2, h3⟩, hx, hl, hb, k⟩ := h
    refine ⟨_, (pss_one (ps_ret (pe_d D_solved hr (pa_cons (pe_ix ix_q (pv 1) pe_int (fun _ _ => rfl)) (pa_cons (pe_callB call_lenQ (by rfl) T.len PySem.boot_len (pa_cons (pe_ix ix_q (pv 1) pe_int (fun _ _ => rfl)) pa_nil)) (pa_cons (pv 2) pa_nil)))))), ?_⟩
    refine ⟨_, rfl, t, _, 1, .ref q1, rfl, rfl, .inr h1, rfl, _, rfl, t, _, 0, .ref f1, rfl, rfl, .inr h1, rfl, f1, _, rfl, .inl h2, _, rfl, q1, F, 1000, x, by rw [List.length_map]; rfl, .inl h3, (by omega), hb, (by omega), hx, k⟩
end
def sp_SumPlan (CP CS CR : Addr) : Sp := fun vs H Q _ => ∃ (p dx sp so : Addr) (b : Nat) (ss ls rows : List Nat), vs = [.ref p, .ref sp, .ref so] ∧ H p = some (.ins CP dx []) ∧ SpreadAt CR H sp b ss ls ∧ SpaceAt CS H so b rows ∧ WfR b ss ls ∧ WfS b rows ∧ b ≤ 1000 ∧ ls.length ≤ 1000 ∧ ss.length ≤ 1000 ∧
  ∀ H', PlanAt CP CS CR H' p b ss ls rows → (∀ c o, H c = some o → c ≠ p → H' c = some o) → Q .non H'
theorem ins_ne {H : Hp} {p q C C' d d' : Addr} {x : Str × V} {fs : List (Str × V)} (h1 : H q = some (.ins C d (x :: fs))) (h2 : H p = some (.ins C' d' [])) : q ≠ p := fun z => by
  rw [z, h2] at h1
  injection h1 with h1
  injection h1 with _ _ h1
  cases h1
theorem cut_takeP (xs : List Nat) {k : Nat} (h : k ≤ xs.length) : cutV (xs.map vN) none (some (k : Int)) = (xs.take k).map vN := by
  unfold cutV
  rw [HT.sIx_nat, HT.sIx_none, List.length_map, Nat.min_eq_left h, List.map_take]
  rfl
theorem min_int (a b : Nat) : (if ((b : Nat) : Int) < (a : Int) then ((b : Nat) : Int) else (a : Int)) = ((min a b : Nat) : Int) := by split <;> omega
section
variable {P : Program} {w : World} {K : PySem.W.Frag} {mg : Str → Option Value} {base : Heap} {f : Addr} {fd : FuncData} {CS CR CP : Addr} (T : Bt mg) (TS : SpaceT K mg CS) (TR : SpreadT K mg CR) (TU : SumT K mg CP)
include T TS TR TU
theorem ok_SumPlan (F : FnP K "__init__" "SumPlan.__init__" s_SumPlan_init f fd) (D_need_pair : Dn P w K mg base 2 "need_pair" ["spread", "space"] (sp_need_pair CS CR)) (D_sum_rounds : Dn P w K mg base 9 "sum_rounds" ["spread", "space"] (sp_sum_rounds CS CR)) (M_Spread_slot_space : Mn P w K mg base 6 CR "slot_space" ["self"] (sp_slot_space CS CR)) (M_Spread_twins : Mn P w K mg base 6 CR "twins" ["self"] (sp_twins CS CR)) (M_Space_and : Mn P w K mg base 6 CS "__and__" ["self", "other"] (sp_and CS)) (hsf : PySem.W.selfFirst K CS = true) (M_Space_completing : Mn P w K mg base 3 CS "completing" ["self", "other"] (sp_completing CS)) (D_leaders : Dn P w K mg base 8 "leaders" ["spread", "space"] (sp_leaders CS CR)) (M_SumPlan_own_words : Mn P w K mg base 7 CP "own_words" ["self", "bits", "words"] sp_own_words) : FnOk P w K mg base CX0 10 f fd ["self", "spread", "space"] (sp_SumPlan CP CS CR) := by
  have nd := sc_SumPlan_init.nd
  refine fnok F sc_SumPlan_init (fun vs H Q E h => ?_) (fun cdv A outer s H vs Q E hr h => ?_)
  · obtain ⟨p, dx, sp, so, b, ss, ls, rows, rfl, _⟩ := h
    rfl
  · obtain ⟨p, dx, sp, so, b, ss, ls, rows, rfl, hp, hsp, hso, wr, ws, hb, hl, hs, kQ⟩ := h
    refine ⟨_, (pss_cons (ps_expr (pe_d D_need_pair hr (pa_cons (pv 1) (pa_cons (pv 2) pa_nil))))
  (pss_cons (ps_fld (pv 0) (pv 1) rfl)
  (pss_cons (ps_fld (pv 0) (pv 2) rfl)
  (pss_cons (ps_fld (pv 0) (pe_d D_sum_rounds hr (pa_cons (pv 1) (pa_cons (pv 2) pa_nil))) rfl)
  (pss_cons (ps_par (i := 3) (j := 4) (by rfl) nd rfl rfl (by decide) rfl rfl (pa_cons (pe_m0 (pv 1) M_Spread_slot_space hr) (pa_cons (pe_m0 (pv 1) M_Spread_twins hr) pa_nil)) (by rfl))
  (pss_cons (ps_fld (pv 0) (pe_callTy call_listQ (by rfl) T.list (by decide +kernel) (pa_cons (pe_m (pe_op (op_own (by rfl) M_Space_and hsf hr) (pv 3) (pv 2)) M_Space_completing hr (pa_cons (pv 3) pa_nil)) pa_nil)) rfl)
  (pss_cons (ps_fld (pv 0) (pe_d D_leaders hr (pa_cons (pv 1) (pa_cons (pv 2) pa_nil))) rfl)
  (pss_cons (ps_fld (pv 0) (pe_callB (call_min2 rfl) (by rfl) T.min (by decide +kernel) (pa_cons (pe_callB call_lenQ (by rfl) T.len PySem.boot_len (pa_cons (pe_fld (pv 0) rfl) pa_nil)) (pa_cons (pe_fld (pv 4) rfl) pa_nil))) rfl)
  (pss_cons (ps_fld (pv 0) (pe_m (pv 0) M_SumPlan_own_words hr (pa_cons (pe_callB call_lenQ (by rfl) T.len PySem.boot_len (pa_cons (pe_fld (pv 1) rfl) pa_nil)) (pa_cons (pe_op op_cat (pe_slice sl_list (pe_callTy call_listQ (by rfl) T.list (by decide +kernel) (pa_cons (pe_fld (pv 4) rfl) pa_nil)) po_none (po_some (pe_fld (pv 0) rfl))) (pe_fld (pv 0) rfl)) pa_nil))) rfl)
  (pss_one (ps_fld (pv 0) (pe_m (pv 0) M_SumPlan_own_words hr (pa_cons (pe_fld (pv 1) rfl) (pa_cons (pe_op op_cat (pe_fld (pv 0) rfl) (pe_callTy call_listQ (by rfl) T.list (by decide +kernel) (pa_cons (pe_fld (pv 2) rfl) pa_nil))) pa_nil))) rfl))))))))))), ?_⟩
    have np : sp ≠ p := by
      obtain ⟨d, x, y, h1, _⟩ := hsp
      exact ins_ne h1 hp
    have no : so ≠ p := by
      obtain ⟨d, x, h1, _⟩ := hso
      exact ins_ne h1 hp
    have AS : ∀ {H'}, SmB p H H' → SpreadAt CR H' sp b ss ls := fun k => hsp.smb hp np k
    have AO : ∀ {H'}, SmB p H H' → SpaceAt CS H' so b rows := fun k => hso.smb hp no k
    refine ⟨_, rfl, _, rfl, sp, so, b, ss, ls, rows, rfl, hsp, hso, _, rfl, _, rfl, p, CP, dx, [], rfl, hp, TU.cl, TU.np, (by decide), ?_⟩
    have m1 := (SmB.refl p H).put (.ins CP dx (putF "spread" (.ref sp) []))
    have p1 : upd H p (.ins CP dx (putF "spread" (.ref sp) [])) p = some (.ins CP dx (putF "spread" (.ref sp) [])) := upd_same
    generalize upd H p (.ins CP dx (putF "spread" (.ref sp) [])) = H1 at *
    refine ⟨_, rfl, _, rfl, p, CP, dx, _, rfl, p1, TU.cl, TU.ne, (by show 1 < 1000; decide), ?_⟩
    have m2 := m1.put (.ins CP dx (putF "space" (.ref so) (putF "spread" (.ref sp) [])))
    have p2 : upd H1 p (.ins CP dx (putF "space" (.ref so) (putF "spread" (.ref sp) []))) p = some (.ins CP dx (putF "space" (.ref so) (putF "spread" (.ref sp) []))) := upd_same
    generalize upd H1 p (.ins CP dx (putF "space" (.ref so) (putF "spread" (.ref sp) []))) = H2 at *
    refine ⟨_, rfl, _, rfl, sp, so, b, ss, ls, rows, rfl, AS m2, AO m2, wr, ws, fun H3 s3 => ?_⟩
    have m3 := m2.same s3
    refine ⟨_, rfl, p, CP, dx, _, rfl, s3 _ _ p2, TU.cl, TU.nr, (by show 2 < 1000; decide), ?_⟩
    generalize hn : smr b ss ls rows = n
    have m4 := m3.put (.ins CP dx [("spread", .ref sp), ("space", .ref so), ("rounds", vN n)])
    have p4 : upd H3 p (.ins CP dx [("spread", .ref sp), ("space", .ref so), ("rounds", vN n)]) p = some (.ins CP dx [("spread", .ref sp), ("space", .ref so), ("rounds", vN n)]) := upd_same
    show (_ : Hp → Prop) (upd H3 p (.ins CP dx [("spread", .ref sp), ("space", .ref so), ("rounds", vN n)]))
    generalize upd H3 p (.ins CP dx [("spread", .ref sp), ("space", .ref so), ("rounds", vN n)]) = H4 at *
    have pk := p4
    have m := m4
    obtain ⟨dq4, sq4, lq4, q4a, q4b, q4c⟩ := id (AS m)
    refine ⟨_, rfl, sp, dq4, _, rfl, q4a, rfl, sp, b, ss, ls, rfl, AS m, wr, fun H5 sl s5 hsl a5 => ?_⟩
    have m := m.same s5
    have pk := s5 _ _ pk
    obtain ⟨dq5, sq5, lq5, q5a, q5b, q5c⟩ := id (AS m)
    refine ⟨_, rfl, sp, dq5, _, rfl, q5a, rfl, sp, b, ss, ls, rfl, AS m, wr, fun H6 tw s6 htw a6 => ⟨_, _, rfl, ?_⟩⟩
    have ntw : tw ≠ p := (ne_of_none pk htw).symm
    have m := m.same s6
    have pk := s6 _ _ pk
    have p6 := pk
    have k6 := SmB.refl p H6
    have a5' := a5.same s6
    have W1 : WfS b (spn ss) := WfS.of (by omega) wr.s
    have W2 : WfS b (spn (mtd b (spn ss) rows)) := WfS.of (by omega) (mtd_blen _ _ _)
    obtain ⟨dsl, tsl, e1, e2⟩ := id a5'
    obtain ⟨dso, tso, e3, e4⟩ := id (AO m)
    refine ⟨_, rfl, _, rfl, sl, so, dsl, dso, _, _, rfl, rfl, e1, e3, sl, so, b, spn ss, rows, rfl, a5', AO m, W1, ws, fun H7 an s7 han a7 => ?_⟩
    obtain ⟨dan, tan, e5, e6⟩ := id a7
    refine ⟨an, dan, _, rfl, e5, rfl, _, rfl, an, sl, b, spn (mtd b (spn ss) rows), spn ss, rfl, a7, a5'.same s7, W2, W1, fun H8 cp s8 hcp e8 => ?_⟩
    refine ⟨cp, _, rfl, .inr e8, fun mk hmk => ?_⟩
    have s9 := (s7.trans s8).trans (same_new0 (o := .lst ((mks b ss rows).map vN)) hmk)
    have emk : upd H8 mk (.lst ((mks b ss rows).map vN)) mk = some (.lst ((mks b ss rows).map vN)) := upd_same
    have nmk : mk ≠ p := (ne_of_none ((s7.trans s8) _ _ pk) hmk).symm
    show (_ : Hp → Prop) (upd H8 mk (.lst ((mks b ss rows).map vN)))
    generalize upd H8 mk (.lst ((mks b ss rows).map vN)) = H9 at *
    have m := m.same s9
    have k6 := k6.same s9
    have pk := s9 _ _ pk
    refine ⟨_, rfl, p, CP, dx, _, rfl, pk, TU.cl, TU.nm, (by show 3 < 1000; decide), ?_⟩
    have m := m.put (.ins CP dx [("spread", .ref sp), ("space", .ref so), ("rounds", vN n), ("own_marks", .ref mk)])
    have k6 := k6.put (.ins CP dx [("spread", .ref sp), ("space", .ref so), ("rounds", vN n), ("own_marks", .ref mk)])
    have emk := upd_put (o := .ins CP dx [("spread", .ref sp), ("space", .ref so), ("rounds", vN n), ("own_marks", .ref mk)]) emk nmk
    have pk : upd H9 p (.ins CP dx [("spread", .ref sp), ("space", .ref so), ("rounds", vN n), ("own_marks", .ref mk)]) p = some (.ins CP dx [("spread", .ref sp), ("space", .ref so), ("rounds", vN n), ("own_marks", .ref mk)]) := upd_same
    show (_ : Hp → Prop) (upd H9 p (.ins CP dx [("spread", .ref sp), ("space", .ref so), ("rounds", vN n), ("own_marks", .ref mk)]))
    generalize upd H9 p (.ins CP dx [("spread", .ref sp), ("space", .ref so), ("rounds", vN n), ("own_marks", .ref mk)]) = H10 at *
    refine ⟨_, rfl, _, rfl, sp, so, b, ss, ls, rows, rfl, AS m, AO m, wr, ws, fun H11 ld s11 hld eld => ?_⟩
    have nld : ld ≠ p := (ne_of_none pk hld).symm
    have m := m.same s11
    have k6 := k6.same s11
    have emk := s11 _ _ emk
    have pk := s11 _ _ pk
    refine ⟨_, rfl, p, CP, dx, _, rfl, pk, TU.cl, TU.nl, (by show 4 < 1000; decide), ?_⟩
    have m := m.put (.ins CP dx [("spread", .ref sp), ("space", .ref so), ("rounds", vN n), ("own_marks", .ref mk), ("own_leaders", .ref ld)])
    have k6 := k6.put (.ins CP dx [("spread", .ref sp), ("space", .ref so), ("rounds", vN n), ("own_marks", .ref mk), ("own_leaders", .ref ld)])
    have emk := upd_put (o := .ins CP dx [("spread", .ref sp), ("space", .ref so), ("rounds", vN n), ("own_marks", .ref mk), ("own_leaders", .ref ld)]) emk nmk
    have eld := upd_put (o := .ins CP dx [("spread", .ref sp), ("space", .ref so), ("rounds", vN n), ("own_marks", .ref mk), ("own_leaders", .ref ld)]) eld nld
    have pk : upd H11 p (.ins CP dx [("spread", .ref sp), ("space", .ref so), ("rounds", vN n), ("own_marks", .ref mk), ("own_leaders", .ref ld)]) p = some (.ins CP dx [("spread", .ref sp), ("space", .ref so), ("rounds", vN n), ("own_marks", .ref mk), ("own_leaders", .ref ld)]) := upd_same
    show (_ : Hp → Prop) (upd H11 p (.ins CP dx [("spread", .ref sp), ("space", .ref so), ("rounds", vN n), ("own_marks", .ref mk), ("own_leaders", .ref ld)]))
    generalize upd H11 p (.ins CP dx [("spread", .ref sp), ("space", .ref so), ("rounds", vN n), ("own_marks", .ref mk), ("own_leaders", .ref ld)]) = H12 at *
    obtain ⟨dtw, ttw, t1, t2⟩ := id (a6.smb p6 ntw k6)
    refine ⟨_, rfl, p, CP, dx, _, .ref mk, rfl, pk, TU.cl, TU.nm, rfl, mk, _, rfl, .inl emk, _, rfl, tw, CS, dtw, _, vN (twn ss ls).length, rfl, t1, TS.cl, TS.nd, rfl, _, _, rfl, ?_⟩
    rw [List.length_map, min_int]
    generalize hsh : min (mks b ss rows).length (twn ss ls).length = sh
    refine ⟨_, rfl, p, CP, dx, _, rfl, pk, TU.cl, TU.nh, (by show 5 < 1000; decide), ?_⟩
    have m := m.put (.ins CP dx [("spread", .ref sp), ("space", .ref so), ("rounds", vN n), ("own_marks", .ref mk), ("own_leaders", .ref ld), ("own_shared", vN sh)])
    have k6 := k6.put (.ins CP dx [("spread", .ref sp), ("space", .ref so), ("rounds", vN n), ("own_marks", .ref mk), ("own_leaders", .ref ld), ("own_shared", vN sh)])
    have emk := upd_put (o := .ins CP dx [("spread", .ref sp), ("space", .ref so), ("rounds", vN n), ("own_marks", .ref mk), ("own_leaders", .ref ld), ("own_shared", vN sh)]) emk nmk
    have eld := upd_put (o := .ins CP dx [("spread", .ref sp), ("space", .ref so), ("rounds", vN n), ("own_marks", .ref mk), ("own_leaders", .ref ld), ("own_shared", vN sh)]) eld nld
    have pk : upd H12 p (.ins CP dx [("spread", .ref sp), ("space", .ref so), ("rounds", vN n), ("own_marks", .ref mk), ("own_leaders", .ref ld), ("own_shared", vN sh)]) p = some (.ins CP dx [("spread", .ref sp), ("space", .ref so), ("rounds", vN n), ("own_marks", .ref mk), ("own_leaders", .ref ld), ("own_shared", vN sh)]) := upd_same
    show (_ : Hp → Prop) (upd H12 p (.ins CP dx [("spread", .ref sp), ("space", .ref so), ("rounds", vN n), ("own_marks", .ref mk), ("own_leaders", .ref ld), ("own_shared", vN sh)]))
    generalize upd H12 p (.ins CP dx [("spread", .ref sp), ("space", .ref so), ("rounds", vN n), ("own_marks", .ref mk), ("own_leaders", .ref ld), ("own_shared", vN sh)]) = H13 at *
    have wls : ∀ x ∈ ls, x < 2 ^ b := fun x hx => blen_le.mp (wr.l x hx)
    have ltw : ∀ x ∈ twn ss ls, x < 2 ^ ls.length := fun x hx => blen_le.mp ((twn_wf wr).b x hx)
    have lld : ∀ x ∈ ldr ss ls rows, x < 2 ^ ls.length := fun x hx => blen_le.mp ((prt_wf wr rows).b x (cmpl_mem _ x hx))
    have twl : (twn ss ls).length ≤ 1000 := Nat.le_trans ((twn_wf wr).r.len_le (twn_wf wr).b) hl
    have ldl : (ldr ss ls rows).length ≤ 1000 := Nat.le_trans (cms_len _ _).2 (Nat.le_trans ((prt_wf wr rows).r.len_le (prt_wf wr rows).b) hl)
    have mkl : (mks b ss rows).length ≤ 1000 := Nat.le_trans (cms_len _ _).2 (Nat.le_trans (spn_len _) hs)
    have rwl : rows.length ≤ 1000 := Nat.le_trans (ws.r.len_le ws.b) hb
    have shl : sh ≤ (twn ss ls).length := by rw [← hsh]; exact Nat.min_le_right _ _
    obtain ⟨dq6, sq6, lq6, q6a, q6b, q6c⟩ := id (AS m)
    obtain ⟨dtx, ttx, t3, t4⟩ := id (a6.smb p6 ntw k6)
    refine ⟨_, rfl, p, dx, _, rfl, pk, rfl, _, rfl, sp, CR, dq6, _, .ref lq6, rfl, q6a, TR.cl, TR.nl, rfl, lq6, _, rfl, .inr q6c, ?_⟩
    rw [List.length_map]
    refine ⟨_, rfl, tw, CS, dtx, _, .ref ttx, rfl, t3, TS.cl, TS.nr, rfl, ttx, _, rfl, .inr t4, fun l1 hl1 => ?_⟩
    have sX := same_new0 (o := .lst ((twn ss ls).map vN)) hl1
    have nl1 : l1 ≠ p := (ne_of_none pk hl1).symm
    have el1 : upd H13 l1 (.lst ((twn ss ls).map vN)) l1 = some (.lst ((twn ss ls).map vN)) := upd_same
    show (_ : Hp → Prop) (upd H13 l1 (.lst ((twn ss ls).map vN)))
    generalize upd H13 l1 (.lst ((twn ss ls).map vN)) = H14 at *
    have m := m.same sX
    have k6 := k6.same sX
    have emk := sX _ _ emk
    have eld := sX _ _ eld
    have pk := sX _ _ pk
    refine ⟨_, rfl, p, CP, dx, _, vN sh, rfl, pk, TU.cl, TU.nh, rfl, _, rfl, l1, _, rfl, SqL.of el1, fun l2 hl2 => ?_⟩
    rw [cut_takeP _ shl]
    have sX := same_new0 (o := .lst (((twn ss ls).take sh).map vN)) hl2
    have nl2 : l2 ≠ p := (ne_of_none pk hl2).symm
    have el2 : upd H14 l2 (.lst (((twn ss ls).take sh).map vN)) l2 = some (.lst (((twn ss ls).take sh).map vN)) := upd_same
    show (_ : Hp → Prop) (upd H14 l2 (.lst (((twn ss ls).take sh).map vN)))
    generalize upd H14 l2 (.lst (((twn ss ls).take sh).map vN)) = H15 at *
    have m := m.same sX
    have k6 := k6.same sX
    have emk := sX _ _ emk
    have eld := sX _ _ eld
    have el1 := sX _ _ el1
    have pk := sX _ _ pk
    refine ⟨_, rfl, p, CP, dx, _, .ref ld, rfl, pk, TU.cl, TU.nl, rfl, l2, ld, _, _, rfl, rfl, el2, eld, (by rw [List.length_map, List.length_map, List.length_take, sizeLine_eq]; omega), fun l3 hl3 => ?_⟩
    rw [← List.map_append]
    have sX := same_new0 (o := .lst (((twn ss ls).take sh ++ ldr ss ls rows).map vN)) hl3
    have nl3 : l3 ≠ p := (ne_of_none pk hl3).symm
    have el3 : upd H15 l3 (.lst (((twn ss ls).take sh ++ ldr ss ls rows).map vN)) l3 = some (.lst (((twn ss ls).take sh ++ ldr ss ls rows).map vN)) := upd_same
    show (_ : Hp → Prop) (upd H15 l3 (.lst (((twn ss ls).take sh ++ ldr ss ls rows).map vN)))
    generalize upd H15 l3 (.lst (((twn ss ls).take sh ++ ldr ss ls rows).map vN)) = H16 at *
    have m := m.same sX
    have k6 := k6.same sX
    have emk := sX _ _ emk
    have eld := sX _ _ eld
    have el1 := sX _ _ el1
    have el2 := sX _ _ el2
    have pk := sX _ _ pk
    refine ⟨p, l3, ls.length, (twn ss ls).take sh ++ ldr ss ls rows, rfl, el3, (fun x hx => (List.mem_append.mp hx).elim (fun z => ltw x (List.mem_of_mem_take z)) (lld x)), (by rw [List.length_append, List.length_take]; omega), hl, fun H17 la sla hla tla => ?_⟩
    have m := m.same sla
    have k6 := k6.same sla
    have emk := sla _ _ emk
    have eld := sla _ _ eld
    have el1 := sla _ _ el1
    have el2 := sla _ _ el2
    have el3 := sla _ _ el3
    have pk := sla _ _ pk
    have pla := pk
    have kla := SmB.refl p H17
    refine ⟨_, rfl, p, CP, dx, _, rfl, pk, TU.cl, TU.na, (by show 6 < 1000; decide), ?_⟩
    have m := m.put (.ins CP dx [("spread", .ref sp), ("space", .ref so), ("rounds", vN n), ("own_marks", .ref mk), ("own_leaders", .ref ld), ("own_shared", vN sh), ("own_lanes", .ref la)])
    have k6 := k6.put (.ins CP dx [("spread", .ref sp), ("space", .ref so), ("rounds", vN n), ("own_marks", .ref mk), ("own_leaders", .ref ld), ("own_shared", vN sh), ("own_lanes", .ref la)])
    have kla := kla.put (.ins CP dx [("spread", .ref sp), ("space", .ref so), ("rounds", vN n), ("own_marks", .ref mk), ("own_leaders", .ref ld), ("own_shared", vN sh), ("own_lanes", .ref la)])
    have emk := upd_put (o := .ins CP dx [("spread", .ref sp), ("space", .ref so), ("rounds", vN n), ("own_marks", .ref mk), ("own_leaders", .ref ld), ("own_shared", vN sh), ("own_lanes", .ref la)]) emk nmk
    have eld := upd_put (o := .ins CP dx [("spread", .ref sp), ("space", .ref so), ("rounds", vN n), ("own_marks", .ref mk), ("own_leaders", .ref ld), ("own_shared", vN sh), ("own_lanes", .ref la)]) eld nld
    have el1 := upd_put (o := .ins CP dx [("spread", .ref sp), ("space", .ref so), ("rounds", vN n), ("own_marks", .ref mk), ("own_leaders", .ref ld), ("own_shared", vN sh), ("own_lanes", .ref la)]) el1 nl1
    have el2 := upd_put (o := .ins CP dx [("spread", .ref sp), ("space", .ref so), ("rounds", vN n), ("own_marks", .ref mk), ("own_leaders", .ref ld), ("own_shared", vN sh), ("own_lanes", .ref la)]) el2 nl2
    have el3 := upd_put (o := .ins CP dx [("spread", .ref sp), ("space", .ref so), ("rounds", vN n), ("own_marks", .ref mk), ("own_leaders", .ref ld), ("own_shared", vN sh), ("own_lanes", .ref la)]) el3 nl3
    have pk : upd H17 p (.ins CP dx [("spread", .ref sp), ("space", .ref so), ("rounds", vN n), ("own_marks", .ref mk), ("own_leaders", .ref ld), ("own_shared", vN sh), ("own_lanes", .ref la)]) p = some (.ins CP dx [("spread", .ref sp), ("space", .ref so), ("rounds", vN n), ("own_marks", .ref mk), ("own_leaders", .ref ld), ("own_shared", vN sh), ("own_lanes", .ref la)]) := upd_same
    show (_ : Hp → Prop) (upd H17 p (.ins CP dx [("spread", .ref sp), ("space", .ref so), ("rounds", vN n), ("own_marks", .ref mk), ("own_leaders", .ref ld), ("own_shared", vN sh), ("own_lanes", .ref la)]))
    generalize upd H17 p (.ins CP dx [("spread", .ref sp), ("space", .ref so), ("rounds", vN n), ("own_marks", .ref mk), ("own_leaders", .ref ld), ("own_shared", vN sh), ("own_lanes", .ref la)]) = H18 at *
    obtain ⟨dq7, sq7, lq7, q7a, q7b, q7c⟩ := id (AS m)
    obtain ⟨dso2, tso2, v1, v2⟩ := id (AO m)
    refine ⟨_, rfl, p, dx, _, rfl, pk, rfl, _, rfl, sp, CR, dq7, _, vN b, rfl, q7a, TR.cl, TR.nb, rfl, ?_⟩
    refine ⟨_, rfl, p, CP, dx, _, .ref mk, rfl, pk, TU.cl, TU.nm, rfl, _, rfl, so, CS, dso2, _, .ref tso2, rfl, v1, TS.cl, TS.nr, rfl, tso2, _, rfl, .inr v2, fun l4 hl4 => ?_⟩
    have sX := same_new0 (o := .lst (rows.map vN)) hl4
    have nl4 : l4 ≠ p := (ne_of_none pk hl4).symm
    have el4 : upd H18 l4 (.lst (rows.map vN)) l4 = some (.lst (rows.map vN)) := upd_same
    show (_ : Hp → Prop) (upd H18 l4 (.lst (rows.map vN)))
    generalize upd H18 l4 (.lst (rows.map vN)) = H19 at *
    have m := m.same sX
    have k6 := k6.same sX
    have kla := kla.same sX
    have emk := sX _ _ emk
    have eld := sX _ _ eld
    have el1 := sX _ _ el1
    have el2 := sX _ _ el2
    have el3 := sX _ _ el3
    have pk := sX _ _ pk
    refine ⟨mk, l4, _, _, rfl, rfl, emk, el4, (by rw [List.length_map, List.length_map, sizeLine_eq]; omega), fun l5 hl5 => ?_⟩
    rw [← List.map_append]
    have sX := same_new0 (o := .lst ((mks b ss rows ++ rows).map vN)) hl5
    have nl5 : l5 ≠ p := (ne_of_none pk hl5).symm
    have el5 : upd H19 l5 (.lst ((mks b ss rows ++ rows).map vN)) l5 = some (.lst ((mks b ss rows ++ rows).map vN)) := upd_same
    show (_ : Hp → Prop) (upd H19 l5 (.lst ((mks b ss rows ++ rows).map vN)))
    generalize upd H19 l5 (.lst ((mks b ss rows ++ rows).map vN)) = H20 at *
    have m := m.same sX
    have k6 := k6.same sX
    have kla := kla.same sX
    have emk := sX _ _ emk
    have eld := sX _ _ eld
    have el1 := sX _ _ el1
    have el2 := sX _ _ el2
    have el3 := sX _ _ el3
    have el4 := sX _ _ el4
    have pk := sX _ _ pk
    have wss : ∀ x ∈ mks b ss rows, x < 2 ^ b := fun x hx => spn_lt (fun y hy => blen_le.mp (wr.s y hy)) x (cmpl_mem _ x hx)
    refine ⟨p, l5, b, mks b ss rows ++ rows, rfl, el5, (fun x hx => (List.mem_append.mp hx).elim (wss x) fun z => blen_le.mp (ws.b x z)), (by rw [List.length_append]; omega), hb, fun H21 le sle hle tle => ?_⟩
    have m := m.same sle
    have k6 := k6.same sle
    have kla := kla.same sle
    have emk := sle _ _ emk
    have eld := sle _ _ eld
    have el1 := sle _ _ el1
    have el2 := sle _ _ el2
    have el3 := sle _ _ el3
    have el4 := sle _ _ el4
    have el5 := sle _ _ el5
    have pk := sle _ _ pk
    have ple := pk
    have kle := SmB.refl p H21
    refine ⟨_, rfl, p, CP, dx, _, rfl, pk, TU.cl, TU.nt, (by show 7 < 1000; decide), ?_⟩
    have m := m.put (.ins CP dx [("spread", .ref sp), ("space", .ref so), ("rounds", vN n), ("own_marks", .ref mk), ("own_leaders", .ref ld), ("own_shared", vN sh), ("own_lanes", .ref la), ("own_entries", .ref le)])
    have k6 := k6.put (.ins CP dx [("spread", .ref sp), ("space", .ref so), ("rounds", vN n), ("own_marks", .ref mk), ("own_leaders", .ref ld), ("own_shared", vN sh), ("own_lanes", .ref la), ("own_entries", .ref le)])
    have kla := kla.put (.ins CP dx [("spread", .ref sp), ("space", .ref so), ("rounds", vN n), ("own_marks", .ref mk), ("own_leaders", .ref ld), ("own_shared", vN sh), ("own_lanes", .ref la), ("own_entries", .ref le)])
    have kle := kle.put (.ins CP dx [("spread", .ref sp), ("space", .ref so), ("rounds", vN n), ("own_marks", .ref mk), ("own_leaders", .ref ld), ("own_shared", vN sh), ("own_lanes", .ref la), ("own_entries", .ref le)])
    have emk := upd_put (o := .ins CP dx [("spread", .ref sp), ("space", .ref so), ("rounds", vN n), ("own_marks", .ref mk), ("own_leaders", .ref ld), ("own_shared", vN sh), ("own_lanes", .ref la), ("own_entries", .ref le)]) emk nmk
    have eld := upd_put (o := .ins CP dx [("spread", .ref sp), ("space", .ref so), ("rounds", vN n), ("own_marks", .ref mk), ("own_leaders", .ref ld), ("own_shared", vN sh), ("own_lanes", .ref la), ("own_entries", .ref le)]) eld nld
    have el1 := upd_put (o := .ins CP dx [("spread", .ref sp), ("space", .ref so), ("rounds", vN n), ("own_marks", .ref mk), ("own_leaders", .ref ld), ("own_shared", vN sh), ("own_lanes", .ref la), ("own_entries", .ref le)]) el1 nl1
    have el2 := upd_put (o := .ins CP dx [("spread", .ref sp), ("space", .ref so), ("rounds", vN n), ("own_marks", .ref mk), ("own_leaders", .ref ld), ("own_shared", vN sh), ("own_lanes", .ref la), ("own_entries", .ref le)]) el2 nl2
    have el3 := upd_put (o := .ins CP dx [("spread", .ref sp), ("space", .ref so), ("rounds", vN n), ("own_marks", .ref mk), ("own_leaders", .ref ld), ("own_shared", vN sh), ("own_lanes", .ref la), ("own_entries", .ref le)]) el3 nl3
    have el4 := upd_put (o := .ins CP dx [("spread", .ref sp), ("space", .ref so), ("rounds", vN n), ("own_marks", .ref mk), ("own_leaders", .ref ld), ("own_shared", vN sh), ("own_lanes", .ref la), ("own_entries", .ref le)]) el4 nl4
    have el5 := upd_put (o := .ins CP dx [("spread", .ref sp), ("space", .ref so), ("rounds", vN n), ("own_marks", .ref mk), ("own_leaders", .ref ld), ("own_shared", vN sh), ("own_lanes", .ref la), ("own_entries", .ref le)]) el5 nl5
    have pk : upd H21 p (.ins CP dx [("spread", .ref sp), ("space", .ref so), ("rounds", vN n), ("own_marks", .ref mk), ("own_leaders", .ref ld), ("own_shared", vN sh), ("own_lanes", .ref la), ("own_entries", .ref le)]) p = some (.ins CP dx [("spread", .ref sp), ("space", .ref so), ("rounds", vN n), ("own_marks", .ref mk), ("own_leaders", .ref ld), ("own_shared", vN sh), ("own_lanes", .ref la), ("own_entries", .ref le)]) := upd_same
    show (_ : Hp → Prop) (upd H21 p (.ins CP dx [("spread", .ref sp), ("space", .ref so), ("rounds", vN n), ("own_marks", .ref mk), ("own_leaders", .ref ld), ("own_shared", vN sh), ("own_lanes", .ref la), ("own_entries", .ref le)]))
    generalize upd H21 p (.ins CP dx [("spread", .ref sp), ("space", .ref so), ("rounds", vN n), ("own_marks", .ref mk), ("own_leaders", .ref ld), ("own_shared", vN sh), ("own_lanes", .ref la), ("own_entries", .ref le)]) = H22 at *
    refine kQ _ ⟨⟨dx, sp, so, mk, ld, la, le, ?_, AS m, AO m, emk, eld, ?_, tle.smb ple kle⟩, wr, ws, hb, hl, hs⟩ m
    · rw [pk, ← hn, ← hsh]; rfl
    · have z := tla.smb pla kla
      rw [← hsh] at z
      exact z
end
end LaneX
set_option Elab.async false
set_option linter.all false
set_option maxRecDepth 100000
set_option maxHeartbeats 4000000
namespace LaneX
open PySem PySem.Spec PyProof.Rows L2
/-! ### what a plan tells -/
def mny (b : Nat) (ss rows : List Nat) : Nat := (mks b ss rows).length + rows.length
def rst (b : Nat) (ss ls rows : List Nat) (lane : Nat) : Nat := img (fle b ss rows) (((slv (fle b ss rows) (img ls lane)) >>> (mny b ss rows)) <<< (mny b ss rows))
def nit (b : Nat) (ss ls rows : List Nat) (lane : Nat) : Nat := slv (fla b ss ls rows) lane &&& ((1 <<< (shd b ss ls rows + (ldr ss ls rows).length)) - 1)
/-- what is asked of a lane -/
def spLane (CP CS CR : Addr) (k : Nat → List Nat → List Nat → List Nat → Nat → Hp → VK → Prop) : Sp := fun vs H Q _ => ∃ (p : Addr) (b : Nat) (ss ls rows : List Nat) (lane : Nat), vs = [.ref p, vN lane] ∧ PlanAt CP CS CR H p b ss ls rows ∧ lane < 2 ^ ls.length ∧ k b ss ls rows lane H Q
def sp_rest (CP CS CR : Addr) : Sp := spLane CP CS CR fun b ss ls rows lane H Q => ∀ H', Same H H' → Q (vN (rst b ss ls rows lane)) H'
def sp_nit (CP CS CR : Addr) : Sp := spLane CP CS CR fun b ss ls rows lane H Q => ∀ H', Same H H' → Q (vN (nit b ss ls rows lane)) H'
def sp_strd : Sp := fun vs H Q _ => ∃ bits stage : Nat, vs = [vN bits, vN stage] ∧ bits ≤ 100000 ∧ Q (vN (strd bits stage)) H
theorem sq_small {x b : Nat} (h : x < 2 ^ b) (hb : b ≤ 1000) : x < 2 ^ 1000 := Nat.lt_of_lt_of_le h (Nat.pow_le_pow_right (by decide) hb)
theorem mks_lt {b : Nat} {ss rows : List Nat} (h : ∀ x ∈ ss, x < 2 ^ b) : ∀ x ∈ mks b ss rows, x < 2 ^ b := fun x hx => spn_lt h x (cmpl_mem _ x hx)
theorem fle_lt {b : Nat} {ss rows : List Nat} (h : ∀ x ∈ ss, x < 2 ^ b) (g : ∀ x ∈ rows, x < 2 ^ b) : ∀ x ∈ mks b ss rows ++ rows, x < 2 ^ b := fun x hx => (List.mem_append.mp hx).elim (mks_lt h x) (g x)
theorem fla_lt {b : Nat} {ss ls rows : List Nat} (wr : WfR b ss ls) : ∀ x ∈ (twn ss ls).take (shd b ss ls rows) ++ ldr ss ls rows, x < 2 ^ ls.length := fun x hx => (List.mem_append.mp hx).elim (fun z => blen_le.mp ((twn_wf wr).b x (List.mem_of_mem_take z))) fun z => blen_le.mp ((prt_wf wr rows).b x (cmpl_mem _ x z))
/-- sizes and spans of a plan's lists -/
structure PlanW (b : Nat) (ss ls rows : List Nat) : Prop where
  lss : ∀ x ∈ ss, x < 2 ^ b
  lls : ∀ x ∈ ls, x < 2 ^ b
  lrw : ∀ x ∈ rows, x < 2 ^ b
  ml : (mks b ss rows).length ≤ 1000
  rw_ : rows.length ≤ 1000
  ld : (ldr ss ls rows).length ≤ 1000
  tw : (twn ss ls).length ≤ 1000
  fe : (fle b ss rows).length ≤ 10000
  fa : (fla b ss ls rows).length ≤ 10000
theorem PlanAt.w {CP CS CR : Addr} {H : Hp} {p : Addr} {b : Nat} {ss ls rows : List Nat} (h : PlanAt CP CS CR H p b ss ls rows) : PlanW b ss ls rows := by
  have wr := h.wr
  have ws := h.ws
  have hb := h.bb
  have hl := h.lb
  have hs := h.sb
  have mkl : (mks b ss rows).length ≤ 1000 := Nat.le_trans (cms_len _ _).2 (Nat.le_trans (spn_len _) hs)
  have rwl : rows.length ≤ 1000 := Nat.le_trans (ws.r.len_le ws.b) hb
  have twl : (twn ss ls).length ≤ 1000 := Nat.le_trans ((twn_wf wr).r.len_le (twn_wf wr).b) hl
  have ldl : (ldr ss ls rows).length ≤ 1000 := Nat.le_trans (cms_len _ _).2 (Nat.le_trans ((prt_wf wr rows).r.len_le (prt_wf wr rows).b) hl)
  have ul : ∀ n : Nat, (spn (units n)).length ≤ n := fun n => Nat.le_trans (spn_len _) (by simp [units])
  refine ⟨fun x hx => blen_le.mp (wr.s x hx), fun x hx => blen_le.mp (wr.l x hx), fun x hx => blen_le.mp (ws.b x hx), mkl, rwl, ldl, twl, ?_, ?_⟩
  · have c := Nat.le_trans (cms_len (spn (mks b ss rows ++ rows)) (spn (units b))).2 (ul b)
    show (mks b ss rows ++ rows ++ cmpl _ _).length ≤ 10000
    have c : (cmpl (spn (mks b ss rows ++ rows)) (spn (units b))).length ≤ b := c
    rw [List.length_append, List.length_append]
    omega
  · have c : (cmpl (spn ((twn ss ls).take (shd b ss ls rows) ++ ldr ss ls rows)) (spn (units ls.length))).length ≤ ls.length := Nat.le_trans (cms_len _ _).2 (ul _)
    show ((twn ss ls).take (shd b ss ls rows) ++ ldr ss ls rows ++ cmpl _ _).length ≤ 10000
    rw [List.length_append, List.length_append, List.length_take]
    omega
section
variable {P : Program} {w : World} {K : PySem.W.Frag} {mg : Str → Option Value} {base : Heap} {f : Addr} {fd : FuncData} {CS CR CP : Addr} (T : Bt mg) (TS : SpaceT K mg CS) (TR : SpreadT K mg CR) (TU : SumT K mg CP)
include T
theorem ok_stage_rounds (F : FnP K "stage_rounds" "stage_rounds" s_stage_rounds f fd) : FnOk P w K mg base CX0 1 f fd ["bits", "stage"] sp_strd := by
  have nd := sc_stage_rounds.nd
  refine fnok F sc_stage_rounds (fun vs H Q E h => ?_) (fun cdv A outer s H vs Q E hr h => ?_)
  · obtain ⟨bits, stage, rfl, _⟩ := h
    rfl
  · obtain ⟨bits, stage, rfl, hb, k⟩ := h
    refine ⟨_, (pss_one (ps_ret (pe_ifExp (pt_cmpR op_lt (pv 1) (pv 0) (nomark _)) (pe_op on_shl pe_int (pe_op on_sub (pe_op on_sub (pv 0) pe_int) (pv 1))) pe_int))), ?_⟩
    refine ⟨_, rfl, _, rfl, _, _, rfl, rfl, _, rfl, br (fun z => ?_) (fun z => ?_)⟩
    · have z := of_decide_eq_true z
      have z : stage < bits := by omega
      refine ⟨_, rfl, bits, 1, rfl, rfl, (by omega), _, rfl, bits - 1, stage, rfl, rfl, (by omega), 1, _, rfl, rfl, shl_ok1 (by rw [blen_one]; decide) (by omega), ?_⟩
      unfold strd at k
      rw [if_pos z] at k
      exact k
    · have z := of_decide_eq_false z
      have z : ¬ stage < bits := by omega
      unfold strd at k
      rw [if_neg z] at k
      exact k
include TS TR TU
theorem ok_rest (F : FnP K "rest_of" "SumPlan.rest_of" s_SumPlan_rest_of f fd) (M_SumPlan_told_by : Mn P w K mg base 3 CP "told_by" ["self", "told", "word"] sp_told) (D_image_of : Dn P w K mg base 4 "image_of" ["columns", "word"] sp_image_of) : FnOk P w K mg base CX0 5 f fd ["self", "lane"] (sp_rest CP CS CR) := by
  have nd := sc_SumPlan_rest_of.nd
  refine fnok F sc_SumPlan_rest_of (fun vs H Q E h => ?_) (fun cdv A outer s H vs Q E hr h => ?_)
  · obtain ⟨p, b, ss, ls, rows, lane, rfl, _⟩ := h
    rfl
  · obtain ⟨p, b, ss, ls, rows, lane, rfl, hP, hla, kQ⟩ := h
    have hP0 := hP
    obtain ⟨dx, sp, so, mk, ld, la, le, h1, h2, h3, h4, h5, h6, h7⟩ := hP.at_
    obtain ⟨dq, sq, lq, q1, q2, q3⟩ := id h2
    obtain ⟨ds, ts, s1, s2⟩ := id h3
    obtain ⟨fe, qe, f1, f2, f3⟩ := id h7
    refine ⟨_, (pss_cons (ps_par (i := 2) (j := 3) (by rfl) nd rfl rfl (by decide) rfl rfl (pa_cons (pe_ix ix_q (pe_fld (pv 0) rfl) pe_int (fun _ _ => rfl)) (pa_cons (pe_op on_add (pe_callB call_lenQ (by rfl) T.len PySem.boot_len (pa_cons (pe_fld (pv 0) rfl) pa_nil)) (pe_fld (pe_fld (pv 0) rfl) rfl)) pa_nil)) (by rfl))
  (pss_cons (ps_set (i := 4) nd rfl (Or.inl rfl) (pe_m (pv 0) M_SumPlan_told_by hr (pa_cons (pe_fld (pv 0) rfl) (pa_cons (pe_d D_image_of hr (pa_cons (pe_fld (pe_fld (pv 0) rfl) rfl) (pa_cons (pv 1) pa_nil))) pa_nil))))
  (pss_one (ps_ret (pe_d D_image_of hr (pa_cons (pv 2) (pa_cons (pe_op on_shl (pe_op on_shr (pv 4) (pv 3)) (pv 3)) pa_nil))))))), ?_⟩
    refine ⟨_, rfl, p, CP, dx, _, .ref le, rfl, h1, TU.cl, TU.nt, rfl, le, _, 0, .ref fe, rfl, rfl, .inr f1, rfl, ?_⟩
    refine ⟨_, rfl, p, CP, dx, _, .ref mk, rfl, h1, TU.cl, TU.nm, rfl, mk, _, rfl, .inl h4, _, rfl, p, CP, dx, _, .ref so, rfl, h1, TU.cl, TU.ne, rfl, so, CS, ds, _, vN rows.length, rfl, s1, TS.cl, TS.nd, rfl, _, _, rfl, rfl, _, _, rfl, ?_⟩
    rw [List.length_map]
    have W := hP0.w
    have iL : img ls lane < 2 ^ b := imf_lt W.lls _ _
    have sp1 : Spn (fle b ss rows) (img ls lane) := fll_all (fle_lt W.lss W.lrw) iL
    have l1 := W.ml
    have l2 := W.rw_
    have l3 := W.fe
    have lb := hP0.lb
    refine ⟨_, rfl, p, dx, _, rfl, h1, rfl, _, rfl, p, CP, dx, _, .ref le, rfl, h1, TU.cl, TU.nt, rfl, _, rfl, p, CP, dx, _, .ref sp, rfl, h1, TU.cl, TU.np, rfl, sp, CR, dq, _, .ref lq, rfl, q1, TR.cl, TR.nl, rfl, _, rfl, lq, ls, lane, rfl, .inr q3, (by omega), hla, fun H1 z1 => ?_⟩
    refine ⟨p, le, fle b ss rows, img ls lane, rfl, h7.same z1, sp1, (by omega), sq_small iL hP0.bb, ?_⟩
    have sl := slv_lt sp1
    refine ⟨_, rfl, _, rfl, _, rfl, slv (fle b ss rows) (img ls lane), mny b ss rows, rfl, rfl, _, rfl, _, _, rfl, rfl, shl_ok1 ?_ (by omega), fe, fle b ss rows, ((slv (fle b ss rows) (img ls lane)) >>> (mny b ss rows)) <<< (mny b ss rows), rfl, .inl (z1 _ _ f2), (by omega), Nat.lt_of_le_of_lt (shrl_le _ _) sl, fun H2 z2 => kQ _ (z1.trans z2)⟩
    refine Nat.le_trans (blen_le.mpr (Nat.lt_of_le_of_lt ?_ sl)) (by omega)
    rw [Nat.shiftRight_eq_div_pow]
    exact Nat.div_le_self _ _
theorem ok_nit (F : FnP K "number_in_team" "SumPlan.number_in_team" s_SumPlan_number_in_team f fd) (M_SumPlan_told_by : Mn P w K mg base 3 CP "told_by" ["self", "told", "word"] sp_told) : FnOk P w K mg base CX0 4 f fd ["self", "lane"] (sp_nit CP CS CR) := by
  have nd := sc_SumPlan_number_in_team.nd
  refine fnok F sc_SumPlan_number_in_team (fun vs H Q E h => ?_) (fun cdv A outer s H vs Q E hr h => ?_)
  · obtain ⟨p, b, ss, ls, rows, lane, rfl, _⟩ := h
    rfl
  · obtain ⟨p, b, ss, ls, rows, lane, rfl, hP, hla, kQ⟩ := h
    have hP0 := hP
    obtain ⟨dx, sp, so, mk, ld, la, le, h1, h2, h3, h4, h5, h6, h7⟩ := hP.at_
    refine ⟨_, (pss_cons (ps_set (i := 2) nd rfl (Or.inl rfl) (pe_op on_add (pe_fld (pv 0) rfl) (pe_callB call_lenQ (by rfl) T.len PySem.boot_len (pa_cons (pe_fld (pv 0) rfl) pa_nil))))
  (pss_one (ps_ret (pe_op on_and (pe_m (pv 0) M_SumPlan_told_by hr (pa_cons (pe_fld (pv 0) rfl) (pa_cons (pv 1) pa_nil))) (pe_op on_sub (pe_op on_shl pe_int (pv 2)) pe_int))))), ?_⟩
    have W := hP0.w
    have l3 := W.ld
    have l4 := W.tw
    have l5 : shd b ss ls rows ≤ (twn ss ls).length := Nat.min_le_right _ _
    have lb := hP0.lb
    have spa : Spn (fla b ss ls rows) lane := fll_all (fla_lt hP0.wr) hla
    have l6 := W.fa
    refine ⟨_, rfl, p, CP, dx, _, vN (shd b ss ls rows), rfl, h1, TU.cl, TU.nh, rfl, _, rfl, p, CP, dx, _, .ref ld, rfl, h1, TU.cl, TU.nl, rfl, ld, _, rfl, .inl h5, ?_⟩
    rw [List.length_map]
    refine ⟨_, _, rfl, rfl, ?_⟩
    refine ⟨_, rfl, p, dx, _, rfl, h1, rfl, _, rfl, p, CP, dx, _, .ref la, rfl, h1, TU.cl, TU.na, rfl, _, rfl, p, la, fla b ss ls rows, lane, rfl, h6, spa, (by omega), sq_small hla lb, ?_⟩
    refine ⟨_, rfl, 1, shd b ss ls rows + (ldr ss ls rows).length, rfl, rfl, shl_ok1 (by rw [blen_one]; decide) (by omega), _, 1, rfl, rfl, ?_, _, _, rfl, rfl, kQ _ (Same.refl _)⟩
    rw [Nat.one_shiftLeft]
    exact Nat.two_pow_pos _
end
end LaneX
set_option Elab.async false
set_option linter.all false
set_option maxRecDepth 100000
set_option maxHeartbeats 4000000
namespace LaneX
open PySem PySem.Spec PyProof.Rows L2
def many' (b : Nat) (ss ls rows : List Nat) : Nat := (mks b ss rows).length - shd b ss ls rows
def tkl (b : Nat) (ss ls rows : List Nat) (num lane : Nat) : Nat := lane ^^^ (ldr ss ls rows).getD (stg (many' b ss ls rows) 0 num).1 0
def tke (b : Nat) (ss ls rows : List Nat) (num lane : Nat) : Nat := rst b ss ls rows lane ^^^ img (mks b ss rows) (mrk (mks b ss rows).length (shd b ss ls rows) num (nit b ss ls rows lane))
def sp_take (CP CS CR : Addr) : Sp := fun vs H Q _ => ∃ (p : Addr) (b : Nat) (ss ls rows : List Nat) (num lane : Nat), vs = [.ref p, vN num, vN lane] ∧ PlanAt CP CS CR H p b ss ls rows ∧ lane < 2 ^ ls.length ∧ num < smr b ss ls rows ∧
  ∀ H' q, Same H H' → H q = none → H' q = some (.tup [vN (tkl b ss ls rows num lane), vN (tke b ss ls rows num lane)]) → Q (.ref q) H'
theorem smr_many {b : Nat} {ss ls rows : List Nat} (hs : ∀ x ∈ ss, x < 2 ^ b) : smr b ss ls rows = rdf (many' b ss ls rows) (ldr ss ls rows).length := by
  have k : ((mks b ss rows).length : Int) = kpt b ss rows := mks_len' hs
  unfold smr many' shd
  rw [← k]
  congr 1
  omega
theorem itf {c : Bool} {A B : Prop} (h : c = false) (b : B) : if c = true then A else B := by rw [h]; exact b
theorem itt {c : Bool} {A B : Prop} (h : c = true) (a : A) : if c = true then A else B := by rw [h]; exact a
theorem getD_get {l : List Nat} {i : Nat} (h : i < l.length) : (l.map vN)[i]? = some (vN (l.getD i 0)) := by rw [List.getElem?_map, List.getD_eq_getElem?_getD, List.getElem?_eq_getElem h]; rfl
section
variable {P : Program} {w : World} {K : PySem.W.Frag} {mg : Str → Option Value} {base : Heap} {f : Addr} {fd : FuncData} {CS CR CP : Addr} (T : Bt mg) (TS : SpaceT K mg CS) (TR : SpreadT K mg CR) (TU : SumT K mg CP)
include T TR TU
theorem ok_take (F : FnP K "take" "SumPlan.take" s_SumPlan_take f fd) (D_is_whole : Dn P w K mg base 1 "is_whole" ["value"] sp_is_whole) (D_need_word : Dn P w K mg base 2 "need_word" ["value", "bits"] sp_need_word) (D_stage_rounds : Dn P w K mg base 1 "stage_rounds" ["bits", "stage"] sp_strd) (M_SumPlan_number_in_team : Mn P w K mg base 4 CP "number_in_team" ["self", "lane"] (sp_nit CP CS CR)) (M_SumPlan_rest_of : Mn P w K mg base 5 CP "rest_of" ["self", "lane"] (sp_rest CP CS CR)) (D_image_of : Dn P w K mg base 4 "image_of" ["columns", "word"] sp_image_of) : FnOk P w K mg base CX0 6 f fd ["self", "number", "lane"] (sp_take CP CS CR) := by
  have nd := sc_SumPlan_take.nd
  refine fnok F sc_SumPlan_take (fun vs H Q E h => ?_) (fun cdv A outer s H vs Q E hr h => ?_)
  · obtain ⟨p, b, ss, ls, rows, num, lane, rfl, _⟩ := h
    rfl
  · obtain ⟨p, b, ss, ls, rows, num, lane, rfl, hP, hla, hnum, kQ⟩ := h
    have hP0 := hP
    obtain ⟨dx, sp, so, mk, ld, la, le, h1, h2, h3, h4, h5, h6, h7⟩ := hP.at_
    obtain ⟨dq, sq, lq, q1, q2, q3⟩ := id h2
    have W := hP0.w
    have hst : (stg (many' b ss ls rows) 0 num).1 < (ldr ss ls rows).length := stg_lt (by rw [← smr_many W.lss]; exact hnum)
    have hml := W.ml
    have hll := W.ld
    have shl : shd b ss ls rows ≤ (mks b ss rows).length := Nat.min_le_left _ _
    have hmk := mrk_lt (m := (mks b ss rows).length) (sh := shd b ss ls rows) (num := num) shl (nit b ss ls rows lane)
    refine ⟨_, (pss_cons (ps_if (PW.pt (pw_or (pt_not (pt_val (pe_d D_is_whole hr (pa_cons (pv 1) pa_nil)))) (pw_or1 (pt_cmpR op_ge (pv 1) (pe_fld (pv 0) rfl) (nomark _)))))
    (pss_one ps_never)
    pss_nil)
  (pss_cons (ps_expr (pe_d D_need_word hr (pa_cons (pv 2) (pa_cons (pe_callB call_lenQ (by rfl) T.len PySem.boot_len (pa_cons (pe_fld (pe_fld (pv 0) rfl) rfl) pa_nil)) pa_nil))))
  (pss_cons (ps_par3 (i := 3) (j := 4) (l := 5) (by rfl) nd rfl rfl rfl (by decide) (by decide) (by decide) rfl rfl rfl (pa_cons pe_int (pa_cons (pe_op on_sub (pe_callB call_lenQ (by rfl) T.len PySem.boot_len (pa_cons (pe_fld (pv 0) rfl) pa_nil)) (pe_fld (pv 0) rfl)) (pa_cons (pv 1) pa_nil))) (by rfl))
  (pss_cons (ps_while PassesOwn.never (pt_cmpR op_ge (pv 5) (pe_d D_stage_rounds hr (pa_cons (pv 4) (pa_cons (pv 3) pa_nil))) (nomark _))
    (pss_cons (ps_set (i := 5) nd rfl (Or.inl rfl) (pe_op on_sub (pv 5) (pe_d D_stage_rounds hr (pa_cons (pv 4) (pa_cons (pv 3) pa_nil)))))
    (pss_one (ps_aug (i := 3) nd rfl (.inl rfl) pe_int iop_addN))))
  (pss_cons (ps_set (i := 6) nd rfl (Or.inl rfl) (pe_callB (call_min2 rfl) (by rfl) T.min (by decide +kernel) (pa_cons (pe_callB call_lenQ (by rfl) T.len PySem.boot_len (pa_cons (pe_fld (pv 0) rfl) pa_nil)) (pa_cons (pe_op on_add (pe_op on_add (pe_fld (pv 0) rfl) (pv 3)) pe_int) pa_nil))))
  (pss_cons (ps_set (i := 7) nd rfl (Or.inl rfl) (pe_op on_and (pe_m (pv 0) M_SumPlan_number_in_team hr (pa_cons (pv 2) pa_nil)) (pe_op on_sub (pe_op on_shl pe_int (pv 6)) pe_int)))
  (pss_cons (ps_set (i := 7) nd rfl (Or.inl rfl) (pe_op on_add (pv 7) (pe_op on_shl (pv 5) (pv 6))))
  (pss_one (ps_ret (pe_tup (pa_cons (pe_op on_xor (pv 2) (pe_ix ix_q (pe_fld (pv 0) rfl) (pv 3) (fun _ _ => rfl))) (pa_cons (pe_op on_xor (pe_m (pv 0) M_SumPlan_rest_of hr (pa_cons (pv 2) pa_nil)) (pe_d D_image_of hr (pa_cons (pe_fld (pv 0) rfl) (pa_cons (pv 7) pa_nil)))) pa_nil)))))))))))), ?_⟩
    refine ⟨_, rfl, num, rfl, _, rfl, iteF ⟨_, rfl, _, rfl, p, CP, dx, _, vN (smr b ss ls rows), rfl, h1, TU.cl, TU.nr, rfl, _, _, rfl, rfl, _, rfl, itf (decide_eq_false (by omega)) ?_⟩⟩
    refine ⟨_, rfl, _, rfl, p, CP, dx, _, .ref sp, rfl, h1, TU.cl, TU.np, rfl, sp, CR, dq, _, .ref lq, rfl, q1, TR.cl, TR.nl, rfl, lq, _, rfl, .inr q3, ?_⟩
    rw [List.length_map]
    refine ⟨lane, ls.length, rfl, blen_le.mpr hla, ?_⟩
    refine ⟨_, rfl, p, CP, dx, _, .ref mk, rfl, h1, TU.cl, TU.nm, rfl, mk, _, rfl, .inl h4, ?_⟩
    rw [List.length_map]
    refine ⟨_, rfl, p, CP, dx, _, vN (shd b ss ls rows), rfl, h1, TU.cl, TU.nh, rfl, (mks b ss rows).length, shd b ss ls rows, rfl, rfl, shl, _, rfl, _, _, _, rfl, ?_⟩
    rw [show (mks b ss rows).length - shd b ss ls rows = many' b ss ls rows from rfl]
    have hmany : many' b ss ls rows ≤ 1000 := by unfold many'; omega
    refine ⟨fun m σ H2 => ∃ s t, m = t ∧ σ = [some (.ref p), some (vN num), some (vN lane), some (vN s), some (vN (many' b ss ls rows)), some (vN t), none, none] ∧ H2 = H ∧ stg (many' b ss ls rows) s t = stg (many' b ss ls rows) 0 num, ⟨_, 0, num, rfl, rfl, rfl, rfl⟩, ?_⟩
    rintro m σ H2 ⟨s, t, rfl, rfl, rfl, est⟩
    refine ⟨_, rfl, _, rfl, _, rfl, many' b ss ls rows, s, rfl, (by omega), _, _, rfl, rfl, _, rfl, br (fun z => ?_) (fun z => ?_)⟩
    · have z := of_decide_eq_true z
      have z : strd (many' b ss ls rows) s ≤ m := by omega
      have ps := strd_pos (many' b ss ls rows) s
      refine ⟨fun σ' H' => ∃ s' t', s' = s + 1 ∧ t' = m - strd (many' b ss ls rows) s ∧ σ' = [some (.ref p), some (vN num), some (vN lane), some (vN s'), some (vN (many' b ss ls rows)), some (vN t'), none, none] ∧ H' = H2, fun σ' H' hN => ?_, ?_⟩
      · obtain ⟨s', t', rfl, rfl, h2, h3⟩ := hN
        exact ⟨_, by omega, s + 1, _, rfl, h2, h3, by rw [← est, stg_step z]⟩
      · refine ⟨_, rfl, _, rfl, _, rfl, many' b ss ls rows, s, rfl, (by omega), m, strd (many' b ss ls rows) s, rfl, rfl, z, _, rfl, s, 1, rfl, rfl, _, _, rfl, rfl, rfl, rfl⟩
    · have z := of_decide_eq_false z
      have z : ¬ strd (many' b ss ls rows) s ≤ m := by omega
      have e := stg_end z
      rw [est] at e
      have es : s = (stg (many' b ss ls rows) 0 num).1 := by rw [e]
      have et : m = (stg (many' b ss ls rows) 0 num).2 := by rw [e]
      have tl := (stg_sum (many' b ss ls rows) num 0).2
      rw [← es] at hst
      refine ⟨_, rfl, p, CP, dx, _, .ref mk, rfl, h1, TU.cl, TU.nm, rfl, mk, _, rfl, .inl h4, ?_⟩
      rw [List.length_map]
      refine ⟨_, rfl, p, CP, dx, _, vN (shd b ss ls rows), rfl, h1, TU.cl, TU.nh, rfl, _, rfl, _, _, rfl, rfl, _, _, rfl, rfl, _, _, rfl, ?_⟩
      rw [min_int]
      have fxl : min (mks b ss rows).length (shd b ss ls rows + s + 1) ≤ 1000 := Nat.le_trans (Nat.min_le_left _ _) hml
      refine ⟨_, rfl, p, dx, _, rfl, h1, rfl, _, rfl, p, b, ss, ls, rows, lane, rfl, hP0, hla, fun H3 z3 => ?_⟩
      have h13 := z3 _ _ h1
      refine ⟨_, rfl, 1, _, rfl, rfl, shl_ok1 (by rw [blen_one]; decide) (by omega), _, 1, rfl, rfl, (by rw [Nat.one_shiftLeft]; exact Nat.two_pow_pos _), _, _, rfl, rfl, ?_⟩
      have m1000 : m < 2 ^ 1000 := by
        rw [et]
        refine Nat.lt_of_lt_of_le tl ?_
        unfold strd
        split
        · rw [Nat.one_shiftLeft]; exact Nat.pow_le_pow_right (by decide) (by omega)
        · exact Nat.two_pow_pos _
      have emrk : (nit b ss ls rows lane &&& ((1 <<< (min (mks b ss rows).length (shd b ss ls rows + s + 1))) - 1)) + (m <<< (min (mks b ss rows).length (shd b ss ls rows + s + 1))) = mrk (mks b ss rows).length (shd b ss ls rows) num (nit b ss ls rows lane) := by
        unfold mrk
        rw [show (mks b ss rows).length - shd b ss ls rows = many' b ss ls rows from rfl, ← es, ← et]
      refine ⟨_, rfl, _, rfl, _, rfl, m, _, rfl, rfl, shl_ok1 (by have := blen_le.mpr m1000; omega) (by omega), _, _, rfl, rfl, ?_⟩
      rw [emrk]
      have h53 := z3 _ _ h5
      refine ⟨_, rfl, _, rfl, p, CP, dx, _, .ref ld, rfl, h13, TU.cl, TU.nl, rfl, _, rfl, ld, _, s, vN ((ldr ss ls rows).getD s 0), rfl, rfl, .inl h53, getD_get hst, _, _, rfl, rfl, ?_⟩
      refine ⟨_, rfl, p, dx, _, rfl, h13, rfl, _, rfl, p, b, ss, ls, rows, lane, rfl, hP0.same z3, hla, fun H4 z4 => ?_⟩
      have z34 := z3.trans z4
      refine ⟨_, rfl, p, CP, dx, _, .ref mk, rfl, z34 _ _ h1, TU.cl, TU.nm, rfl, _, rfl, mk, mks b ss rows, _, rfl, .inl (z34 _ _ h4), (by omega), hmk, fun H5 z5 => ?_⟩
      refine ⟨_, _, rfl, rfl, (by show 2 ≤ sizeLine; decide), fun y hy => ?_⟩
      have z35 := z34.trans z5
      refine kQ _ y (same_new z35 hy) (z35.free hy) ?_
      rw [upd_same]
      unfold tkl tke
      rw [← es]
def hmL (ss ls rows : List Nat) (e : Nat) : Nat := slv (ls.map (clr (spn (ss ++ rows)))) (clr (spn (ss ++ rows)) e)
def hmW (b : Nat) (ss ls rows : List Nat) (e : Nat) : Nat := (slv (fle b ss rows) e &&& ((1 <<< (mks b ss rows).length) - 1)) &&& ((1 <<< (shd b ss ls rows + (ldr ss ls rows).length)) - 1)
def hmv (b : Nat) (ss ls rows : List Nat) (e : Nat) : Nat := hmL ss ls rows e ^^^ img (fla b ss ls rows) (nit b ss ls rows (hmL ss ls rows e) ^^^ hmW b ss ls rows e)
def sp_home (CP CS CR : Addr) : Sp := fun vs H Q _ => ∃ (p : Addr) (b : Nat) (ss ls rows : List Nat) (e : Nat), vs = [.ref p, vN e] ∧ PlanAt CP CS CR H p b ss ls rows ∧ b ≤ rk (ss ++ ls) ∧ e < 2 ^ b ∧ ∀ H', Same H H' → Q (vN (hmv b ss ls rows e)) H'
omit T TR TU in
theorem and_pow (x k : Nat) : x &&& ((1 <<< k) - 1) < 2 ^ k := by
  rw [Nat.one_shiftLeft]
  have := Nat.and_le_right (n := x) (m := 2 ^ k - 1)
  have := Nat.two_pow_pos k
  omega
omit T TR TU in
theorem hm_in {b : Nat} {ss ls rows : List Nat} {e : Nat} (W : PlanW b ss ls rows) (hk : b ≤ rk (ss ++ ls)) (he : e < 2 ^ b) : Spn (ls.map (clr (spn (ss ++ rows)))) (clr (spn (ss ++ rows)) e) := by
  have full : Spn (ss ++ ls) e := by
    have lt : ∀ x ∈ ss ++ ls, x < 2 ^ b := fun x hx => (List.mem_append.mp hx).elim (W.lss x) (W.lls x)
    refine Classical.byContradiction fun n => ?_
    have r := rk_snoc_out n
    have := rk_le_bits (ws := ss ++ ls ++ [e]) (b := b) fun x hx => (List.mem_append.mp hx).elim (lt x) fun z => by rw [List.mem_singleton.mp z]; exact he
    omega
  obtain ⟨a, c, h1, h2, rfl⟩ := span_split full
  rw [clr_xor, clr_spn_zero.mpr (h1.sub fun y hy => List.mem_append_left _ hy), Nat.zero_xor]
  exact (Lin.mk (clr_zero _) (clr_xor _)).spn h2
include TS
theorem ok_home (F : FnP K "home" "SumPlan.home" s_SumPlan_home f fd) (D_need_word : Dn P w K mg base 2 "need_word" ["value", "bits"] sp_need_word) (D_spanned : Dn P w K mg base 3 "spanned" ["words"] sp_spanned) (D_paired : Dn P w K mg base 4 "paired" ["columns"] sp_paired) (D_cleared : Dn P w K mg base 1 "cleared" ["rows", "word"] sp_cleared) (D_solved : Dn P w K mg base 2 "solved" ["pairs", "source", "word"] sp_solved) (M_SumPlan_told_by : Mn P w K mg base 3 CP "told_by" ["self", "told", "word"] sp_told) (M_SumPlan_number_in_team : Mn P w K mg base 4 CP "number_in_team" ["self", "lane"] (sp_nit CP CS CR)) (D_image_of : Dn P w K mg base 4 "image_of" ["columns", "word"] sp_image_of) : FnOk P w K mg base CX0 6 f fd ["self", "entry"] (sp_home CP CS CR) := by
  have nd := sc_SumPlan_home.nd
  refine fnok F sc_SumPlan_home (fun vs H Q E h => ?_) (fun cdv A outer s H vs Q E hr h => ?_)
  · obtain ⟨p, b, ss, ls, rows, e, rfl, _⟩ := h
    rfl
  · obtain ⟨p, b, ss, ls, rows, e, rfl, hP, hk, he, kQ⟩ := h
    have hP0 := hP
    obtain ⟨dx, sp, so, mk, ld, la, le, h1, h2, h3, h4, h5, h6, h7⟩ := hP.at_
    obtain ⟨dq, sq, lq, q1, q2, q3⟩ := id h2
    obtain ⟨ds, ts, s1, s2⟩ := id h3
    have W := hP0.w
    have hml := W.ml
    have hll := W.ld
    have hrl := W.rw_
    have hsb := hP0.sb
    have hlb := hP0.lb
    have hbb := hP0.bb
    have shl : shd b ss ls rows ≤ (mks b ss rows).length := Nat.min_le_left _ _
    have sht : shd b ss ls rows ≤ (twn ss ls).length := Nat.min_le_right _ _
    refine ⟨_, (pss_cons (ps_expr (pe_d D_need_word hr (pa_cons (pv 1) (pa_cons (pe_fld (pe_fld (pv 0) rfl) rfl) pa_nil))))
  (pss_cons (ps_set (i := 2) nd rfl (Or.inr rfl) (pe_d D_spanned hr (pa_cons (pe_op op_cat (pe_callTy call_listQ (by rfl) T.list (by decide +kernel) (pa_cons (pe_fld (pe_fld (pv 0) rfl) rfl) pa_nil)) (pe_callTy call_listQ (by rfl) T.list (by decide +kernel) (pa_cons (pe_fld (pe_fld (pv 0) rfl) rfl) pa_nil))) pa_nil)))
  (pss_cons (ps_set (i := 3) nd rfl (Or.inl rfl) (pe_d D_paired hr (pa_cons (pe_lc (own := [("word", 7)]) (g := gName 7) (by rfl) nd (pi_seq (pe_fld (pe_fld (pv 0) rfl) rfl)) (blkOk_by (own := [("word", 7)]) (N := ["self", "entry", "rows", "pairs", "lane", "mark", "wanted", "word"]) (sc := defScope s_SumPlan_home) (by decide +kernel)) (fun _ _ _ _ _ => (pg_name (i := 7) nd rfl (Or.inl rfl))) (fun _ _ _ _ _ => pts_nil) (fun _ _ _ _ _ => (pe_d D_cleared hr (pa_cons (pv 2) (pa_cons (pv 7) pa_nil))))) pa_nil)))
  (pss_cons (ps_set (i := 4) nd rfl (Or.inl rfl) (pe_d D_solved hr (pa_cons (pv 3) (pa_cons (pe_callB call_lenQ (by rfl) T.len PySem.boot_len (pa_cons (pe_fld (pe_fld (pv 0) rfl) rfl) pa_nil)) (pa_cons (pe_d D_cleared hr (pa_cons (pv 2) (pa_cons (pv 1) pa_nil))) pa_nil)))))
  (pss_cons (ps_set (i := 5) nd rfl (Or.inl rfl) (pe_op on_and (pe_m (pv 0) M_SumPlan_told_by hr (pa_cons (pe_fld (pv 0) rfl) (pa_cons (pv 1) pa_nil))) (pe_op on_sub (pe_op on_shl pe_int (pe_callB call_lenQ (by rfl) T.len PySem.boot_len (pa_cons (pe_fld (pv 0) rfl) pa_nil))) pe_int)))
  (pss_cons (ps_set (i := 6) nd rfl (Or.inl rfl) (pe_op on_and (pv 5) (pe_op on_sub (pe_op on_shl pe_int (pe_op on_add (pe_fld (pv 0) rfl) (pe_callB call_lenQ (by rfl) T.len PySem.boot_len (pa_cons (pe_fld (pv 0) rfl) pa_nil)))) pe_int)))
  (pss_one (ps_ret (pe_op on_xor (pv 4) (pe_d D_image_of hr (pa_cons (pe_ix ix_q (pe_fld (pv 0) rfl) pe_int (fun _ _ => rfl)) (pa_cons (pe_op on_xor (pe_m (pv 0) M_SumPlan_number_in_team hr (pa_cons (pv 4) pa_nil)) (pv 6)) pa_nil)))))))))))), ?_⟩
    refine ⟨_, rfl, _, rfl, p, CP, dx, _, .ref sp, rfl, h1, TU.cl, TU.np, rfl, sp, CR, dq, _, vN b, rfl, q1, TR.cl, TR.nb, rfl, e, b, rfl, blen_le.mpr he, ?_⟩
    refine ⟨_, rfl, p, CP, dx, _, .ref sp, rfl, h1, TU.cl, TU.np, rfl, sp, CR, dq, _, .ref sq, rfl, q1, TR.cl, TR.ns, rfl, sq, _, rfl, .inr q2, fun l1 hl1 => ?_⟩
    refine ⟨_, rfl, p, CP, dx, _, .ref so, rfl, upd_new hl1 h1, TU.cl, TU.ne, rfl, so, CS, ds, _, .ref ts, rfl, upd_new hl1 s1, TS.cl, TS.nr, rfl, ts, _, rfl, .inr (upd_new hl1 s2), fun l2 hl2 => ?_⟩
    refine ⟨l1, l2, _, _, rfl, rfl, upd_new hl2 upd_same, upd_same, (by rw [List.length_map, List.length_map, sizeLine_eq]; omega), fun l3 hl3 => ?_⟩
    have z0 : Same H (upd (upd (upd H l1 (.lst (ss.map vN))) l2 (.lst (rows.map vN))) l3 (.lst (ss.map vN ++ rows.map vN))) := same_new (same_new (same_new0 hl1) hl2) hl3
    have eL3 : upd (upd (upd H l1 (.lst (ss.map vN))) l2 (.lst (rows.map vN))) l3 (.lst (ss.map vN ++ rows.map vN)) l3 = some (.lst ((ss ++ rows).map vN)) := by rw [upd_same, List.map_append]
    refine ⟨l3, ss ++ rows, rfl, .inl eL3, (by rw [List.length_append]; omega), fun H1 r z1 hr1 e1 => ?_⟩
    have z01 := z0.trans z1
    have R := spn_rws (ss ++ rows)
    have Rl : ∀ x ∈ spn (ss ++ rows), x < 2 ^ b := spn_lt fun x hx => (List.mem_append.mp hx).elim (W.lss x) (W.lrw x)
    refine ⟨_, rfl, p, CP, dx, _, .ref sp, rfl, z01 _ _ h1, TU.cl, TU.np, rfl, sp, CR, dq, _, .ref lq, rfl, z01 _ _ q1, TR.cl, TR.nl, rfl, lc_pure ls vN (fun _ => true) (fun x => vN (clr (spn (ss ++ rows)) x)) (.inr (z01 _ _ q3)) (by omega) (fun x H' hx s => ?_) (fun D H2 hD z2 e2 => ?_)⟩
    · intro Z Nx y1 y2
      exact ⟨rfl, _, rfl, _, rfl, r, spn (ss ++ rows), x, rfl, .inl (s _ _ e1), R.nz, y1 rfl _ (Same.refl _)⟩
    rw [filt_true] at e2
    have e2 : H2 D = some (.lst ((ls.map (clr (spn (ss ++ rows)))).map vN)) := by rw [e2, List.map_map]; rfl
    have z02 := z01.trans z2
    refine ⟨D, ls.map (clr (spn (ss ++ rows))), rfl, .inl e2, (by rw [List.length_map]; omega), (fun x hx => ?_), fun H3 pr z3 hpr e3 => ?_⟩
    · obtain ⟨y, hy, rfl⟩ := List.mem_map.mp hx
      exact Nat.le_trans (blen_le.mpr (clr_lt Rl (W.lls y hy))) (by omega)
    have z03 := z02.trans z3
    refine ⟨_, rfl, _, rfl, p, CP, dx, _, .ref sp, rfl, z03 _ _ h1, TU.cl, TU.np, rfl, sp, CR, dq, _, .ref lq, rfl, z03 _ _ q1, TR.cl, TR.nl, rfl, lq, _, rfl, .inr (z03 _ _ q3), ?_⟩
    rw [List.length_map]
    have hin := hm_in W hk he
    refine ⟨_, rfl, _, rfl, r, spn (ss ++ rows), e, rfl, .inl ((z2.trans z3) _ _ e1), R.nz, pr, ls.map (clr (spn (ss ++ rows))), b, clr (spn (ss ++ rows)) e, (by rw [List.length_map]; rfl), .inl e3, (by rw [List.length_map]; omega), clr_lt Rl he, (by omega), hin, ?_⟩
    have hlane : hmL ss ls rows e < 2 ^ ls.length := by have z := slv_lt hin; rwa [List.length_map] at z
    have spe : Spn (fle b ss rows) e := fll_all (fle_lt W.lss W.lrw) he
    have l3 := W.fe
    refine ⟨_, rfl, p, dx, _, rfl, z03 _ _ h1, rfl, _, rfl, p, CP, dx, _, .ref le, rfl, z03 _ _ h1, TU.cl, TU.nt, rfl, _, rfl, p, le, fle b ss rows, e, rfl, h7.same z03, spe, (by omega), sq_small he hbb, ?_⟩
    refine ⟨_, rfl, p, CP, dx, _, .ref mk, rfl, z03 _ _ h1, TU.cl, TU.nm, rfl, mk, _, rfl, .inl (z03 _ _ h4), ?_⟩
    rw [List.length_map]
    refine ⟨1, (mks b ss rows).length, rfl, rfl, shl_ok1 (by rw [blen_one]; decide) (by omega), _, 1, rfl, rfl, (by rw [Nat.one_shiftLeft]; exact Nat.two_pow_pos _), _, _, rfl, rfl, ?_⟩
    refine ⟨_, rfl, _, rfl, p, CP, dx, _, vN (shd b ss ls rows), rfl, z03 _ _ h1, TU.cl, TU.nh, rfl, _, rfl, p, CP, dx, _, .ref ld, rfl, z03 _ _ h1, TU.cl, TU.nl, rfl, ld, _, rfl, .inl (z03 _ _ h5), ?_⟩
    rw [List.length_map]
    refine ⟨_, _, rfl, rfl, 1, shd b ss ls rows + (ldr ss ls rows).length, rfl, rfl, shl_ok1 (by rw [blen_one]; decide) (by omega), _, 1, rfl, rfl, (by rw [Nat.one_shiftLeft]; exact Nat.two_pow_pos _), _, _, rfl, rfl, ?_⟩
    obtain ⟨fa, qa, f1, f2, f3⟩ := id (h6.same z03)
    refine ⟨_, rfl, _, rfl, p, CP, dx, _, .ref la, rfl, z03 _ _ h1, TU.cl, TU.na, rfl, la, _, 0, .ref fa, rfl, rfl, .inr f1, rfl, ?_⟩
    refine ⟨_, rfl, p, dx, _, rfl, z03 _ _ h1, rfl, _, rfl, p, b, ss, ls, rows, hmL ss ls rows e, rfl, hP0.same z03, hlane, fun H4 z4 => ?_⟩
    have z04 := z03.trans z4
    have lfa := W.fa
    have many2 : shd b ss ls rows + (ldr ss ls rows).length ≤ (fla b ss ls rows).length := by
      show _ ≤ ((twn ss ls).take (shd b ss ls rows) ++ ldr ss ls rows ++ cmpl _ _).length
      rw [List.length_append, List.length_append, List.length_take]
      omega
    refine ⟨_, rfl, nit b ss ls rows (hmL ss ls rows e), hmW b ss ls rows e, rfl, rfl, fa, fla b ss ls rows, _, rfl, .inl (z4 _ _ f2), (by omega), Nat.lt_of_lt_of_le (Nat.xor_lt_two_pow (and_pow _ _) (and_pow _ _)) (Nat.pow_le_pow_right (by decide) many2), fun H5 z5 => ?_⟩
    exact ⟨_, _, rfl, rfl, kQ _ (z04.trans z5)⟩
end
end LaneX
set_option Elab.async false
set_option linter.all false
set_option maxRecDepth 100000
set_option maxHeartbeats 4000000
namespace LaneX
open PySem PySem.Spec PyProof.Rows L2
def sp_joined : Sp := fun vs H Q _ => ∃ (t t2 : Addr) (m n : Nat), vs = [.ref t, .ref t2] ∧ H t = some (.tup [vN m, .bl true]) ∧ H t2 = some (.tup [vN n, .bl true]) ∧ m &&& n = 0 ∧ ∀ H' x, Same H H' → H x = none → H' x = some (.tup [vN (m ||| n), .bl true]) → Q (.ref x) H'
section
variable {P : Program} {w : World} {K : PySem.W.Frag} {mg : Str → Option Value} {base : Heap} {f : Addr} {fd : FuncData} {CS CR CP : Addr} (T : Bt mg) (TS : SpaceT K mg CS) (TR : SpreadT K mg CR) (TU : SumT K mg CP)
theorem ok_joined (F : FnP K "_law_joined" "_law_joined" s_joinedL f fd) : FnOk P w K mg base CX0 1 f fd ["_law_mine", "_law_taken"] sp_joined := by
  have nd := sc_joinedL.nd
  refine fnok F sc_joinedL (fun vs H Q E h => ?_) (fun cdv A outer s H vs Q E hr h => ?_)
  · obtain ⟨t, t2, m, n, rfl, _⟩ := h
    rfl
  · obtain ⟨t, t2, m, n, rfl, h1, h2, z0, k⟩ := h
    refine ⟨_, (pss_one (ps_ret (pe_tup (pa_cons (pe_op on_or (pe_ix ix_q (pv 0) pe_int (fun _ _ => rfl)) (pe_ix ix_q (pv 1) pe_int (fun _ _ => rfl))) (pa_cons (pe_and (pe_ix ix_q (pv 0) pe_int (fun _ _ => rfl)) (pe_and (pe_ix ix_q (pv 1) pe_int (fun _ _ => rfl)) (pe_one (pe_cmpR op_eq (pe_op on_and (pe_ix ix_q (pv 0) pe_int (fun _ _ => rfl)) (pe_ix ix_q (pv 1) pe_int (fun _ _ => rfl))) pe_int (nomark _))))) pa_nil))))), ?_⟩
    refine ⟨_, rfl, t, _, 0, _, rfl, rfl, .inr h1, rfl, _, rfl, t2, _, 0, _, rfl, rfl, .inr h2, rfl, m, n, rfl, rfl, ?_⟩
    refine ⟨_, rfl, t, _, 1, _, rfl, rfl, .inr h1, rfl, true, rfl, iteT ?_⟩
    refine ⟨_, rfl, t2, _, 1, _, rfl, rfl, .inr h2, rfl, true, rfl, iteT ?_⟩
    refine ⟨_, rfl, t, _, 0, _, rfl, rfl, .inr h1, rfl, _, rfl, t2, _, 0, _, rfl, rfl, .inr h2, rfl, m, n, rfl, rfl, rfl, ?_⟩
    rw [z0, show decide (V.int ((0 : Nat) : Int) = V.int 0) = true from decide_eq_true rfl]
    exact ⟨(by show 2 ≤ sizeLine; decide), fun x hx => k _ x (same_new0 hx) hx upd_same⟩
end
end LaneX
set_option Elab.async false
set_option linter.all false
set_option maxRecDepth 100000
set_option maxHeartbeats 4000000
namespace LaneX
open PySem PySem.Spec PyProof.Rows L2
/-- what the lanes know behind a round -/
def plE (b : Nat) (ss ls rows R : List Nat) (num : Nat) (E : Nat → Nat → Prop) : Nat → Nat → Prop := fun x e => E x e ∨ (E (tkl b ss ls rows num x) e ∧ lft R e = lft R (tke b ss ls rows num x))
def sp_played (CP CS CR : Addr) : Sp := fun vs H Q _ => ∃ (p q r : Addr) (b : Nat) (ss ls rows R : List Nat) (num : Nat) (E : Nat → Nat → Prop), vs = [.ref p, vN num, .ref q, .ref r, vN b] ∧ PlanAt CP CS CR H p b ss ls rows ∧ num < smr b ss ls rows ∧ Lanes H q R E (2 ^ ls.length) ∧ H r = some (.lst (R.map vN)) ∧ (∀ x ∈ R, x ≠ 0) ∧ ls.length ≤ 5 ∧ b ≤ 5 ∧ (∀ L e, L < 2 ^ ls.length → E L e → e < 2 ^ b) ∧
  (∀ L, L < 2 ^ ls.length → tkl b ss ls rows num L < 2 ^ ls.length ∧ tke b ss ls rows num L < 2 ^ b ∧ (∃ e, E (tkl b ss ls rows num L) e ∧ lft R e = lft R (tke b ss ls rows num L)) ∧ ∀ e, E L e → E (tkl b ss ls rows num L) e → lft R e ≠ lft R (tke b ss ls rows num L)) ∧
  ∀ H' q', Same H H' → H q' = none → Lanes H' q' R (plE b ss ls rows R num E) (2 ^ ls.length) → Q (.ref q') H'
theorem tkl_inj {b : Nat} {ss ls rows : List Nat} {num x y : Nat} (h : tkl b ss ls rows num x = tkl b ss ls rows num y) : x = y := by
  unfold tkl at h
  have := congrArg (· ^^^ (ldr ss ls rows).getD (stg (many' b ss ls rows) 0 num).1 0) h
  simpa [Nat.xor_assoc] using this
theorem get_ref {l : List Addr} {i : Nat} {d : Addr} (h : l[i]? = some d) : (l.map V.ref)[i]? = some (.ref d) := by rw [List.getElem?_map, h]; rfl
theorem get_ltA {α : Type} {l : List α} {i : Nat} (h : i < l.length) : ∃ d, l[i]? = some d := ⟨_, List.getElem?_eq_getElem h⟩
section
variable {P : Program} {w : World} {K : PySem.W.Frag} {mg : Str → Option Value} {base : Heap} {f : Addr} {fd : FuncData} {CS CR CP : Addr} (T : Bt mg)
include T
theorem ok_played (F : FnP K "_law_played" "_law_played" s_playedL f fd) (M_SumPlan_take : Mn P w K mg base 6 CP "take" ["self", "number", "lane"] (sp_take CP CS CR)) (D_is_wordL : Dn P w K mg base 2 "_law_is_word" ["_law_value", "_law_bits"] sp_is_word) (D_leftL : Dn P w K mg base 1 "_law_left" ["_law_rows", "_law_word_here"] sp_left) (D_is_wholeL : Dn P w K mg base 1 "_law_is_whole" ["_law_value"] sp_is_whole) (D_joinedL : Dn P w K mg base 1 "_law_joined" ["_law_mine", "_law_taken"] sp_joined) : FnOk P w K mg base CX0 7 f fd ["_law_plan", "_law_number", "_law_values", "_law_rows", "_law_bits"] (sp_played CP CS CR) := by
  have nd := sc_playedL.nd
  refine fnok F sc_playedL (fun vs H Q E h => ?_) (fun cdv A outer s H vs Q E hr h => ?_)
  · obtain ⟨p, q, r, b, ss, ls, rows, R, num, EE, rfl, _⟩ := h
    rfl
  · obtain ⟨p, q, r, b, ss, ls, rows, R, num, EE, rfl, hP, hnum, hq, hR, hRz, hl5, hb5, hlt, hyp, kQ⟩ := h
    have hu := hu_of hr
    refine ⟨_, (pss_cons (ps_par (i := 5) (j := 6) (by rfl) nd rfl rfl (by decide) rfl rfl (pa_cons pe_dnewK (pa_cons (pe_lst pa_nil) pa_nil)) (by rfl))
  (pss_cons (ps_for PassesOwn.never rfl (pi_range1 (by rfl) T.range (pa_cons (pe_callB call_lenQ (by rfl) T.len PySem.boot_len (pa_cons (pv 2) pa_nil)) pa_nil)) (pg_name (i := 7) nd rfl (Or.inl rfl))
    (pss_cons (ps_par (i := 8) (j := 9) (by rfl) nd rfl rfl (by decide) rfl rfl (pa_cons (pe_callTy call_dictD (by rfl) T.dict (by decide +kernel) (pa_cons (pe_ix ix_q (pv 2) (pv 7) (fun _ _ => rfl)) pa_nil)) (pa_cons (pe_m (pv 0) M_SumPlan_take hr (pa_cons (pv 1) (pa_cons (pv 7) pa_nil))) pa_nil)) (by rfl))
    (pss_cons (ps_mid (ps_if (pt_cmpR op_notN (pv 9) pe_non (nomark _))
      (pss_cons (ps_if (PW.pt (pw_or (pt_not (pt_val (pe_callB call_isi (by rfl) T.isinstance (by decide +kernel) (pa_cons (pv 9) (pa_cons (pe_bltn (v := .ty "tuple") (by rfl) T.tuple (by decide +kernel) rfl) pa_nil))))) (pw_or (pt_cmpR op_ne (pe_callB call_lenQ (by rfl) T.len PySem.boot_len (pa_cons (pv 9) pa_nil)) pe_int (nomark _)) (pw_or1 (pt_not (pt_val (pe_d D_is_wordL hr (pa_cons (pe_ix ix_q (pv 9) pe_int (fun _ _ => rfl)) (pa_cons (pv 4) pa_nil)))))))))
        (pss_one (ps_ret pe_non))
        pss_nil)
      (pss_cons (ps_par (i := 10) (j := 11) (by rfl) nd rfl rfl (by decide) rfl rfl (pa_cons (pe_ix ix_q (pv 9) pe_int (fun _ _ => rfl)) (pa_cons (pe_d D_leftL hr (pa_cons (pv 3) (pa_cons (pe_ix ix_q (pv 9) pe_int (fun _ _ => rfl)) pa_nil))) pa_nil)) (by rfl))
      (pss_cons (ps_if (PW.pt (pw_or (pt_not (pt_val (pe_d D_is_wholeL hr (pa_cons (pv 10) pa_nil)))) (pw_or (pt_cmpR op_ge (pv 10) (pe_callB call_lenQ (by rfl) T.len PySem.boot_len (pa_cons (pv 2) pa_nil)) (nomark _)) (pw_or1 (pt_cmp (pc_dnotin hu (pv 11) (pe_ix ix_q (pv 2) (pv 10) (fun _ _ => rfl))))))))
        (pss_one (ps_ret pe_non))
        pss_nil)
      (pss_cons (ps_if (pt_cmpR op_ne (pe_dget2 hu (pv 5) (pv 10) (pv 11) ⟨rfl, rfl, rfl, rfl⟩) (pv 11) (nomark _))
        (pss_one (ps_ret pe_non))
        pss_nil)
      (pss_cons (ps_asg (pv 11) (pg_sub (pv 5) (pv 10) (set_dict hu)))
      (pss_cons (ps_set (i := 12) nd rfl (Or.inl rfl) (pe_dget hu (pe_ix ix_q (pv 2) (pv 10) (fun _ _ => rfl)) (pv 11) (fun _ _ => rfl)))
      (pss_one (ps_asg (pe_ifExp (pt_cmp (pc_din hu (pv 11) (pv 8))) (pe_d D_joinedL hr (pa_cons (pe_dget hu (pv 8) (pv 11) (fun _ _ => rfl)) (pa_cons (pv 12) pa_nil))) (pv 12)) (pg_sub (pv 8) (pv 11) (set_dict hu))))))))))
      pss_nil))
    (pss_one (ps_expr (pe_bm PySem.F.plainAttrs_list PySem.F.slot_list_append PySem.F.type_list_append mt_append (pv 6) (pa_cons (pv 8) pa_nil)))))))
  (pss_one (ps_ret (pv 6))))), ?_⟩
    refine fun d hd => ⟨(by show 0 ≤ sizeLine; decide), fun g hg => ⟨_, _, rfl, ?_⟩⟩
    have s0 := same_new (same_new0 (o := .dK []) hd) (o := .lst []) hg
    have hg0 : H g = none := same_free (same_new0 (o := .dK []) hd) hg
    have ed0 : upd (upd H d (.dK [])) g (.lst []) d = some (.dK []) := upd_new hg upd_same
    have eg0 : upd (upd H d (.dK [])) g (.lst []) g = some (.lst []) := upd_same
    have ndg : d ≠ g := ne_of_none (upd_same (H := H) (a := d) (o := .dK [])) hg
    generalize upd (upd H d (.dK [])) g (.lst []) = H0 at *
    obtain ⟨qs, hq1, hq2, hq3⟩ := hq
    have n32 : 2 ^ ls.length ≤ 32 := Nat.pow_le_pow_right (n := 2) (by decide) hl5
    refine ⟨_, rfl, q, _, rfl, .inl (s0 _ _ hq1), _, rfl, (by rw [List.length_map]; omega), (by rw [List.length_map]; omega), ?_⟩
    rw [List.length_map, hq2]
    refine for_range (n := 2 ^ ls.length) (fun i σ H9 => ∃ v7 v8 v9 v10 v11 v12 ds skvs, σ = [some (.ref p), some (vN num), some (.ref q), some (.ref r), some (vN b), some (.ref d), some (.ref g), v7, v8, v9, v10, v11, v12] ∧ Same H H9 ∧ H9 g = some (.lst (ds.map V.ref)) ∧ ds.length = i ∧ (∀ L d', ds[L]? = some d' → d' ≠ d ∧ d' ≠ g ∧ H d' = none ∧ ∃ kvs, H9 d' = some (.dK kvs) ∧ LnAt H9 R (plE b ss ls rows R num EE L) kvs) ∧ H9 d = some (.dK skvs) ∧ skvs.length ≤ i ∧ Sn skvs (fun x => ∃ L', L' < i ∧ x = tkl b ss ls rows num L'))
      ⟨none, none, none, none, none, none, [], [], rfl, s0, eg0, rfl, fun L d' h => by simp at h, ed0, Nat.le_refl _, Sn.nil.congr fun x => ⟨fun z => z.elim, fun ⟨_, z, _⟩ => absurd z (Nat.not_lt_zero _)⟩⟩ ?_ ?_
    · rintro i σ H9 hi ⟨v7, v8, v9, v10, v11, v12, ds, skvs, rfl, s9, eg, hdl, hds, ed, lsk, Ssk⟩
      rw [show (0 : Int) + (i : Int) = (i : Int) by omega]
      obtain ⟨y1, y2, ⟨y3, y4, y5⟩, y6⟩ := hyp i hi
      obtain ⟨d1, hd1⟩ := get_ltA (l := qs) (i := i) (by omega)
      obtain ⟨d2, hd2⟩ := get_ltA (l := qs) (i := tkl b ss ls rows num i) (by omega)
      obtain ⟨kv1, m1, A1⟩ := hq3 i d1 hd1
      obtain ⟨kv2, m2, A2⟩ := hq3 _ d2 hd2
      refine ⟨_, rfl, _, rfl, q, _, i, _, rfl, rfl, .inl (s9 _ _ hq1), get_ref hd1, d1, kv1, rfl, .inl (s9 _ _ m1), fun la hla => ?_⟩
      have s10 : Same H9 (upd H9 la (.dK kv1)) := same_new0 hla
      have ela : upd H9 la (.dK kv1) la = some (.dK kv1) := upd_same
      generalize upd H9 la (.dK kv1) = H10 at *
      have s010 := s9.trans s10
      have hP10 := hP.same s010
      obtain ⟨dx, sp, so, mk, ld, lna, le, hins, _⟩ := hP10.at_
      refine ⟨_, rfl, p, dx, _, rfl, hins, rfl, _, rfl, _, rfl, p, b, ss, ls, rows, num, i, rfl, hP10, hi, hnum, fun H11 t s11 ht et => ⟨_, _, rfl, ?_⟩⟩
      have s911 := s10.trans s11
      have s011 := s9.trans s911
      have ela' := s11 _ _ ela
      have ed' := s911 _ _ ed
      have eg' := s911 _ _ eg
      have nlad : la ≠ d := (ne_of_none ed hla).symm
      have nlag : la ≠ g := (ne_of_none eg hla).symm
      have hla0 : H la = none := s9.free hla
      refine ⟨fun σ' H' => ∃ w10 w11 w12 kvs skvs', σ' = [some (.ref p), some (vN num), some (.ref q), some (.ref r), some (vN b), some (.ref d), some (.ref g), some (vN i), some (.ref la), some (.ref t), w10, w11, w12] ∧ Same H H' ∧ H' g = some (.lst (ds.map V.ref)) ∧ (∀ L d', ds[L]? = some d' → d' ≠ d ∧ d' ≠ g ∧ H d' = none ∧ ∃ kvs, H' d' = some (.dK kvs) ∧ LnAt H' R (plE b ss ls rows R num EE L) kvs) ∧ H' la = some (.dK kvs) ∧ LnAt H' R (plE b ss ls rows R num EE i) kvs ∧ H' d = some (.dK skvs') ∧ skvs'.length ≤ i + 1 ∧ Sn skvs' (fun x => ∃ L', L' < i + 1 ∧ x = tkl b ss ls rows num L'), ?_, ?_⟩
      · refine ⟨_, rfl, rfl, _, rfl, iteT ?_⟩
        refine ⟨_, rfl, _, _, _, _, _, rfl, .ty _, .base (.tup et), kit_ty (r := true) (by decide +kernel), _, rfl, iteF ?_⟩
        refine ⟨_, rfl, t, _, rfl, .inr et, rfl, _, rfl, itf (by simp) ?_⟩
        refine ⟨_, rfl, t, _, 1, _, rfl, rfl, .inr et, rfl, _, rfl, tke b ss ls rows num i, b, rfl, (by omega), _, rfl, itf (by simp [y2]) ?_⟩
        refine ⟨_, rfl, t, _, 0, _, rfl, rfl, .inr et, rfl, _, rfl, _, rfl, t, _, 1, _, rfl, rfl, .inr et, rfl, r, R, tke b ss ls rows num i, rfl, .inl (s011 _ _ hR), hRz, _, _, rfl, ?_⟩
        have m2' := s011 _ _ m2
        have hq1' := s011 _ _ hq1
        have A2' := A2.mono (Same.tups s011)
        refine ⟨_, rfl, tkl b ss ls rows num i, rfl, _, rfl, iteF ?_⟩
        refine ⟨_, rfl, _, rfl, q, _, rfl, .inl hq1', ?_⟩
        rw [List.length_map, hq2]
        refine ⟨_, _, rfl, rfl, _, rfl, itf (decide_eq_false (by omega)) ?_⟩
        obtain ⟨t2, n2, hv2, ht2, hm2⟩ := A2'.has ⟨y3, y4, y5⟩
        refine ⟨_, rfl, _, rfl, _, rfl, q, _, tkl b ss ls rows num i, _, rfl, rfl, .inl hq1', get_ref hd2, d2, _, rfl, DGet.k (k := kn (lft R (tke b ss ls rows num i))) m2', _, rfl, itf (by rw [hv2]; rfl) ?_⟩
        have nv : valV skvs (kn (tkl b ss ls rows num i)) = none := by
          cases z : valV skvs (kn (tkl b ss ls rows num i)) with
          | none => rfl
          | some v =>
            obtain ⟨L', h1, h2⟩ := (Ssk.val _).mp ⟨v, z⟩
            have := tkl_inj h2
            omega
        refine ⟨_, rfl, d, rfl, .inl ⟨skvs, .inl ed'⟩, _, rfl, _, rfl, _, DGet.k (k := kn (tkl b ss ls rows num i)) ed', ?_⟩
        rw [nv]
        refine ⟨_, rfl, rfl, _, rfl, itf (by simp) ?_⟩
        refine ⟨_, rfl, _, rfl, _, rfl, d, _, rfl, DPut.k (k := kn (tkl b ss ls rows num i)) ed' (by rw [sizeLine_eq]; omega), ?_⟩
        have s012 := same_put (o := .dK (putK skvs (kn (tkl b ss ls rows num i)) (vN (lft R (tke b ss ls rows num i))))) s011 hd
        have ed12 : upd H11 d (.dK (putK skvs (kn (tkl b ss ls rows num i)) (vN (lft R (tke b ss ls rows num i))))) d = some (.dK (putK skvs (kn (tkl b ss ls rows num i)) (vN (lft R (tke b ss ls rows num i))))) := upd_same
        have ela12 := upd_put (o := .dK (putK skvs (kn (tkl b ss ls rows num i)) (vN (lft R (tke b ss ls rows num i))))) ela' nlad
        have eg12 := upd_put (o := .dK (putK skvs (kn (tkl b ss ls rows num i)) (vN (lft R (tke b ss ls rows num i))))) eg' ndg.symm
        have k911 : ∀ c o, H9 c = some o → c ≠ d → upd H11 d (.dK (putK skvs (kn (tkl b ss ls rows num i)) (vN (lft R (tke b ss ls rows num i))))) c = some o := fun c o h n => (upd_ne n).trans (s911 _ _ h)
        generalize upd H11 d (.dK (putK skvs (kn (tkl b ss ls rows num i)) (vN (lft R (tke b ss ls rows num i))))) = H12 at *
        have S12 := (Ssk.put (tkl b ss ls rows num i) (vN (lft R (tke b ss ls rows num i)))).congr (S' := fun x => ∃ L', L' < i + 1 ∧ x = tkl b ss ls rows num L') fun x => by
          constructor
          · rintro (⟨L', h1, h2⟩ | h)
            · exact ⟨L', by omega, h2⟩
            · exact ⟨i, by omega, h⟩
          · rintro ⟨L', h1, h2⟩
            by_cases e : L' = i
            · subst e; exact .inr h2
            · exact .inl ⟨L', by omega, h2⟩
        have l12 := Nat.le_trans (length_putK skvs (kn (tkl b ss ls rows num i)) (vN (lft R (tke b ss ls rows num i)))) (by omega : skvs.length + 1 ≤ i + 1)
        have A1' := A1.mono (Same.tups s012)
        have A2q := A2.mono (Same.tups s012)
        obtain ⟨t2, n2, hv2, ht2, hm2⟩ := A2q.has ⟨y3, y4, y5⟩
        have lk1 : kv1.length ≤ 32 := by
          have z := nodup_len A1.sn.nd (m := (List.range (2 ^ b)).map fun e => kn (lft R e)) fun k hk => by
            obtain ⟨x, ⟨e, he, rfl⟩, rfl⟩ := (A1.sn.mem k).mp hk
            exact List.mem_map.mpr ⟨e, List.mem_range.mpr (hlt i e hi he), rfl⟩
          rw [List.length_map, List.length_map, List.length_range] at z
          have : 2 ^ b ≤ 32 := Nat.pow_le_pow_right (n := 2) (by decide) hb5
          omega
        refine ⟨_, rfl, _, rfl, q, _, tkl b ss ls rows num i, _, rfl, rfl, .inl (s012 _ _ hq1), get_ref hd2, _, rfl, d2, _, rfl, .inl ⟨kv2, kn (lft R (tke b ss ls rows num i)), .inl (s012 _ _ m2), rfl, hv2.symm⟩, ?_⟩
        have dss : ∀ {H13 : Hp} {o : HO}, Same H12 H13 → ∀ L d', ds[L]? = some d' → d' ≠ d ∧ d' ≠ g ∧ H d' = none ∧ ∃ kvs, upd H13 la o d' = some (.dK kvs) ∧ LnAt (upd H13 la o) R (plE b ss ls rows R num EE L) kvs := fun {H13 o} s13 L d' h => by
          obtain ⟨x1, x2, x3, kv, x4, x5⟩ := hds L d' h
          have nla : d' ≠ la := ne_of_none x4 hla
          refine ⟨x1, x2, x3, kv, (upd_ne nla).trans (s13 _ _ (k911 _ _ x4 x1)), x5.mono fun t vs ht => ?_⟩
          exact (upd_ne (ne_of_none ht hla)).trans (s13 _ _ (k911 _ _ ht (ne_of ht ed (by intro z; cases z))))
        refine ⟨_, rfl, _, rfl, la, _, rfl, DGet.k (k := kn (lft R (tke b ss ls rows num i))) ela12, _, rfl, br (fun z => ?_) (fun z => ?_)⟩
        · obtain ⟨v, hv⟩ := Option.isSome_iff_exists.mp z
          obtain ⟨e0, he0, hc0⟩ := (A1'.sn.val (lft R (tke b ss ls rows num i))).mp ⟨v, hv⟩
          obtain ⟨t1, n1, hv1, ht1, hm1⟩ := A1'.has ⟨e0, he0, hc0⟩
          have z0 : n1 &&& n2 = 0 := by
            apply Nat.eq_of_testBit_eq
            intro e
            rw [Nat.zero_testBit, Nat.testBit_and]
            cases q1 : n1.testBit e with
            | false => rfl
            | true =>
              cases q2 : n2.testBit e with
              | false => rfl
              | true => exact (y6 e ((hm1 e).mp q1).1 ((hm2 e).mp q2).1 ((hm1 e).mp q1).2).elim
          refine ⟨_, rfl, _, rfl, la, _, rfl, .inl ⟨kv1, kn (lft R (tke b ss ls rows num i)), .inl ela12, rfl, hv1.symm⟩, _, rfl, t1, t2, n1, n2, rfl, ht1, ht2, z0, fun H13 x s13 hx ex => ?_⟩
          refine ⟨_, rfl, _, rfl, la, _, rfl, DPut.k (k := kn (lft R (tke b ss ls rows num i))) (s13 _ _ ela12) (by rw [sizeLine_eq]; omega), ?_⟩
          have nxl : x ≠ la := (ne_of_none ela12 hx).symm
          refine ⟨_, _, _, _, _, rfl, same_put (s012.trans s13) hla0, (upd_ne nlag.symm).trans (s13 _ _ eg12), dss s13, upd_same, (A1'.mono (Same.tups s13)).put (H' := upd H13 la _) (fun t vs h => (upd_ne (ne_of h (s13 _ _ ela12) (by intro z; cases z))).trans h) (m := n1 ||| n2) ((upd_ne nxl).trans ex) (fun e => ?_) ⟨e0, .inl he0, hc0⟩ (fun e hne => ?_), (upd_ne nlad.symm).trans (s13 _ _ ed12), l12, S12⟩
          · rw [(hm1.or hm2) e]
            unfold plE
            constructor
            · rintro ⟨z1 | z1, z2⟩
              · exact ⟨.inl z1, z2⟩
              · exact ⟨.inr ⟨z1, z2⟩, z2⟩
            · rintro ⟨z1 | z1, z2⟩
              · exact ⟨.inl z1, z2⟩
              · exact ⟨.inr z1.1, z2⟩
          · unfold plE
            exact ⟨fun z1 => z1.elim id fun z1 => absurd z1.2 hne, .inl⟩
        · have none1 : ∀ e, EE i e → lft R e ≠ (lft R (tke b ss ls rows num i)) := fun e he hc => by
            obtain ⟨v, hv⟩ := (A1'.sn.val _).mpr ⟨e, he, hc⟩
            rw [hv] at z
            cases z
          refine ⟨_, rfl, _, rfl, _, rfl, la, _, rfl, DPut.k (k := kn (lft R (tke b ss ls rows num i))) ela12 (by rw [sizeLine_eq]; omega), ?_⟩
          have n2l : t2 ≠ la := ne_of ht2 ela12 (by intro z; cases z)
          refine ⟨_, _, _, _, _, rfl, same_put s012 hla0, (upd_ne nlag.symm).trans eg12, dss (Same.refl _), upd_same, A1'.put (H' := upd H12 la _) (fun t vs h => (upd_ne (ne_of h ela12 (by intro z; cases z))).trans h) (m := n2) ((upd_ne n2l).trans ht2) (fun e => ?_) ⟨y3, .inr ⟨y4, y5⟩, y5⟩ (fun e hne => ?_), (upd_ne nlad.symm).trans ed12, l12, S12⟩
          · rw [hm2 e]
            unfold plE
            constructor
            · rintro ⟨z1, z2⟩
              exact ⟨.inr ⟨z1, z2⟩, z2⟩
            · rintro ⟨z1 | z1, z2⟩
              · exact absurd z2 (none1 e z1)
              · exact ⟨z1.1, z2⟩
          · unfold plE
            exact ⟨fun z1 => z1.elim id fun z1 => absurd z1.2 hne, .inl⟩
      · rintro σ' H' ⟨w10, w11, w12, kvs, skvs', rfl, s', eg2, hds2, ela2, A3, ed2, l2, S2⟩
        have tups : ∀ t vs, H' t = some (.tup vs) → upd H' g (.lst (ds.map V.ref ++ [V.ref la])) t = some (.tup vs) := fun t vs h => (upd_ne (ne_of h eg2 (by intro z; cases z))).trans h
        refine ⟨_, rfl, .inl ⟨rfl, _, SqL.of eg2⟩, _, rfl, g, _, _, rfl, rfl, eg2, (by rw [List.length_map, sizeLine_eq]; omega), ?_⟩
        refine ⟨_, _, _, _, _, _, ds ++ [la], skvs', rfl, same_put s' hg0, (by rw [upd_same, List.map_append]; rfl), (by rw [List.length_append, hdl]; rfl), fun L d' h => ?_, (upd_ne ndg).trans ed2, l2, S2⟩
        by_cases e : L < ds.length
        · rw [List.getElem?_append_left e] at h
          obtain ⟨x1, x2, x3, kv, x4, x5⟩ := hds2 L d' h
          exact ⟨x1, x2, x3, kv, (upd_ne x2).trans x4, x5.mono tups⟩
        · rw [List.getElem?_append_right (by omega)] at h
          have e0 : L - ds.length = 0 := by
            cases z : L - ds.length with
            | zero => rfl
            | succ n => rw [z] at h; simp at h
          rw [e0] at h
          cases h
          have eL : L = i := by omega
          subst eL
          exact ⟨nlad, nlag, hla0, kvs, (upd_ne nlag).trans ela2, A3.mono tups⟩
    · rintro σ H9 ⟨v7, v8, v9, v10, v11, v12, ds, skvs, rfl, s9, eg, hdl, hds, ed, lsk, Ssk⟩
      refine ⟨_, rfl, kQ _ g s9 hg0 ⟨ds, eg, hdl, fun L d' h => ?_⟩⟩
      obtain ⟨_, _, _, z⟩ := hds L d' h
      exact z
end
end LaneX
set_option Elab.async false
set_option linter.all false
set_option maxRecDepth 100000
set_option maxHeartbeats 4000000
namespace LaneX
open PySem PySem.Spec PyProof.Rows L2
def pairD (m : Nat) : PyData := .tuple [.int (m : Int), .bool true]
theorem pairD_shaped (m : Nat) : SeqAt.shaped (pairD m) = true := by
  have a : (pairD m).canLay0 = true := by simp [pairD, PyData.canLay0, PyData.canLayAll0]
  have h : (pairD m).depth ≤ 64 := by simp only [pairD, PyData.depth, PyData.depthAll]; decide
  show ((pairD m).canLay0 && decide ((pairD m).depth ≤ 64)) = true
  rw [a, decide_eq_true h]; rfl
theorem pairD_eqv (m n : Nat) : PyData.eqv (pairD m) (pairD n) = decide (m = n) := by
  unfold pairD
  simp only [PyData.eqv, PyData.eqvAll]
  by_cases h : m = n
  · subst h; simp
  · have : ¬ ((m : Int) = (n : Int)) := by omega
    simp [h, this]
theorem pairD_dp {K : PySem.W.Frag} {H : Hp} {x : Addr} {m : Nat} (hx : H x = some (.tup [vN m, .bl true])) : Dp K H (.ref x) (pairD m) := .tup (SqT.of hx) (.cons (.int _) (.cons (.bl _) .nil))
theorem sum_cast (l : List Nat) : (l.map Int.ofNat).sum = ((l.sum : Nat) : Int) := by
  induction l with
  | nil => rfl
  | cons x r ih => rw [List.map_cons, List.sum_cons, List.sum_cons, ih, Int.natCast_add]; rfl
theorem dec_eqN (a b : Nat) : decide (vN a = vN b) = decide (a = b) := by
  by_cases h : a = b
  · subst h; simp
  · have : ¬ (vN a = vN b) := fun z => h (by have := V.int.inj z; omega)
    rw [decide_eq_false h, decide_eq_false this]
theorem small5 {b : Nat} (h : b ≤ 5) : 1 <<< b ≤ 32 := by
  rw [Nat.one_shiftLeft]
  exact Nat.le_trans (Nat.pow_le_pow_right (by decide) h) (by decide)
theorem rng_lo (n : Nat) : (-2 ^ 62 : Int) ≤ ((n : Nat) : Int) := Int.le_trans (by decide) (Int.natCast_nonneg n)
theorem rng_hi {n : Nat} (h : n ≤ 64) : ((n : Nat) : Int) < 2 ^ 62 := Int.lt_of_le_of_lt (Int.ofNat_le.mpr h) (by decide)
def sp_homes (CP CS CR : Addr) : Sp := fun vs H Q _ => ∃ (p q r : Addr) (b : Nat) (ss ls rows R : List Nat) (E : Nat → Nat → Prop), vs = [.ref p, .ref q, .ref r, vN b] ∧ PlanAt CP CS CR H p b ss ls rows ∧ b ≤ rk (ss ++ ls) ∧ Lanes H q R E (2 ^ ls.length) ∧ H r = some (.lst (R.map vN)) ∧ (∀ x ∈ R, x ≠ 0) ∧ ls.length ≤ 5 ∧ b ≤ 5 ∧
  (∀ e, e < 2 ^ b → hmv b ss ls rows e < 2 ^ ls.length ∧ (∀ e', E (hmv b ss ls rows e) e' → e' < 2 ^ b) ∧ ∀ e', e' < 2 ^ b → lft R e' = lft R e → E (hmv b ss ls rows e) e') ∧ ∀ H', Same H H' → Q (.bl true) H'
section
variable {P : Program} {w : World} {K : PySem.W.Frag} {mg : Str → Option Value} {base : Heap} {f : Addr} {fd : FuncData} {CS CR CP : Addr} (T : Bt mg)
include T
theorem ok_homes (F : FnP K "_law_homes_right" "_law_homes_right" s_homes_rightL f fd) (M_SumPlan_home : Mn P w K mg base 6 CP "home" ["self", "entry"] (sp_home CP CS CR)) (D_leftL : Dn P w K mg base 1 "_law_left" ["_law_rows", "_law_word_here"] sp_left) (D_is_wholeL : Dn P w K mg base 1 "_law_is_whole" ["_law_value"] sp_is_whole) : FnOk P w K mg base CX0 7 f fd ["_law_plan", "_law_values", "_law_rows", "_law_bits"] (sp_homes CP CS CR) := by
  have nd := sc_homes_rightL.nd
  refine fnok F sc_homes_rightL (fun vs H Q E h => ?_) (fun cdv A outer s H vs Q E hr h => ?_)
  · obtain ⟨p, q, r, b, ss, ls, rows, R, EE, rfl, _⟩ := h
    rfl
  · obtain ⟨p, q, r, b, ss, ls, rows, R, EE, rfl, hP, hk, hq, hR, hRz, hl5, hb5, hyp, kQ⟩ := h
    have hu := hu_of hr
    refine ⟨_, (pss_cons (ps_for PassesOwn.never rfl (pi_range1 (by rfl) T.range (pa_cons (pe_op on_shl pe_int (pv 3)) pa_nil)) (pg_name (i := 4) nd rfl (Or.inl rfl))
    (pss_cons (ps_asg (pe_tup (pa_cons (pe_m (pv 0) M_SumPlan_home hr (pa_cons (pv 4) pa_nil)) (pa_cons (pe_d D_leftL hr (pa_cons (pv 2) (pa_cons (pv 4) pa_nil))) pa_nil))) (pg_tup (by rfl) (pgs_cons (pg_name (i := 5) nd rfl (Or.inl rfl)) (pgs_cons (pg_name (i := 6) nd rfl (Or.inr rfl)) pgs_nil))))
    (pss_cons (ps_set (i := 7) nd rfl (Or.inl rfl) (pe_callB (cr_sum rfl) (by rfl) T.sum (by decide +kernel) (pa_cons (pe_lc (own := [("_law_other", 8)]) (g := gName 8) (by rfl) nd (pi_range1 (by rfl) T.range (pa_cons (pe_op on_shl pe_int (pv 3)) pa_nil)) (blkOk_by (own := [("_law_other", 8)]) (N := ["_law_plan", "_law_values", "_law_rows", "_law_bits", "_law_entry", "_law_home", "_law_coset", "_law_whole", "_law_other"]) (sc := defScope s_homes_rightL) (by decide +kernel)) (fun _ _ _ _ _ => (pg_name (i := 8) nd rfl (Or.inl rfl))) (fun _ _ _ _ _ => (pts_one (pt_cmpR op_eq (pe_d D_leftL hr (pa_cons (pv 2) (pa_cons (pv 8) pa_nil))) (pv 6) (nomark _)))) (fun _ _ _ _ _ => (pe_op on_shl pe_int (pv 8)))) pa_nil)))
    (pss_one (ps_if (PW.pt (pw_or (pt_not (pt_val (pe_d D_is_wholeL hr (pa_cons (pv 5) pa_nil)))) (pw_or (pt_cmpR op_ge (pv 5) (pe_callB call_lenQ (by rfl) T.len PySem.boot_len (pa_cons (pv 1) pa_nil)) (nomark _)) (pw_or1 (pt_cmpR (op_neD hr.units) (pe_dget2 hu (pe_ix ix_q (pv 1) (pv 5) (fun _ _ => rfl)) (pv 6) pe_non ⟨rfl, rfl, rfl, rfl⟩) (pe_tup (pa_cons (pv 7) (pa_cons pe_bl pa_nil))) (nomark _))))))
      (pss_one (ps_ret pe_bl))
      pss_nil)))))
  (pss_one (ps_ret pe_bl))), ?_⟩
    have o1 : blen 1 ≤ 1000000 := by rw [blen_one]; decide
    have sm := small5 hb5
    have n32 : 2 ^ ls.length ≤ 32 := Nat.pow_le_pow_right (n := 2) (by decide) hl5
    obtain ⟨qs, hq1, hq2, hq3⟩ := hq
    refine ⟨_, rfl, 1, b, rfl, rfl, shl_ok1 o1 (by omega), _, rfl, rng_lo _, rng_hi (by omega), for_range (n := 1 <<< b) (fun i σ Hi => ∃ v4 v5 v6 v7, σ = [some (.ref p), some (.ref q), some (.ref r), some (vN b), v4, v5, v6, v7, none] ∧ Same H Hi) ⟨none, none, none, none, rfl, Same.refl _⟩ ?_ ?_⟩
    · rintro e σ Hi hi ⟨v4, v5, v6, v7, rfl, si⟩
      rw [show (0 : Int) + (e : Int) = (e : Int) by omega]
      have he : e < 2 ^ b := by rwa [Nat.one_shiftLeft] at hi
      obtain ⟨y1, y2, y3⟩ := hyp e he
      have hPi := hP.same si
      obtain ⟨dx, sp, so, mk, ld, lna, le, hins, _⟩ := hPi.at_
      refine ⟨_, rfl, p, dx, _, rfl, hins, rfl, _, rfl, p, b, ss, ls, rows, e, rfl, hPi, hk, he, fun H1 s1 => ⟨_, rfl, _, rfl, r, R, e, rfl, .inl ((si.trans s1) _ _ hR), hRz, (by show 2 ≤ sizeLine; decide), fun y hy => ⟨y, _, rfl, SqT.of upd_same, rfl, _, _, rfl, _, _, rfl, rfl, ?_⟩⟩⟩
      have s2 := (si.trans s1).trans (same_new0 (o := .tup [vN (hmv b ss ls rows e), vN (lft R e)]) hy)
      generalize upd H1 y _ = H2 at *
      refine ⟨_, rfl, 1, b, rfl, rfl, shl_ok1 o1 (by omega), _, rfl, rng_lo _, rng_hi (by omega), lc_pureR (n := 1 <<< b) (fun o => decide (lft R o = lft R e)) (fun o => vN (1 <<< o)) (by omega) (fun o H' ho s => ?_) (fun D H3 hD s3 h3 => ?_)⟩
      · intro Z Nx z1 z2
        refine ⟨rfl, _, rfl, _, rfl, r, R, o, rfl, .inl (s _ _ (s2 _ _ hR)), hRz, _, rfl, rfl, _, rfl, ?_⟩
        rw [show decide (vN (lft R o) = vN (lft R e)) = decide (lft R o = lft R e) from dec_nat]
        exact br (fun z => ⟨_, rfl, 1, o, rfl, rfl, shl_ok1 o1 (by omega), z1 z _ (Same.refl _)⟩) (fun z => z2 z _ (Same.refl _))
      have h3' : H3 D = some (.lst (((((List.range (1 <<< b)).filter fun o => decide (lft R o = lft R e)).map fun o => 1 <<< o).map Int.ofNat).map V.int)) := by
        rw [h3, List.map_map, List.map_map]; rfl
      refine ⟨D, _, rfl, SqL.of h3', ?_⟩
      rw [sum_cast]
      have em : (((List.range (1 <<< b)).filter fun o => decide (lft R o = lft R e)).map fun o => 1 <<< o).sum = mask (fun o => decide (lft R o = lft R e)) (2 ^ b) := by rw [Nat.one_shiftLeft]; rfl
      rw [em]
      have s03 := s2.trans s3
      obtain ⟨d2, hd2⟩ := get_ltA (l := qs) (i := hmv b ss ls rows e) (by omega)
      obtain ⟨kv2, m2, A2⟩ := hq3 _ d2 hd2
      obtain ⟨t, m, hv, ht, hm⟩ := (A2.mono (Same.tups s03)).has ⟨e, y3 e he rfl, rfl⟩
      have ew := hm.whole y2 y3
      refine ⟨_, rfl, hmv b ss ls rows e, rfl, _, rfl, iteF ?_⟩
      refine ⟨_, rfl, _, rfl, q, _, rfl, .inl (s03 _ _ hq1), ?_⟩
      rw [List.length_map, hq2]
      refine ⟨_, _, rfl, rfl, _, rfl, itf (decide_eq_false (by omega)) ?_⟩
      refine ⟨_, rfl, _, rfl, q, _, hmv b ss ls rows e, _, rfl, rfl, .inl (s03 _ _ hq1), get_ref hd2, d2, rfl, .inl ⟨kv2, .inl (s03 _ _ m2)⟩, _, rfl, _, DGet.k (k := kn (lft R e)) (s03 _ _ m2), ?_⟩
      rw [hv]
      refine ⟨_, rfl, (by show 2 ≤ sizeLine; decide), fun x1 hx1 => ?_⟩
      have s4 := same_new0 (o := .tup [vN (mask (fun o => decide (lft R o = lft R e)) (2 ^ b)), .bl true]) hx1
      refine ⟨pairD m, pairD (mask (fun o => decide (lft R o = lft R e)) (2 ^ b)), pairD_dp (s4 _ _ ht), pairD_dp upd_same, pairD_shaped _, pairD_shaped _, ?_⟩
      rw [pairD_eqv, decide_eq_true ew]
      exact ⟨_, rfl, itf rfl ⟨_, _, _, _, rfl, s03.trans s4⟩⟩
    · rintro σ Hi ⟨v4, v5, v6, v7, rfl, si⟩
      exact kQ _ si
end
end LaneX
set_option Elab.async false
set_option linter.all false
namespace LaneX
/-! ### the numbers of entries and lanes of a plan (k34) -/
theorem mks_sp {b : Nat} {ss rows : List Nat} {x : Nat} (h : x ∈ mks b ss rows) : Spn ss x := (spn_span ss x).mp (.of (cmpl_mem _ x h))
section
variable {b : Nat} {ss ls ws : List Nat} (hs : ∀ x ∈ ss, x < 2 ^ b) (hl : ∀ x ∈ ls, x < 2 ^ b) (hw : ∀ x ∈ ws, x < 2 ^ b)
include hs hw
/-- own marks and rows span what slots and space span -/
theorem mr_span (x : Nat) : Spn (mks b ss (spn ws) ++ spn ws) x ↔ Spn (ss ++ ws) x := by
  have mt : ∀ y ∈ spn (mtd b (spn ss) (spn ws)), Spn (spn ss) y ∧ Spn (spn ws) y := fun y hy => (mtd_span (spn_lt hs) y).mp ((spn_span _ y).mp (.of hy))
  have B := base_of (A := spn (mtd b (spn ss) (spn ws))) (B := spn ss) (spn_rws _) fun y hy => (mt y hy).1
  constructor
  · intro h
    refine h.mono fun y hy => ?_
    rcases List.mem_append.mp hy with q | q
    · exact (mks_sp q).sub fun z hz => List.mem_append_left _ hz
    · exact ((spn_span ws y).mp (.of q)).sub fun z hz => List.mem_append_right _ hz
  · intro h
    refine h.mono fun y hy => ?_
    rcases List.mem_append.mp hy with q | q
    · have z := (B.1 y).mpr ((spn_span ss y).mpr (.of q))
      refine z.mono fun u hu => ?_
      rcases List.mem_append.mp hu with q | q
      · exact (mt u q).2.sub fun z hz => List.mem_append_right _ hz
      · exact .of (List.mem_append_left _ q)
    · exact ((spn_span ws y).mpr (.of q)).sub fun z hz => List.mem_append_right _ hz
theorem mr_rk : rk (mks b ss (spn ws) ++ spn ws) = (mks b ss (spn ws) ++ spn ws).length := by
  have a := mks_len' (rows := spn ws) hs
  rw [kpt_eq hs] at a
  have a : (mks b ss (spn ws)).length = rk (ss ++ ws) - rk ws := by
    have : ((mks b ss (spn ws)).length : Int) = ((rk (ss ++ ws) - rk ws : Nat) : Int) := a
    omega
  have c : (spn ws).length = rk ws := rfl
  have d : rk ws ≤ rk (ss ++ ws) := rk_le fun x hx => .of (List.mem_append_right _ hx)
  rw [rk_eq (mr_span hs hw), List.length_append, a, c]
  omega
theorem fe_mix : Mix b (fle b ss (spn ws)) := fll_mix (fun x hx => (List.mem_append.mp hx).elim (fun q => (mks_sp q).lt hs) fun q => spn_lt hw x q) (mr_rk hs hw)
omit hs hw in
theorem slv_img {M : List Nat} (h : Mix b M) {x : Nat} (hx : x < 2 ^ b) : slv M (img M x) = x := h.inj (slv_lt' h (h.img_lt x)) hx (slv_ok (h.all (h.img_lt x))).2
omit hs hw in
theorem fe_low {rows : List Nat} {z : Nat} (h : z < 2 ^ (mks b ss rows ++ rows).length) : img (fle b ss rows) z = img (mks b ss rows ++ rows) z := by
  have := img_app (P := mks b ss rows ++ rows) (Q := cmpl (spn (mks b ss rows ++ rows)) (spn (units b))) (y := 0) h
  rw [Nat.zero_shiftLeft, Nat.xor_zero, (lin_img _).z, Nat.xor_zero] at this
  exact this
theorem mr_len : (mks b ss (spn ws) ++ spn ws).length ≤ b := by
  have := rk_le_bits (b := b) (ws := mks b ss (spn ws) ++ spn ws) fun x hx => (List.mem_append.mp hx).elim (fun q => (mks_sp q).lt hs) fun q => spn_lt hw x q
  rw [mr_rk hs hw] at this
  exact this
theorem slv_low {z : Nat} (h : z < 2 ^ (mks b ss (spn ws) ++ spn ws).length) : slv (fle b ss (spn ws)) (img (mks b ss (spn ws) ++ spn ws) z) = z := by
  rw [← fe_low h]
  exact slv_img (fe_mix hs hw) (Nat.lt_of_lt_of_le h (Nat.pow_le_pow_right (by decide) (mr_len hs hw)))
end
/-- the mark of an entry, and its rest -/
def muv (b : Nat) (ss rows : List Nat) (e : Nat) : Nat := lo (mks b ss rows).length (slv (fle b ss rows) e)
def hiv (b : Nat) (ss rows : List Nat) (e : Nat) : Nat := slv (fle b ss rows) e >>> mny b ss rows
theorem lin_muv (b : Nat) (ss rows : List Nat) : Lin (muv b ss rows) := (lin_lo _).comp (lin_slv _)
theorem lin_hiv (b : Nat) (ss rows : List Nat) : Lin (hiv b ss rows) := (lin_shr _).comp (lin_slv _)
theorem mny_len (b : Nat) (ss rows : List Nat) : mny b ss rows = (mks b ss rows ++ rows).length := by rw [List.length_append]; rfl
theorem muv_lt (b : Nat) (ss rows : List Nat) (e : Nat) : muv b ss rows e < 2 ^ (mks b ss rows).length := lo_lt _ _
section
variable {b : Nat} {ss ls ws : List Nat} (hs : ∀ x ∈ ss, x < 2 ^ b) (hl : ∀ x ∈ ls, x < 2 ^ b) (hw : ∀ x ∈ ws, x < 2 ^ b)
include hs hw
theorem sp_hi {d : Nat} (h : Spn (ss ++ ws) d) : hiv b ss (spn ws) d = 0 := by
  obtain ⟨z, hz, rfl⟩ := span_img (cols := mks b ss (spn ws) ++ spn ws) (Nat.le_refl _) (by rw [List.take_length]; exact (mr_span hs hw d).mpr h)
  unfold hiv
  rw [slv_low hs hw hz, mny_len, hi_of_lt hz]
theorem own_mk {k : Nat} (h : k < 2 ^ (mks b ss (spn ws)).length) : slv (fle b ss (spn ws)) (img (mks b ss (spn ws)) k) = k := by
  have a := img_app (P := mks b ss (spn ws)) (Q := spn ws) (y := 0) h
  rw [Nat.zero_shiftLeft, Nat.xor_zero, (lin_img _).z, Nat.xor_zero] at a
  rw [← a]
  exact slv_low hs hw (Nat.lt_of_lt_of_le h (Nat.pow_le_pow_right (by decide) (by rw [List.length_append]; omega)))
theorem ws_zero {d : Nat} (hd : d < 2 ^ b) : Spn ws d ↔ muv b ss (spn ws) d = 0 ∧ hiv b ss (spn ws) d = 0 := by
  constructor
  · intro h
    obtain ⟨z, hz, e⟩ := span_img (cols := spn ws) (Nat.le_refl _) (by rw [List.take_length]; exact (spn_span ws d).mpr h)
    have a := img_app (P := mks b ss (spn ws)) (Q := spn ws) (x := 0) (y := z) (Nat.two_pow_pos _)
    rw [(lin_img _).z, Nat.zero_xor, Nat.zero_xor, e] at a
    have lt : z <<< (mks b ss (spn ws)).length < 2 ^ (mks b ss (spn ws) ++ spn ws).length := by
      rw [List.length_append]
      exact shl_lt (by omega) (by rwa [Nat.add_sub_cancel_left])
    refine ⟨?_, sp_hi hs hw (h.sub fun z hz => List.mem_append_right _ hz)⟩
    unfold muv
    rw [← a, slv_low hs hw lt, lo_shl]
  · rintro ⟨h1, h2⟩
    unfold muv at h1
    unfold hiv at h2
    have im := (slv_ok ((fe_mix hs hw).all hd)).2
    generalize slv (fle b ss (spn ws)) d = s at *
    have e := lo_hi (mks b ss (spn ws)).length s
    rw [h1, Nat.zero_xor] at e
    unfold mny at h2
    rw [Nat.shiftRight_add] at h2
    generalize s >>> (mks b ss (spn ws)).length = z at *
    have hz : z < 2 ^ (spn ws).length := by
      rw [Nat.shiftRight_eq_div_pow] at h2
      exact (Nat.div_eq_zero_iff_lt (Nat.two_pow_pos _)).mp h2
    have lt : z <<< (mks b ss (spn ws)).length < 2 ^ (mks b ss (spn ws) ++ spn ws).length := by
      rw [List.length_append]
      exact shl_lt (by omega) (by rwa [Nat.add_sub_cancel_left])
    have a := img_app (P := mks b ss (spn ws)) (Q := spn ws) (x := 0) (y := z) (Nat.two_pow_pos _)
    rw [(lin_img _).z, Nat.zero_xor, Nat.zero_xor] at a
    rw [← im, ← e, fe_low lt, a]
    have := img_span (cols := spn ws) (Nat.le_refl _) hz
    rw [List.take_length] at this
    exact (spn_span ws _).mp this
/-- two entries of one coset -/
theorem co_iff {e f : Nat} (he : e < 2 ^ b) (hf : f < 2 ^ b) : lft (bas ws) e = lft (bas ws) f ↔ muv b ss (spn ws) e = muv b ss (spn ws) f ∧ hiv b ss (spn ws) e = hiv b ss (spn ws) f := by
  rw [coset_span, ws_zero hs hw (Nat.xor_lt_two_pow he hf), (lin_muv _ _ _).x, (lin_hiv _ _ _).x]
  exact ⟨fun h => ⟨xz h.1, xz h.2⟩, fun h => ⟨by rw [h.1, Nat.xor_self], by rw [h.2, Nat.xor_self]⟩⟩
include hl
theorem rst_slv (x : Nat) : slv (fle b ss (spn ws)) (rst b ss ls (spn ws) x) = hiv b ss (spn ws) (img ls x) <<< mny b ss (spn ws) := by
  have lt : slv (fle b ss (spn ws)) (img ls x) < 2 ^ b := slv_lt' (fe_mix hs hw) (imf_lt hl _ _)
  exact slv_img (fe_mix hs hw) (Nat.lt_of_le_of_lt (shrl_le _ _) lt)
theorem rst_lt (x : Nat) : rst b ss ls (spn ws) x < 2 ^ b := (fe_mix hs hw).img_lt _
theorem tke_lt (num x : Nat) : tke b ss ls (spn ws) num x < 2 ^ b := Nat.xor_lt_two_pow (rst_lt hs hl hw x) (imf_lt (fun y hy => (mks_sp hy).lt hs) _ _)
theorem tke_at {num x : Nat} : muv b ss (spn ws) (tke b ss ls (spn ws) num x) = mrk (mks b ss (spn ws)).length (shd b ss ls (spn ws)) num (nit b ss ls (spn ws) x) ∧ hiv b ss (spn ws) (tke b ss ls (spn ws) num x) = hiv b ss (spn ws) (img ls x) := by
  have lt := mrk_lt (m := (mks b ss (spn ws)).length) (sh := shd b ss ls (spn ws)) (num := num) (Nat.min_le_left _ _) (nit b ss ls (spn ws) x)
  have e : slv (fle b ss (spn ws)) (tke b ss ls (spn ws) num x) = hiv b ss (spn ws) (img ls x) <<< mny b ss (spn ws) ^^^ mrk (mks b ss (spn ws)).length (shd b ss ls (spn ws)) num (nit b ss ls (spn ws) x) := by
    unfold tke
    rw [slv_xor, rst_slv hs hl hw, own_mk hs hw lt]
  have lt2 : mrk (mks b ss (spn ws)).length (shd b ss ls (spn ws)) num (nit b ss ls (spn ws) x) < 2 ^ mny b ss (spn ws) := Nat.lt_of_lt_of_le lt (Nat.pow_le_pow_right (by decide) (Nat.le_add_right _ _))
  have em : hiv b ss (spn ws) (img ls x) <<< mny b ss (spn ws) = (hiv b ss (spn ws) (img ls x) <<< (spn ws).length) <<< (mks b ss (spn ws)).length := by
    unfold mny
    rw [Nat.add_comm, Nat.shiftLeft_add]
  constructor
  · unfold muv
    rw [e, em, Nat.xor_comm, beside_lo lt]
  · have : slv (fle b ss (spn ws)) (tke b ss ls (spn ws) num x) >>> mny b ss (spn ws) = hiv b ss (spn ws) (img ls x) := by rw [e, Nat.xor_comm, beside_hi lt2]
    exact this
end
theorem sub_rk' {X Y : List Nat} (s : X.Sublist Y) (h : rk Y = Y.length) : rk X = X.length := by
  obtain ⟨l, p⟩ := s.exists_perm_append
  have h1 := rk_perm p
  have h2 := p.length_eq
  have h3 := rk_app_len X l
  have h4 := rk_len X
  rw [List.length_append] at h2
  omega
/-! ### the numbers of lanes in their teams -/
section
variable {b : Nat} {ss ls ws : List Nat} (hs : ∀ x ∈ ss, x < 2 ^ b) (hl : ∀ x ∈ ls, x < 2 ^ b) (hw : ∀ x ∈ ws, x < 2 ^ b)
theorem tl_in {x : Nat} (h : x ∈ (twn ss ls).take (shd b ss ls (spn ws)) ++ ldr ss ls (spn ws)) : x < 2 ^ ls.length ∧ Spn (ss ++ ws) (img ls x) := by
  rcases List.mem_append.mp h with q | q
  · have z := (twn_span ss ls x).mp (.of (List.mem_of_mem_take q))
    exact ⟨z.1, z.2.sub fun y hy => List.mem_append_left _ hy⟩
  · have z := ldr_mem q
    exact ⟨z.1, lft_bas.mp z.2⟩
theorem tl_len : ((twn ss ls).take (shd b ss ls (spn ws)) ++ ldr ss ls (spn ws)).length = shd b ss ls (spn ws) + (ldr ss ls (spn ws)).length := by
  have : shd b ss ls (spn ws) ≤ (twn ss ls).length := Nat.min_le_right _ _
  rw [List.length_append, List.length_take, Nat.min_eq_left this]
theorem fa_mix : Mix ls.length (fla b ss ls (spn ws)) := by
  refine fll_mix (fun x hx => (tl_in hx).1) ?_
  have B := base_of (A := twn ss ls) (B := prt ss ls (spn ws)) (spn_rws _) fun y hy => (prt_span ss ls ws y).mpr (by
    have z := (twn_span ss ls y).mp (.of hy)
    exact ⟨z.1, z.2.sub fun y hy => List.mem_append_left _ hy⟩)
  exact sub_rk' ((List.take_sublist _ _).append (List.Sublist.refl _)) B.2.1
theorem fa_low {z : Nat} (h : z < 2 ^ (shd b ss ls (spn ws) + (ldr ss ls (spn ws)).length)) : img (fla b ss ls (spn ws)) z = img ((twn ss ls).take (shd b ss ls (spn ws)) ++ ldr ss ls (spn ws)) z := by
  have := img_app (P := (twn ss ls).take (shd b ss ls (spn ws)) ++ ldr ss ls (spn ws)) (Q := cmpl (spn ((twn ss ls).take (shd b ss ls (spn ws)) ++ ldr ss ls (spn ws))) (spn (units ls.length))) (x := z) (y := 0) (by rw [tl_len]; exact h)
  rw [Nat.zero_shiftLeft, Nat.xor_zero, (lin_img _).z, Nat.xor_zero] at this
  exact this
theorem tl_le : shd b ss ls (spn ws) + (ldr ss ls (spn ws)).length ≤ ls.length := by
  have h := (fa_mix (b := b) (ss := ss) (ls := ls) (ws := ws)).len
  unfold fla fll at h
  rw [List.length_append, tl_len] at h
  omega
theorem nit_lo (x : Nat) : nit b ss ls (spn ws) x = lo (shd b ss ls (spn ws) + (ldr ss ls (spn ws)).length) (slv (fla b ss ls (spn ws)) x) := rfl
theorem nit_fa {z : Nat} (h : z < 2 ^ (shd b ss ls (spn ws) + (ldr ss ls (spn ws)).length)) : nit b ss ls (spn ws) (img (fla b ss ls (spn ws)) z) = z := by
  rw [nit_lo, slv_img fa_mix (Nat.lt_of_lt_of_le h (Nat.pow_le_pow_right (by decide) tl_le)), lo_of_lt h]
theorem lin_nit (b : Nat) (ss ls ws : List Nat) : Lin (nit b ss ls (spn ws)) := (lin_lo _).comp (lin_slv _)
theorem nit_ldr {i : Nat} (h : i < (ldr ss ls (spn ws)).length) : nit b ss ls (spn ws) ((ldr ss ls (spn ws)).getD i 0) = 2 ^ (shd b ss ls (spn ws) + i) := by
  have lt : 2 ^ (shd b ss ls (spn ws) + i) < 2 ^ (shd b ss ls (spn ws) + (ldr ss ls (spn ws)).length) := Nat.pow_lt_pow_right (by decide) (by omega)
  have e : img (fla b ss ls (spn ws)) (2 ^ (shd b ss ls (spn ws) + i)) = (ldr ss ls (spn ws)).getD i 0 := by
    rw [fa_low lt, img_unit _ (by rw [tl_len]; omega)]
    have le : shd b ss ls (spn ws) ≤ (twn ss ls).length := Nat.min_le_right _ _
    rw [List.getD_eq_getElem?_getD, List.getElem?_append_right (by rw [List.length_take]; omega), List.length_take, Nat.min_eq_left le, Nat.add_sub_cancel_left, ← List.getD_eq_getElem?_getD]
  rw [← e, nit_fa lt]
theorem nit_low {i f x : Nat} (h : i < (ldr ss ls (spn ws)).length) (hf : f ≤ shd b ss ls (spn ws) + i) : lo f (nit b ss ls (spn ws) (x ^^^ (ldr ss ls (spn ws)).getD i 0)) = lo f (nit b ss ls (spn ws) x) := by
  rw [(lin_nit b ss ls ws).x, nit_ldr h, (lin_lo f).x]
  have : lo f (2 ^ (shd b ss ls (spn ws) + i)) = 0 := by
    rw [lo_mod]
    exact Nat.mod_eq_zero_of_dvd (Nat.pow_dvd_pow 2 hf)
  rw [this, Nat.xor_zero]
/-- what lies in the team has the same rest -/
theorem fa_in {z : Nat} (h : z < 2 ^ (shd b ss ls (spn ws) + (ldr ss ls (spn ws)).length)) : Spn (ss ++ ws) (img ls (img (fla b ss ls (spn ws)) z)) := by
  rw [fa_low h, ← img_comp, img_comp]
  have a := img_span (cols := (twn ss ls).take (shd b ss ls (spn ws)) ++ ldr ss ls (spn ws)) (Nat.le_refl _) (by rw [tl_len]; exact h)
  rw [List.take_length] at a
  refine ((lin_img ls).spn a).mono fun w hw => ?_
  obtain ⟨y, hy, rfl⟩ := List.mem_map.mp hw
  exact (tl_in hy).2
end
/-! ### what lanes know -/
/-- the bits of the marks that agree behind stage j -/
def fxd (b : Nat) (ss ls ws : List Nat) (j : Nat) : Nat := min (mks b ss (spn ws)).length (shd b ss ls (spn ws) + j)
def Knw (b : Nat) (ss ls ws : List Nat) (s t x e : Nat) : Prop := Ent ss ls [] x e ∨ (∃ j, j < s ∧ lo (fxd b ss ls ws (j + 1)) (muv b ss (spn ws) e) = lo (fxd b ss ls ws (j + 1)) (nit b ss ls (spn ws) x) ∧ Ent ss ls ((ldr ss ls (spn ws)).take (j + 1)) x e) ∨
  (lo (fxd b ss ls ws (s + 1)) (muv b ss (spn ws) e) = lo (fxd b ss ls ws (s + 1)) (nit b ss ls (spn ws) x) ∧ muv b ss (spn ws) e >>> fxd b ss ls ws (s + 1) < t ∧ Ent ss ls ((ldr ss ls (spn ws)).take (s + 1)) x e)
theorem ent_mono {ss ls P Q : List Nat} (h : ∀ x ∈ P, x ∈ Q) {x e : Nat} (z : Ent ss ls P x e) : Ent ss ls Q x e := Spn.sub z fun w hw => by
  rcases List.mem_append.mp hw with q | q
  · exact List.mem_append_left _ q
  · obtain ⟨y, hy, rfl⟩ := List.mem_map.mp q
    exact List.mem_append_right _ (List.mem_map.mpr ⟨y, h y hy, rfl⟩)
theorem ent_take {ss ls ld : List Nat} {i j : Nat} (h : i ≤ j) {x e : Nat} (z : Ent ss ls (ld.take i) x e) : Ent ss ls (ld.take j) x e := ent_mono (fun y hy => List.take_subset_take_left _ h hy) z
theorem ent_first {ss ls P : List Nat} {x e : Nat} (z : Ent ss ls [] x e) : Ent ss ls P x e := ent_mono (fun y hy => by cases hy) z
theorem lo_less {f g x y : Nat} (h : f ≤ g) (e : lo g x = lo g y) : lo f x = lo f y := by
  rw [lo_mod, lo_mod] at *
  rw [← Nat.mod_mod_of_dvd x (Nat.pow_dvd_pow 2 h), e, Nat.mod_mod_of_dvd y (Nat.pow_dvd_pow 2 h)]
theorem fxd_mono (b : Nat) (ss ls ws : List Nat) {i j : Nat} (h : i ≤ j) : fxd b ss ls ws i ≤ fxd b ss ls ws j := by unfold fxd; omega
theorem take_snoc {ld : List Nat} {j : Nat} (h : j < ld.length) : ld.take (j + 1) = ld.take j ++ [ld.getD j 0] := by
  rw [List.take_succ, List.getD_eq_getElem?_getD, List.getElem?_eq_getElem h]
  rfl
section
variable {b : Nat} {ss ls ws : List Nat} {s t x e : Nat}
/-- of a coset that agrees so far, and is not yet summed in this stage, a lane knows what it knew of it ahead of the stage -/
theorem kn_take (h1 : lo (fxd b ss ls ws s) (muv b ss (spn ws) e) = lo (fxd b ss ls ws s) (nit b ss ls (spn ws) x)) (h2 : t ≤ muv b ss (spn ws) e >>> fxd b ss ls ws (s + 1)) : Knw b ss ls ws s t x e ↔ Ent ss ls ((ldr ss ls (spn ws)).take s) x e := by
  constructor
  · rintro (h | ⟨j, hj, _, h⟩ | ⟨_, h, _⟩)
    · exact ent_first h
    · exact ent_take hj h
    · omega
  · intro h
    cases s with
    | zero => exact .inl h
    | succ j => exact .inr (.inl ⟨j, Nat.lt_succ_self j, h1, h⟩)
theorem kn_lt (hs : ∀ x ∈ ss, x < 2 ^ b) (hl : ∀ x ∈ ls, x < 2 ^ b) (h : Knw b ss ls ws s t x e) : e < 2 ^ b := by
  rcases h with h | ⟨_, _, _, h⟩ | ⟨_, _, h⟩ <;> exact ent_lt hs hl h
theorem kn_hi (hs : ∀ x ∈ ss, x < 2 ^ b) (hw : ∀ x ∈ ws, x < 2 ^ b) (h : Knw b ss ls ws s t x e) : hiv b ss (spn ws) e = hiv b ss (spn ws) (img ls x) := by
  have E : ∀ j, Ent ss ls ((ldr ss ls (spn ws)).take j) x e → hiv b ss (spn ws) e = hiv b ss (spn ws) (img ls x) := fun j z => by
    have a := sp_hi hs hw (d := e ^^^ img ls x) (Spn.mono z fun w hw => by
      rcases List.mem_append.mp hw with q | q
      · exact .of (List.mem_append_left _ q)
      · obtain ⟨y, hy, rfl⟩ := List.mem_map.mp q
        exact lft_bas.mp (ldr_mem (List.mem_of_mem_take hy)).2)
    rw [(lin_hiv _ _ _).x] at a
    exact xz a
  rcases h with h | ⟨j, _, _, h⟩ | ⟨_, _, h⟩
  · exact E 0 (ent_first h)
  · exact E _ h
  · exact E _ h
theorem fxd_bit {q : Nat} : fxd b ss ls ws q ≤ shd b ss ls (spn ws) + q := Nat.min_le_right _ _
/-- a round -/
theorem kn_round (hs : ∀ x ∈ ss, x < 2 ^ b) (hl : ∀ x ∈ ls, x < 2 ^ b) (hw : ∀ x ∈ ws, x < 2 ^ b) (ha : s < (ldr ss ls (spn ws)).length) {k : Nat} (k1 : lo (fxd b ss ls ws (s + 1)) k = lo (fxd b ss ls ws (s + 1)) (nit b ss ls (spn ws) x)) (k2 : k >>> fxd b ss ls ws (s + 1) = t) :
    Knw b ss ls ws s (t + 1) x e ↔ Knw b ss ls ws s t x e ∨ (Knw b ss ls ws s t (x ^^^ (ldr ss ls (spn ws)).getD s 0) e ∧ muv b ss (spn ws) e = k) := by
  have lx : lo (fxd b ss ls ws s) (nit b ss ls (spn ws) (x ^^^ (ldr ss ls (spn ws)).getD s 0)) = lo (fxd b ss ls ws s) (nit b ss ls (spn ws) x) := nit_low ha fxd_bit
  have le : fxd b ss ls ws s ≤ fxd b ss ls ws (s + 1) := fxd_mono _ _ _ _ (Nat.le_succ s)
  constructor
  · rintro (h | h | ⟨h1, h2, h3⟩)
    · exact .inl (.inl h)
    · exact .inl (.inr (.inl h))
    · by_cases q : muv b ss (spn ws) e >>> fxd b ss ls ws (s + 1) < t
      · exact .inl (.inr (.inr ⟨h1, q, h3⟩))
      · have eq : muv b ss (spn ws) e >>> fxd b ss ls ws (s + 1) = t := by omega
        have ek : muv b ss (spn ws) e = k := by
          have a := lo_hi (fxd b ss ls ws (s + 1)) (muv b ss (spn ws) e)
          have c := lo_hi (fxd b ss ls ws (s + 1)) k
          rw [← a, ← c, h1, k1, eq, k2]
        rw [take_snoc ha, ent_snoc] at h3
        have l1 := lo_less le h1
        rcases h3 with h3 | h3
        · exact .inl ((kn_take l1 (by omega)).mpr h3)
        · exact .inr ⟨(kn_take (l1.trans lx.symm) (by omega)).mpr h3, ek⟩
  · rintro (h | ⟨h, ek⟩)
    · rcases h with h | h | ⟨h1, h2, h3⟩
      · exact .inl h
      · exact .inr (.inl h)
      · exact .inr (.inr ⟨h1, by omega, h3⟩)
    · have l1 : lo (fxd b ss ls ws s) (muv b ss (spn ws) e) = lo (fxd b ss ls ws s) (nit b ss ls (spn ws) x) := by rw [ek]; exact lo_less le k1
      have z := (kn_take (l1.trans lx.symm) (by rw [ek]; omega)).mp h
      refine .inr (.inr ⟨by rw [ek]; exact k1, by rw [ek]; omega, ?_⟩)
      rw [take_snoc ha, ent_snoc]
      exact .inr z
/-- no entry of the taken coset is known to both -/
theorem kn_apart (ha : s < (ldr ss ls (spn ws)).length) {k : Nat} (k1 : lo (fxd b ss ls ws (s + 1)) k = lo (fxd b ss ls ws (s + 1)) (nit b ss ls (spn ws) x)) (k2 : k >>> fxd b ss ls ws (s + 1) = t) (h1 : Knw b ss ls ws s t x e) (h2 : Knw b ss ls ws s t (x ^^^ (ldr ss ls (spn ws)).getD s 0) e) : muv b ss (spn ws) e ≠ k := fun ek => by
  have lx : lo (fxd b ss ls ws s) (nit b ss ls (spn ws) (x ^^^ (ldr ss ls (spn ws)).getD s 0)) = lo (fxd b ss ls ws s) (nit b ss ls (spn ws) x) := nit_low ha fxd_bit
  have le : fxd b ss ls ws s ≤ fxd b ss ls ws (s + 1) := fxd_mono _ _ _ _ (Nat.le_succ s)
  have l1 : lo (fxd b ss ls ws s) (muv b ss (spn ws) e) = lo (fxd b ss ls ws s) (nit b ss ls (spn ws) x) := by rw [ek]; exact lo_less le k1
  have z1 := (kn_take l1 (by rw [ek]; omega)).mp h1
  have z2 := (kn_take (l1.trans lx.symm) (by rw [ek]; omega)).mp h2
  have F := ldr_free ss ls ws
  rw [← List.take_append_drop (s + 1) (ldr ss ls (spn ws))] at F
  have F := F.head
  rw [take_snoc ha] at F
  exact ent_apart F.out z1 z2
/-- a stage ends -/
theorem kn_stage : Knw b ss ls ws s (strd (many' b ss ls (spn ws)) s) x e ↔ Knw b ss ls ws (s + 1) 0 x e := by
  have lt : muv b ss (spn ws) e >>> fxd b ss ls ws (s + 1) < strd (many' b ss ls (spn ws)) s := by
    have m := muv_lt b ss (spn ws) e
    have sm : shd b ss ls (spn ws) ≤ (mks b ss (spn ws)).length := Nat.min_le_left _ _
    have z := hi_lt (s := fxd b ss ls ws (s + 1)) (b := (mks b ss (spn ws)).length) (Nat.min_le_left _ _) m
    unfold strd many'
    split
    · have : (mks b ss (spn ws)).length - fxd b ss ls ws (s + 1) = (mks b ss (spn ws)).length - shd b ss ls (spn ws) - 1 - s := by unfold fxd; omega
      rw [this] at z
      rw [Nat.one_shiftLeft]
      exact z
    · have : (mks b ss (spn ws)).length - fxd b ss ls ws (s + 1) = 0 := by unfold fxd; omega
      rw [this] at z
      exact z
  constructor
  · rintro (h | ⟨j, h1, h2, h3⟩ | ⟨h1, h2, h3⟩)
    · exact .inl h
    · exact .inr (.inl ⟨j, by omega, h2, h3⟩)
    · exact .inr (.inl ⟨s, Nat.lt_succ_self s, h1, h3⟩)
  · rintro (h | ⟨j, h1, h2, h3⟩ | ⟨h1, h2, h3⟩)
    · exact .inl h
    · by_cases q : j = s
      · subst q
        exact .inr (.inr ⟨h2, lt, h3⟩)
      · exact .inr (.inl ⟨j, by omega, h2, h3⟩)
    · exact absurd h2 (Nat.not_lt_zero _)
theorem kn_zero : Knw b ss ls ws 0 0 x e ↔ Ent ss ls [] x e := by
  constructor
  · rintro (h | ⟨j, h1, _⟩ | ⟨_, h2, _⟩)
    · exact h
    · exact absurd h1 (Nat.not_lt_zero _)
    · exact absurd h2 (Nat.not_lt_zero _)
  · exact .inl
end
/-! ### the rounds of a plan (k34) -/
theorem stg_succ (many : Nat) : ∀ (left stage : Nat), stg many stage (left + 1) = if (stg many stage left).2 + 1 < strd many (stg many stage left).1 then ((stg many stage left).1, (stg many stage left).2 + 1) else ((stg many stage left).1 + 1, 0) := by
  intro left
  induction left using Nat.strongRecOn with
  | ind left ih =>
    intro stage
    have p := strd_pos many stage
    by_cases h : strd many stage ≤ left
    · rw [stg_step h, stg_step (left := left + 1) (by omega), show left + 1 - strd many stage = (left - strd many stage) + 1 by omega]
      exact ih _ (by omega) _
    · rw [stg_end h]
      by_cases q : strd many stage ≤ left + 1
      · have e : strd many stage = left + 1 := by omega
        rw [stg_step q, e, Nat.sub_self]
        have p2 := strd_pos many (stage + 1)
        rw [stg_end (by omega), if_neg (by show ¬ (left + 1 < left + 1); omega)]
      · rw [stg_end q, if_pos (by show left + 1 < strd many stage; omega)]
theorem stg_full {many a : Nat} : ∀ stage, stg many stage (sumr many (stage + a) - sumr many stage) = (stage + a, 0) := by
  induction a with
  | zero =>
    intro stage
    have p := strd_pos many stage
    rw [Nat.add_zero, Nat.sub_self, stg_end (by omega)]
  | succ a ih =>
    intro stage
    have m : sumr many (stage + 1) ≤ sumr many (stage + (a + 1)) := sumr_mono (by omega)
    have d : sumr many (stage + 1) = sumr many stage + strd many stage := rfl
    rw [stg_step (by omega), show sumr many (stage + (a + 1)) - sumr many stage - strd many stage = sumr many (stage + 1 + a) - sumr many (stage + 1) by rw [show stage + (a + 1) = stage + 1 + a by omega]; omega, ih, show stage + 1 + a = stage + (a + 1) by omega]
theorem stg_due (many a : Nat) : stg many 0 (rdf many a) = (a, 0) := by
  have := stg_full (many := many) (a := a) 0
  rw [Nat.zero_add] at this
  rw [← sumr_rdf]
  exact this
/-- what lanes know ahead of a round -/
def kE (b : Nat) (ss ls ws : List Nat) (num x e : Nat) : Prop := Knw b ss ls ws (stg (many' b ss ls (spn ws)) 0 num).1 (stg (many' b ss ls (spn ws)) 0 num).2 x e
theorem mrk_at (b : Nat) (ss ls ws : List Nat) (num n : Nat) : lo (fxd b ss ls ws ((stg (many' b ss ls (spn ws)) 0 num).1 + 1)) (mrk (mks b ss (spn ws)).length (shd b ss ls (spn ws)) num n) = lo (fxd b ss ls ws ((stg (many' b ss ls (spn ws)) 0 num).1 + 1)) n ∧
    mrk (mks b ss (spn ws)).length (shd b ss ls (spn ws)) num n >>> fxd b ss ls ws ((stg (many' b ss ls (spn ws)) 0 num).1 + 1) = (stg (many' b ss ls (spn ws)) 0 num).2 := by
  have e : mrk (mks b ss (spn ws)).length (shd b ss ls (spn ws)) num n = lo (fxd b ss ls ws ((stg (many' b ss ls (spn ws)) 0 num).1 + 1)) n ^^^ (stg (many' b ss ls (spn ws)) 0 num).2 <<< fxd b ss ls ws ((stg (many' b ss ls (spn ws)) 0 num).1 + 1) := by
    rw [Nat.xor_comm, ← add_eq_xor (lo_lt _ _), Nat.add_comm]
    rfl
  rw [e]
  exact ⟨by rw [beside_lo (lo_lt _ _)], beside_hi (lo_lt _ _)⟩
section
variable {b : Nat} {ss ls ws : List Nat} (hs : ∀ x ∈ ss, x < 2 ^ b) (hl : ∀ x ∈ ls, x < 2 ^ b) (hw : ∀ x ∈ ws, x < 2 ^ b)
include hs hl hw
/-- a lane has an own entry of each mark -/
theorem own_has (x : Nat) {k : Nat} (hk : k < 2 ^ (mks b ss (spn ws)).length) : ∃ e, e < 2 ^ b ∧ Ent ss ls [] x e ∧ muv b ss (spn ws) e = k ∧ hiv b ss (spn ws) e = hiv b ss (spn ws) (img ls x) := by
  have lt : muv b ss (spn ws) (img ls x) ^^^ k < 2 ^ (mks b ss (spn ws)).length := Nat.xor_lt_two_pow (muv_lt _ _ _ _) hk
  have om := own_mk hs hw lt
  have sp : Spn ss (img (mks b ss (spn ws)) (muv b ss (spn ws) (img ls x) ^^^ k)) := by
    have a := img_span (cols := mks b ss (spn ws)) (Nat.le_refl _) lt
    rw [List.take_length] at a
    exact a.mono fun w hw => mks_sp hw
  refine ⟨img ls x ^^^ img (mks b ss (spn ws)) (muv b ss (spn ws) (img ls x) ^^^ k), Nat.xor_lt_two_pow (imf_lt hl _ _) (sp.lt hs), ?_, ?_, ?_⟩
  · unfold Ent
    rw [Nat.xor_comm (img ls x), xor_cancel_right, List.map_nil, List.append_nil]
    exact sp
  · rw [(lin_muv _ _ _).x]
    have : muv b ss (spn ws) (img (mks b ss (spn ws)) (muv b ss (spn ws) (img ls x) ^^^ k)) = muv b ss (spn ws) (img ls x) ^^^ k := by
      show lo _ (slv _ _) = _
      rw [om, lo_of_lt lt]
    rw [this, xor_cancel]
  · rw [(lin_hiv _ _ _).x, sp_hi hs hw (sp.sub fun z hz => List.mem_append_left _ hz), Nat.xor_zero]
theorem kE_zero (x e : Nat) : kE b ss ls ws 0 x e ↔ Ent ss ls [] x e := by
  have : stg (many' b ss ls (spn ws)) 0 0 = (0, 0) := stg_end (by have := strd_pos (many' b ss ls (spn ws)) 0; omega)
  unfold kE
  rw [this]
  exact kn_zero
theorem kE_lt {num x e : Nat} (h : kE b ss ls ws num x e) : e < 2 ^ b := kn_lt hs hl h
theorem ldr_hi {i : Nat} (h : i < (ldr ss ls (spn ws)).length) (x : Nat) : hiv b ss (spn ws) (img ls (x ^^^ (ldr ss ls (spn ws)).getD i 0)) = hiv b ss (spn ws) (img ls x) := by
  rw [(lin_img ls).x, (lin_hiv _ _ _).x, sp_hi hs hw (lft_bas.mp (ldr_mem (getD_mem h)).2), Nat.xor_zero]
theorem kE_succ {num : Nat} (hn : num < rdf (many' b ss ls (spn ws)) (ldr ss ls (spn ws)).length) (x e : Nat) : kE b ss ls ws (num + 1) x e ↔ plE b ss ls (spn ws) (bas ws) num (kE b ss ls ws num) x e := by
  have ha := stg_lt hn
  have m := mrk_at b ss ls ws num (nit b ss ls (spn ws) x)
  have T := tke_at hs hl hw (ls := ls) (num := num) (x := x)
  have r := kn_round hs hl hw (e := e) ha m.1 m.2
  have st : kE b ss ls ws (num + 1) x e ↔ Knw b ss ls ws (stg (many' b ss ls (spn ws)) 0 num).1 ((stg (many' b ss ls (spn ws)) 0 num).2 + 1) x e := by
    unfold kE
    rw [stg_succ]
    have l := (stg_sum (many' b ss ls (spn ws)) num 0).2
    split
    · exact Iff.rfl
    · have : (stg (many' b ss ls (spn ws)) 0 num).2 + 1 = strd (many' b ss ls (spn ws)) (stg (many' b ss ls (spn ws)) 0 num).1 := by omega
      rw [this]
      exact kn_stage.symm
  rw [st, r]
  unfold plE
  refine or_congr Iff.rfl ?_
  constructor
  · rintro ⟨h1, h2⟩
    refine ⟨h1, (co_iff hs hw (kn_lt hs hl h1) (tke_lt hs hl hw _ _)).mpr ⟨h2.trans T.1.symm, ?_⟩⟩
    rw [T.2, kn_hi hs hw h1, ldr_hi hs hl hw ha]
  · rintro ⟨h1, h2⟩
    exact ⟨h1, ((co_iff hs hw (kn_lt hs hl h1) (tke_lt hs hl hw _ _)).mp h2).1.trans T.1⟩
theorem kE_round {num : Nat} (hn : num < rdf (many' b ss ls (spn ws)) (ldr ss ls (spn ws)).length) {L : Nat} (hL : L < 2 ^ ls.length) : tkl b ss ls (spn ws) num L < 2 ^ ls.length ∧ tke b ss ls (spn ws) num L < 2 ^ b ∧
    (∃ e, kE b ss ls ws num (tkl b ss ls (spn ws) num L) e ∧ lft (bas ws) e = lft (bas ws) (tke b ss ls (spn ws) num L)) ∧ ∀ e, kE b ss ls ws num L e → kE b ss ls ws num (tkl b ss ls (spn ws) num L) e → lft (bas ws) e ≠ lft (bas ws) (tke b ss ls (spn ws) num L) := by
  have ha := stg_lt hn
  have m := mrk_at b ss ls ws num (nit b ss ls (spn ws) L)
  have T := tke_at hs hl hw (ls := ls) (num := num) (x := L)
  have tl := tke_lt hs hl hw (ls := ls) num L
  have lm := mrk_lt (m := (mks b ss (spn ws)).length) (sh := shd b ss ls (spn ws)) (num := num) (Nat.min_le_left _ _) (nit b ss ls (spn ws) L)
  refine ⟨Nat.xor_lt_two_pow hL (ldr_mem (getD_mem ha)).1, tl, ?_, fun e h1 h2 h3 => ?_⟩
  · obtain ⟨e, he, h1, h2, h3⟩ := own_has hs hl hw (tkl b ss ls (spn ws) num L) lm
    refine ⟨e, .inl h1, (co_iff hs hw he tl).mpr ⟨h2.trans T.1.symm, ?_⟩⟩
    rw [T.2, h3]
    exact ldr_hi hs hl hw ha L
  · exact kn_apart ha m.1 m.2 h1 h2 (((co_iff hs hw (kE_lt hs hl hw h1) tl).mp h3).1.trans T.1)
/-- the home of an entry -/
theorem hm_at (hb : b ≤ rk (ss ++ ls)) {e : Nat} (he : e < 2 ^ b) : hmv b ss ls (spn ws) e < 2 ^ ls.length ∧ hiv b ss (spn ws) (img ls (hmv b ss ls (spn ws) e)) = hiv b ss (spn ws) e ∧ nit b ss ls (spn ws) (hmv b ss ls (spn ws) e) = lo (shd b ss ls (spn ws) + (ldr ss ls (spn ws)).length) (muv b ss (spn ws) e) := by
  have R := red_clr (ss ++ spn ws)
  have i : Spn (ls.map (clr (spn (ss ++ spn ws)))) (clr (spn (ss ++ spn ws)) e) := (R.mem e).mpr ((in_full (ws := ss ++ ls) (fun w hw => (List.mem_append.mp hw).elim (hs w) (hl w)) hb he).sub fun w hw => by
    rcases List.mem_append.mp hw with q | q
    · exact List.mem_append_left _ (List.mem_append_left _ q)
    · exact List.mem_append_right _ q)
  have o := slv_ok i
  rw [img_map (lin_clr _), List.length_map] at o
  have o1 : hmL ss ls (spn ws) e < 2 ^ ls.length := o.1
  have o2 : clr (spn (ss ++ spn ws)) (img ls (hmL ss ls (spn ws) e)) = clr (spn (ss ++ spn ws)) e := o.2
  have o3 : Spn (ss ++ ws) (img ls (hmL ss ls (spn ws) e) ^^^ e) := by
    have z : clr (spn (ss ++ spn ws)) (img ls (hmL ss ls (spn ws) e) ^^^ e) = 0 := by rw [clr_xor, o2, Nat.xor_self]
    exact (app_spn ss ws _).mp (clr_spn_zero.mp z)
  have zl : nit b ss ls (spn ws) (hmL ss ls (spn ws) e) ^^^ hmW b ss ls (spn ws) e < 2 ^ (shd b ss ls (spn ws) + (ldr ss ls (spn ws)).length) := Nat.xor_lt_two_pow (lo_lt _ _) (lo_lt _ _)
  refine ⟨Nat.xor_lt_two_pow o1 (fa_mix.img_lt _), ?_, ?_⟩
  · unfold hmv
    rw [(lin_img ls).x, (lin_hiv _ _ _).x, sp_hi hs hw (fa_in zl), Nat.xor_zero]
    have a := sp_hi hs hw o3
    rw [(lin_hiv _ _ _).x] at a
    exact xz a
  · unfold hmv
    rw [(lin_nit b ss ls ws).x, nit_fa zl, xor_cancel]
    rfl
theorem kE_home (hb : b ≤ rk (ss ++ ls)) {e : Nat} (he : e < 2 ^ b) : hmv b ss ls (spn ws) e < 2 ^ ls.length ∧ (∀ f, kE b ss ls ws (rdf (many' b ss ls (spn ws)) (ldr ss ls (spn ws)).length) (hmv b ss ls (spn ws) e) f → f < 2 ^ b) ∧
    ∀ f, f < 2 ^ b → lft (bas ws) f = lft (bas ws) e → kE b ss ls ws (rdf (many' b ss ls (spn ws)) (ldr ss ls (spn ws)).length) (hmv b ss ls (spn ws) e) f := by
  obtain ⟨h1, h2, h3⟩ := hm_at hs hl hw hb he
  refine ⟨h1, fun f hf => kE_lt hs hl hw hf, fun f hf ef => ?_⟩
  have c := (co_iff hs hw hf he).mp ef
  unfold kE
  rw [stg_due]
  refine (kn_take ?_ (Nat.zero_le _)).mpr ?_
  · rw [h3, c.1]
    have : ∀ {p q x : Nat}, p ≤ q → lo p x = lo p (lo q x) := fun {p q x} h => by
      rw [lo_mod, lo_mod, lo_mod, Nat.mod_mod_of_dvd _ (Nat.pow_dvd_pow 2 h)]
    exact this fxd_bit
  · rw [List.take_length]
    obtain ⟨e0, k1, k2, k3, k4⟩ := own_has hs hl hw (hmv b ss ls (spn ws) e) (muv_lt b ss (spn ws) f)
    refine ent_all hs hl hw hb (List.Perm.refl _) k2 ((co_iff hs hw hf k1).mpr ⟨k3.symm, ?_⟩)
    rw [k4, h2, c.2]
end
end LaneX
set_option Elab.async false
set_option linter.all false
set_option maxRecDepth 100000
set_option maxHeartbeats 4000000
namespace LaneX
open PySem PySem.Spec PyProof.Rows L2
theorem lay_ints : ∀ ns : List Int, PyData.canLayAll0 (ns.map PyData.int) = true
  | [] => by simp [PyData.canLayAll0]
  | n :: r => by simp [PyData.canLayAll0, PyData.canLay0, lay_ints r]
theorem depth_ints : ∀ ns : List Int, PyData.depthAll (ns.map PyData.int) = 0
  | [] => by simp [PyData.depthAll]
  | n :: r => by simp [PyData.depthAll, PyData.depth, depth_ints r]
def sprD (b : Nat) (ss ls : List Nat) : PyData := .tuple [.int (b : Int), .tuple ((ss.map Int.ofNat).map .int), .tuple ((ls.map Int.ofNat).map .int)]
theorem sprD_lay (b : Nat) (ss ls : List Nat) : (sprD b ss ls).canLay0 = true := by
  simp only [sprD, PyData.canLay0, PyData.canLayAll0, lay_ints, Bool.and_self]
theorem sprD_shaped (b : Nat) (ss ls : List Nat) : SeqAt.shaped (sprD b ss ls) = true := by
  have h : (sprD b ss ls).depth ≤ 64 := by simp only [sprD, PyData.depth, PyData.depthAll, depth_ints]; decide
  show ((sprD b ss ls).canLay0 && decide ((sprD b ss ls).depth ≤ 64)) = true
  rw [sprD_lay, decide_eq_true h]; rfl
theorem sprD_dp {K : PySem.W.Frag} {H : Hp} {x s l : Addr} {b : Nat} {ss ls : List Nat} (hx : H x = some (.tup [vN b, .ref s, .ref l])) (hs : H s = some (.tup (ss.map vN))) (hl : H l = some (.tup (ls.map vN))) : Dp K H (.ref x) (sprD b ss ls) := by
  rw [vN_ints] at hs hl
  exact .tup (SqT.of hx) (.cons (.int _) (.cons (.tup (SqT.of hs) (dpAll_ints _)) (.cons (.tup (SqT.of hl) (dpAll_ints _)) .nil)))
theorem sprD_eqv (b : Nat) (ss ls : List Nat) : PyData.eqv (sprD b ss ls) (sprD b ss ls) = true := by
  unfold sprD
  simp only [PyData.eqv, PyData.eqvAll]
  rw [eqvAll_ints, eqvAll_ints]
  simp
theorem mk_SpaceR {C : Addr} {H1 : Hp} {b : Nat} {a : Addr} {ws : List Nat} {R : Addr → VK} {E : XK} (hS : Tq H1 a (ws.map vN)) (hb : ∀ x ∈ ws, blen x ≤ b) (hl : ws.length ≤ 1000000) (k : ∀ H' p, Same H1 H' → H1 p = none → SpaceAt C H' p b (spn ws) → R p .non H') :
    ∀ x dx, H1 x = none → H1 dx = none → dx ≠ x → sp_Space C (.ref x :: ([vN b, .ref a] ++ [])) (upd (upd H1 dx (.own x)) x (.ins C dx [])) (R x) E := by
  intro x dx nx ndx ne
  have nx' : upd H1 dx (.own x) x = none := (upd_ne ne.symm).trans nx
  refine ⟨x, dx, b, a, ws, rfl, upd_same, (hS.new ndx).new nx', hb, hl, fun H' hA kp => k _ _ (made_same nx ndx kp) nx hA⟩
theorem mk_SpreadR {C : Addr} {H1 : Hp} {b : Nat} {a c : Addr} {ss ls : List Nat} {R : Addr → VK} {E : XK} (hS : Tq H1 a (ss.map vN)) (hL : Tq H1 c (ls.map vN)) (wf : WfR b ss ls) (hk : b ≤ rk (ss ++ ls)) (k : ∀ H' p, Same H1 H' → H1 p = none → SpreadAt C H' p b ss ls → R p .non H') :
    ∀ x dx, H1 x = none → H1 dx = none → dx ≠ x → sp_Spread C (.ref x :: ([vN b, .ref a, .ref c] ++ [])) (upd (upd H1 dx (.own x)) x (.ins C dx [])) (R x) E := by
  intro x dx nx ndx ne
  have nx' : upd H1 dx (.own x) x = none := (upd_ne ne.symm).trans nx
  refine ⟨x, dx, b, a, c, ss, ls, rfl, upd_same, (hS.new ndx).new nx', (hL.new ndx).new nx', wf.s, wf.l, wf.sl, wf.ll, hk, fun H' hA kp => k _ _ (made_same nx ndx kp) nx hA⟩
def sp_spread_eq (CR : Addr) : Sp := fun vs H Q _ => ∃ (a c : Addr) (b : Nat) (ss ls : List Nat), vs = [.ref a, .ref c] ∧ SpreadAt CR H a b ss ls ∧ SpreadAt CR H c b ss ls ∧ ∀ H', Same H H' → Q (.bl true) H'
def sp_speq (CS : Addr) : Sp := fun vs H Q _ => ∃ (p q : Addr) (b c : Nat) (rs os : List Nat), vs = [.ref p, .ref q] ∧ SpaceAt CS H p b rs ∧ SpaceAt CS H q c os ∧ ∀ H', Same H H' → Q (.bl (decide (b = c ∧ rs = os))) H'
def sp_lawK (K : PySem.W.Frag) : Sp := fun vs H Q _ => ∃ (a : Addr) (ns : List Int), vs = [.ref a] ∧ SqL K H a (ns.map V.int) ∧ ∀ H', Q (.bl true) H'
theorem mk_PlanR {CP CS CR : Addr} {H1 : Hp} {sp so : Addr} {b : Nat} {ss ls rows : List Nat} {R : Addr → VK} {E : XK} (hR : SpreadAt CR H1 sp b ss ls) (hS : SpaceAt CS H1 so b rows) (wr : WfR b ss ls) (ws : WfS b rows) (hb : b ≤ 1000) (hl : ls.length ≤ 1000) (hs : ss.length ≤ 1000)
    (k : ∀ H' p, Same H1 H' → H1 p = none → PlanAt CP CS CR H' p b ss ls rows → R p .non H') :
    ∀ x dx, H1 x = none → H1 dx = none → dx ≠ x → sp_SumPlan CP CS CR (.ref x :: ([.ref sp, .ref so] ++ [])) (upd (upd H1 dx (.own x)) x (.ins CP dx [])) (R x) E := by
  intro x dx nx ndx ne
  have nx' : upd H1 dx (.own x) x = none := (upd_ne ne.symm).trans nx
  have s2 : Same H1 (upd (upd H1 dx (.own x)) x (.ins CP dx [])) := same_new (same_new0 ndx) nx'
  exact ⟨x, dx, sp, so, b, ss, ls, rows, rfl, upd_same, hR.same s2, hS.same s2, wr, ws, hb, hl, hs, fun H' hA kp => k _ _ (made_same nx ndx kp) nx hA⟩
section
variable {P : Program} {w : World} {K : PySem.W.Frag} {mg : Str → Option Value} {base : Heap} {f : Addr} {fd : FuncData} {CS CR CP : Addr} (T : Bt mg) (TS : SpaceT K mg CS) (TR : SpreadT K mg CR) (TU : SumT K mg CP)
include T
include TR in
theorem ok_spread_eq (F : FnP K "__eq__" "Spread.__eq__" s_Spread_eq f fd) : FnOk P w K mg base CX0 1 f fd ["self", "other"] (sp_spread_eq CR) := by
  have nd := sc_Spread_eq.nd
  refine fnok F sc_Spread_eq (fun vs H Q E h => ?_) (fun cdv A outer s H vs Q E hr h => ?_)
  · obtain ⟨a, c, b, ss, ls, rfl, _⟩ := h
    rfl
  · obtain ⟨a, c, b, ss, ls, rfl, hA, hC, k⟩ := h
    refine ⟨_, (pss_cons (ps_if (pt_not (pt_val (pe_callB call_isi (by rfl) T.isinstance (by decide +kernel) (pa_cons (pv 1) (pa_cons (pe_glob (v := .ref CR) (by rfl) TR.gl rfl) pa_nil)))))
    (pss_one (ps_ret pe_bl))
    pss_nil)
  (pss_one (ps_ret (pe_cmpR (op_eqD hr.units) (pe_tup (pa_cons (pe_fld (pv 0) rfl) (pa_cons (pe_fld (pv 0) rfl) (pa_cons (pe_fld (pv 0) rfl) pa_nil)))) (pe_tup (pa_cons (pe_fld (pv 1) rfl) (pa_cons (pe_fld (pv 1) rfl) (pa_cons (pe_fld (pv 1) rfl) pa_nil)))) (nomark _))))), ?_⟩
    obtain ⟨dx, sa, la, a1, a2, a3⟩ := hA
    obtain ⟨dy, sc, lc, c1, c2, c3⟩ := hC
    refine ⟨_, rfl, _, _, _, _, _, rfl, .own _, TR.ty c1, TR.me, _, rfl, iteF ?_⟩
    refine ⟨_, rfl, a, CR, dx, _, vN b, rfl, a1, TR.cl, TR.nb, rfl, _, rfl, a, CR, dx, _, .ref sa, rfl, a1, TR.cl, TR.ns, rfl, _, rfl, a, CR, dx, _, .ref la, rfl, a1, TR.cl, TR.nl, rfl, (by show 3 ≤ sizeLine; decide), fun x hx => ?_⟩
    have s1 : Same H (upd H x (.tup [vN b, .ref sa, .ref la])) := same_new0 hx
    refine ⟨_, rfl, c, CR, dy, _, vN b, rfl, s1 _ _ c1, TR.cl, TR.nb, rfl, _, rfl, c, CR, dy, _, .ref sc, rfl, s1 _ _ c1, TR.cl, TR.ns, rfl, _, rfl, c, CR, dy, _, .ref lc, rfl, s1 _ _ c1, TR.cl, TR.nl, rfl, (by show 3 ≤ sizeLine; decide), fun y hy => ?_⟩
    have s2 := same_new (o := .tup [vN b, .ref sc, .ref lc]) s1 hy
    refine ⟨sprD b ss ls, sprD b ss ls, sprD_dp (upd_new hy upd_same) (s2 _ _ a2) (s2 _ _ a3), sprD_dp upd_same (s2 _ _ c2) (s2 _ _ c3), sprD_shaped _ _ _, sprD_shaped _ _ _, ?_⟩
    rw [sprD_eqv]
    exact k _ s2
include TS in
theorem ok_speq (F : FnP K "__eq__" "Space.__eq__" s_Space_eq f fd) : FnOk P w K mg base CX0 1 f fd ["self", "other"] (sp_speq CS) := by
  have nd := sc_Space_eq.nd
  refine fnok F sc_Space_eq (fun vs H Q E h => ?_) (fun cdv A0 outer s H vs Q E hr h => ?_)
  · obtain ⟨p, q, b, c, rs, os, rfl, _⟩ := h
    rfl
  · obtain ⟨p, q, b, c, rs, os, rfl, ⟨dx, t, h1, h2⟩, ⟨dy, u, g1, g2⟩, k⟩ := h
    refine ⟨_, (pss_one (ps_ret (pe_and (pe_callB call_isi (by rfl) T.isinstance (by decide +kernel) (pa_cons (pv 1) (pa_cons (pe_glob (v := .ref CS) (by rfl) TS.gl rfl) pa_nil))) (pe_and (pe_cmpR op_eq (pe_fld (pv 0) rfl) (pe_fld (pv 1) rfl) (nomark _)) (pe_one (pe_cmpR (op_eqT hr.units) (pe_fld (pv 0) rfl) (pe_fld (pv 1) rfl) (nomark _))))))), ?_⟩
    refine ⟨_, rfl, _, _, _, _, _, rfl, .own _, TS.ty g1, TS.me, _, rfl, iteT ?_⟩
    refine ⟨_, rfl, p, CS, dx, _, vN b, rfl, h1, TS.cl, TS.nb, rfl, _, rfl, q, CS, dy, _, vN c, rfl, g1, TS.cl, TS.nb, rfl, rfl, _, rfl, ?_⟩
    have z := k _ (Same.refl _)
    rw [dec_nat]
    by_cases e : b = c
    · rw [decide_eq_true e]
      refine iteT ⟨_, rfl, p, CS, dx, _, .ref t, rfl, h1, TS.cl, TS.nr, rfl, _, rfl, q, CS, dy, _, .ref u, rfl, g1, TS.cl, TS.nr, rfl, t, u, rs, os, rfl, rfl, h2, g2, ?_⟩
      rw [show decide (b = c ∧ rs = os) = decide (rs = os) by simp [e]] at z
      exact z
    · rw [decide_eq_false e]
      rw [show decide (b = c ∧ rs = os) = false by simp [e]] at z
      exact iteF z
include TS TR TU
theorem ok_law (F : FnP K "law" "law" s_law f fd) (D_beginL : Dn P w K mg base 1 "_law_begin" ["_law_script"] (sp_begin K)) (D_drawL : Dn P w K mg base 1 "_law_draw" ["_law_pen", "_law_span"] sp_draw)
    (D_spread_wordsL : Dn P w K mg base 4 "_law_spread_words" ["_law_pen", "_law_bits", "_law_slots", "_law_lanes"] sp_spread_words) (D_space_wordsL : Dn P w K mg base 3 "_law_space_words" ["_law_pen", "_law_bits", "_law_slots"] sp_space_words)
    (D_basisL : Dn P w K mg base 2 "_law_basis" ["_law_words"] sp_basis) (D_begunL : Dn P w K mg base 2 "_law_begun" ["_law_slots", "_law_lanes", "_law_rows"] sp_begun) (D_sum_rounds : Dn P w K mg base 9 "sum_rounds" ["spread", "space"] (sp_sum_rounds CS CR))
    (K_Spread : Kn P w K mg base 4 CR "Spread" ["self", "bits", "slots", "lanes"] (sp_Spread CR)) (K_Space : Kn P w K mg base 4 CS "Space" ["self", "bits", "words"] (sp_Space CS)) (K_SumPlan : Kn P w K mg base 10 CP "SumPlan" ["self", "spread", "space"] (sp_SumPlan CP CS CR))
    (D_countsL : Dn P w K mg base 4 "_law_counts" ["_law_slots", "_law_lanes", "_law_words"] sp_counts) (D_rounds_dueL : Dn P w K mg base 2 "_law_rounds_due" ["_law_bits", "_law_lots", "_law_twins"] sp_rounds_due)
    (D_playedL : Dn P w K mg base 7 "_law_played" ["_law_plan", "_law_number", "_law_values", "_law_rows", "_law_bits"] (sp_played CP CS CR)) (D_homes_rightL : Dn P w K mg base 7 "_law_homes_right" ["_law_plan", "_law_values", "_law_rows", "_law_bits"] (sp_homes CP CS CR))
    (M_SumPlan_take : Mn P w K mg base 6 CP "take" ["self", "number", "lane"] (sp_take CP CS CR)) (M_Spread_eq : Mn P w K mg base 1 CR "__eq__" ["self", "other"] (sp_spread_eq CR)) (M_Space_eq : Mn P w K mg base 1 CS "__eq__" ["self", "other"] (sp_speq CS))
    (hneR : PySem.W.findIn K (.ref CR) "__ne__" = some (some (.builtin "object.__ne__"))) (hneS : PySem.W.findIn K (.ref CS) "__ne__" = some (some (.builtin "object.__ne__"))) (heqP : PySem.W.findIn K (.ref CP) "__eq__" = some (some (.builtin "object.__eq__"))) :
    FnOk P w K mg base CX0 12 f fd ["_law_script"] (sp_lawK K) := by
  have nd := sc_law.nd
  refine fnok F sc_law (fun vs H Q E h => ?_) (fun cdv A outer s H vs Q E hr h => ?_)
  · obtain ⟨a, ns, rfl, _⟩ := h
    rfl
  · obtain ⟨a, ns, rfl, hS, k⟩ := h
    refine ⟨_, (pss_cons (ps_set (i := 1) nd rfl (Or.inl rfl) (pe_d D_beginL hr (pa_cons (pv 0) pa_nil)))
  (pss_cons (ps_for PassesOwn.never rfl (pi_range1 (by rfl) T.range (pa_cons (pe_op on_add pe_int (pe_callB (call_minN rfl) (by rfl) T.min (by decide +kernel) (pa_cons pe_int (pa_cons (pe_callB call_len (by rfl) T.len PySem.boot_len (pa_cons (pv 0) pa_nil)) pa_nil)))) pa_nil)) (pg_name (i := 2) nd rfl (Or.inl rfl))
    (pss_cons (ps_set (i := 3) nd rfl (Or.inl rfl) (pe_d D_drawL hr (pa_cons (pv 1) (pa_cons pe_int pa_nil))))
    (pss_cons (ps_asg (pe_d D_spread_wordsL hr (pa_cons (pv 1) (pa_cons (pv 3) (pa_cons (pe_d D_drawL hr (pa_cons (pv 1) (pa_cons pe_int pa_nil))) (pa_cons (pe_d D_drawL hr (pa_cons (pv 1) (pa_cons pe_int pa_nil))) pa_nil))))) (pg_tup (by rfl) (pgs_cons (pg_name (i := 4) nd rfl (Or.inl rfl)) (pgs_cons (pg_name (i := 5) nd rfl (Or.inl rfl)) pgs_nil))))
    (pss_cons (ps_if (PW.pt (pw_or (pt_cmpR op_gt (pe_callB call_lenQ (by rfl) T.len PySem.boot_len (pa_cons (pv 4) pa_nil)) pe_int (nomark _)) (pw_or1 (pt_cmpR op_gt (pe_callB call_lenQ (by rfl) T.len PySem.boot_len (pa_cons (pv 5) pa_nil)) pe_int (nomark _)))))
      (pss_one ps_continue)
      pss_nil)
    (pss_cons (ps_set (i := 6) nd rfl (Or.inl rfl) (pe_d D_space_wordsL hr (pa_cons (pv 1) (pa_cons (pv 3) (pa_cons (pv 4) pa_nil)))))
    (pss_cons (ps_par3 (i := 7) (j := 8) (l := 9) (by rfl) nd rfl rfl rfl (by decide) (by decide) (by decide) rfl rfl rfl (pa_cons (pe_d D_basisL hr (pa_cons (pv 6) pa_nil)) (pa_cons (pe_k K_Spread hr (pa_cons (pv 3) (pa_cons (pv 4) (pa_cons (pv 5) pa_nil)))) (pa_cons (pe_k K_Space hr (pa_cons (pv 3) (pa_cons (pv 6) pa_nil))) pa_nil))) (by rfl))
    (pss_cons (ps_par (i := 10) (j := 11) (by rfl) nd rfl rfl (by decide) rfl rfl (pa_cons (pe_k K_SumPlan hr (pa_cons (pv 8) (pa_cons (pv 9) pa_nil))) (pa_cons (pe_d D_begunL hr (pa_cons (pv 4) (pa_cons (pv 5) (pa_cons (pv 7) pa_nil)))) pa_nil)) (by rfl))
    (pss_cons (ps_asg (pe_d D_countsL hr (pa_cons (pv 4) (pa_cons (pv 5) (pa_cons (pv 6) pa_nil)))) (pg_tup (by rfl) (pgs_cons (pg_name (i := 12) nd rfl (Or.inl rfl)) (pgs_cons (pg_name (i := 13) nd rfl (Or.inl rfl)) (pgs_cons (pg_name (i := 14) nd rfl (Or.inl rfl)) pgs_nil)))))
    (pss_cons (ps_set (i := 15) nd rfl (Or.inl rfl) (pe_d D_rounds_dueL hr (pa_cons (pv 12) (pa_cons (pv 13) (pa_cons (pv 14) pa_nil)))))
    (pss_cons (ps_if (PW.pt (pw_or (pt_cmpR op_ne (pe_fld (pv 10) rfl) (pv 15) (nomark _)) (pw_or (pt_cmpR op_ne (pe_d D_sum_rounds hr (pa_cons (pv 8) (pa_cons (pv 9) pa_nil))) (pv 15) (nomark _)) (pw_or (pt_cmpR (op_neO M_Spread_eq hneR TR.hm hr) (pe_fld (pv 10) rfl) (pv 8) (nomark _)) (pw_or1 (pt_cmpR (op_neO M_Space_eq hneS TS.hm hr) (pe_fld (pv 10) rfl) (pv 9) (nomark _)))))))
      (pss_one (ps_ret pe_bl))
      pss_nil)
    (pss_cons (ps_for PassesOwn.never rfl (pi_range1 (by rfl) T.range (pa_cons (pv 15) pa_nil)) (pg_name (i := 16) nd rfl (Or.inl rfl))
      (pss_cons (ps_set (i := 11) nd rfl (Or.inl rfl) (pe_d D_playedL hr (pa_cons (pv 10) (pa_cons (pv 16) (pa_cons (pv 11) (pa_cons (pv 7) (pa_cons (pv 3) pa_nil)))))))
      (pss_one (ps_if (pt_cmpR op_isN (pv 11) pe_non (nomark _))
        (pss_one (ps_ret pe_bl))
        pss_nil))))
    (pss_cons (ps_if (pt_not (pt_val (pe_d D_homes_rightL hr (pa_cons (pv 10) (pa_cons (pv 11) (pa_cons (pv 7) (pa_cons (pv 3) pa_nil)))))))
      (pss_one (ps_ret pe_bl))
      pss_nil)
    (pss_cons (ps_set (i := 17) nd rfl (Or.inl rfl) (pe_k K_SumPlan hr (pa_cons (pe_k K_Spread hr (pa_cons (pv 3) (pa_cons (pv 4) (pa_cons (pv 5) pa_nil)))) (pa_cons (pe_k K_Space hr (pa_cons (pv 3) (pa_cons (pv 6) pa_nil))) pa_nil))))
    (pss_cons (ps_set (i := 18) nd rfl (Or.inl rfl) (pe_d D_drawL hr (pa_cons (pv 1) (pa_cons (pe_op on_shl pe_int (pe_callB call_lenQ (by rfl) T.len PySem.boot_len (pa_cons (pv 5) pa_nil))) pa_nil))))
    (pss_cons (ps_if (PW.pt (pw_or (pt_cmpR (op_eqI heqP TU.hm hr) (pv 17) (pv 10) (nomark _)) (pw_or1 (pt_not (pt_cmpR (op_eqJ heqP TU.hm hr) (pv 10) (pv 10) (nomark _))))))
      (pss_one (ps_ret pe_bl))
      pss_nil)
    (pss_one (ps_if (PW.pt (pw_and (pt_cmpR op_gt (pv 15) pe_int (nomark _)) (pw_and1 (pt_cmpR (op_neT hr.units) (pe_m (pv 17) M_SumPlan_take hr (pa_cons (pe_op on_sub (pv 15) pe_int) (pa_cons (pv 18) pa_nil))) (pe_m (pv 10) M_SumPlan_take hr (pa_cons (pe_op on_sub (pv 15) pe_int) (pa_cons (pv 18) pa_nil))) (nomark _)))))
      (pss_one (ps_ret pe_bl))
      pss_nil)))))))))))))))))
  (pss_one (ps_ret pe_bl)))), ?_⟩
    refine ⟨_, rfl, a, ns, rfl, hS, fun H1 p lc s1 hp1 hP1 => ?_⟩
    refine ⟨_, rfl, _, (ns.map V.int).length, rfl, Or.inl ⟨_, Same.seq s1 hS, rfl⟩, 2, (ns.map V.int).length, rfl, 2, _, rfl, rfl, ?_⟩
    generalize hm : 2 + min 2 (ns.map V.int).length = m
    have hm7 : m ≤ 4 := by omega
    refine ⟨_, rfl, (by omega), (by omega), for_range (n := m) (fun i σ H2 => ∃ v2 v3 v4 v5 v6 v7 v8 v9 v10 v11 v12 v13 v14 v15 v16 v17 v18, σ = [some (.ref a), some (.ref p), v2, v3, v4, v5, v6, v7, v8, v9, v10, v11, v12, v13, v14, v15, v16, v17, v18] ∧ Pn H2 p lc (i * 7030000)) ⟨none, none, none, none, none, none, none, none, none, none, none, none, none, none, none, none, none, rfl, hP1.mono (by omega)⟩ ?_ ?_⟩
    · rintro i σ H2 hi ⟨v2, v3, v4, v5, v6, v7, v8, v9, v10, v11, v12, v13, v14, v15, v16, v17, v18, rfl, hP2⟩
      rw [show (0 : Int) + (i : Int) = (i : Int) by omega]
      refine ⟨_, rfl, p, lc, i * 7030000, 6, rfl, hP2, (by decide), (by decide), (by show i * 7030000 + 1 ≤ 1099511627776; omega), fun H3 b hb hP3 kp3 => ?_⟩
      refine ⟨_, rfl, _, rfl, _, rfl, p, lc, i * 7030000 + 1, 4, rfl, hP3, (by decide), (by decide), (by show i * 7030000 + 1 + 1 ≤ 1099511627776; omega), fun H4 m4 hm4 hP4 kp4 => ?_⟩
      refine ⟨_, rfl, p, lc, i * 7030000 + 1 + 1, 4, rfl, hP4, (by decide), (by decide), (by show i * 7030000 + 1 + 1 + 1 ≤ 1099511627776; omega), fun H5 n5 hn5 hP5 kp5 => ?_⟩
      refine ⟨p, lc, i * 7030000 + 1 + 1 + 1, b, m4, n5, rfl, hP5, (by omega), (by omega), (by omega), (by show i * 7030000 + 1 + 1 + 1 + 7000000 ≤ 1099511627776; omega), fun H6 q sa la ss ls lss lls hss hls hrk hq6 ha6 hc6 hP6 kp6 => ?_⟩
      refine ⟨q, _, rfl, SqT.of hq6, rfl, _, _, rfl, _, _, rfl, rfl, ?_⟩
      refine ⟨_, rfl, sa, _, rfl, .inl ha6, _, _, rfl, rfl, _, rfl, br (fun _ => ⟨_, _, _, _, _, _, _, _, _, _, _, _, _, _, _, _, _, rfl, hP6.mono (by omega)⟩) (fun z1 => ?_)⟩
      refine ⟨_, rfl, la, _, rfl, .inl hc6, _, _, rfl, rfl, _, rfl, br (fun _ => ⟨_, _, _, _, _, _, _, _, _, _, _, _, _, _, _, _, _, rfl, hP6.mono (by omega)⟩) (fun z2 => ?_)⟩
      have l1 : ss.length ≤ 4 := by have := of_decide_eq_false z1; rw [List.length_map] at this; omega
      have l2 : ls.length ≤ 5 := by have := of_decide_eq_false z2; rw [List.length_map] at this; omega
      have b5 : (2 : Nat) ^ b ≤ 2 ^ 5 := Nat.pow_le_pow_right (by decide) (by omega)
      refine ⟨_, rfl, _, rfl, _, rfl, p, lc, sa, i * 7030000 + 1 + 1 + 1 + 7000000, b, ss, rfl, hP6, ha6, (by omega), (by omega), hss, (by show i * 7030000 + 1 + 1 + 1 + 7000000 + 20000 ≤ 1099511627776; omega), fun H7 wa ws lws hws hw7 hP7 kp7 => ?_⟩
      have ha7 := kp7 _ _ ha6 rfl
      have hc7 := kp7 _ _ hc6 rfl
      refine ⟨_, rfl, wa, ws, rfl, .inl hw7, (by omega), fun H8 ra s8 hra8 hr8 => ?_⟩
      have wf : WfR b ss ls := ⟨by omega, fun x hx => blen_le.mpr (hss x hx), fun x hx => blen_le.mpr (hls x hx), by omega, by omega⟩
      have hwb : ∀ x ∈ ws, blen x ≤ b := fun x hx => blen_le.mpr (hws x hx)
      have wfs : WfS b (spn ws) := WfS.of (by omega) hwb
      have hnz : ∀ x ∈ bas ws, x ≠ 0 := (bas_lws ws).nz
      refine ⟨_, rfl, _, rfl, _, rfl, ?_⟩
      refine mk_SpreadR (.inl (s8 _ _ ha7)) (.inl (s8 _ _ hc7)) wf hrk (fun H9 sr s9 hsr hR9 => ⟨rfl, ?_⟩)
      have s79 := s8.trans s9
      refine ⟨_, rfl, _, rfl, ?_⟩
      refine mk_SpaceR (.inl (s79 _ _ hw7)) hwb (by omega) (fun H10 so s10 hso hS10 => ⟨rfl, ?_⟩)
      have s710 := s79.trans s10
      have hR10 := hR9.same s10
      refine ⟨_, _, _, rfl, _, rfl, _, rfl, ?_⟩
      refine mk_PlanR hR10 hS10 wf wfs (by omega) (by omega) (by omega) (fun H11 pl s11 hpl hA11 => ⟨rfl, ?_⟩)
      have s711 := s710.trans s11
      have r11 : H11 ra = some (.lst ((bas ws).map vN)) := s11 _ _ (s10 _ _ (s9 _ _ hr8))
      refine ⟨_, rfl, _, rfl, _, rfl, sa, la, ra, ss, ls, bas ws, rfl, s711 _ _ ha7, s711 _ _ hc7, r11, l1, l2, (fun x hx => by have := hss x hx; omega), (fun x hx => by have := hls x hx; omega), (fun x hx => ⟨by have := bas_lt hws x hx; omega, hnz x hx⟩), fun H12 g s12 hg hL12 => ⟨_, _, rfl, ?_⟩⟩
      have s712 := s711.trans s12
      have hA12 := hA11.same s12
      refine ⟨_, rfl, _, rfl, _, rfl, sa, la, wa, ss, ls, ws, rfl, s712 _ _ ha7, s712 _ _ hc7, s712 _ _ hw7, (by omega), (by omega), (by omega), fun H13 q13 s13 h13 => ?_⟩
      refine ⟨q13, _, rfl, SqT.of h13, rfl, _, _, rfl, _, _, rfl, _, _, rfl, rfl, ?_⟩
      have s713 := s712.trans s13
      have e1 : (tag ss ls).length = (tgd (ls.map (lft (bas ss)))).2.length := rfl
      have r1 := rk_app ss ws
      have r2 := rk_left ss ws
      have r3 := rk_right ss ws
      have r4 := rk_len ws
      have r5 := rk_len ss
      have r6 := tsz ss ls
      rw [← e1] at r6
      have r7 := rk_left ss ls
      have es : smr b ss ls (spn ws) = rdf ((rk (ss ++ ws) - rk ws) - (tag ss ls).length) (rk (ss ++ ws) - rk ss) := smr_eq hss hls hws hrk
      have n400 : smr b ss ls (spn ws) < 400 := by
        rw [es]
        exact rdf_small (by omega) (by omega)
      refine ⟨_, rfl, _, rfl, _, rfl, rk (ss ++ ws) - rk ws, rk (ss ++ ws) - rk ss, (tag ss ls).length, rfl, (by omega), (by omega), (by omega), fewest_ok (by omega), ?_⟩
      rw [← es]
      have hA13 := hA12.same s13
      have hR13 := hR10.same ((s11.trans s12).trans s13)
      have hS13 := hS10.same ((s11.trans s12).trans s13)
      obtain ⟨dx, sp', so', mk, ld, la', le', pk, psp, pso, _⟩ := hA13.at_
      refine ⟨_, rfl, pl, CP, dx, _, vN (smr b ss ls (spn ws)), rfl, pk, TU.cl, TU.nr, rfl, _, rfl, rfl, _, rfl, br (fun z => absurd z (by simp)) (fun _ => ?_)⟩
      refine ⟨_, rfl, _, rfl, sr, so, b, ss, ls, spn ws, rfl, hR13, hS13, wf, wfs, fun H14 s14 => ?_⟩
      refine ⟨_, rfl, rfl, _, rfl, br (fun z => absurd z (by simp)) (fun _ => ?_)⟩
      have pk14 := s14 _ _ pk
      have psp14 := psp.same s14
      have pso14 := pso.same s14
      have hR14 := hR13.same s14
      have hS14 := hS13.same s14
      obtain ⟨da, _, _, a1, a2⟩ := id psp14
      obtain ⟨dc, _, _, c1, c2⟩ := id hR14
      refine ⟨_, rfl, pl, CP, dx, _, .ref sp', rfl, pk14, TU.cl, TU.np, rfl, _, rfl, sp', sr, da, dc, _, _, rfl, rfl, a1, c1, sp', sr, b, ss, ls, rfl, psp14, hR14, fun H15 s15 => ⟨true, rfl, _, rfl, iteF ?_⟩⟩
      have pk15 := s15 _ _ pk14
      have pso15 := pso14.same s15
      have hS15 := hS14.same s15
      obtain ⟨db, _, a3, a4⟩ := id pso15
      obtain ⟨de, _, c3, c4⟩ := id hS15
      refine ⟨_, rfl, pl, CP, dx, _, .ref so', rfl, pk15, TU.cl, TU.ne, rfl, _, rfl, so', so, db, de, _, _, rfl, rfl, a3, c3, so', so, b, b, spn ws, spn ws, rfl, pso15, hS15, fun H16 s16 => ⟨_, rfl, _, rfl, ?_⟩⟩
      rw [show decide (b = b ∧ spn ws = spn ws) = true by simp]
      refine iteF ?_
      have s1316 := (s14.trans s15).trans s16
      have hA16 := hA13.same s1316
      have hL16 := (hL12.same s13).same s1316
      have r16 := s1316 _ _ (s13 _ _ (s12 _ _ r11))
      have s716 := s713.trans s1316
      refine ⟨_, rfl, _, rfl, (by omega), (by omega), for_range (n := smr b ss ls (spn ws)) (fun j σ H2 => ∃ v16 vq, σ = [some (.ref a), some (.ref p), some (vN i), some (vN b), some (.ref sa), some (.ref la), some (.ref wa), some (.ref ra), some (.ref sr), some (.ref so), some (.ref pl), some (.ref vq), some (vN (rk (ss ++ ws) - rk ws)), some (vN (rk (ss ++ ws) - rk ss)), some (vN (tag ss ls).length), some (vN (smr b ss ls (spn ws))), v16, v17, v18] ∧ Same H16 H2 ∧ Lanes H2 vq (bas ws) (kE b ss ls ws j) (2 ^ ls.length)) ⟨v16, g, rfl, Same.refl _, hL16.congr fun L e _ => (kE_zero hss hls hws L e).symm⟩ ?_ ?_⟩
      · rintro j σ H17 hj ⟨v16, vq, rfl, s17, hLq⟩
        rw [show (0 : Int) + (j : Int) = (j : Int) by omega]
        have hj' := hj
        rw [smr_many hss] at hj'
        refine ⟨_, rfl, _, rfl, _, rfl, _, rfl, _, rfl, pl, vq, ra, b, ss, ls, spn ws, bas ws, j, _, rfl, hA16.same s17, hj, hLq, s17 _ _ r16, hnz, l2, (by omega), (fun L e _ z => kE_lt hss hls hws z), (fun L hL => kE_round hss hls hws hj' hL), fun H18 q' s18 hq' hL18 => ?_⟩
        refine ⟨_, rfl, rfl, _, rfl, iteF ?_⟩
        exact ⟨_, q', rfl, s17.trans s18, hL18.congr fun L e _ => (kE_succ hss hls hws hj' L e).symm⟩
      · rintro σ H17 ⟨v16, vq, rfl, s17, hLq⟩
        rw [smr_many hss] at hLq
        have hA17 := hA16.same s17
        refine ⟨_, rfl, _, rfl, _, rfl, _, rfl, pl, vq, ra, b, ss, ls, spn ws, bas ws, _, rfl, hA17, hrk, hLq, s17 _ _ r16, hnz, l2, (by omega), (fun e he => kE_home hss hls hws hrk he), fun H18 s18 => ?_⟩
        refine ⟨_, rfl, iteF ?_⟩
        have s718 := (s716.trans s17).trans s18
        have hA18 := hA17.same s18
        refine ⟨_, rfl, _, rfl, _, rfl, ?_⟩
        refine mk_SpreadR (.inl (s718 _ _ ha7)) (.inl (s718 _ _ hc7)) wf hrk (fun H19 sr2 s19 hsr2 hR19 => ⟨rfl, ?_⟩)
        have s719 := s718.trans s19
        refine ⟨_, rfl, _, rfl, ?_⟩
        refine mk_SpaceR (.inl (s719 _ _ hw7)) hwb (by omega) (fun H20 so2 s20 hso2 hS20 => ⟨rfl, ?_⟩)
        have s720 := s719.trans s20
        have hA20 := (hA18.same s19).same s20
        refine mk_PlanR (hR19.same s20) hS20 wf wfs (by omega) (by omega) (by omega) (fun H21 pn s21 hpn hA21 => ⟨rfl, ?_⟩)
        have s721 := s720.trans s21
        have hA21' := hA20.same s21
        have hP21 := hP7.same s721
        refine ⟨_, rfl, _, rfl, la, _, rfl, .inl (s721 _ _ hc7), 1, (ls.map vN).length, rfl, rfl, shl_ok1 (by rw [blen_one]; decide) (by rw [List.length_map]; omega), ?_⟩
        rw [List.length_map]
        have n32 : 1 <<< ls.length ≤ 32 := by
          rw [Nat.one_shiftLeft]
          exact Nat.le_trans (Nat.pow_le_pow_right (n := 2) (by decide) l2) (by decide)
        refine ⟨p, lc, i * 7030000 + 1 + 1 + 1 + 7000000 + 20000, 1 <<< ls.length, rfl, hP21, (by rw [Nat.one_shiftLeft]; exact Nat.two_pow_pos _), (by omega), (by show i * 7030000 + 1 + 1 + 1 + 7000000 + 20000 + 1 ≤ 1099511627776; omega), fun H22 lv hlv hP22 kp22 => ?_⟩
        have hA22 := hA21'.kp kp22
        have hB22 := hA21.kp kp22
        obtain ⟨d1, _, _, _, _, _, _, i1, _⟩ := hA22.at_
        obtain ⟨d2, _, _, _, _, _, _, i2, _⟩ := hB22.at_
        have npn : pn ≠ pl := by
          obtain ⟨d0, _, _, _, _, _, _, i0, _⟩ := hA20.at_
          exact (ne_of_none i0 hpn).symm
        refine ⟨_, rfl, _, rfl, pn, pl, d2, d1, _, _, rfl, rfl, npn, i2, i1, _, rfl, iteF ?_⟩
        refine ⟨_, rfl, _, rfl, pl, d1, _, rfl, rfl, i1, _, rfl, iteF ?_⟩
        refine ⟨_, rfl, _, _, rfl, rfl, _, rfl, br (fun z => ?_) (fun _ => ⟨_, _, _, _, _, _, _, _, _, _, _, _, _, _, _, _, _, rfl, hP22.mono (by omega)⟩)⟩
        have z0 : 0 < smr b ss ls (spn ws) := by have := of_decide_eq_true z; omega
        have hlv' : lv < 2 ^ ls.length := by rwa [Nat.one_shiftLeft] at hlv
        refine ⟨_, rfl, pn, d2, _, rfl, i2, rfl, _, rfl, _, 1, rfl, rfl, z0, _, rfl, pn, b, ss, ls, spn ws, smr b ss ls (spn ws) - 1, lv, rfl, hB22, hlv', (by omega), fun H23 t1 s23 ht1 et1 => ?_⟩
        refine ⟨_, rfl, pl, d1, _, rfl, s23 _ _ i1, rfl, _, rfl, _, 1, rfl, rfl, z0, _, rfl, pl, b, ss, ls, spn ws, smr b ss ls (spn ws) - 1, lv, rfl, hA22.same s23, hlv', (by omega), fun H24 t2 s24 ht2 et2 => ?_⟩
        refine ⟨t1, t2, [tkl b ss ls (spn ws) (smr b ss ls (spn ws) - 1) lv, tke b ss ls (spn ws) (smr b ss ls (spn ws) - 1) lv], [tkl b ss ls (spn ws) (smr b ss ls (spn ws) - 1) lv, tke b ss ls (spn ws) (smr b ss ls (spn ws) - 1) lv], rfl, rfl, s24 _ _ et1, et2, _, rfl, ?_⟩
        rw [decide_eq_true rfl]
        exact iteF ⟨_, _, _, _, _, _, _, _, _, _, _, _, _, _, _, _, _, rfl, (hP22.same (s23.trans s24)).mono (by omega)⟩
    · rintro σ H2 ⟨v2, v3, v4, v5, v6, v7, v8, v9, v10, v11, v12, v13, v14, v15, v16, v17, v18, rfl, hP2⟩
      exact k _
end
end LaneX
set_option Elab.async false
set_option linter.all false
set_option maxRecDepth 100000
set_option maxHeartbeats 0
namespace LaneX
open PySem PySem.Spec PyProof.Rows L2
theorem exC_ok {K : PySem.W.Frag} {C : Addr} (c : Cls K C) (h : exC K C = true) : ObjT K C ∧ PySem.W.selfFirst K C = true := by
  obtain ⟨h1, h⟩ := He.ba h
  obtain ⟨h2, h⟩ := He.ba h
  obtain ⟨h3, h⟩ := He.ba h
  obtain ⟨h4, h⟩ := He.ba h
  obtain ⟨h5, h6⟩ := He.ba h
  exact ⟨⟨c, He.eqO_ok h1, He.eqO_ok h5, of_decide_eq_true h2, of_decide_eq_true h3, of_decide_eq_true h4⟩, h6⟩
theorem facts {P : Program} {w : World} {K : PySem.W.Frag} {h : Heap} {mg : Str → Option Value} {f : Addr} (X : K.In h) (G : h.Ns mainGlobals mg) (hfa : mg ("law" : Str) = some (.ref f)) (c : He.SaysD fa fn K) (ex : exB K = true) :
    ∃ fd : FuncData, (∀ (s : Shared) (v : Value), BindsTo s fd ⟨[v], []⟩ [("_law_script", v)]) ∧ ∀ base : Heap, K.In base → base.Ns mainGlobals mg → FnOk P w K mg base CX0 12 f fd ["_law_script"] (sp_lawK K) := by
  obtain ⟨fd_is_whole, F_is_whole⟩ := c.def_ 0 (d := d_is_whole) rfl
  obtain ⟨fd_need_whole, F_need_whole⟩ := c.def_ 1 (d := d_need_whole) rfl
  obtain ⟨fd_need_items, F_need_items⟩ := c.def_ 2 (d := d_need_items) rfl
  obtain ⟨fd_need_word, F_need_word⟩ := c.def_ 3 (d := d_need_word) rfl
  obtain ⟨fd_need_words, F_need_words⟩ := c.def_ 4 (d := d_need_words) rfl
  obtain ⟨fd_cleared, F_cleared⟩ := c.def_ 5 (d := d_cleared) rfl
  obtain ⟨fd_grown, F_grown⟩ := c.def_ 6 (d := d_grown) rfl
  obtain ⟨fd_spanned, F_spanned⟩ := c.def_ 7 (d := d_spanned) rfl
  obtain ⟨fd_paired, F_paired⟩ := c.def_ 8 (d := d_paired) rfl
  obtain ⟨fd_kernel_rows, F_kernel_rows⟩ := c.def_ 9 (d := d_kernel_rows) rfl
  obtain ⟨fd_met, F_met⟩ := c.def_ 10 (d := d_met) rfl
  obtain ⟨fd_Space_init, F_Space_init⟩ := c.def_ 11 (d := d_Space_init) rfl
  obtain ⟨fd_Spread_init, F_Spread_init⟩ := c.def_ 12 (d := d_Spread_init) rfl
  obtain ⟨fd_need_space, F_need_space⟩ := c.def_ 13 (d := d_need_space) rfl
  obtain ⟨fd_any_spread, F_any_spread⟩ := c.def_ 14 (d := d_any_spread) rfl
  obtain ⟨fd_every, F_every⟩ := c.def_ 15 (d := d_every) rfl
  obtain ⟨fd_Space_and, F_Space_and⟩ := c.def_ 16 (d := d_Space_and) rfl
  obtain ⟨fd_Space_completing, F_Space_completing⟩ := c.def_ 17 (d := d_Space_completing) rfl
  obtain ⟨fd_Spread_slot_space, F_Spread_slot_space⟩ := c.def_ 18 (d := d_Spread_slot_space) rfl
  obtain ⟨fd_Spread_twins, F_Spread_twins⟩ := c.def_ 19 (d := d_Spread_twins) rfl
  obtain ⟨fd_need_pair, F_need_pair⟩ := c.def_ 20 (d := d_need_pair) rfl
  obtain ⟨fd_partner_rows, F_partner_rows⟩ := c.def_ 21 (d := d_partner_rows) rfl
  obtain ⟨fd_partners, F_partners⟩ := c.def_ 22 (d := d_partners) rfl
  obtain ⟨fd_leaders, F_leaders⟩ := c.def_ 23 (d := d_leaders) rfl
  obtain ⟨fd_kept_bits, F_kept_bits⟩ := c.def_ 24 (d := d_kept_bits) rfl
  obtain ⟨fd_rounds_for, F_rounds_for⟩ := c.def_ 25 (d := d_rounds_for) rfl
  obtain ⟨fd_sum_rounds, F_sum_rounds⟩ := c.def_ 26 (d := d_sum_rounds) rfl
  obtain ⟨fd_drawL, F_drawL⟩ := c.def_ 27 (d := d_drawL) rfl
  obtain ⟨fd_beginL, F_beginL⟩ := c.def_ 28 (d := d_beginL) rfl
  obtain ⟨fd_pickL, F_pickL⟩ := c.def_ 29 (d := d_pickL) rfl
  obtain ⟨fd_wordL, F_wordL⟩ := c.def_ 30 (d := d_wordL) rfl
  obtain ⟨fd_mixedL, F_mixedL⟩ := c.def_ 31 (d := d_mixedL) rfl
  obtain ⟨fd_leftL, F_leftL⟩ := c.def_ 32 (d := d_leftL) rfl
  obtain ⟨fd_basisL, F_basisL⟩ := c.def_ 33 (d := d_basisL) rfl
  obtain ⟨fd_sizeL, F_sizeL⟩ := c.def_ 34 (d := d_sizeL) rfl
  obtain ⟨fd_imageL, F_imageL⟩ := c.def_ 35 (d := d_imageL) rfl
  obtain ⟨fd_taggedL, F_taggedL⟩ := c.def_ 36 (d := d_taggedL) rfl
  obtain ⟨fd_kernelL, F_kernelL⟩ := c.def_ 37 (d := d_kernelL) rfl
  obtain ⟨fd_is_wholeL, F_is_wholeL⟩ := c.def_ 38 (d := d_is_wholeL) rfl
  obtain ⟨fd_is_wordL, F_is_wordL⟩ := c.def_ 39 (d := d_is_wordL) rfl
  obtain ⟨fd_words_forL, F_words_forL⟩ := c.def_ 40 (d := d_words_forL) rfl
  obtain ⟨fd_spread_wordsL, F_spread_wordsL⟩ := c.def_ 41 (d := d_spread_wordsL) rfl
  obtain ⟨fd_countsL, F_countsL⟩ := c.def_ 42 (d := d_countsL) rfl
  obtain ⟨fd_fewestL, F_fewestL⟩ := c.def_ 43 (d := d_fewestL) rfl
  obtain ⟨fd_rounds_dueL, F_rounds_dueL⟩ := c.def_ 44 (d := d_rounds_dueL) rfl
  obtain ⟨fd_space_wordsL, F_space_wordsL⟩ := c.def_ 45 (d := d_space_wordsL) rfl
  obtain ⟨fd_begunL, F_begunL⟩ := c.def_ 46 (d := d_begunL) rfl
  obtain ⟨fd_ones, F_ones⟩ := c.def_ 47 (d := d_ones) rfl
  obtain ⟨fd_image_of, F_image_of⟩ := c.def_ 48 (d := d_image_of) rfl
  obtain ⟨fd_solved, F_solved⟩ := c.def_ 49 (d := d_solved) rfl
  obtain ⟨fd_SumPlan_own_words, F_SumPlan_own_words⟩ := c.def_ 50 (d := d_SumPlan_own_words) rfl
  obtain ⟨fd_SumPlan_told_by, F_SumPlan_told_by⟩ := c.def_ 51 (d := d_SumPlan_told_by) rfl
  obtain ⟨fd_SumPlan_init, F_SumPlan_init⟩ := c.def_ 52 (d := d_SumPlan_init) rfl
  obtain ⟨fd_stage_rounds, F_stage_rounds⟩ := c.def_ 53 (d := d_stage_rounds) rfl
  obtain ⟨fd_SumPlan_rest_of, F_SumPlan_rest_of⟩ := c.def_ 54 (d := d_SumPlan_rest_of) rfl
  obtain ⟨fd_SumPlan_number_in_team, F_SumPlan_number_in_team⟩ := c.def_ 55 (d := d_SumPlan_number_in_team) rfl
  obtain ⟨fd_SumPlan_take, F_SumPlan_take⟩ := c.def_ 56 (d := d_SumPlan_take) rfl
  obtain ⟨fd_SumPlan_home, F_SumPlan_home⟩ := c.def_ 57 (d := d_SumPlan_home) rfl
  obtain ⟨fd_joinedL, F_joinedL⟩ := c.def_ 58 (d := d_joinedL) rfl
  obtain ⟨fd_playedL, F_playedL⟩ := c.def_ 59 (d := d_playedL) rfl
  obtain ⟨fd_homes_rightL, F_homes_rightL⟩ := c.def_ 60 (d := d_homes_rightL) rfl
  obtain ⟨fd_Spread_eq, F_Spread_eq⟩ := c.def_ 61 (d := d_Spread_eq) rfl
  obtain ⟨fd_Space_eq, F_Space_eq⟩ := c.def_ 62 (d := d_Space_eq) rfl
  obtain ⟨fd_law, F_law⟩ := c.def_ 63 (d := d_law) rfl
  have T : Bt mg := ⟨He.free_ok X G (c.fact 0 (f := .free "abs") rfl), He.free_ok X G (c.fact 1 (f := .free "any") rfl), He.free_ok X G (c.fact 2 (f := .free "bool") rfl), He.free_ok X G (c.fact 3 (f := .free "dict") rfl), He.free_ok X G (c.fact 4 (f := .free "int") rfl), He.free_ok X G (c.fact 5 (f := .free "isinstance") rfl), He.free_ok X G (c.fact 6 (f := .free "len") rfl), He.free_ok X G (c.fact 7 (f := .free "list") rfl), He.free_ok X G (c.fact 8 (f := .free "max") rfl), He.free_ok X G (c.fact 9 (f := .free "min") rfl), He.free_ok X G (c.fact 10 (f := .free "range") rfl), He.free_ok X G (c.fact 11 (f := .free "set") rfl), He.free_ok X G (c.fact 12 (f := .free "sorted") rfl), He.free_ok X G (c.fact 13 (f := .free "sum") rfl), He.free_ok X G (c.fact 14 (f := .free "tuple") rfl)⟩
  have hneS := He.eqO_ok ((He.ba (He.ba (He.ba ex).1).1).2)
  have hneR := He.eqO_ok ((He.ba (He.ba ex).1).2)
  have heqP := He.eqO_ok ((He.ba ex).2)
  have TSo := exC_ok (He.cls_ok (c.fact 16 (f := .cls "Space") rfl)) ((He.ba (He.ba (He.ba (He.ba (He.ba ex).1).1).1).1).1)
  have TS : SpaceT K mg (He.ga K "Space") := { TSo.1 with gl := He.glo_ok X G (c.fact 15 (f := .glo "Space") rfl), nb := He.noat_ok (c.fact 18 (f := .noat "Space" "bits") rfl), nr := He.noat_ok (c.fact 19 (f := .noat "Space" "rows") rfl), nd := He.noat_ok (c.fact 20 (f := .noat "Space" "dimension") rfl) }
  have TRo := exC_ok (He.cls_ok (c.fact 22 (f := .cls "Spread") rfl)) ((He.ba (He.ba (He.ba (He.ba (He.ba ex).1).1).1).1).2)
  have TR : SpreadT K mg (He.ga K "Spread") := { TRo.1 with gl := He.glo_ok X G (c.fact 21 (f := .glo "Spread") rfl), nb := He.noat_ok (c.fact 24 (f := .noat "Spread" "bits") rfl), ns := He.noat_ok (c.fact 25 (f := .noat "Spread" "slots") rfl), nl := He.noat_ok (c.fact 26 (f := .noat "Spread" "lanes") rfl) }
  have TUo := exC_ok (He.cls_ok (c.fact 28 (f := .cls "SumPlan") rfl)) ((He.ba (He.ba (He.ba (He.ba ex).1).1).1).2)
  have TU : SumT K mg (He.ga K "SumPlan") := { TUo.1 with gl := He.glo_ok X G (c.fact 27 (f := .glo "SumPlan") rfl), np := He.noat_ok (c.fact 30 (f := .noat "SumPlan" "spread") rfl), ne := He.noat_ok (c.fact 31 (f := .noat "SumPlan" "space") rfl), nr := He.noat_ok (c.fact 32 (f := .noat "SumPlan" "rounds") rfl), nm := He.noat_ok (c.fact 33 (f := .noat "SumPlan" "own_marks") rfl), nl := He.noat_ok (c.fact 34 (f := .noat "SumPlan" "own_leaders") rfl), nh := He.noat_ok (c.fact 35 (f := .noat "SumPlan" "own_shared") rfl), na := He.noat_ok (c.fact 36 (f := .noat "SumPlan" "own_lanes") rfl), nt := He.noat_ok (c.fact 37 (f := .noat "SumPlan" "own_entries") rfl) }
  have e := hfa.symm.trans (He.glo_ok X G (c.fact 98 (f := .glo "law") rfl))
  cases e
  have b := FunD.bindsA (ps := ["_law_script"]) F_law fun _ _ _ _ _ _ us hl => match us, hl with | [_], _ => rfl
  refine ⟨fd_law, fun s v => b s [v] rfl, fun base _ _ => ?_⟩
  have D_is_whole : Dn P w K mg base 1 "is_whole" ["value"] sp_is_whole := ⟨_, fd_is_whole, He.glo_ok X G (c.fact 38 (f := .glo "is_whole") rfl), F_is_whole.kp, (F_is_whole.bindsN fun _ _ _ _ _ _ us hl => match us, hl with | [_], _ => rfl), ok_is_whole T F_is_whole⟩
  have D_need_whole : Dn P w K mg base 2 "need_whole" ["value"] sp_need_whole := ⟨_, fd_need_whole, He.glo_ok X G (c.fact 39 (f := .glo "need_whole") rfl), F_need_whole.kp, (F_need_whole.bindsN fun _ _ _ _ _ _ us hl => match us, hl with | [_], _ => rfl), ok_need_whole T F_need_whole D_is_whole⟩
  have D_need_items : Dn P w K mg base 1 "need_items" ["value"] sp_need_items := ⟨_, fd_need_items, He.glo_ok X G (c.fact 40 (f := .glo "need_items") rfl), F_need_items.kp, (F_need_items.bindsN fun _ _ _ _ _ _ us hl => match us, hl with | [_], _ => rfl), ok_need_items T F_need_items⟩
  have D_need_word : Dn P w K mg base 2 "need_word" ["value", "bits"] sp_need_word := ⟨_, fd_need_word, He.glo_ok X G (c.fact 41 (f := .glo "need_word") rfl), F_need_word.kp, (F_need_word.bindsN fun _ _ _ _ _ _ us hl => match us, hl with | [_, _], _ => rfl), ok_need_word T F_need_word D_is_whole⟩
  have D_need_words : Dn P w K mg base 3 "need_words" ["values", "bits"] sp_need_words := ⟨_, fd_need_words, He.glo_ok X G (c.fact 42 (f := .glo "need_words") rfl), F_need_words.kp, (F_need_words.bindsN fun _ _ _ _ _ _ us hl => match us, hl with | [_, _], _ => rfl), ok_need_words T F_need_words D_need_items D_need_word⟩
  have D_cleared : Dn P w K mg base 1 "cleared" ["rows", "word"] sp_cleared := ⟨_, fd_cleared, He.glo_ok X G (c.fact 43 (f := .glo "cleared") rfl), F_cleared.kp, (F_cleared.bindsN fun _ _ _ _ _ _ us hl => match us, hl with | [_, _], _ => rfl), ok_cleared T F_cleared⟩
  have D_grown : Dn P w K mg base 2 "grown" ["rows", "word"] sp_grown := ⟨_, fd_grown, He.glo_ok X G (c.fact 44 (f := .glo "grown") rfl), F_grown.kp, (F_grown.bindsN fun _ _ _ _ _ _ us hl => match us, hl with | [_, _], _ => rfl), ok_grown T F_grown D_cleared⟩
  have D_spanned : Dn P w K mg base 3 "spanned" ["words"] sp_spanned := ⟨_, fd_spanned, He.glo_ok X G (c.fact 45 (f := .glo "spanned") rfl), F_spanned.kp, (F_spanned.bindsN fun _ _ _ _ _ _ us hl => match us, hl with | [_], _ => rfl), ok_spanned T F_spanned D_grown⟩
  have D_paired : Dn P w K mg base 4 "paired" ["columns"] sp_paired := ⟨_, fd_paired, He.glo_ok X G (c.fact 46 (f := .glo "paired") rfl), F_paired.kp, (F_paired.bindsN fun _ _ _ _ _ _ us hl => match us, hl with | [_], _ => rfl), ok_paired T F_paired D_spanned⟩
  have D_kernel_rows : Dn P w K mg base 5 "kernel_rows" ["columns"] sp_kernel_rows := ⟨_, fd_kernel_rows, He.glo_ok X G (c.fact 47 (f := .glo "kernel_rows") rfl), F_kernel_rows.kp, (F_kernel_rows.bindsN fun _ _ _ _ _ _ us hl => match us, hl with | [_], _ => rfl), ok_kernel_rows T F_kernel_rows D_paired⟩
  have D_met : Dn P w K mg base 4 "met" ["bits", "rows", "others"] sp_met := ⟨_, fd_met, He.glo_ok X G (c.fact 48 (f := .glo "met") rfl), F_met.kp, (F_met.bindsN fun _ _ _ _ _ _ us hl => match us, hl with | [_, _, _], _ => rfl), ok_met T F_met D_spanned⟩
  have K_Space : Kn P w K mg base 4 (He.ga K "Space") "Space" ["self", "bits", "words"] (sp_Space (He.ga K "Space")) := ⟨He.glo_ok X G (c.fact 15 (f := .glo "Space") rfl), _, fd_Space_init, He.mkr_ok (c.fact 17 (f := .mkr "Space") rfl), (F_Space_init.bindsN fun _ _ _ _ _ _ us hl => match us, hl with | [_, _, _], _ => rfl), ok_Space T TS F_Space_init D_need_whole D_need_words D_spanned⟩
  have K_Spread : Kn P w K mg base 4 (He.ga K "Spread") "Spread" ["self", "bits", "slots", "lanes"] (sp_Spread (He.ga K "Spread")) := ⟨He.glo_ok X G (c.fact 21 (f := .glo "Spread") rfl), _, fd_Spread_init, He.mkr_ok (c.fact 23 (f := .mkr "Spread") rfl), (F_Spread_init.bindsN fun _ _ _ _ _ _ us hl => match us, hl with | [_, _, _, _], _ => rfl), ok_Spread T TR F_Spread_init D_need_whole D_need_words D_spanned⟩
  have D_need_space : Dn P w K mg base 1 "need_space" ["value", "bits"] (sp_need_space (He.ga K "Space")) := ⟨_, fd_need_space, He.glo_ok X G (c.fact 49 (f := .glo "need_space") rfl), F_need_space.kp, (F_need_space.bindsN fun _ _ _ _ _ _ us hl => match us, hl with | [_, _], _ => rfl), ok_need_space T TS F_need_space⟩
  have D_any_spread : Dn P w K mg base 1 "any_spread" ["value"] (sp_any_spread (He.ga K "Spread")) := ⟨_, fd_any_spread, He.glo_ok X G (c.fact 50 (f := .glo "any_spread") rfl), F_any_spread.kp, (F_any_spread.bindsN fun _ _ _ _ _ _ us hl => match us, hl with | [_], _ => rfl), ok_any_spread T TR F_any_spread⟩
  have D_every : Dn P w K mg base 6 "every" ["bits"] (sp_every (He.ga K "Space")) := ⟨_, fd_every, He.glo_ok X G (c.fact 51 (f := .glo "every") rfl), F_every.kp, (F_every.bindsN fun _ _ _ _ _ _ us hl => match us, hl with | [_], _ => rfl), ok_every T F_every D_need_whole K_Space⟩
  have M_Space_and : Mn P w K mg base 6 (He.ga K "Space") "__and__" ["self", "other"] (sp_and (He.ga K "Space")) := ⟨TS.cl, _, fd_Space_and, He.meth_ok (c.fact 52 (f := .meth "Space" "__and__") rfl), (F_Space_and.bindsN fun _ _ _ _ _ _ us hl => match us, hl with | [_, _], _ => rfl), ok_and T TS F_Space_and D_need_space D_met K_Space⟩
  have M_Space_completing : Mn P w K mg base 3 (He.ga K "Space") "completing" ["self", "other"] (sp_completing (He.ga K "Space")) := ⟨TS.cl, _, fd_Space_completing, He.meth_ok (c.fact 53 (f := .meth "Space" "completing") rfl), (F_Space_completing.bindsN fun _ _ _ _ _ _ us hl => match us, hl with | [_, _], _ => rfl), ok_completing T TS F_Space_completing D_need_space D_cleared D_grown⟩
  have M_Spread_slot_space : Mn P w K mg base 6 (He.ga K "Spread") "slot_space" ["self"] (sp_slot_space (He.ga K "Space") (He.ga K "Spread")) := ⟨TR.cl, _, fd_Spread_slot_space, He.meth_ok (c.fact 54 (f := .meth "Spread" "slot_space") rfl), (F_Spread_slot_space.bindsN fun _ _ _ _ _ _ us hl => match us, hl with | [_], _ => rfl), ok_slot_space T TR F_Spread_slot_space K_Space⟩
  have M_Spread_twins : Mn P w K mg base 6 (He.ga K "Spread") "twins" ["self"] (sp_twins (He.ga K "Space") (He.ga K "Spread")) := ⟨TR.cl, _, fd_Spread_twins, He.meth_ok (c.fact 55 (f := .meth "Spread" "twins") rfl), (F_Spread_twins.bindsN fun _ _ _ _ _ _ us hl => match us, hl with | [_], _ => rfl), ok_twins T TR F_Spread_twins D_spanned D_cleared D_kernel_rows K_Space⟩
  have D_need_pair : Dn P w K mg base 2 "need_pair" ["spread", "space"] (sp_need_pair (He.ga K "Space") (He.ga K "Spread")) := ⟨_, fd_need_pair, He.glo_ok X G (c.fact 56 (f := .glo "need_pair") rfl), F_need_pair.kp, (F_need_pair.bindsN fun _ _ _ _ _ _ us hl => match us, hl with | [_, _], _ => rfl), ok_need_pair T TR F_need_pair D_any_spread D_need_space⟩
  have D_partner_rows : Dn P w K mg base 6 "partner_rows" ["spread", "space"] (sp_partner_rows (He.ga K "Space") (He.ga K "Spread")) := ⟨_, fd_partner_rows, He.glo_ok X G (c.fact 57 (f := .glo "partner_rows") rfl), F_partner_rows.kp, (F_partner_rows.bindsN fun _ _ _ _ _ _ us hl => match us, hl with | [_, _], _ => rfl), ok_partner_rows T TS TR F_partner_rows D_spanned D_cleared D_kernel_rows⟩
  have D_partners : Dn P w K mg base 7 "partners" ["spread", "space"] (sp_partners (He.ga K "Space") (He.ga K "Spread")) := ⟨_, fd_partners, He.glo_ok X G (c.fact 58 (f := .glo "partners") rfl), F_partners.kp, (F_partners.bindsN fun _ _ _ _ _ _ us hl => match us, hl with | [_, _], _ => rfl), ok_partners T TR F_partners D_need_pair D_partner_rows K_Space⟩
  have D_leaders : Dn P w K mg base 8 "leaders" ["spread", "space"] (sp_leaders (He.ga K "Space") (He.ga K "Spread")) := ⟨_, fd_leaders, He.glo_ok X G (c.fact 59 (f := .glo "leaders") rfl), F_leaders.kp, (F_leaders.bindsN fun _ _ _ _ _ _ us hl => match us, hl with | [_, _], _ => rfl), ok_leaders T F_leaders D_partners M_Spread_twins M_Space_completing⟩
  have D_kept_bits : Dn P w K mg base 7 "kept_bits" ["spread", "space"] (sp_kept_bits (He.ga K "Space") (He.ga K "Spread")) := ⟨_, fd_kept_bits, He.glo_ok X G (c.fact 60 (f := .glo "kept_bits") rfl), F_kept_bits.kp, (F_kept_bits.bindsN fun _ _ _ _ _ _ us hl => match us, hl with | [_, _], _ => rfl), ok_kept_bits T TS F_kept_bits M_Spread_slot_space M_Space_and TSo.2⟩
  have D_rounds_for : Dn P w K mg base 1 "rounds_for" ["bits", "apart"] sp_rounds_for := ⟨_, fd_rounds_for, He.glo_ok X G (c.fact 61 (f := .glo "rounds_for") rfl), F_rounds_for.kp, (F_rounds_for.bindsN fun _ _ _ _ _ _ us hl => match us, hl with | [_, _], _ => rfl), ok_rounds_for T F_rounds_for⟩
  have D_sum_rounds : Dn P w K mg base 9 "sum_rounds" ["spread", "space"] (sp_sum_rounds (He.ga K "Space") (He.ga K "Spread")) := ⟨_, fd_sum_rounds, He.glo_ok X G (c.fact 62 (f := .glo "sum_rounds") rfl), F_sum_rounds.kp, (F_sum_rounds.bindsN fun _ _ _ _ _ _ us hl => match us, hl with | [_, _], _ => rfl), ok_sum_rounds T TS F_sum_rounds D_need_pair D_kept_bits M_Spread_twins D_leaders D_rounds_for⟩
  have D_drawL : Dn P w K mg base 1 "_law_draw" ["_law_pen", "_law_span"] sp_draw := ⟨_, fd_drawL, He.glo_ok X G (c.fact 63 (f := .glo "_law_draw") rfl), F_drawL.kp, (F_drawL.bindsN fun _ _ _ _ _ _ us hl => match us, hl with | [_, _], _ => rfl), ok_draw T F_drawL⟩
  have D_beginL : Dn P w K mg base 1 "_law_begin" ["_law_script"] (sp_begin K) := ⟨_, fd_beginL, He.glo_ok X G (c.fact 64 (f := .glo "_law_begin") rfl), F_beginL.kp, (F_beginL.bindsN fun _ _ _ _ _ _ us hl => match us, hl with | [_], _ => rfl), ok_begin T F_beginL⟩
  have D_pickL : Dn P w K mg base 2 "_law_pick" ["_law_pen", "_law_some"] sp_pick := ⟨_, fd_pickL, He.glo_ok X G (c.fact 65 (f := .glo "_law_pick") rfl), F_pickL.kp, (F_pickL.bindsN fun _ _ _ _ _ _ us hl => match us, hl with | [_, _], _ => rfl), ok_pick T F_pickL D_drawL⟩
  have D_wordL : Dn P w K mg base 2 "_law_word" ["_law_pen", "_law_bits"] sp_word := ⟨_, fd_wordL, He.glo_ok X G (c.fact 66 (f := .glo "_law_word") rfl), F_wordL.kp, (F_wordL.bindsN fun _ _ _ _ _ _ us hl => match us, hl with | [_, _], _ => rfl), ok_word T F_wordL D_drawL⟩
  have D_mixedL : Dn P w K mg base 2 "_law_mixed" ["_law_pen", "_law_some"] sp_mixed := ⟨_, fd_mixedL, He.glo_ok X G (c.fact 67 (f := .glo "_law_mixed") rfl), F_mixedL.kp, (F_mixedL.bindsN fun _ _ _ _ _ _ us hl => match us, hl with | [_, _], _ => rfl), ok_mixed T F_mixedL D_drawL⟩
  have D_leftL : Dn P w K mg base 1 "_law_left" ["_law_rows", "_law_word_here"] sp_left := ⟨_, fd_leftL, He.glo_ok X G (c.fact 68 (f := .glo "_law_left") rfl), F_leftL.kp, (F_leftL.bindsN fun _ _ _ _ _ _ us hl => match us, hl with | [_, _], _ => rfl), ok_left T F_leftL⟩
  have D_basisL : Dn P w K mg base 2 "_law_basis" ["_law_words"] sp_basis := ⟨_, fd_basisL, He.glo_ok X G (c.fact 69 (f := .glo "_law_basis") rfl), F_basisL.kp, (F_basisL.bindsN fun _ _ _ _ _ _ us hl => match us, hl with | [_], _ => rfl), ok_basis T F_basisL D_leftL⟩
  have D_sizeL : Dn P w K mg base 3 "_law_size" ["_law_words"] sp_size := ⟨_, fd_sizeL, He.glo_ok X G (c.fact 70 (f := .glo "_law_size") rfl), F_sizeL.kp, (F_sizeL.bindsN fun _ _ _ _ _ _ us hl => match us, hl with | [_], _ => rfl), ok_size T F_sizeL D_basisL⟩
  have D_imageL : Dn P w K mg base 1 "_law_image" ["_law_columns", "_law_word_here"] sp_image := ⟨_, fd_imageL, He.glo_ok X G (c.fact 71 (f := .glo "_law_image") rfl), F_imageL.kp, (F_imageL.bindsN fun _ _ _ _ _ _ us hl => match us, hl with | [_, _], _ => rfl), ok_image T F_imageL⟩
  have D_taggedL : Dn P w K mg base 1 "_law_tagged" ["_law_columns"] sp_tagged := ⟨_, fd_taggedL, He.glo_ok X G (c.fact 72 (f := .glo "_law_tagged") rfl), F_taggedL.kp, (F_taggedL.bindsN fun _ _ _ _ _ _ us hl => match us, hl with | [_], _ => rfl), ok_tagged T F_taggedL⟩
  have D_kernelL : Dn P w K mg base 2 "_law_kernel" ["_law_columns"] sp_kernel := ⟨_, fd_kernelL, He.glo_ok X G (c.fact 73 (f := .glo "_law_kernel") rfl), F_kernelL.kp, (F_kernelL.bindsN fun _ _ _ _ _ _ us hl => match us, hl with | [_], _ => rfl), ok_kernel T F_kernelL D_taggedL⟩
  have D_is_wholeL : Dn P w K mg base 1 "_law_is_whole" ["_law_value"] sp_is_whole := ⟨_, fd_is_wholeL, He.glo_ok X G (c.fact 74 (f := .glo "_law_is_whole") rfl), F_is_wholeL.kp, (F_is_wholeL.bindsN fun _ _ _ _ _ _ us hl => match us, hl with | [_], _ => rfl), ok_is_wholeL T F_is_wholeL⟩
  have D_is_wordL : Dn P w K mg base 2 "_law_is_word" ["_law_value", "_law_bits"] sp_is_word := ⟨_, fd_is_wordL, He.glo_ok X G (c.fact 75 (f := .glo "_law_is_word") rfl), F_is_wordL.kp, (F_is_wordL.bindsN fun _ _ _ _ _ _ us hl => match us, hl with | [_, _], _ => rfl), ok_is_word T F_is_wordL D_is_wholeL⟩
  have D_words_forL : Dn P w K mg base 3 "_law_words_for" ["_law_pen", "_law_bits", "_law_many", "_law_style"] sp_words_for := ⟨_, fd_words_forL, He.glo_ok X G (c.fact 76 (f := .glo "_law_words_for") rfl), F_words_forL.kp, (F_words_forL.bindsN fun _ _ _ _ _ _ us hl => match us, hl with | [_, _, _, _], _ => rfl), ok_words_for T F_words_forL D_drawL D_pickL D_wordL⟩
  have D_spread_wordsL : Dn P w K mg base 4 "_law_spread_words" ["_law_pen", "_law_bits", "_law_slots", "_law_lanes"] sp_spread_words := ⟨_, fd_spread_wordsL, He.glo_ok X G (c.fact 77 (f := .glo "_law_spread_words") rfl), F_spread_wordsL.kp, (F_spread_wordsL.bindsN fun _ _ _ _ _ _ us hl => match us, hl with | [_, _, _, _], _ => rfl), ok_spread_words T F_spread_wordsL D_drawL D_words_forL D_basisL D_mixedL D_leftL⟩
  have D_countsL : Dn P w K mg base 4 "_law_counts" ["_law_slots", "_law_lanes", "_law_words"] sp_counts := ⟨_, fd_countsL, He.glo_ok X G (c.fact 78 (f := .glo "_law_counts") rfl), F_countsL.kp, (F_countsL.bindsN fun _ _ _ _ _ _ us hl => match us, hl with | [_, _, _], _ => rfl), ok_counts T F_countsL D_basisL D_sizeL D_kernelL D_leftL⟩
  have D_fewestL : Dn P w K mg base 1 "_law_fewest" ["_law_bits", "_law_lots", "_law_twins"] sp_fewest := ⟨_, fd_fewestL, He.glo_ok X G (c.fact 79 (f := .glo "_law_fewest") rfl), F_fewestL.kp, (F_fewestL.bindsN fun _ _ _ _ _ _ us hl => match us, hl with | [_, _, _], _ => rfl), ok_fewest T F_fewestL⟩
  have D_rounds_dueL : Dn P w K mg base 2 "_law_rounds_due" ["_law_bits", "_law_lots", "_law_twins"] sp_rounds_due := ⟨_, fd_rounds_dueL, He.glo_ok X G (c.fact 80 (f := .glo "_law_rounds_due") rfl), F_rounds_dueL.kp, (F_rounds_dueL.bindsN fun _ _ _ _ _ _ us hl => match us, hl with | [_, _, _], _ => rfl), ok_rounds_due T F_rounds_dueL D_fewestL⟩
  have D_space_wordsL : Dn P w K mg base 3 "_law_space_words" ["_law_pen", "_law_bits", "_law_slots"] sp_space_words := ⟨_, fd_space_wordsL, He.glo_ok X G (c.fact 81 (f := .glo "_law_space_words") rfl), F_space_wordsL.kp, (F_space_wordsL.bindsN fun _ _ _ _ _ _ us hl => match us, hl with | [_, _, _], _ => rfl), ok_space_words T F_space_wordsL D_drawL D_wordL D_imageL⟩
  have D_begunL : Dn P w K mg base 2 "_law_begun" ["_law_slots", "_law_lanes", "_law_rows"] sp_begun := ⟨_, fd_begunL, He.glo_ok X G (c.fact 82 (f := .glo "_law_begun") rfl), F_begunL.kp, (F_begunL.bindsN fun _ _ _ _ _ _ us hl => match us, hl with | [_, _, _], _ => rfl), ok_begun T F_begunL D_imageL D_leftL⟩
  have D_ones : Dn P w K mg base 3 "ones" ["word"] sp_ones := ⟨_, fd_ones, He.glo_ok X G (c.fact 83 (f := .glo "ones") rfl), F_ones.kp, (F_ones.bindsN fun _ _ _ _ _ _ us hl => match us, hl with | [_], _ => rfl), ok_ones T F_ones D_need_whole⟩
  have D_image_of : Dn P w K mg base 4 "image_of" ["columns", "word"] sp_image_of := ⟨_, fd_image_of, He.glo_ok X G (c.fact 84 (f := .glo "image_of") rfl), F_image_of.kp, (F_image_of.bindsN fun _ _ _ _ _ _ us hl => match us, hl with | [_, _], _ => rfl), ok_image_of T F_image_of D_ones⟩
  have D_solved : Dn P w K mg base 2 "solved" ["pairs", "source", "word"] sp_solved := ⟨_, fd_solved, He.glo_ok X G (c.fact 85 (f := .glo "solved") rfl), F_solved.kp, (F_solved.bindsN fun _ _ _ _ _ _ us hl => match us, hl with | [_, _, _], _ => rfl), ok_solved T F_solved D_cleared⟩
  have M_SumPlan_own_words : Mn P w K mg base 7 (He.ga K "SumPlan") "own_words" ["self", "bits", "words"] sp_own_words := ⟨TU.cl, _, fd_SumPlan_own_words, He.meth_ok (c.fact 86 (f := .meth "SumPlan" "own_words") rfl), (F_SumPlan_own_words.bindsN fun _ _ _ _ _ _ us hl => match us, hl with | [_, _, _], _ => rfl), ok_own_words T F_SumPlan_own_words K_Space M_Space_completing D_every D_paired⟩
  have M_SumPlan_told_by : Mn P w K mg base 3 (He.ga K "SumPlan") "told_by" ["self", "told", "word"] sp_told := ⟨TU.cl, _, fd_SumPlan_told_by, He.meth_ok (c.fact 87 (f := .meth "SumPlan" "told_by") rfl), (F_SumPlan_told_by.bindsN fun _ _ _ _ _ _ us hl => match us, hl with | [_, _, _], _ => rfl), ok_told T F_SumPlan_told_by D_solved⟩
  have K_SumPlan : Kn P w K mg base 10 (He.ga K "SumPlan") "SumPlan" ["self", "spread", "space"] (sp_SumPlan (He.ga K "SumPlan") (He.ga K "Space") (He.ga K "Spread")) := ⟨He.glo_ok X G (c.fact 27 (f := .glo "SumPlan") rfl), _, fd_SumPlan_init, He.mkr_ok (c.fact 29 (f := .mkr "SumPlan") rfl), (F_SumPlan_init.bindsN fun _ _ _ _ _ _ us hl => match us, hl with | [_, _, _], _ => rfl), ok_SumPlan T TS TR TU F_SumPlan_init D_need_pair D_sum_rounds M_Spread_slot_space M_Spread_twins M_Space_and TSo.2 M_Space_completing D_leaders M_SumPlan_own_words⟩
  have D_stage_rounds : Dn P w K mg base 1 "stage_rounds" ["bits", "stage"] sp_strd := ⟨_, fd_stage_rounds, He.glo_ok X G (c.fact 88 (f := .glo "stage_rounds") rfl), F_stage_rounds.kp, (F_stage_rounds.bindsN fun _ _ _ _ _ _ us hl => match us, hl with | [_, _], _ => rfl), ok_stage_rounds T F_stage_rounds⟩
  have M_SumPlan_rest_of : Mn P w K mg base 5 (He.ga K "SumPlan") "rest_of" ["self", "lane"] (sp_rest (He.ga K "SumPlan") (He.ga K "Space") (He.ga K "Spread")) := ⟨TU.cl, _, fd_SumPlan_rest_of, He.meth_ok (c.fact 89 (f := .meth "SumPlan" "rest_of") rfl), (F_SumPlan_rest_of.bindsN fun _ _ _ _ _ _ us hl => match us, hl with | [_, _], _ => rfl), ok_rest T TS TR TU F_SumPlan_rest_of M_SumPlan_told_by D_image_of⟩
  have M_SumPlan_number_in_team : Mn P w K mg base 4 (He.ga K "SumPlan") "number_in_team" ["self", "lane"] (sp_nit (He.ga K "SumPlan") (He.ga K "Space") (He.ga K "Spread")) := ⟨TU.cl, _, fd_SumPlan_number_in_team, He.meth_ok (c.fact 90 (f := .meth "SumPlan" "number_in_team") rfl), (F_SumPlan_number_in_team.bindsN fun _ _ _ _ _ _ us hl => match us, hl with | [_, _], _ => rfl), ok_nit T TS TR TU F_SumPlan_number_in_team M_SumPlan_told_by⟩
  have M_SumPlan_take : Mn P w K mg base 6 (He.ga K "SumPlan") "take" ["self", "number", "lane"] (sp_take (He.ga K "SumPlan") (He.ga K "Space") (He.ga K "Spread")) := ⟨TU.cl, _, fd_SumPlan_take, He.meth_ok (c.fact 91 (f := .meth "SumPlan" "take") rfl), (F_SumPlan_take.bindsN fun _ _ _ _ _ _ us hl => match us, hl with | [_, _, _], _ => rfl), ok_take T TR TU F_SumPlan_take D_is_whole D_need_word D_stage_rounds M_SumPlan_number_in_team M_SumPlan_rest_of D_image_of⟩
  have M_SumPlan_home : Mn P w K mg base 6 (He.ga K "SumPlan") "home" ["self", "entry"] (sp_home (He.ga K "SumPlan") (He.ga K "Space") (He.ga K "Spread")) := ⟨TU.cl, _, fd_SumPlan_home, He.meth_ok (c.fact 92 (f := .meth "SumPlan" "home") rfl), (F_SumPlan_home.bindsN fun _ _ _ _ _ _ us hl => match us, hl with | [_, _], _ => rfl), ok_home T TS TR TU F_SumPlan_home D_need_word D_spanned D_paired D_cleared D_solved M_SumPlan_told_by M_SumPlan_number_in_team D_image_of⟩
  have D_joinedL : Dn P w K mg base 1 "_law_joined" ["_law_mine", "_law_taken"] sp_joined := ⟨_, fd_joinedL, He.glo_ok X G (c.fact 93 (f := .glo "_law_joined") rfl), F_joinedL.kp, (F_joinedL.bindsN fun _ _ _ _ _ _ us hl => match us, hl with | [_, _], _ => rfl), ok_joined F_joinedL⟩
  have D_playedL : Dn P w K mg base 7 "_law_played" ["_law_plan", "_law_number", "_law_values", "_law_rows", "_law_bits"] (sp_played (He.ga K "SumPlan") (He.ga K "Space") (He.ga K "Spread")) := ⟨_, fd_playedL, He.glo_ok X G (c.fact 94 (f := .glo "_law_played") rfl), F_playedL.kp, (F_playedL.bindsN fun _ _ _ _ _ _ us hl => match us, hl with | [_, _, _, _, _], _ => rfl), ok_played T F_playedL M_SumPlan_take D_is_wordL D_leftL D_is_wholeL D_joinedL⟩
  have D_homes_rightL : Dn P w K mg base 7 "_law_homes_right" ["_law_plan", "_law_values", "_law_rows", "_law_bits"] (sp_homes (He.ga K "SumPlan") (He.ga K "Space") (He.ga K "Spread")) := ⟨_, fd_homes_rightL, He.glo_ok X G (c.fact 95 (f := .glo "_law_homes_right") rfl), F_homes_rightL.kp, (F_homes_rightL.bindsN fun _ _ _ _ _ _ us hl => match us, hl with | [_, _, _, _], _ => rfl), ok_homes T F_homes_rightL M_SumPlan_home D_leftL D_is_wholeL⟩
  have M_Spread_eq : Mn P w K mg base 1 (He.ga K "Spread") "__eq__" ["self", "other"] (sp_spread_eq (He.ga K "Spread")) := ⟨TR.cl, _, fd_Spread_eq, He.meth_ok (c.fact 96 (f := .meth "Spread" "__eq__") rfl), (F_Spread_eq.bindsN fun _ _ _ _ _ _ us hl => match us, hl with | [_, _], _ => rfl), ok_spread_eq T TR F_Spread_eq⟩
  have M_Space_eq : Mn P w K mg base 1 (He.ga K "Space") "__eq__" ["self", "other"] (sp_speq (He.ga K "Space")) := ⟨TS.cl, _, fd_Space_eq, He.meth_ok (c.fact 97 (f := .meth "Space" "__eq__") rfl), (F_Space_eq.bindsN fun _ _ _ _ _ _ us hl => match us, hl with | [_, _], _ => rfl), ok_speq T TS F_Space_eq⟩
  exact ok_law T TS TR TU F_law D_beginL D_drawL D_spread_wordsL D_space_wordsL D_basisL D_begunL D_sum_rounds K_Spread K_Space K_SumPlan D_countsL D_rounds_dueL D_playedL D_homes_rightL M_SumPlan_take M_Spread_eq M_Space_eq hneR hneS heqP
end LaneX
open PySem PySem.W PySem.Calls PyProof.Rows
theorem PySem.Challenge.cw_laneswap_k34_whole_sum_plans_holds : PySem.Challenge.rw_laneswap_k34_whole_sum_plans.Holds := by
  refine LaneX.hd ?_
  refine L2.walk_ofE (l := PySem.Challenge.rw_laneswap_k34_whole_sum_plans) (n := 63) (k := 12) (x := "_law_script") (CX := L2.CX0) rfl (by decide) LaneX.dp_law ⟨rfl, by decide, by decide⟩ ?F (fun _ _ _ _ z => z)
  intro w mg fa h Y G hmg0
  obtain ⟨K, KX, c⟩ := Y
  have hmg : mg ("law" : PySem.Str) = some (.ref fa) := by
    rw [← LaneX.nm_law]
    exact hmg0
  obtain ⟨fd, hb, hF⟩ := LaneX.facts (P := (PySem.Challenge.rw_laneswap_k34_whole_sum_plans).prog) (w := w) KX G hmg c.t.d c.more
  exact ⟨K, fd, LaneX.sp_lawK K, KX, hb, fun H a ns hl _ hS => ⟨a, ns, rfl, hS, fun _ => rfl⟩, hF⟩
