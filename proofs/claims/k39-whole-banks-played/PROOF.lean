import PyProof.Rows.All
import Wide.All
import OpenK.AllK
import Wide.FinOn
import KE.KStateDown
import KE.BitLaws
import HandS.ForMost
import HandS.Flow
import HandS.Wide
import HandS.WideBits
import HandS.IsInst
import HandS.SortInts
import HandS.Conv
import HandS.Zip
import HandS.More
import HandS.WordsExc
import HandS.Defaults
import HandS.Walk
import PySem.Challenge.RW_laneswap_k39_whole_banks_played
import KE.KEqSeq
import HandS.OwnEq
import PyProof.InstEq
import HandS.Iter
import KE.GoesMore
import HandS.SetFor
import HandS.Exc
import HandS.ExcOwn
import HandS.ExcIs
import HandS.TryOnly
import KE.KExcSuper
import HandS.ExcSuper
import HandS.ExcInit
import HandS.HeadHook2
import HandS.HeadHook4
import HandS.HeadWalk
import HandS.Star
import HandS.TupLe
import KE.KOpsOwn
import HandS.Base
import HandS.Call
import HandS.Ends
import HandS.Words
import HandS.Head0
import HandS.Head1
import HandS.Head2
import HandS.HeadEnd
import HandS.HeadHook1
import HandS.HeadHook3
import HandS.ExcField
import HandS.TryMany
import KE.KExcIs
import HandS.Lambda
import HandS.DictComp
import HandS.Style
import HandS.TupAny
import HandS.Strs
import HandS.SetKeys
import HandS.Small
import HandS.WordsDict
set_option linter.all false
namespace LaneX
/-! ### plain mathematics: words, rows -/
/-- the number of bits -/
def blen (n : Nat) : Nat := if n = 0 then 0 else n.log2 + 1
theorem blen_zero : blen 0 = 0 := rfl
theorem blen_pos {n : Nat} (h : n ≠ 0) : 1 ≤ blen n := by unfold blen; rw [if_neg h]; omega
theorem lt_blen (n : Nat) : n < 2 ^ blen n := by
  unfold blen
  split
  · subst_vars; decide
  · exact Nat.lt_log2_self
theorem blen_le {n k : Nat} : blen n ≤ k ↔ n < 2 ^ k := by
  constructor
  · intro h; exact Nat.lt_of_lt_of_le (lt_blen n) (Nat.pow_le_pow_right (by decide) h)
  · intro h
    unfold blen
    split
    · omega
    · rename_i h0
      have := (Nat.log2_lt h0).mpr h
      omega
theorem testBit_top {n : Nat} (h : n ≠ 0) : n.testBit (blen n - 1) = true := by
  unfold blen
  rw [if_neg h, Nat.add_sub_cancel]
  exact Nat.testBit_log2 h
theorem testBit_ge {n i : Nat} (h : blen n ≤ i) : n.testBit i = false :=
  Nat.testBit_lt_two_pow (blen_le.mp h)
theorem shr_and_one (n i : Nat) : ((n >>> i) &&& 1 = 1) ↔ n.testBit i = true := by
  rw [Nat.testBit_eq_decide_div_mod_eq, Nat.shiftRight_eq_div_pow, Nat.and_one_is_mod, decide_eq_true_iff]
/-- a word cleared by rows -/
def clr (rows : List Nat) (w : Nat) : Nat := rows.foldl (fun l r => if l.testBit (blen r - 1) = true then l ^^^ r else l) w
/-- sorting by insertion -/
def ins (x : Nat) : List Nat → List Nat
  | [] => [x]
  | y :: r => if x ≤ y then x :: y :: r else y :: ins x r
def srt : List Nat → List Nat
  | [] => []
  | x :: r => ins x (srt r)
theorem ins_perm (x : Nat) : ∀ l, (ins x l).Perm (x :: l)
  | [] => .refl _
  | y :: r => by
    unfold ins
    split
    · exact .refl _
    · exact ((ins_perm x r).cons y).trans (.swap _ _ _)
theorem srt_perm : ∀ l, (srt l).Perm l
  | [] => .refl _
  | x :: r => (ins_perm x (srt r)).trans ((srt_perm r).cons x)
theorem ins_sorted {x : Nat} : ∀ {l : List Nat}, l.Pairwise (· ≤ ·) → (ins x l).Pairwise (· ≤ ·)
  | [], _ => by simp [ins]
  | y :: r, h => by
    unfold ins
    have h' := List.pairwise_cons.mp h
    split
    · rename_i hxy
      refine List.pairwise_cons.mpr ⟨fun z hz => ?_, h⟩
      rcases List.mem_cons.mp hz with rfl | hz
      · exact hxy
      · exact Nat.le_trans hxy (h'.1 z hz)
    · rename_i hxy
      refine List.pairwise_cons.mpr ⟨fun z hz => ?_, ins_sorted h'.2⟩
      rcases List.mem_cons.mp ((ins_perm x r).mem_iff.mp hz) with rfl | hz
      · omega
      · exact h'.1 z hz
theorem srt_sorted : ∀ l, (srt l).Pairwise (· ≤ ·)
  | [] => .nil
  | x :: r => ins_sorted (srt_sorted r)
theorem sorted_unique : ∀ {l m : List Nat}, l.Perm m → l.Pairwise (· ≤ ·) → m.Pairwise (· ≤ ·) → l = m
  | [], m, p, _, _ => by simpa using p.symm.eq_nil
  | x :: l, [], p, _, _ => by simpa using p.eq_nil
  | x :: l, y :: m, p, h1, h2 => by
    have a := List.pairwise_cons.mp h1
    have b := List.pairwise_cons.mp h2
    have e : x = y := by
      have hx : x ∈ y :: m := p.mem_iff.mp List.mem_cons_self
      have hy : y ∈ x :: l := p.mem_iff.mpr List.mem_cons_self
      rcases List.mem_cons.mp hx with rfl | hx
      · rfl
      · rcases List.mem_cons.mp hy with rfl | hy
        · rfl
        · exact Nat.le_antisymm (a.1 y hy) (b.1 x hx)
    subst e
    rw [sorted_unique ((List.perm_cons x).mp p) a.2 b.2]
theorem srt_of {l m : List Nat} (p : m.Perm l) (h : m.Pairwise (· ≤ ·)) : m = srt l := sorted_unique (p.trans (srt_perm l).symm) h (srt_sorted l)
/-- rows with one more word -/
def grw (rows : List Nat) (w : Nat) : List Nat := if clr rows w = 0 then rows else
  srt ((rows.map fun r => if r.testBit (blen (clr rows w) - 1) = true then r ^^^ clr rows w else r) ++ [clr rows w])
def spn (ws : List Nat) : List Nat := ws.foldl grw []
theorem clr_append (a b : List Nat) (w : Nat) : clr (a ++ b) w = clr b (clr a w) := List.foldl_append ..
theorem spn_append (a b : List Nat) : spn (a ++ b) = b.foldl grw (spn a) := List.foldl_append ..
theorem clr_lt {k : Nat} : ∀ {rows : List Nat} {w : Nat}, (∀ r ∈ rows, r < 2 ^ k) → w < 2 ^ k → clr rows w < 2 ^ k
  | [], w, _, h => h
  | r :: rs, w, hr, h => by
    show clr rs _ < 2 ^ k
    refine clr_lt (fun x hx => hr x (.tail _ hx)) ?_
    dsimp only
    split
    · exact Nat.xor_lt_two_pow h (hr r (.head _))
    · exact h
theorem grw_len (rows : List Nat) (w : Nat) : (grw rows w).length ≤ rows.length + 1 := by
  unfold grw
  split
  · omega
  · rw [(srt_perm _).length_eq]
    simp
theorem xor_eq_zero {a b : Nat} (e : a ^^^ b = 0) : a = b := by
  have h : a ^^^ b ^^^ b = 0 ^^^ b := by rw [e]
  rw [Nat.xor_assoc, Nat.xor_self, Nat.xor_zero, Nat.zero_xor] at h
  exact h
theorem xor_ne {a b : Nat} (h : a ≠ b) : a ^^^ b ≠ 0 := fun e => h (xor_eq_zero e)
/-- what rows are at least: no 0, and cleared words have 0 at their tops -/
structure Rws (rows : List Nat) : Prop where
  nz : ∀ r ∈ rows, r ≠ 0
  /-- the top of each is 0 in all others -/
  red : rows.Pairwise fun r s => r.testBit (blen s - 1) = false ∧ s.testBit (blen r - 1) = false
theorem Rws.nil : Rws [] := ⟨fun _ h => (by cases h), .nil⟩
end LaneX
set_option linter.all false
namespace LaneX
/-! ### clearing is linear -/
def bx (b : Bool) (r : Nat) : Nat := if b = true then r else 0
theorem bx_xor (a b : Bool) (r : Nat) : bx (a ^^ b) r = bx a r ^^^ bx b r := by
  cases a <;> cases b <;> simp [bx]
theorem stp_eq (l r : Nat) : (if l.testBit (blen r - 1) = true then l ^^^ r else l) = l ^^^ bx (l.testBit (blen r - 1)) r := by
  cases l.testBit (blen r - 1) <;> simp [bx]
theorem clr_cons (r : Nat) (rs : List Nat) (x : Nat) : clr (r :: rs) x = clr rs (x ^^^ bx (x.testBit (blen r - 1)) r) := by
  show clr rs _ = _
  dsimp only
  rw [stp_eq]
theorem xor4 (a b c d : Nat) : (a ^^^ b) ^^^ (c ^^^ d) = (a ^^^ c) ^^^ (b ^^^ d) := by
  rw [Nat.xor_assoc, Nat.xor_assoc]
  congr 1
  rw [← Nat.xor_assoc, Nat.xor_comm b c, Nat.xor_assoc]
theorem clr_xor : ∀ (rows : List Nat) (x y : Nat), clr rows (x ^^^ y) = clr rows x ^^^ clr rows y
  | [], _, _ => rfl
  | r :: rs, x, y => by
    rw [clr_cons, clr_cons, clr_cons, Nat.testBit_xor, bx_xor, xor4, clr_xor rs]
theorem clr_zero : ∀ rows : List Nat, clr rows 0 = 0
  | [] => rfl
  | r :: rs => by rw [clr_cons]; simp [bx, clr_zero rs]
/-- rows that do not speak of a bit leave it -/
theorem clr_bit {b : Nat} : ∀ {rows : List Nat} {x : Nat}, (∀ r ∈ rows, r.testBit b = false) → (clr rows x).testBit b = x.testBit b
  | [], x, _ => rfl
  | r :: rs, x, h => by
    rw [clr_cons, clr_bit fun s hs => h s (.tail _ hs), Nat.testBit_xor]
    have := h r (.head _)
    cases x.testBit (blen r - 1) <;> simp [bx, this]
theorem clr_of_none : ∀ {rows : List Nat} {x : Nat}, (∀ r ∈ rows, x.testBit (blen r - 1) = false) → clr rows x = x
  | [], x, _ => rfl
  | r :: rs, x, h => by
    rw [clr_cons, h r (.head _)]
    simp only [bx, Bool.false_eq_true, if_false, Nat.xor_zero]
    exact clr_of_none fun s hs => h s (.tail _ hs)
theorem clr_tops : ∀ {rows : List Nat} {x : Nat}, Rws rows → ∀ r ∈ rows, (clr rows x).testBit (blen r - 1) = false
  | [], x, _, r, h => by cases h
  | s :: rs, x, R, r, h => by
    have hp := List.pairwise_cons.mp R.red
    have R' : Rws rs := ⟨fun t ht => R.nz t (.tail _ ht), hp.2⟩
    rw [clr_cons]
    rcases List.mem_cons.mp h with rfl | h
    · rw [clr_bit fun t ht => (hp.1 t ht).2, Nat.testBit_xor]
      have := testBit_top (R.nz r (.head _))
      cases q : x.testBit (blen r - 1) <;> simp [bx, this]
    · exact clr_tops R' r h
theorem clr_self : ∀ {rows : List Nat}, Rws rows → ∀ r ∈ rows, clr rows r = 0
  | [], _, r, h => by cases h
  | s :: rs, R, r, h => by
    have hp := List.pairwise_cons.mp R.red
    have R' : Rws rs := ⟨fun t ht => R.nz t (.tail _ ht), hp.2⟩
    rw [clr_cons]
    rcases List.mem_cons.mp h with rfl | h
    · rw [testBit_top (R.nz r (.head _))]
      simp only [bx, if_true, Nat.xor_self]
      exact clr_zero rs
    · rw [(hp.1 r h).2]
      simp only [bx, Bool.false_eq_true, if_false, Nat.xor_zero]
      exact clr_self R' r h
/-! ### spans -/
inductive Spn (ws : List Nat) : Nat → Prop where
  | zero : Spn ws 0
  | add {x w : Nat} : w ∈ ws → Spn ws x → Spn ws (x ^^^ w)
theorem Spn.of {ws : List Nat} {w : Nat} (h : w ∈ ws) : Spn ws w := by
  have := Spn.add h Spn.zero
  rwa [Nat.zero_xor] at this
theorem Spn.xor {ws : List Nat} {x y : Nat} (hx : Spn ws x) (hy : Spn ws y) : Spn ws (x ^^^ y) := by
  induction hy with
  | zero => rwa [Nat.xor_zero]
  | add hw _ ih => rw [← Nat.xor_assoc]; exact .add hw ih
theorem Spn.mono {ws vs : List Nat} {x : Nat} (hx : Spn ws x) (h : ∀ w ∈ ws, Spn vs w) : Spn vs x := by
  induction hx with
  | zero => exact .zero
  | add hw _ ih => exact ih.xor (h _ hw)
theorem Spn.nil {x : Nat} (h : Spn [] x) : x = 0 := by
  cases h with
  | zero => rfl
  | add hw _ => cases hw
theorem Spn.lt {ws : List Nat} {k x : Nat} (hx : Spn ws x) (h : ∀ w ∈ ws, w < 2 ^ k) : x < 2 ^ k := by
  induction hx with
  | zero => exact Nat.two_pow_pos k
  | add hw _ ih => exact Nat.xor_lt_two_pow ih (h _ hw)
theorem Spn.sub {ws vs : List Nat} {x : Nat} (hx : Spn ws x) (h : ∀ w ∈ ws, w ∈ vs) : Spn vs x := hx.mono fun w hw => .of (h w hw)
theorem spn_clr : ∀ (rows : List Nat) (x : Nat), Spn rows (x ^^^ clr rows x)
  | [], x => by show Spn [] (x ^^^ x); rw [Nat.xor_self]; exact .zero
  | r :: rs, x => by
    rw [clr_cons]
    have ih := (spn_clr rs (x ^^^ bx (x.testBit (blen r - 1)) r)).sub (vs := r :: rs) fun w hw => .tail _ hw
    have hb : Spn (r :: rs) (bx (x.testBit (blen r - 1)) r) := by
      cases x.testBit (blen r - 1)
      · exact .zero
      · exact .of (.head _)
    have := ih.xor hb
    have e : x ^^^ bx (x.testBit (blen r - 1)) r ^^^ clr rs (x ^^^ bx (x.testBit (blen r - 1)) r) ^^^ bx (x.testBit (blen r - 1)) r = x ^^^ clr rs (x ^^^ bx (x.testBit (blen r - 1)) r) := by
      rw [Nat.xor_assoc, Nat.xor_comm (clr rs _) _, ← Nat.xor_assoc, Nat.xor_assoc x, Nat.xor_self, Nat.xor_zero]
    rw [e] at this
    exact this
theorem Rws.span {rows : List Nat} (R : Rws rows) {x : Nat} : Spn rows x ↔ clr rows x = 0 := by
  constructor
  · intro h
    induction h with
    | zero => exact clr_zero rows
    | add hw _ ih => rw [clr_xor, ih, clr_self R _ hw]; rfl
  · intro h
    have := spn_clr rows x
    rwa [h, Nat.xor_zero] at this
/-! ### one more word -/
theorem blen_xor {r l : Nat} (h : blen l < blen r) : blen (r ^^^ l) = blen r := by
  have hr : r ≠ 0 := fun e => by subst e; simp [blen] at h
  have h1 : r ^^^ l < 2 ^ blen r := Nat.xor_lt_two_pow (lt_blen r) (Nat.lt_of_lt_of_le (lt_blen l) (Nat.pow_le_pow_right (by decide) (by omega)))
  have h2 : (r ^^^ l).testBit (blen r - 1) = true := by
    rw [Nat.testBit_xor, testBit_top hr, testBit_ge (n := l) (by omega)]
    rfl
  have h3 : blen (r ^^^ l) ≤ blen r := blen_le.mpr h1
  have h4 : ¬ blen (r ^^^ l) ≤ blen r - 1 := fun q => by rw [testBit_ge q] at h2; cases h2
  omega
theorem blen_of_bits {r l : Nat} (h1 : r.testBit (blen l - 1) = true) (h2 : l.testBit (blen r - 1) = false) (hl : l ≠ 0) : blen l < blen r := by
  have hr : r ≠ 0 := fun e => by subst e; simp at h1
  have a := blen_pos hl
  have b := blen_pos hr
  have c : ¬ blen r ≤ blen l - 1 := fun q => by rw [testBit_ge q] at h1; cases h1
  have d : blen l ≠ blen r := fun q => by
    rw [← q, testBit_top hl] at h2
    cases h2
  omega
theorem Rws.perm {a b : List Nat} (R : Rws a) (p : a.Perm b) : Rws b :=
  ⟨fun r h => R.nz r (p.mem_iff.mpr h), (p.pairwise_iff (fun h => ⟨h.2, h.1⟩)).mp R.red⟩
section
variable {rows : List Nat} {l : Nat}
def chg (l r : Nat) : Nat := if r.testBit (blen l - 1) = true then r ^^^ l else r
theorem chg_blen {r : Nat} (h : l.testBit (blen r - 1) = false) (hl : l ≠ 0) : blen (chg l r) = blen r := by
  unfold chg
  split
  · rename_i q
    exact blen_xor (blen_of_bits q h hl)
  · rfl
theorem chg_bit {r b : Nat} (h : l.testBit b = false) : (chg l r).testBit b = r.testBit b := by
  unfold chg
  split
  · rw [Nat.testBit_xor, h, Bool.xor_false]
  · rfl
theorem chg_top {r : Nat} (hl : l ≠ 0) : (chg l r).testBit (blen l - 1) = false := by
  unfold chg
  split
  · rename_i q
    rw [Nat.testBit_xor, q, testBit_top hl]; rfl
  · rename_i q
    cases e : r.testBit (blen l - 1) <;> simp_all
theorem Rws.grow (R : Rws rows) (hl : l ≠ 0) (h : ∀ r ∈ rows, l.testBit (blen r - 1) = false) : Rws (rows.map (chg l) ++ [l]) := by
  have bl : ∀ r ∈ rows, blen (chg l r) = blen r := fun r hr => chg_blen (h r hr) hl
  refine ⟨fun x hx => ?_, ?_⟩
  · rcases List.mem_append.mp hx with hx | hx
    · obtain ⟨r, hr, rfl⟩ := List.mem_map.mp hx
      intro e
      have b := bl r hr
      rw [e] at b
      have := blen_pos (R.nz r hr)
      rw [← b] at this
      simp [blen] at this
    · rcases List.mem_singleton.mp hx with rfl
      exact hl
  · refine List.pairwise_append.mpr ⟨?_, by simp, ?_⟩
    · rw [List.pairwise_map]
      refine R.red.imp_of_mem fun {a b} ha hb hab => ?_
      rw [bl a ha, bl b hb, chg_bit (h b hb), chg_bit (h a ha)]
      exact hab
    · intro x hx y hy
      obtain ⟨r, hr, rfl⟩ := List.mem_map.mp hx
      rcases List.mem_singleton.mp hy with rfl
      exact ⟨chg_top hl, by rw [bl r hr]; exact h r hr⟩
end
theorem grw_eq (rows : List Nat) (w : Nat) : grw rows w = if clr rows w = 0 then rows else srt (rows.map (chg (clr rows w)) ++ [clr rows w]) := rfl
theorem grw_rws {rows : List Nat} (R : Rws rows) (w : Nat) : Rws (grw rows w) := by
  rw [grw_eq]
  split
  · exact R
  · rename_i h
    exact (R.grow h fun r hr => clr_tops R r hr).perm (srt_perm _).symm
theorem grw_span {rows : List Nat} (w x : Nat) : Spn (grw rows w) x ↔ Spn (rows ++ [w]) x := by
  rw [grw_eq]
  have hw := spn_clr rows w
  split
  · rename_i h
    rw [h, Nat.xor_zero] at hw
    constructor
    · exact fun hx => hx.sub fun y hy => List.mem_append_left _ hy
    · refine fun hx => hx.mono fun y hy => ?_
      rcases List.mem_append.mp hy with hy | hy
      · exact .of hy
      · rcases List.mem_singleton.mp hy with rfl
        exact hw
  · rename_i h
    generalize hl : clr rows w = l at *
    have e1 : ∀ y, Spn (rows ++ [w]) y ↔ Spn (rows ++ [l]) y := fun y => by
      have lw : Spn (rows ++ [w]) l := by
        have a := (hw.sub (vs := rows ++ [w]) fun z hz => List.mem_append_left _ hz).xor (Spn.of (List.mem_append_right rows (List.mem_singleton_self w)))
        rwa [Nat.xor_comm w l, Nat.xor_assoc, Nat.xor_self, Nat.xor_zero] at a
      have wl : Spn (rows ++ [l]) w := by
        have a := (hw.sub (vs := rows ++ [l]) fun z hz => List.mem_append_left _ hz).xor (Spn.of (List.mem_append_right rows (List.mem_singleton_self l)))
        rwa [Nat.xor_assoc, Nat.xor_self, Nat.xor_zero] at a
      constructor
      · refine fun hx => hx.mono fun z hz => ?_
        rcases List.mem_append.mp hz with hz | hz
        · exact .of (List.mem_append_left _ hz)
        · rcases List.mem_singleton.mp hz with rfl; exact wl
      · refine fun hx => hx.mono fun z hz => ?_
        rcases List.mem_append.mp hz with hz | hz
        · exact .of (List.mem_append_left _ hz)
        · rcases List.mem_singleton.mp hz with rfl; exact lw
    rw [e1]
    have sl : Spn (rows ++ [l]) l := .of (List.mem_append_right _ (List.mem_singleton_self l))
    constructor
    · refine fun hx => hx.mono fun z hz => ?_
      rcases List.mem_append.mp ((srt_perm _).mem_iff.mp hz) with hz | hz
      · obtain ⟨r, hr, rfl⟩ := List.mem_map.mp hz
        have : Spn (rows ++ [l]) r := .of (List.mem_append_left _ hr)
        unfold chg
        split
        · exact this.xor sl
        · exact this
      · exact .of (List.mem_append_right _ hz)
    · refine fun hx => hx.mono fun z hz => ?_
      have ml : Spn (srt (rows.map (chg l) ++ [l])) l := .of ((srt_perm _).mem_iff.mpr (List.mem_append_right _ (List.mem_singleton_self l)))
      rcases List.mem_append.mp hz with hz | hz
      · have mc : Spn (srt (rows.map (chg l) ++ [l])) (chg l z) := .of ((srt_perm _).mem_iff.mpr (List.mem_append_left _ (List.mem_map.mpr ⟨z, hz, rfl⟩)))
        unfold chg at mc
        split at mc
        · have := mc.xor ml
          rwa [Nat.xor_assoc, Nat.xor_self, Nat.xor_zero] at this
        · exact mc
      · rcases List.mem_singleton.mp hz with rfl; exact ml
theorem grw_length {rows : List Nat} (w : Nat) : (grw rows w).length = if clr rows w = 0 then rows.length else rows.length + 1 := by
  rw [grw_eq]
  split
  · rfl
  · rw [(srt_perm _).length_eq]; simp
/-! ### the rows of a list of words -/
theorem spn_rws_from : ∀ (ws : List Nat) {rows : List Nat}, Rws rows → Rws (ws.foldl grw rows)
  | [], _, R => R
  | w :: ws, _, R => spn_rws_from ws (grw_rws R w)
theorem spn_rws (ws : List Nat) : Rws (spn ws) := spn_rws_from ws Rws.nil
theorem spn_span_from : ∀ (ws : List Nat) (rows : List Nat) (x : Nat), Spn (ws.foldl grw rows) x ↔ Spn (rows ++ ws) x
  | [], rows, x => by simp
  | w :: ws, rows, x => by
    show Spn (ws.foldl grw (grw rows w)) x ↔ _
    rw [spn_span_from ws]
    have key : ∀ (a b c : List Nat) (y : Nat), (∀ z, Spn a z ↔ Spn b z) → (Spn (a ++ c) y ↔ Spn (b ++ c) y) := fun a b c y h => by
      constructor
      · refine fun hx => hx.mono fun z hz => ?_
        rcases List.mem_append.mp hz with hz | hz
        · exact ((h z).mp (.of hz)).sub fun u hu => List.mem_append_left _ hu
        · exact .of (List.mem_append_right _ hz)
      · refine fun hx => hx.mono fun z hz => ?_
        rcases List.mem_append.mp hz with hz | hz
        · exact ((h z).mpr (.of hz)).sub fun u hu => List.mem_append_left _ hu
        · exact .of (List.mem_append_right _ hz)
    rw [key _ _ ws x fun z => grw_span w z, List.append_assoc]
    rfl
theorem spn_span (ws : List Nat) (x : Nat) : Spn (spn ws) x ↔ Spn ws x := by
  have := spn_span_from ws [] x
  rwa [List.nil_append] at this
theorem spn_len_from : ∀ (ws rows : List Nat), (ws.foldl grw rows).length ≤ rows.length + ws.length
  | [], _ => by simp
  | w :: ws, rows => by
    have h1 := spn_len_from ws (grw rows w)
    have h2 := grw_len rows w
    simp only [List.foldl_cons, List.length_cons] at h1 ⊢
    omega
theorem spn_len (ws : List Nat) : (spn ws).length ≤ ws.length := by
  have := spn_len_from ws []
  rw [List.length_nil, Nat.zero_add] at this
  exact this
/-! ### tops tell the rank -/
theorem top_keep {t : Nat} : ∀ {rows : List Nat} {l : Nat}, (∀ r ∈ rows, r ≠ 0) → (∀ r ∈ rows, blen r ≠ t + 1) → l < 2 ^ (t + 1) → l.testBit t = true → (clr rows l).testBit t = true
  | [], l, _, _, _, h => h
  | r :: rs, l, nz, nt, hl, h => by
    rw [clr_cons]
    have a := nt r (.head _)
    have b := blen_pos (nz r (.head _))
    refine top_keep (fun s hs => nz s (.tail _ hs)) (fun s hs => nt s (.tail _ hs)) ?_ ?_
    · cases q : l.testBit (blen r - 1) with
      | false => simpa [bx] using hl
      | true =>
        have c : blen r ≤ t + 1 := by
          refine Nat.le_of_not_lt fun z => ?_
          have := testBit_ge (n := l) (i := blen r - 1) (Nat.le_trans (blen_le.mpr hl) (by omega))
          rw [this] at q; cases q
        simp only [bx, if_true]
        exact Nat.xor_lt_two_pow hl (blen_le.mp c)
    · cases q : l.testBit (blen r - 1) with
      | false => simpa [bx] using h
      | true =>
        have c : blen r ≤ t + 1 := by
          refine Nat.le_of_not_lt fun z => ?_
          have := testBit_ge (n := l) (i := blen r - 1) (Nat.le_trans (blen_le.mpr hl) (by omega))
          rw [this] at q; cases q
        simp only [bx, if_true]
        rw [Nat.testBit_xor, h, testBit_ge (n := r) (by omega)]
        rfl
theorem Rws.top_mem {rows : List Nat} (R : Rws rows) {x : Nat} (h : Spn rows x) (hx : x ≠ 0) : ∃ r ∈ rows, blen r = blen x := by
  refine Classical.byContradiction fun hn => ?_
  have h1 : ∀ r ∈ rows, blen r ≠ (blen x - 1) + 1 := fun r hr e => hn ⟨r, hr, by have := blen_pos hx; omega⟩
  have h2 := top_keep (t := blen x - 1) R.nz h1 (by have := blen_pos hx; rw [Nat.sub_add_cancel this]; exact lt_blen x) (testBit_top hx)
  rw [R.span.mp h] at h2
  simp at h2
theorem nodup_sub_len : ∀ {l m : List Nat}, l.Nodup → (∀ x ∈ l, x ∈ m) → l.length ≤ m.length
  | [], _, _, _ => Nat.zero_le _
  | x :: l, m, hn, hs => by
    have hn' := List.nodup_cons.mp hn
    have hx := hs x (.head _)
    have ih := nodup_sub_len (l := l) (m := m.erase x) hn'.2 fun y hy => by
      have : y ≠ x := fun e => hn'.1 (e ▸ hy)
      exact (List.mem_erase_of_ne this).mpr (hs y (.tail _ hy))
    have := List.length_erase_of_mem hx
    have hp : 0 < m.length := List.length_pos_of_mem hx
    simp only [List.length_cons]
    omega
theorem Rws.tops_nodup {rows : List Nat} (R : Rws rows) : (rows.map blen).Nodup := by
  unfold List.Nodup
  rw [List.pairwise_map]
  refine R.red.imp_of_mem fun {a b} ha hb hab e => ?_
  have := hab.1
  rw [← e, testBit_top (R.nz a ha)] at this
  cases this
theorem Rws.le {a b : List Nat} (A : Rws a) (B : Rws b) (h : ∀ x ∈ a, Spn b x) : a.length ≤ b.length := by
  have := nodup_sub_len A.tops_nodup (m := b.map blen) fun t ht => by
    obtain ⟨x, hx, rfl⟩ := List.mem_map.mp ht
    obtain ⟨r, hr, e⟩ := B.top_mem (h x hx) (A.nz x hx)
    exact List.mem_map.mpr ⟨r, hr, e⟩
  simpa using this
/-- the rank -/
def rk (ws : List Nat) : Nat := (spn ws).length
theorem rk_le {a b : List Nat} (h : ∀ x ∈ a, Spn b x) : rk a ≤ rk b := by
  refine (spn_rws a).le (spn_rws b) fun x hx => ?_
  rw [spn_span]
  exact ((spn_span a x).mp (.of hx)).mono h
theorem rk_eq {a b : List Nat} (h : ∀ x, Spn a x ↔ Spn b x) : rk a = rk b :=
  Nat.le_antisymm (rk_le fun x hx => (h x).mp (.of hx)) (rk_le fun x hx => (h x).mpr (.of hx))
theorem rk_spn (a : List Nat) : rk (spn a) = rk a := rk_eq fun x => spn_span a x
theorem rk_snoc (a : List Nat) (w : Nat) : rk (a ++ [w]) = if clr (spn a) w = 0 then rk a else rk a + 1 := by
  unfold rk
  rw [spn_append]
  exact grw_length w
theorem clr_spn_zero {a : List Nat} {w : Nat} : clr (spn a) w = 0 ↔ Spn a w := by rw [← (spn_rws a).span, spn_span]
theorem rk_snoc_in {a : List Nat} {w : Nat} (h : Spn a w) : rk (a ++ [w]) = rk a := by rw [rk_snoc, if_pos (clr_spn_zero.mpr h)]
theorem rk_snoc_out {a : List Nat} {w : Nat} (h : ¬ Spn a w) : rk (a ++ [w]) = rk a + 1 := by rw [rk_snoc, if_neg (fun z => h (clr_spn_zero.mp z))]
/-- words, none of which is a sum of those ahead -/
inductive Ind : List Nat → Prop where
  | nil : Ind []
  | snoc {a : List Nat} {w : Nat} : Ind a → ¬ Spn a w → Ind (a ++ [w])
theorem Ind.rk {a : List Nat} (h : Ind a) : rk a = a.length := by
  induction h with
  | nil => rfl
  | snoc _ hw ih => rw [rk_snoc_out hw, ih]; simp
theorem rk_len (a : List Nat) : rk a ≤ a.length := spn_len a
theorem spn_id {rows : List Nat} (R : Rws rows) : rk rows = rows.length := by
  have h1 := (spn_rws rows).le R (fun x hx => (spn_span rows x).mp (.of hx))
  have h2 := R.le (spn_rws rows) (fun x hx => (spn_span rows x).mpr (.of hx))
  exact Nat.le_antisymm h1 h2
end LaneX
namespace LaneX
/-! ### pairs, kernels, meets: what the program makes -/
def prs (cols : List Nat) : List Nat := (List.range cols.length).map fun i => (cols.getD i 0 <<< cols.length) + (1 <<< i)
def prd (cols : List Nat) : List Nat := spn (prs cols)
def ker (cols : List Nat) : List Nat := (prd cols).filter fun r => decide (blen r ≤ cols.length)
def mts (bits : Nat) (rows others : List Nat) : List Nat := (rows.map fun r => (r <<< bits) + r) ++ others.map fun r => r <<< bits
def mtd (bits : Nat) (rows others : List Nat) : List Nat := (spn (mts bits rows others)).filter fun r => decide (blen r ≤ bits)
end LaneX
namespace LaneX
theorem Rws.len_le {rows : List Nat} (R : Rws rows) {b : Nat} (h : ∀ r ∈ rows, blen r ≤ b) : rows.length ≤ b := by
  have := nodup_sub_len R.tops_nodup (m := List.range' 1 b) fun t ht => by
    obtain ⟨x, hx, rfl⟩ := List.mem_map.mp ht
    have h1 := blen_pos (R.nz x hx)
    have h2 := h x hx
    rw [List.mem_range']
    exact ⟨blen x - 1, by omega, by omega⟩
  simpa using this
theorem spn_lt {ws : List Nat} {k : Nat} (h : ∀ w ∈ ws, w < 2 ^ k) : ∀ r ∈ spn ws, r < 2 ^ k := fun r hr => ((spn_span ws r).mp (.of hr)).lt h
theorem spn_blen {ws : List Nat} {k : Nat} (h : ∀ w ∈ ws, blen w ≤ k) : ∀ r ∈ spn ws, blen r ≤ k := fun r hr => blen_le.mpr (spn_lt (fun w hw => blen_le.mp (h w hw)) r hr)
theorem clr_blen {rows : List Nat} {k w : Nat} (h : ∀ r ∈ rows, blen r ≤ k) (hw : blen w ≤ k) : blen (clr rows w) ≤ k := blen_le.mpr (clr_lt (fun r hr => blen_le.mp (h r hr)) (blen_le.mp hw))
theorem ker_blen (cols : List Nat) : ∀ r ∈ ker cols, blen r ≤ cols.length := fun r hr => by
  have := (List.mem_filter.mp hr).2
  simpa using this
theorem ker_rws (cols : List Nat) : Rws (ker cols) := by
  have R := spn_rws (prs cols)
  exact ⟨fun r hr => R.nz r (List.mem_filter.mp hr).1, R.red.sublist List.filter_sublist⟩
theorem ker_len (cols : List Nat) : (ker cols).length ≤ cols.length := (ker_rws cols).len_le (ker_blen cols)
theorem mtd_blen (b : Nat) (rs os : List Nat) : ∀ r ∈ mtd b rs os, blen r ≤ b := fun r hr => by
  have := (List.mem_filter.mp hr).2
  simpa using this
theorem mtd_rws (b : Nat) (rs os : List Nat) : Rws (mtd b rs os) := by
  have R := spn_rws (mts b rs os)
  exact ⟨fun r hr => R.nz r (List.mem_filter.mp hr).1, R.red.sublist List.filter_sublist⟩
/-- the rows of others that complete -/
def cms (rows others : List Nat) : List Nat × List Nat := others.foldl (fun st r => if clr st.1 r = 0 then st else (grw st.1 r, st.2 ++ [r])) (rows, [])
def cmpl (rows others : List Nat) : List Nat := (cms rows others).2
theorem cms_snoc (rows a : List Nat) (r : Nat) : cms rows (a ++ [r]) = if clr (cms rows a).1 r = 0 then cms rows a else (grw (cms rows a).1 r, (cms rows a).2 ++ [r]) := by
  unfold cms
  rw [List.foldl_append]
  rfl
/-- lists are told by their last item -/
theorem snoc_rec {p : List Nat → Prop} (h0 : p []) (hs : ∀ a x, p a → p (a ++ [x])) : ∀ l, p l := fun l => by
  have : ∀ n (l : List Nat), l.length = n → p l := by
    intro n
    induction n with
    | zero => intro l hl; rw [List.length_eq_zero_iff.mp hl]; exact h0
    | succ n ih =>
      intro l hl
      have hne : l ≠ [] := fun e => by rw [e] at hl; cases hl
      rw [← List.dropLast_concat_getLast hne]
      exact hs _ _ (ih _ (by rw [List.length_dropLast, hl]; rfl))
  exact this _ l rfl
theorem cms_rws {rows : List Nat} (R : Rws rows) (others : List Nat) : Rws (cms rows others).1 := by
  refine snoc_rec (p := fun l => Rws (cms rows l).1) R (fun a x ih => ?_) others
  rw [cms_snoc]
  split
  · exact ih
  · exact grw_rws ih x
theorem cms_len (rows others : List Nat) : (cms rows others).1.length ≤ rows.length + others.length ∧ (cms rows others).2.length ≤ others.length := by
  refine snoc_rec (p := fun l => (cms rows l).1.length ≤ rows.length + l.length ∧ (cms rows l).2.length ≤ l.length) ⟨by simp [cms], by simp [cms]⟩ (fun a x ih => ?_) others
  rw [cms_snoc]
  split
  · simp only [List.length_append, List.length_cons, List.length_nil]; omega
  · have := grw_len (cms rows a).1 x
    simp only [List.length_append, List.length_cons, List.length_nil]
    omega
/-- the twins, the partners of a spread -/
def twn (ss ls : List Nat) : List Nat := spn (ker (ls.map (clr (spn ss))))
def prw (ss ls rows : List Nat) : List Nat := ker (ls.map (clr (spn (ss ++ rows))))
def prt (ss ls rows : List Nat) : List Nat := spn (prw ss ls rows)
def ldr (ss ls rows : List Nat) : List Nat := cmpl (twn ss ls) (prt ss ls rows)
def kpt (b : Nat) (ss rows : List Nat) : Int := ((spn ss).length : Int) - ((spn (mtd b (spn ss) rows)).length : Int)
def rdf (bits apart : Nat) : Nat := if apart ≤ bits then 1 <<< bits - 1 <<< (bits - apart) else 1 <<< bits - 1 + apart - bits
def smr (b : Nat) (ss ls rows : List Nat) : Nat := rdf (kpt b ss rows - (twn ss ls).length).toNat (ldr ss ls rows).length
/-- a spread's words, a space's rows are as they must -/
structure WfR (b : Nat) (ss ls : List Nat) : Prop where
  bb : b ≤ 400000
  s : ∀ x ∈ ss, blen x ≤ b
  l : ∀ x ∈ ls, blen x ≤ b
  sl : ss.length ≤ 400000
  ll : ls.length ≤ 400000
structure WfS (b : Nat) (rows : List Nat) : Prop where
  bb : b ≤ 400000
  r : Rws rows
  b : ∀ x ∈ rows, blen x ≤ b
theorem WfS.len {b : Nat} {rows : List Nat} (h : WfS b rows) : rows.length ≤ 400000 := Nat.le_trans (h.r.len_le h.b) h.bb
theorem WfS.of {b : Nat} {ws : List Nat} (h : b ≤ 400000) (hw : ∀ x ∈ ws, blen x ≤ b) : WfS b (spn ws) := ⟨h, spn_rws ws, spn_blen hw⟩
theorem twn_wf {b : Nat} {ss ls : List Nat} (h : WfR b ss ls) : WfS ls.length (twn ss ls) := WfS.of h.ll fun x hx => by have := ker_blen _ x hx; simpa using this
theorem prt_wf {b : Nat} {ss ls : List Nat} (h : WfR b ss ls) (rows : List Nat) : WfS ls.length (prt ss ls rows) := WfS.of h.ll fun x hx => by have := ker_blen _ x hx; simpa using this
end LaneX
set_option linter.all false
namespace LaneX
/-! ### lowest bits; an elimination by them -/
def lwb (n : Nat) : Nat := n - (n &&& (n - 1))
def low (n : Nat) : Nat := if h : n = 0 then 0 else if n % 2 = 1 then 0 else low (n / 2) + 1
termination_by n
decreasing_by omega
theorem and_split (a b : Nat) : a &&& b = 2 * (a / 2 &&& b / 2) + (if a % 2 = 1 ∧ b % 2 = 1 then 1 else 0) := by
  have h1 : (a &&& b) / 2 = a / 2 &&& b / 2 := Nat.and_div_two
  have h2 : (a &&& b) % 2 = if a % 2 = 1 ∧ b % 2 = 1 then 1 else 0 := by
    have : (a &&& b).testBit 0 = (a.testBit 0 && b.testBit 0) := Nat.testBit_and ..
    simp only [Nat.testBit_zero] at this
    split
    · rename_i h
      simp only [h.1, h.2, decide_true, Bool.and_self] at this
      exact of_decide_eq_true this
    · rename_i h
      have h3 : (a &&& b) % 2 ≠ 1 := fun z => by
        rw [z] at this
        simp at this
        exact h this
      omega
  omega
theorem lwb_eq {n : Nat} (h : n ≠ 0) : lwb n = 2 ^ low n := by
  induction n using Nat.strongRecOn with
  | _ n ih =>
    unfold low lwb
    rw [dif_neg h]
    split
    · rename_i ho
      rw [and_split, if_neg (by omega), show (n - 1) / 2 = n / 2 by omega, Nat.and_self]
      simp
      omega
    · rename_i he
      have hm : n / 2 ≠ 0 := by omega
      have q := ih (n / 2) (by omega) hm
      unfold lwb at q
      have le : n / 2 &&& (n / 2 - 1) ≤ n / 2 := Nat.and_le_left
      rw [and_split, if_neg (by omega), show (n - 1) / 2 = n / 2 - 1 by omega, Nat.pow_succ, ← q]
      omega
theorem low_bit {n : Nat} (h : n ≠ 0) : n.testBit (low n) = true := by
  induction n using Nat.strongRecOn with
  | _ n ih =>
    unfold low
    rw [dif_neg h]
    split
    · rename_i ho
      rw [Nat.testBit_zero]
      exact decide_eq_true ho
    · rename_i he
      rw [Nat.testBit_succ]
      exact ih (n / 2) (by omega) (by omega)
theorem and_lwb {w r : Nat} (h : r ≠ 0) : (w &&& lwb r ≠ 0) ↔ w.testBit (low r) = true := by
  rw [lwb_eq h]
  constructor
  · intro hn
    refine Classical.byContradiction fun hb => hn ?_
    apply Nat.eq_of_testBit_eq
    intro i
    rw [Nat.testBit_and, Nat.testBit_two_pow, Nat.zero_testBit]
    by_cases e : low r = i
    · subst e
      cases q : w.testBit (low r)
      · rfl
      · exact absurd q hb
    · simp [e]
  · intro hb hz
    have : (w &&& 2 ^ low r).testBit (low r) = true := by
      rw [Nat.testBit_and, hb, Nat.testBit_two_pow]
      simp
    rw [hz] at this
    simp at this
def lft (rows : List Nat) (w : Nat) : Nat := rows.foldl (fun l r => if l.testBit (low r) = true then l ^^^ r else l) w
theorem lft_cons (r : Nat) (rs : List Nat) (x : Nat) : lft (r :: rs) x = lft rs (x ^^^ bx (x.testBit (low r)) r) := by
  show lft rs _ = _
  dsimp only
  cases x.testBit (low r) <;> simp [bx]
theorem lft_snoc (a : List Nat) (r w : Nat) : lft (a ++ [r]) w = if (lft a w).testBit (low r) = true then lft a w ^^^ r else lft a w := List.foldl_append ..
theorem lft_xor : ∀ (rows : List Nat) (x y : Nat), lft rows (x ^^^ y) = lft rows x ^^^ lft rows y
  | [], _, _ => rfl
  | r :: rs, x, y => by
    rw [lft_cons, lft_cons, lft_cons, Nat.testBit_xor, bx_xor, xor4, lft_xor rs]
theorem lft_zero : ∀ rows : List Nat, lft rows 0 = 0
  | [] => rfl
  | r :: rs => by rw [lft_cons]; simp [bx, lft_zero rs]
theorem spn_lft : ∀ (rows : List Nat) (x : Nat), Spn rows (x ^^^ lft rows x)
  | [], x => by show Spn [] (x ^^^ x); rw [Nat.xor_self]; exact .zero
  | r :: rs, x => by
    rw [lft_cons]
    generalize hb : bx (x.testBit (low r)) r = c
    have ih := (spn_lft rs (x ^^^ c)).sub (vs := r :: rs) fun w hw => .tail _ hw
    have hc : Spn (r :: rs) c := by
      rw [← hb]
      cases x.testBit (low r)
      · exact .zero
      · exact .of (.head _)
    have := ih.xor hc
    have e : x ^^^ c ^^^ lft rs (x ^^^ c) ^^^ c = x ^^^ lft rs (x ^^^ c) := by
      rw [Nat.xor_assoc, Nat.xor_comm (lft rs _) _, ← Nat.xor_assoc, Nat.xor_assoc x, Nat.xor_self, Nat.xor_zero]
    rw [e] at this
    exact this
/-- rows of the law's own: none is 0, later ones are 0 at the lowest bits of earlier ones -/
structure Lws (rows : List Nat) : Prop where
  nz : ∀ r ∈ rows, r ≠ 0
  red : rows.Pairwise fun r s => s.testBit (low r) = false
theorem lft_bit {b : Nat} : ∀ {rows : List Nat} {x : Nat}, (∀ r ∈ rows, r.testBit b = false) → (lft rows x).testBit b = x.testBit b
  | [], x, _ => rfl
  | r :: rs, x, h => by
    rw [lft_cons, lft_bit fun s hs => h s (.tail _ hs), Nat.testBit_xor]
    have := h r (.head _)
    cases x.testBit (low r) <;> simp [bx, this]
theorem lft_lows : ∀ {rows : List Nat} {x : Nat}, Lws rows → ∀ r ∈ rows, (lft rows x).testBit (low r) = false
  | [], x, _, r, h => by cases h
  | s :: rs, x, R, r, h => by
    have hp := List.pairwise_cons.mp R.red
    have R' : Lws rs := ⟨fun t ht => R.nz t (.tail _ ht), hp.2⟩
    rw [lft_cons]
    rcases List.mem_cons.mp h with rfl | h
    · rw [lft_bit fun t ht => hp.1 t ht, Nat.testBit_xor]
      have := low_bit (R.nz r (.head _))
      cases q : x.testBit (low r) <;> simp [bx, this]
    · exact lft_lows R' r h
theorem lft_of_none : ∀ {rows : List Nat} {x : Nat}, (∀ r ∈ rows, x.testBit (low r) = false) → lft rows x = x
  | [], x, _ => rfl
  | r :: rs, x, h => by
    rw [lft_cons, h r (.head _)]
    simp only [bx, Bool.false_eq_true, if_false, Nat.xor_zero]
    exact lft_of_none fun s hs => h s (.tail _ hs)
theorem lft_self : ∀ {rows : List Nat}, Lws rows → ∀ r ∈ rows, lft rows r = 0
  | [], _, r, h => by cases h
  | s :: rs, R, r, h => by
    have hp := List.pairwise_cons.mp R.red
    have R' : Lws rs := ⟨fun t ht => R.nz t (.tail _ ht), hp.2⟩
    rw [lft_cons]
    rcases List.mem_cons.mp h with rfl | h
    · rw [low_bit (R.nz r (.head _))]
      simp only [bx, if_true, Nat.xor_self]
      exact lft_zero rs
    · rw [hp.1 r h]
      simp only [bx, Bool.false_eq_true, if_false, Nat.xor_zero]
      exact lft_self R' r h
theorem Lws.span {rows : List Nat} (R : Lws rows) {x : Nat} : Spn rows x ↔ lft rows x = 0 := by
  constructor
  · intro h
    induction h with
    | zero => exact lft_zero rows
    | add hw _ ih => rw [lft_xor, ih, lft_self R _ hw]; rfl
  · intro h
    have := spn_lft rows x
    rwa [h, Nat.xor_zero] at this
def bstep (rows : List Nat) (w : Nat) : List Nat := if lft rows w = 0 then rows else rows ++ [lft rows w]
def bas (ws : List Nat) : List Nat := ws.foldl bstep []
theorem bas_snoc (a : List Nat) (w : Nat) : bas (a ++ [w]) = bstep (bas a) w := List.foldl_append ..
theorem Lws.nil : Lws [] := ⟨fun _ h => (by cases h), .nil⟩
theorem Lws.step {rows : List Nat} (R : Lws rows) (w : Nat) : Lws (bstep rows w) := by
  unfold bstep
  split
  · exact R
  · rename_i h
    refine ⟨fun r hr => ?_, List.pairwise_append.mpr ⟨R.red, by simp, fun r hr s hs => ?_⟩⟩
    · rcases List.mem_append.mp hr with hr | hr
      · exact R.nz r hr
      · rcases List.mem_singleton.mp hr with rfl; exact h
    · rcases List.mem_singleton.mp hs with rfl
      exact lft_lows R r hr
theorem Lws.ind {rows : List Nat} (R : Lws rows) : Ind rows := by
  have : ∀ n (l : List Nat), l.length = n → Lws l → Ind l := by
    intro n
    induction n with
    | zero => intro l hl _; rw [List.length_eq_zero_iff.mp hl]; exact .nil
    | succ n ih =>
      intro l hl L
      have hne : l ≠ [] := fun e => by rw [e] at hl; cases hl
      have e := List.dropLast_concat_getLast hne
      rw [← e] at L ⊢
      have hp := List.pairwise_append.mp L.red
      have L' : Lws l.dropLast := ⟨fun r hr => L.nz r (List.mem_append_left _ hr), hp.1⟩
      refine .snoc (ih _ (by rw [List.length_dropLast, hl]; rfl) L') fun hs => ?_
      have z := L'.span.mp hs
      rw [lft_of_none fun r hr => hp.2.2 r hr _ (List.mem_singleton_self _)] at z
      exact L.nz _ (List.mem_append_right _ (List.mem_singleton_self _)) z
  exact this _ rows rfl R
theorem Lws.rk {rows : List Nat} (R : Lws rows) : rk rows = rows.length := R.ind.rk
theorem bas_lws (ws : List Nat) : Lws (bas ws) := snoc_rec (p := fun l => Lws (bas l)) Lws.nil (fun a x ih => by rw [bas_snoc]; exact ih.step x) ws
theorem span_app {a b c : List Nat} {x : Nat} (h : ∀ z, Spn a z ↔ Spn b z) : Spn (a ++ c) x ↔ Spn (b ++ c) x := by
  constructor
  · refine fun hx => hx.mono fun z hz => ?_
    rcases List.mem_append.mp hz with hz | hz
    · exact ((h z).mp (.of hz)).sub fun u hu => List.mem_append_left _ hu
    · exact .of (List.mem_append_right _ hz)
  · refine fun hx => hx.mono fun z hz => ?_
    rcases List.mem_append.mp hz with hz | hz
    · exact ((h z).mpr (.of hz)).sub fun u hu => List.mem_append_left _ hu
    · exact .of (List.mem_append_right _ hz)
theorem span_swap (u v : List Nat) (y : Nat) : Spn (u ++ v) y ↔ Spn (v ++ u) y := by
  have key : ∀ u v : List Nat, Spn (u ++ v) y → Spn (v ++ u) y := fun u v h => h.sub fun w hw => by
    rcases List.mem_append.mp hw with h | h
    · exact List.mem_append_right _ h
    · exact List.mem_append_left _ h
  exact ⟨key u v, key v u⟩
theorem span_app2 {a b c d : List Nat} {x : Nat} (h : ∀ z, Spn a z ↔ Spn b z) (g : ∀ z, Spn c z ↔ Spn d z) : Spn (a ++ c) x ↔ Spn (b ++ d) x := by
  rw [span_app h]
  rw [span_swap, span_app g, span_swap]
theorem bstep_span (rows : List Nat) (w x : Nat) : Spn (bstep rows w) x ↔ Spn (rows ++ [w]) x := by
  have hw := spn_lft rows w
  unfold bstep
  split
  · rename_i h
    rw [h, Nat.xor_zero] at hw
    constructor
    · exact fun hx => hx.sub fun y hy => List.mem_append_left _ hy
    · refine fun hx => hx.mono fun y hy => ?_
      rcases List.mem_append.mp hy with hy | hy
      · exact .of hy
      · rcases List.mem_singleton.mp hy with rfl; exact hw
  · generalize lft rows w = l at *
    have lw : Spn (rows ++ [w]) l := by
      have a := (hw.sub (vs := rows ++ [w]) fun z hz => List.mem_append_left _ hz).xor (Spn.of (List.mem_append_right rows (List.mem_singleton_self w)))
      rwa [Nat.xor_comm w l, Nat.xor_assoc, Nat.xor_self, Nat.xor_zero] at a
    have wl : Spn (rows ++ [l]) w := by
      have a := (hw.sub (vs := rows ++ [l]) fun z hz => List.mem_append_left _ hz).xor (Spn.of (List.mem_append_right rows (List.mem_singleton_self l)))
      rwa [Nat.xor_assoc, Nat.xor_self, Nat.xor_zero] at a
    constructor
    · refine fun hx => hx.mono fun z hz => ?_
      rcases List.mem_append.mp hz with hz | hz
      · exact .of (List.mem_append_left _ hz)
      · rcases List.mem_singleton.mp hz with rfl; exact lw
    · refine fun hx => hx.mono fun z hz => ?_
      rcases List.mem_append.mp hz with hz | hz
      · exact .of (List.mem_append_left _ hz)
      · rcases List.mem_singleton.mp hz with rfl; exact wl
theorem bas_span (ws : List Nat) : ∀ x, Spn (bas ws) x ↔ Spn ws x := snoc_rec (p := fun l => ∀ x, Spn (bas l) x ↔ Spn l x) (fun x => Iff.rfl) (fun a w ih x => by rw [bas_snoc, bstep_span, span_app ih]) ws
theorem bas_len (ws : List Nat) : (bas ws).length = rk ws := by rw [← (bas_lws ws).rk]; exact rk_eq (bas_span ws)
theorem lft_bas {ws : List Nat} {x : Nat} : lft (bas ws) x = 0 ↔ Spn ws x := by rw [← (bas_lws ws).span, bas_span]
theorem bas_len_le (ws : List Nat) : (bas ws).length ≤ ws.length := by rw [bas_len]; exact rk_len ws
theorem lft_lt {k : Nat} {rows : List Nat} {w : Nat} (hr : ∀ r ∈ rows, r < 2 ^ k) (h : w < 2 ^ k) : lft rows w < 2 ^ k := by
  have := (spn_lft rows w).lt hr
  have e : lft rows w = w ^^^ (w ^^^ lft rows w) := by rw [← Nat.xor_assoc, Nat.xor_self, Nat.zero_xor]
  rw [e]
  exact Nat.xor_lt_two_pow h this
theorem bas_lt {k : Nat} {ws : List Nat} (h : ∀ w ∈ ws, w < 2 ^ k) : ∀ r ∈ bas ws, r < 2 ^ k := fun r hr => ((bas_span ws r).mp (.of hr)).lt h
/-- the sum of the columns of the bits of a word -/
def imf (cols : List Nat) (w : Nat) (n : Nat) : Nat := (List.range n).foldl (fun acc i => if w.testBit i = true then acc ^^^ cols.getD i 0 else acc) 0
def img (cols : List Nat) (w : Nat) : Nat := imf cols w cols.length
theorem imf_succ (cols : List Nat) (w n : Nat) : imf cols w (n + 1) = if w.testBit n = true then imf cols w n ^^^ cols.getD n 0 else imf cols w n := by
  unfold imf
  rw [List.range_succ, List.foldl_append]
  rfl
/-- rows with tags, and the tags of words that come to 0 -/
def tgl (rows : List (Nat × Nat)) (st : Nat × Nat) : Nat × Nat := rows.foldl (fun st r => if st.1.testBit (low r.1) = true then (st.1 ^^^ r.1, st.2 ^^^ r.2) else st) st
def tgs (cols : List Nat) (n : Nat) : List (Nat × Nat) × List Nat := (List.range n).foldl (fun st i =>
  if (tgl st.1 (cols.getD i 0, 1 <<< i)).1 = 0 then (st.1, st.2 ++ [(tgl st.1 (cols.getD i 0, 1 <<< i)).2]) else (st.1 ++ [tgl st.1 (cols.getD i 0, 1 <<< i)], st.2)) ([], [])
def tgd (cols : List Nat) : List (Nat × Nat) × List Nat := tgs cols cols.length
theorem tgs_succ (cols : List Nat) (n : Nat) : tgs cols (n + 1) = if (tgl (tgs cols n).1 (cols.getD n 0, 1 <<< n)).1 = 0 then ((tgs cols n).1, (tgs cols n).2 ++ [(tgl (tgs cols n).1 (cols.getD n 0, 1 <<< n)).2]) else ((tgs cols n).1 ++ [tgl (tgs cols n).1 (cols.getD n 0, 1 <<< n)], (tgs cols n).2) := by
  unfold tgs
  rw [List.range_succ, List.foldl_append]
  rfl
theorem tgs_len (cols : List Nat) : ∀ n, (tgs cols n).1.length + (tgs cols n).2.length = n
  | 0 => rfl
  | n + 1 => by
    have := tgs_len cols n
    rw [tgs_succ]
    split <;> simp <;> omega
theorem rk_app_len (a : List Nat) : ∀ b, rk (a ++ b) ≤ rk a + b.length := snoc_rec (p := fun b => rk (a ++ b) ≤ rk a + b.length) (by simp) (fun b x ih => by
  rw [← List.append_assoc, rk_snoc]
  split <;> simp <;> omega)
theorem rk_app (a b : List Nat) : rk (a ++ b) ≤ rk a + rk b := by
  have e : rk (a ++ b) = rk (a ++ spn b) := rk_eq fun x => (span_app2 (fun _ => Iff.rfl) (fun z => (spn_span b z).symm))
  rw [e]
  exact rk_app_len a (spn b)
theorem rk_left (a b : List Nat) : rk a ≤ rk (a ++ b) := rk_le fun x hx => .of (List.mem_append_left _ hx)
theorem rk_right (a b : List Nat) : rk b ≤ rk (a ++ b) := rk_le fun x hx => .of (List.mem_append_right _ hx)
theorem rk_perm {a b : List Nat} (p : a.Perm b) : rk a = rk b := rk_eq fun x => ⟨fun h => h.sub fun w hw => p.mem_iff.mp hw, fun h => h.sub fun w hw => p.mem_iff.mpr hw⟩
/-- units -/
def units (b : Nat) : List Nat := (List.range b).map fun i => 1 <<< i
theorem blen_unit (i : Nat) : blen (1 <<< i) = i + 1 := by
  have h : 1 <<< i ≠ 0 := by rw [Nat.one_shiftLeft]; exact Nat.ne_of_gt (Nat.two_pow_pos i)
  have h1 : blen (1 <<< i) ≤ i + 1 := by
    rw [blen_le, Nat.one_shiftLeft]
    exact Nat.pow_lt_pow_right (by decide) (Nat.lt_succ_self i)
  have h2 : ¬ blen (1 <<< i) ≤ i := by
    rw [blen_le, Nat.one_shiftLeft]
    exact Nat.lt_irrefl _
  omega
theorem unit_bit (i j : Nat) : (1 <<< i).testBit j = decide (i = j) := by
  rw [Nat.one_shiftLeft, Nat.testBit_two_pow]
theorem units_rws (b : Nat) : Rws (units b) := by
  refine ⟨fun r hr => ?_, ?_⟩
  · obtain ⟨i, _, rfl⟩ := List.mem_map.mp hr
    rw [Nat.one_shiftLeft]
    exact Nat.ne_of_gt (Nat.two_pow_pos i)
  · unfold units
    rw [List.pairwise_map]
    refine List.Pairwise.imp (R := fun a b => a ≠ b) (fun {i j} h => ?_) List.nodup_range
    rw [blen_unit, blen_unit, Nat.add_sub_cancel, Nat.add_sub_cancel, unit_bit, unit_bit]
    exact ⟨decide_eq_false h, decide_eq_false fun z => h z.symm⟩
theorem units_rk (b : Nat) : rk (units b) = b := by
  rw [spn_id (units_rws b)]
  simp [units]
theorem units_span {b x : Nat} (h : x < 2 ^ b) : Spn (units b) x := by
  have R := units_rws b
  rw [R.span]
  refine Classical.byContradiction fun hn => ?_
  have h1 : clr (units b) x < 2 ^ b := clr_lt (fun r hr => by
    obtain ⟨i, hi, rfl⟩ := List.mem_map.mp hr
    rw [Nat.one_shiftLeft]
    exact Nat.pow_lt_pow_right (by decide) (List.mem_range.mp hi)) h
  have h2 := testBit_top hn
  have h3 : blen (clr (units b) x) ≤ b := blen_le.mpr h1
  have h4 := blen_pos hn
  have h5 := clr_tops (x := x) R (1 <<< (blen (clr (units b) x) - 1)) (List.mem_map.mpr ⟨_, List.mem_range.mpr (by omega), rfl⟩)
  rw [blen_unit, Nat.add_sub_cancel] at h5
  rw [h5] at h2
  cases h2
/-- what is spanned by n bits has at most n dimensions; all of it has n -/
theorem rk_le_bits {ws : List Nat} {b : Nat} (h : ∀ w ∈ ws, w < 2 ^ b) : rk ws ≤ b := by
  rw [← units_rk b]
  exact rk_le fun x hx => units_span (h x hx)
theorem rk_full {ws : List Nat} {b : Nat} (h : ∀ u ∈ units b, Spn ws u) : b ≤ rk ws := by
  rw [← units_rk b]
  exact rk_le h
end LaneX
set_option Elab.async false
set_option linter.all false
set_option maxRecDepth 100000
set_option maxHeartbeats 4000000
namespace LaneX
open PySem PySem.Spec PyProof.Rows L2

/-! ### natural numbers as values -/
abbrev vN (n : Nat) : V := .int (n : Int)
theorem nnAnd (n m : Nat) : Builtin.bitAnd (n : Int) (m : Int) = ((n &&& m : Nat) : Int) := by
  unfold Builtin.bitAnd
  have h1 : decide (0 ≤ (n : Int)) = true := decide_eq_true (Int.natCast_nonneg _)
  have h2 : decide (0 ≤ (m : Int)) = true := decide_eq_true (Int.natCast_nonneg _)
  simp
theorem nnOr (n m : Nat) : Builtin.bitOr (n : Int) (m : Int) = ((n ||| m : Nat) : Int) := by
  rw [bitOr_nn (Int.natCast_nonneg _) (Int.natCast_nonneg _)]
  simp
theorem and_or_xor (n m : Nat) : (n ||| m) = (n ^^^ m) + (n &&& m) := by
  have h : (n ^^^ m) &&& (n &&& m) = 0 := by
    apply Nat.eq_of_testBit_eq
    intro i
    simp only [Nat.testBit_and, Nat.testBit_xor, Nat.zero_testBit]
    cases n.testBit i <;> cases m.testBit i <;> rfl
  have h2 : (n ^^^ m) ||| (n &&& m) = n ||| m := by
    apply Nat.eq_of_testBit_eq
    intro i
    simp only [Nat.testBit_and, Nat.testBit_xor, Nat.testBit_or]
    cases n.testBit i <;> cases m.testBit i <;> rfl
  have add : ∀ (k a b : Nat), a < 2 ^ k → a &&& b = 0 → a + b = a ||| b := by
    intro k
    induction k with
    | zero =>
      intro a b ha _
      have : a = 0 := by simpa using ha
      subst this
      simp
    | succ k ih =>
      intro a b ha hab
      have e1 : a / 2 &&& b / 2 = 0 := by
        rw [← Nat.and_div_two, hab]
      have e2 := ih (a / 2) (b / 2) (by rw [Nat.pow_succ] at ha; omega) e1
      have e3 : (a ||| b) / 2 = a / 2 ||| b / 2 := Nat.or_div_two
      have e8 : a / 2 + b / 2 = (a ||| b) / 2 := by rw [e3]; exact e2
      clear e1 e2 e3 ih
      have e5 : (a &&& b).testBit 0 = false := by rw [hab]; simp
      have e6 : (a ||| b).testBit 0 = (a.testBit 0 || b.testBit 0) := Nat.testBit_or ..
      have e7 : (a.testBit 0 && b.testBit 0) = false := by rw [← Nat.testBit_and]; exact e5
      have t : ∀ x : Nat, x % 2 = if x.testBit 0 = true then 1 else 0 := by
        intro x
        rw [Nat.testBit_zero]
        split <;> simp_all
      have ta := t a
      have tb := t b
      have to := t (a ||| b)
      rw [e6] at to
      cases h1 : a.testBit 0 <;> cases h2 : b.testBit 0 <;> rw [h1] at ta to e7 <;> rw [h2] at tb to e7
      · simp only [Bool.or_false, Bool.false_eq_true, if_false] at ta tb to; omega
      · simp only [Bool.or_true, Bool.false_eq_true, if_false, if_true] at ta tb to; omega
      · simp only [Bool.or_false, Bool.false_eq_true, if_false, if_true] at ta tb to; omega
      · cases e7
  have := add ((n ^^^ m) + 1) (n ^^^ m) (n &&& m) (Nat.lt_of_lt_of_le Nat.lt_two_pow_self (Nat.pow_le_pow_right (by decide) (Nat.le_succ _))) h
  rw [h2] at this
  exact this.symm
theorem nnXor (n m : Nat) : Builtin.bitXor (n : Int) (m : Int) = ((n ^^^ m : Nat) : Int) := by
  unfold Builtin.bitXor
  rw [nnOr, nnAnd, and_or_xor]
  omega
theorem blen_bits (n : Nat) : Builtin.Int.intBits (n : Int) = blen n := by
  unfold Builtin.Int.intBits blen
  by_cases h : n = 0
  · subst h; rfl
  · have : ((n : Int) == 0) = false := by simp [h]
    rw [this]
    simp [h]

section
variable {X : Cx}
/-- two naturals, a condition, a natural -/
def rN (C : Nat → Nat → Prop) (g : Nat → Nat → Nat) : R2 := fun x y H Q => ∃ n m : Nat, x = .int (n : Int) ∧ y = .int (m : Int) ∧ C n m ∧ Q (.int (g n m : Nat)) H
def rN0 (g : Nat → Nat → Nat) : R2 := fun x y H Q => ∃ n m : Nat, x = .int (n : Int) ∧ y = .int (m : Int) ∧ Q (.int (g n m : Nat)) H
theorem on_xor : OpR X (binaryOp .BitXor) (fun x y H Q => ∃ n m : Nat, x = .int (n : Int) ∧ y = .int (m : Int) ∧ Q (.int ((n ^^^ m : Nat) : Int)) H) := by
  intro pins s σ H x y v u Q I rx ry h
  obtain ⟨n, m, rfl, rfl, q⟩ := h
  rw [← nnXor] at q
  exact op_xor pins s σ H _ _ v u Q I rx ry ⟨_, _, rfl, rfl, q⟩
theorem on_and : OpR X (binaryOp .BitAnd) (fun x y H Q => ∃ n m : Nat, x = .int (n : Int) ∧ y = .int (m : Int) ∧ Q (.int ((n &&& m : Nat) : Int)) H) := by
  intro pins s σ H x y v u Q I rx ry h
  obtain ⟨n, m, rfl, rfl, q⟩ := h
  rw [← nnAnd] at q
  exact op_and pins s σ H _ _ v u Q I rx ry ⟨_, _, rfl, rfl, q⟩
theorem on_or : OpR X (binaryOp .BitOr) (fun x y H Q => ∃ n m : Nat, x = .int (n : Int) ∧ y = .int (m : Int) ∧ Q (.int ((n ||| m : Nat) : Int)) H) := by
  intro pins s σ H x y v u Q I rx ry h
  obtain ⟨n, m, rfl, rfl, q⟩ := h
  rw [← nnOr] at q
  exact op_or pins s σ H _ _ v u Q I rx ry ⟨_, _, rfl, rfl, q⟩
theorem on_add : OpR X (binaryOp .Add) (fun x y H Q => ∃ n m : Nat, x = .int (n : Int) ∧ y = .int (m : Int) ∧ Q (.int ((n + m : Nat) : Int)) H) := op_addN
theorem on_sub : OpR X (binaryOp .Sub) (fun x y H Q => ∃ n m : Nat, x = .int (n : Int) ∧ y = .int (m : Int) ∧ (m ≤ n) ∧ Q (.int ((n - m : Nat) : Int)) H) := op_subN
theorem on_shr : OpR X (binaryOp .RShift) (fun x y H Q => ∃ n m : Nat, x = .int (n : Int) ∧ y = .int (m : Int) ∧ Q (.int ((n >>> m : Nat) : Int)) H) := by
  intro pins s σ H x y v u Q I rx ry h
  obtain ⟨n, m, rfl, rfl, q⟩ := h
  refine op_shrN pins s σ H _ _ v u Q I rx ry ⟨_, _, rfl, rfl, ?_⟩
  have e : ((n >>> m : Nat) : Int) = (n : Int) / 2 ^ m := by
    rw [Nat.shiftRight_eq_div_pow, Int.natCast_ediv]
    simp
  rw [← e]
  exact q
/-- a shift to the left: few bits in all -/
def CShN (n m : Nat) : Prop := blen n + m ≤ 100000000
theorem on_shl : OpR X (binaryOp .LShift) (fun x y H Q => ∃ n m : Nat, x = .int (n : Int) ∧ y = .int (m : Int) ∧ CShN n m ∧ Q (.int ((n <<< m : Nat) : Int)) H) := by
  intro pins s σ H x y v u Q I rx ry h
  obtain ⟨n, m, rfl, rfl, hc, q⟩ := h
  refine op_shlN pins s σ H _ _ v u Q I rx ry ⟨_, _, rfl, rfl, ⟨by omega, ?_⟩, ?_⟩
  · rw [blen_bits]
    have : blen n + m ≤ 100000000 := hc
    omega
  · have e : ((n <<< m : Nat) : Int) = (n : Int) * 2 ^ m := by
      rw [Nat.shiftLeft_eq]
      simp
    rw [← e]
    exact q
theorem on_mul : OpR X (binaryOp .Mult) (fun x y H Q => ∃ n m : Nat, x = .int (n : Int) ∧ y = .int (m : Int) ∧ (n < 2 ^ 64) ∧ Q (.int ((n * m : Nat) : Int)) H) := by
  intro pins s σ H x y v u Q I rx ry h
  obtain ⟨n, m, rfl, rfl, c, q⟩ := h
  rw [Int.natCast_mul] at q
  exact op_mul pins s σ H _ _ v u Q I rx ry ⟨_, _, rfl, rfl, show CMul (n : Int) (m : Int) from Or.inl ⟨by omega, by have : n < 18446744073709551616 := c; omega⟩, q⟩
theorem on_fdiv : OpR X (binaryOp .FloorDiv) (fun x y H Q => ∃ n m : Nat, x = .int (n : Int) ∧ y = .int (m : Int) ∧ (0 < m ∧ m < 1073741824) ∧ Q (.int ((n / m : Nat) : Int)) H) := op_fdivNN
/-- the left one any size, the divisor below 2 ^ 9000 -/
theorem on_fdivW : OpR X (binaryOp .FloorDiv) (fun x y H Q => ∃ n m : Nat, x = .int (n : Int) ∧ y = .int (m : Int) ∧ (0 < m ∧ m < 2 ^ 8999) ∧ Q (.int ((n / m : Nat) : Int)) H) := by
  intro pins s σ H x y v u Q I rx ry h
  obtain ⟨n, m, rfl, rfl, ⟨c1, c2⟩, q⟩ := h
  rw [Int.natCast_ediv] at q
  refine op_fdivW pins s σ H _ _ v u Q I rx ry ⟨_, _, rfl, rfl, wide_div (b := 8999) (by omega) ?_ (by decide) (by decide), q⟩
  simpa using c2
theorem on_mod : OpR X (binaryOp .Mod) (fun x y H Q => ∃ n m : Nat, x = .int (n : Int) ∧ y = .int (m : Int) ∧ (0 < m) ∧ Q (.int ((n % m : Nat) : Int)) H) := by
  intro pins s σ H x y v u Q I rx ry h
  obtain ⟨n, m, rfl, rfl, c, q⟩ := h
  rw [Int.natCast_emod] at q
  exact op_mod pins s σ H _ _ v u Q I rx ry ⟨_, _, rfl, rfl, show (0 : Int) < (m : Int) by have : 0 < m := c; omega, q⟩
end
end LaneX
set_option Elab.async false
set_option linter.all false
set_option maxRecDepth 100000
set_option maxHeartbeats 4000000
namespace LaneX
open PySem PySem.Spec PyProof.Rows L2

/-! ### defs, methods, classes by their names -/
section
variable (P : Program) (w : World) (K : PySem.W.Frag) (mg : Str → Option Value) (base : Heap)
/-- the def x keeps the promise sp at level k -/
structure Dn (k : Nat) (x : Str) (ps : List Str) (sp : Sp) : Prop where
  ex : ∃ (f : Addr) (fd : FuncData), mg x = some (.ref f) ∧ PySem.W.keepIn K (.ref f) = true ∧ Binds K fd ps [] ∧ FnOk P w K mg base CX0 k f fd ps sp
/-- the method m of the class at C -/
structure Mn (k : Nat) (C : Addr) (m : Str) (ps : List Str) (sp : Sp) : Prop where
  cl : Cls K C
  ex : ∃ (f : Addr) (fd : FuncData), Meth K C m f ∧ Binds K fd ps [] ∧ FnOk P w K mg base CX0 k f fd ps sp
/-- the class x at C, made by its __init__ -/
structure Kn (k : Nat) (C : Addr) (x : Str) (ps : List Str) (sp : Sp) : Prop where
  gl : mg x = some (.ref C)
  ex : ∃ (f : Addr) (fd : FuncData), Mk K C f ∧ Binds K fd ps [] ∧ FnOk P w K mg base CX0 k f fd ps sp
end
section
variable {X : Cx} {k j : Nat} {x m : Str} {ps : List Str} {sp : Sp} {C : Addr} {p pos apos : Pos} {e o : Expr} {es : List Expr} {t : TA} {to : TE}
theorem pe_d (D : Dn X.prog X.w X.K X.mg X.base k x ps sp) (hr : Room j X.A) (ha : PA X (e :: es) t) (hk : k ≤ j := by decide) (hg : Gl X x := by rfl) (hdb : (x == ("__debug__" : Str)) = false := by decide)
    (he : starEach (e :: es) X.env = (false, eval e X.env) :: starEach es X.env := by rfl) (hpl : (backTo pos (starEach es X.env)).any (·.1) = false := by rfl) :
    PE X (.Call (.Name x p) (e :: es) [] pos) (tCall sp [] E0 t) := by
  obtain ⟨f, fd, h1, h2, h3, h4⟩ := D.ex
  exact pe_call h4 (hr.mono hk) hg h1 h2 h3 .nil pass0 ha hdb he hpl
theorem pe_k (D : Kn X.prog X.w X.K X.mg X.base k C x ps sp) (hr : Room j X.A) (ha : PA X (e :: es) t) (hk : k + 1 ≤ j := by decide) (hg : Gl X x := by rfl) (hdb : (x == ("__debug__" : Str)) = false := by decide)
    (he : starEach (e :: es) X.env = (false, eval e X.env) :: starEach es X.env := by rfl) (hpl : (backTo pos (starEach es X.env)).any (·.1) = false := by rfl) :
    PE X (.Call (.Name x p) (e :: es) [] pos) (tMake C sp [] E0 t) := by
  obtain ⟨f, fd, h1, h3, h4⟩ := D.ex
  exact pe_make h1 h4 (hr.mono hk) hg D.gl h3 .nil pass0 ha hdb he hpl
theorem pe_m {pl : Sem Bool} (ho : PE X o to) (D : Mn X.prog X.w X.K X.mg X.base k C m ps sp) (hr : Room j X.A) (ha : PA X (e :: es) t) (hk : k ≤ j := by decide)
    (hst : starEach (e :: es) X.env = (false, eval e X.env) :: starEach es X.env := by rfl) (hpl : (backTo pos (starEach es X.env)).any (·.1) = false := by rfl)
    (ht : eval (.Call (.Attribute o m apos) (e :: es) [] pos) X.env = (do
      let ov ← eval o X.env
      standAt apos.atName
      let (f, first) ← holding [ov] (getMethod ov m pl)
      callWith pos f first (backTo pos (starEach (e :: es) X.env)) (backToKw pos (keywordEach [] X.env))) := by rfl) :
    PE X (.Call (.Attribute o m apos) (e :: es) [] pos) (tMeth C m sp [] E0 to t) := by
  obtain ⟨f, fd, h1, h3, h4⟩ := D.ex
  exact pe_meth ho D.cl h1 h4 (hr.mono hk) h3 .nil pass0 ha hst hpl ht
theorem pe_m0 {pl : Sem Bool} (ho : PE X o to) (D : Mn X.prog X.w X.K X.mg X.base k C m ps sp) (hr : Room j X.A) (hk : k ≤ j := by decide)
    (ht : eval (.Call (.Attribute o m apos) [] [] pos) X.env = (do
      let ov ← eval o X.env
      standAt apos.atName
      let (f, first) ← holding [ov] (getMethod ov m pl)
      callWith pos f first (backTo pos (starEach [] X.env)) (backToKw pos (keywordEach [] X.env))) := by rfl) :
    PE X (.Call (.Attribute o m apos) [] [] pos) (tMeth C m sp [] E0 to tNil) := by
  obtain ⟨f, fd, h1, h3, h4⟩ := D.ex
  exact pe_meth0 ho D.cl h1 h4 (hr.mono hk) h3 .nil pass0 ht
end
/-- a def of the text (no defaults) -/
abbrev FnP (K : PySem.W.Frag) (x qual : Str) (st : Stmt) (f : Addr) (fd : FuncData) : Prop := FunD K x qual (defArgs st) (defBody st) (defScope st) [] [] f fd
section
variable {P : Program} {w : World} {K : PySem.W.Frag} {mg : Str → Option Value} {base : Heap}
theorem fnok {x qual : Str} {st : Stmt} {f : Addr} {fd : FuncData} {N ps : List Str} {k : Nat} {sp : Sp} (F : FnP K x qual st f fd) (S : FnScope N ps (defScope st)) (len : ∀ vs H Q E, sp vs H Q E → vs.length = ps.length)
    (hbody : ∀ (cdv : Value) (A : Around) (outer : List Env) (s : Shared) (H : Hp) (vs : List V) (Q : VK) (E : XK), Room k (A.deeper (envOfC qual (defScope st) s.heap.objs.size f cdv)) → sp vs H Q E →
      ∃ t, PSs (cxOf CX0 P w K mg base N qual (defScope st) f cdv A outer s H E).nox (defBody st) t ∧ t { nx := fun _ H' => Q .non H', rt := Q } (start N vs) H) : FnOk P w K mg base CX0 (k + 1) f fd ps sp := by
  refine F.ok S len (fun cdv A outer s H vs Q E hr h => ?_)
  obtain ⟨t, h1, h2⟩ := hbody cdv A outer s H vs Q E hr h
  exact ⟨t, PSs.nox h1, h2⟩
end

/-! ### lists and tuples alike -/
def Sq (K : PySem.W.Frag) (H : Hp) (a : Addr) (xs : List V) : Prop := SqL K H a xs ∨ SqT K H a xs
def iSeq (K : PySem.W.Frag) (tl : TE) : TI := fun σ H R => tl σ H fun x H1 => ∃ (a : Addr) (xs : List V), x = .ref a ∧ ((SqL K H1 a xs ∧ R (Itl K a) H1) ∨ (SqT K H1 a xs ∧ R (Itt K a) H1))
theorem pi_seq {X : Cx} {tg : Expr} {l : Expr} {tl : TE} (hl : PE X l tl) : PI X tg l (iSeq X.K tl) := by
  refine ⟨fun pins s σ H R I h => ?_⟩
  refine thn (hl.run pins s σ H _ I h) fun v s1 hh => ?_
  obtain ⟨x, H1, I1, r1, a, xs, e, q⟩ := hh
  subst e
  cases r1
  have fp : ∀ b ∈ [s1.heap.objs.size], FpOk X pins H1 b := fun b hb => by
    have e : b = s1.heap.objs.size := by simpa using hb
    subst e
    exact I1.fpOk (Nat.le_refl _) (I1.hok.fresh (Nat.le_refl _))
  rcases q with ⟨hq, q⟩ | ⟨hq, q⟩
  · obtain ⟨its, rv, p, hz⟩ := I1.list hq
    exact wpAny_pyIter_list p.isList ⟨_, _, _, _, H1, rfl, I1.kept (t' := s1.toks) fun b o e => Heap.get?_push_of_some _ e, turn_list a _, ⟨_, Heap.get?_push_size _ rfl, rfl, rfl⟩, fp, q⟩
  · obtain ⟨its, rv, p, hz⟩ := I1.tuple hq
    exact wpAny_pyIter_tuple (show s1.heap.IsTuple a its.toArray from p) ⟨_, _, _, _, H1, rfl, I1.kept (t' := s1.toks) fun b o e => Heap.get?_push_of_some _ e, turn_tuple a _, ⟨_, Heap.get?_push_size _ rfl, rfl, rfl⟩, fp, q⟩

/-! ### heaps: all is kept; all but dicts is kept -/
/-- all but a dict whose first key is a text (the pen) -/
def notD : HO → Bool
  | .dK ((.inr _, _) :: _) => false
  | _ => true
structure Kp (H H' : Hp) : Prop where
  keep : ∀ b o, H b = some o → notD o = true → H' b = some o
  free : ∀ b, H' b = none → H b = none
instance {H H' : Hp} : CoeFun (Kp H H') (fun _ => ∀ b o, H b = some o → notD o = true → H' b = some o) := ⟨Kp.keep⟩
theorem Kp.refl (H : Hp) : Kp H H := ⟨fun _ _ h _ => h, fun _ h => h⟩
theorem Kp.of {H H' : Hp} (s : Same H H') : Kp H H' := ⟨fun b o h _ => s b o h, fun b h => s.free h⟩
theorem Kp.trans {H H1 H2 : Hp} (a : Kp H H1) (b : Kp H1 H2) : Kp H H2 := ⟨fun c o h n => b.keep c o (a.keep c o h n) n, fun c h => a.free c (b.free c h)⟩
theorem upd_new {H : Hp} {p a : Addr} {o u : HO} (n : H p = none) (h : H a = some u) : upd H p o a = some u := (upd_ne (ne_of_none h n)).trans h
theorem same_new {H H' : Hp} {p : Addr} {o : HO} (s : Same H H') (n : H' p = none) : Same H (upd H' p o) := fun b u e => upd_new n (s b u e)
theorem same_new0 {H : Hp} {p : Addr} {o : HO} (n : H p = none) : Same H (upd H p o) := fun b u e => upd_new n e
/-- a list of one's own is written -/
theorem same_put {H H' : Hp} {p : Addr} {o : HO} (s : Same H H') (n : H p = none) : Same H (upd H' p o) := fun b u e => (upd_ne (ne_of_none e n)).trans (s b u e)
theorem upd_free {H : Hp} {p b : Addr} {o : HO} (h : upd H p o b = none) : H b = none := by
  by_cases e : b = p
  · subst e; rw [upd_same] at h; cases h
  · rw [upd_ne e] at h; exact h
theorem kp_new {H H' : Hp} {p : Addr} {o : HO} (s : Kp H H') (n : H' p = none) : Kp H (upd H' p o) := ⟨fun b u e q => upd_new n (s.keep b u e q), fun b h => s.free b (upd_free h)⟩
theorem kp_put {H H' : Hp} {p : Addr} {o : HO} (s : Kp H H') (n : H p = none) : Kp H (upd H' p o) := ⟨fun b u e q => (upd_ne (ne_of_none e n)).trans (s.keep b u e q), fun b h => s.free b (upd_free h)⟩
theorem same_l {H H' : Hp} (s : Same H H') {a : Addr} {xs : List V} (h : H a = some (.lst xs)) : H' a = some (.lst xs) := s _ _ h
theorem same_sq {K : PySem.W.Frag} {H H' : Hp} (s : Same H H') {a : Addr} {xs : List V} (h : Sq K H a xs) : Sq K H' a xs := by
  rcases h with h | h
  · exact .inl (s.seq h)
  · refine .inr ?_
    rcases h with (h | ⟨o, h⟩) | h
    · exact .inl (.inl (s _ _ h))
    · exact .inl (.inr ⟨o, s _ _ h⟩)
    · exact .inr h
theorem kp_sqL {K : PySem.W.Frag} {H H' : Hp} (s : Kp H H') {a : Addr} {xs : List V} (h : SqL K H a xs) : SqL K H' a xs := by
  rcases h with (h | ⟨o, h⟩) | h
  · exact .inl (.inl (s _ _ h rfl))
  · exact .inl (.inr ⟨o, s _ _ h rfl⟩)
  · exact .inr h
theorem kp_sqT {K : PySem.W.Frag} {H H' : Hp} (s : Kp H H') {a : Addr} {xs : List V} (h : SqT K H a xs) : SqT K H' a xs := by
  rcases h with (h | ⟨o, h⟩) | h
  · exact .inl (.inl (s _ _ h rfl))
  · exact .inl (.inr ⟨o, s _ _ h rfl⟩)
  · exact .inr h
theorem kp_sq {K : PySem.W.Frag} {H H' : Hp} (s : Kp H H') {a : Addr} {xs : List V} (h : Sq K H a xs) : Sq K H' a xs := h.elim (fun h => .inl (kp_sqL s h)) fun h => .inr (kp_sqT s h)
theorem Sq.l {K : PySem.W.Frag} {H : Hp} {a : Addr} {xs : List V} (h : H a = some (.lst xs)) : Sq K H a xs := .inl (SqL.of h)
theorem Sq.t {K : PySem.W.Frag} {H : Hp} {a : Addr} {xs : List V} (h : H a = some (.tup xs)) : Sq K H a xs := .inr (SqT.of h)

/-- a tracked list or tuple -/
def Tq (H : Hp) (a : Addr) (xs : List V) : Prop := H a = some (.lst xs) ∨ H a = some (.tup xs)
theorem Tq.sq {K : PySem.W.Frag} {H : Hp} {a : Addr} {xs : List V} (h : Tq H a xs) : Sq K H a xs := h.elim Sq.l Sq.t
theorem Tq.l {H : Hp} {a : Addr} {xs : List V} (h : H a = some (.lst xs)) : Tq H a xs := .inl h
theorem Tq.t {H : Hp} {a : Addr} {xs : List V} (h : H a = some (.tup xs)) : Tq H a xs := .inr h
theorem same_tq {H H' : Hp} (s : Same H H') {a : Addr} {xs : List V} (h : Tq H a xs) : Tq H' a xs := h.elim (fun h => .inl (s _ _ h)) fun h => .inr (s _ _ h)
theorem kp_tq {H H' : Hp} (s : Kp H H') {a : Addr} {xs : List V} (h : Tq H a xs) : Tq H' a xs := h.elim (fun h => .inl (s _ _ h rfl)) fun h => .inr (s _ _ h rfl)
theorem Tq.new {H : Hp} {a p : Addr} {o : HO} {xs : List V} (h : Tq H a xs) (n : H p = none) : Tq (upd H p o) a xs := h.elim (fun h => .inl (upd_new n h)) fun h => .inr (upd_new n h)
theorem Tq.sqlt {K : PySem.W.Frag} {H : Hp} {a : Addr} {xs : List V} (h : Tq H a xs) : SqL K H a xs ∨ SqT K H a xs := h.elim (fun h => .inl (SqL.of h)) fun h => .inr (SqT.of h)
theorem Tq.ty {K : PySem.W.Frag} {H : Hp} {a : Addr} {xs : List V} (h : Tq H a xs) : ∃ t, TyX K H (.ref a) t ∧ PySem.W.kitAny K t [.type "list", .type "tuple"] = some true := by
  rcases h with h | h
  · exact ⟨_, .base (.lst h), kitAny_cons (b := true) (kit_ty (by decide +kernel)) (fun z => by cases z) (fun _ => rfl)⟩
  · exact ⟨_, .base (.tup h), kitAny_cons (b := false) (kit_ty (by decide +kernel)) (fun _ => kitAny_cons (b := true) (kit_ty (by decide +kernel)) (fun z => by cases z) (fun _ => rfl)) (fun z => by cases z)⟩

theorem same_free {H H' : Hp} (e : Same H H') {l : Addr} (h : H' l = none) : H l = none := e.free h
theorem map_get {α : Type} {g : α → V} {l : List α} {i : Nat} {x : V} (h : (l.map g)[i]? = some x) : ∃ n, l[i]? = some n ∧ x = g n := by
  rw [List.getElem?_map] at h
  cases e : l[i]? with
  | none => rw [e] at h; cases h
  | some n => rw [e] at h; exact ⟨n, rfl, (Option.some.inj h).symm⟩
/-! ### a for, a comprehension over a list or tuple, over a range -/
def ForR (g : TG) (tb : TS) (D : Ends) (σ : L2.St) : It → Hp → Prop := fun J H => ∃ W : Nat → Nat → L2.St → Hp → Prop, (∃ m, W 0 m σ H) ∧ ∀ i m σ H, W i m σ H →
  (J.stop i H ∧ D.nx σ H) ∨ (J.go i H ∧ ∃ N : L2.St → Hp → Prop, (∀ σ' H', N σ' H' → ∃ m', m' < m ∧ W (i + 1) m' σ' H') ∧ ∀ x H', J.yld i H x H' → g x σ H' fun σ2 H2 => tb { D with nx := N, ct := N, bk := D.nx } σ2 H2)
def LcR (g : TG) (tt : TT) (te : TE) (vs : List Nat) (σ : L2.St) (Q : Addr → Hp → Prop) : It → Hp → Prop := fun J H1 => ∀ D, H1 D = none → ∃ W : Nat → Nat → Hp → Prop, (∃ m, W 0 m (upd H1 D (.lst []))) ∧ ∀ i m H, W i m H →
  (J.stop i H ∧ Q D H) ∨ (J.go i H ∧ ∃ Nx : Hp → Prop, (∀ H', Nx H' → ∃ m', m' < m ∧ W (i + 1) m' H') ∧ ∀ x H', J.yld i H x H' → g x (wipe σ vs) H' fun σ2 H2 => wipe σ2 vs = wipe σ vs ∧ tt σ2 H2 fun b H3 =>
    if b = true then te σ2 H3 fun y H4 => ∃ acc, H4 D = some (.lst acc) ∧ acc.length < sizeLine ∧ Nx (upd H4 D (.lst (acc ++ [y]))) else Nx H3)
theorem for_seq {K : PySem.W.Frag} {a : Addr} {xs : List V} {g : TG} {tb : TS} {D : Ends} {σ : L2.St} {H : Hp} (hS : Sq K H a xs) (Pv : Nat → L2.St → Hp → Prop) (h0 : Pv 0 σ H) (hk : ∀ i σ' H', Pv i σ' H' → Kp H H')
    (hs : ∀ i x σ H, xs[i]? = some x → Pv i σ H → g x σ H fun σ2 H2 => tb { D with nx := Pv (i + 1), ct := Pv (i + 1), bk := D.nx } σ2 H2) (hd : ∀ σ H, Pv xs.length σ H → D.nx σ H) :
    ∃ (a' : Addr) (xs' : List V), V.ref a = .ref a' ∧ ((SqL K H a' xs' ∧ ForR g tb D σ (Itl K a') H) ∨ (SqT K H a' xs' ∧ ForR g tb D σ (Itt K a') H)) := by
  refine ⟨a, xs, rfl, ?_⟩
  rcases hS with h | h
  · exact .inl ⟨h, for_it walk_list Pv h0 (fun i σ' H' hi p => kp_sqL (hk i σ' H' p) h) (fun i x σ' H' H'' _ p y => by obtain ⟨e, hx⟩ := y; subst e; exact hs i x σ' _ hx p) hd⟩
  · exact .inr ⟨h, for_it walk_tup Pv h0 (fun i σ' H' hi p => kp_sqT (hk i σ' H' p) h) (fun i x σ' H' H'' _ p y => by obtain ⟨e, hx⟩ := y; subst e; exact hs i x σ' _ hx p) hd⟩
/-- .. where what is walked alone must stay -/
theorem for_sq2 {K : PySem.W.Frag} {a : Addr} {xs : List V} {g : TG} {tb : TS} {D : Ends} {σ : L2.St} {H : Hp} (hS : Tq H a xs) (Pv : Nat → L2.St → Hp → Prop) (h0 : Pv 0 σ H) (hk : ∀ i σ' H', Pv i σ' H' → ∀ o, H a = some o → H' a = some o)
    (hs : ∀ i x σ H, xs[i]? = some x → Pv i σ H → g x σ H fun σ2 H2 => tb { D with nx := Pv (i + 1), ct := Pv (i + 1), bk := D.nx } σ2 H2) (hd : ∀ σ H, Pv xs.length σ H → D.nx σ H) :
    ∃ (a' : Addr) (xs' : List V), V.ref a = .ref a' ∧ ((SqL K H a' xs' ∧ ForR g tb D σ (Itl K a') H) ∨ (SqT K H a' xs' ∧ ForR g tb D σ (Itt K a') H)) := by
  refine ⟨a, xs, rfl, ?_⟩
  rcases hS with h | h
  · exact .inl ⟨SqL.of h, for_it walk_list Pv h0 (fun i σ' H' hi p => SqL.of (hk i σ' H' p _ h)) (fun i x σ' H' H'' _ p y => by obtain ⟨e, hx⟩ := y; subst e; exact hs i x σ' _ hx p) hd⟩
  · exact .inr ⟨SqT.of h, for_it walk_tup Pv h0 (fun i σ' H' hi p => SqT.of (hk i σ' H' p _ h)) (fun i x σ' H' H'' _ p y => by obtain ⟨e, hx⟩ := y; subst e; exact hs i x σ' _ hx p) hd⟩
/-- what stood under the loop stands, by what stood ahead -/
theorem stay_of {H HB H2 : Hp} {a : Addr} {u : HO} (h : H a = some u) (s0 : Same H HB) (s2 : ∀ c o, H c = some o → H2 c = some o) : ∀ o, HB a = some o → H2 a = some o := fun o ho => by
  rw [s0 _ _ h] at ho
  cases ho
  exact s2 _ _ h
/-- Pv speaks of the heap and the new list at D -/
theorem lc_seq {K : PySem.W.Frag} {a : Addr} {xs : List V} {g : TG} {tt : TT} {te : TE} {vs : List Nat} {σ : L2.St} {H : Hp} {Q : Addr → Hp → Prop} (hS : Sq K H a xs) (Pv : Addr → Nat → Hp → Prop) (h0 : ∀ D, H D = none → Pv D 0 (upd H D (.lst [])))
    (hk : ∀ D i H', H D = none → Pv D i H' → Kp H H')
    (hs : ∀ D i x H', H D = none → xs[i]? = some x → Pv D i H' → g x (wipe σ vs) H' fun σ2 H2 => wipe σ2 vs = wipe σ vs ∧ tt σ2 H2 fun b H3 =>
      if b = true then te σ2 H3 fun y H4 => ∃ acc, H4 D = some (.lst acc) ∧ acc.length < sizeLine ∧ Pv D (i + 1) (upd H4 D (.lst (acc ++ [y]))) else Pv D (i + 1) H3) (hd : ∀ D H', H D = none → Pv D xs.length H' → Q D H') :
    ∃ (a' : Addr) (xs' : List V), V.ref a = .ref a' ∧ ((SqL K H a' xs' ∧ LcR g tt te vs σ Q (Itl K a') H) ∨ (SqT K H a' xs' ∧ LcR g tt te vs σ Q (Itt K a') H)) := by
  refine ⟨a, xs, rfl, ?_⟩
  rcases hS with h | h
  · exact .inl ⟨h, fun D hD => lc_it walk_list (Pv D) (h0 D hD) (fun i H' _ p => kp_sqL (hk D i H' hD p) h) (fun i x H' H'' _ p y => by obtain ⟨e, hx⟩ := y; subst e; exact hs D i x _ hD hx p) fun H' p => hd D H' hD p⟩
  · exact .inr ⟨h, fun D hD => lc_it walk_tup (Pv D) (h0 D hD) (fun i H' _ p => kp_sqT (hk D i H' hD p) h) (fun i x H' H'' _ p y => by obtain ⟨e, hx⟩ := y; subst e; exact hs D i x _ hD hx p) fun H' p => hd D H' hD p⟩
/-! ### pure comprehensions -/
theorem br {b : Bool} {A B : Prop} (h1 : b = true → A) (h2 : b = false → B) : if b = true then A else B := by
  cases b with
  | true => exact iteT (h1 rfl)
  | false => exact iteF (h2 rfl)
theorem take_succ {α : Type} {l : List α} {i : Nat} {x : α} (h : l[i]? = some x) : l.take (i + 1) = l.take i ++ [x] := by
  rw [List.take_succ, h]
  rfl
theorem size6 {n : Nat} (h : n ≤ 1000000) : n < sizeLine := by rw [sizeLine_eq]; omega
theorem size6' {n : Nat} (h : n ≤ 1000000) : n ≤ sizeLine := Nat.le_of_lt (size6 h)
section
variable {α : Type} {K : PySem.W.Frag} {g : TG} {tt : TT} {te : TE} {vs : List Nat} {σ : L2.St} {H : Hp} {Q : Addr → Hp → Prop}
/-- one turn of a comprehension: all is kept, the item is v n if p n -/
def LcT (g : TG) (tt : TT) (te : TE) (vs : List Nat) (σ : L2.St) (x : V) (H' : Hp) (p : Bool) (v : V) : Prop :=
  ∀ (Z : VK) (Nx : Hp → Prop), (p = true → ∀ H4, Same H' H4 → Z v H4) → (p = false → ∀ H4, Same H' H4 → Nx H4) →
    g x (wipe σ vs) H' fun σ2 H2 => wipe σ2 vs = wipe σ vs ∧ tt σ2 H2 fun b H3 => if b = true then te σ2 H3 Z else Nx H3
theorem lc_turn {l : List α} {ι : α → V} {p : α → Bool} {v : α → V} (hlen : l.length ≤ 1000000) {D : Addr} {i : Nat} {n : α} {H' : Hp} (hD : H D = none) (hn : l[i]? = some n) (s : Same H H') (hH : H' D = some (.lst (((l.take i).filter p).map v)))
    (hs : LcT g tt te vs σ (ι n) H' (p n) (v n)) :
    g (ι n) (wipe σ vs) H' fun σ2 H2 => wipe σ2 vs = wipe σ vs ∧ tt σ2 H2 fun b H3 =>
      if b = true then te σ2 H3 fun y H4 => ∃ acc, H4 D = some (.lst acc) ∧ acc.length < sizeLine ∧ (Same H (upd H4 D (.lst (acc ++ [y]))) ∧ upd H4 D (.lst (acc ++ [y])) D = some (.lst (((l.take (i + 1)).filter p).map v))) else (Same H H3 ∧ H3 D = some (.lst (((l.take (i + 1)).filter p).map v))) := by
  have e1 := take_succ hn
  refine hs _ _ (fun hp H4 s4 => ⟨_, s4 _ _ hH, ?_, same_put (s.trans s4) hD, ?_⟩) (fun hp H4 s4 => ⟨s.trans s4, ?_⟩)
  · refine size6 (Nat.le_trans ?_ hlen)
    rw [List.length_map]
    exact Nat.le_trans (List.length_filter_le _ _) (by rw [List.length_take]; omega)
  · rw [upd_same, e1, List.filter_append, List.map_append]
    simp [hp]
  · rw [s4 _ _ hH, e1, List.filter_append, List.map_append]
    simp [hp]
theorem lc_pure {a : Addr} (l : List α) (ι : α → V) (p : α → Bool) (v : α → V) (hS : Tq H a (l.map ι)) (hlen : l.length ≤ 1000000) (hs : ∀ n H', n ∈ l → Same H H' → LcT g tt te vs σ (ι n) H' (p n) (v n))
    (hd : ∀ D H', H D = none → Same H H' → H' D = some (.lst ((l.filter p).map v)) → Q D H') :
    ∃ (a' : Addr) (xs' : List V), V.ref a = .ref a' ∧ ((SqL K H a' xs' ∧ LcR g tt te vs σ Q (Itl K a') H) ∨ (SqT K H a' xs' ∧ LcR g tt te vs σ Q (Itt K a') H)) := by
  refine lc_seq hS.sq (fun D i H' => Same H H' ∧ H' D = some (.lst (((l.take i).filter p).map v))) (fun D hD => ⟨same_new0 hD, upd_same⟩) (fun D i H' hD hp => Kp.of hp.1) (fun D i x H' hD hx hp => ?_) (fun D H' hD hp => ?_)
  · obtain ⟨n, hn, rfl⟩ := map_get hx
    exact lc_turn hlen hD hn hp.1 hp.2 (hs n H' (List.mem_of_getElem? hn) hp.1)
  · obtain ⟨h1, h2⟩ := hp
    rw [List.length_map, List.take_length] at h2
    exact hd D H' hD h1 h2
theorem range_get {n i : Nat} (h : i < n) : (List.range n)[i]? = some i := by simp [h]
/-- .. over range(n) -/
theorem lc_pureR {n : Nat} (p : Nat → Bool) (v : Nat → V) (hlen : n ≤ 1000000) (hs : ∀ i H', i < n → Same H H' → LcT g tt te vs σ (vN i) H' (p i) (v i))
    (hd : ∀ D H', H D = none → Same H H' → H' D = some (.lst (((List.range n).filter p).map v)) → Q D H') : LcR g tt te vs σ Q (Itr 0 n) H := by
  intro D hD
  refine lc_range (fun i H' => Same H H' ∧ H' D = some (.lst ((((List.range n).take i).filter p).map v))) ⟨same_new0 hD, by simpa using upd_same⟩ (fun i H' hi hp => ?_) (fun H' hp => ?_)
  · have q := lc_turn (ι := vN) (l := List.range n) (by simpa using hlen) hD (range_get hi) hp.1 hp.2 (hs i H' hi hp.1)
    rw [show (0 : Int) + (i : Int) = (i : Int) by omega]
    exact q
  · obtain ⟨h1, h2⟩ := hp
    rw [List.take_of_length_le (by simp)] at h2
    exact hd D H' hD h1 h2
end
section
variable {X : Cx}
/-- sorted(xs), naturals -/
theorem cr_sortedN : CallR X (.builtin "sorted") (fun xs H Q => ∃ (a : Addr) (ns : List Nat), xs = [.ref a] ∧ H a = some (.lst (ns.map vN)) ∧ ∀ p, H p = none → Q (.ref p) (upd H p (.lst ((srt ns).map vN)))) := by
  intro pins s σ H xs us Q I r h
  obtain ⟨a, ns, rfl, hS, h⟩ := h
  have em : ∀ l : List Nat, l.map vN = (l.map Int.ofNat).map V.int := fun l => by rw [List.map_map]; rfl
  refine cr_sortedI pins s σ H _ us Q I r ⟨a, ns.map Int.ofNat, rfl, SqL.of (by rw [← em]; exact hS), fun ns' p hp hs hn => ?_⟩
  have e : ns' = (srt ns).map Int.ofNat := by
    have e1 : ns' = (ns'.map Int.toNat).map Int.ofNat := by
      rw [List.map_map]
      have : ∀ z ∈ ns', (Int.ofNat ∘ Int.toNat) z = z := fun z hz => by
        obtain ⟨k, _, hk⟩ := List.mem_map.mp (hp.mem_iff.mp hz)
        subst hk
        rfl
      rw [List.map_congr_left this, List.map_id']
    have e2 : ns'.map Int.toNat = srt ns := by
      refine srt_of ?_ ?_
      · have := hp.map Int.toNat
        rw [List.map_map] at this
        have e3 : ns.map (Int.toNat ∘ Int.ofNat) = ns := by
          exact (List.map_congr_left (g := id) (fun z _ => rfl)).trans (List.map_id _)
        rw [e3] at this
        exact this
      · rw [List.pairwise_map]
        exact hs.imp fun h => by omega
    rw [← e2]
    exact e1
  rw [e, ← em]
  exact h p hn
end
/-! ### items by place, ranges -/
section
variable {X : Cx}
def rIxQ : R2 := fun x y H Q => ∃ (p : Addr) (xs : List V) (n : Nat) (v : V), x = .ref p ∧ y = .int (n : Int) ∧ Tq H p xs ∧ xs[n]? = some v ∧ Q v H
theorem ix_q : IxR X rIxQ := by
  intro value slice pins s σ H x y v u Q I rx ry h hs
  obtain ⟨p, xs, n, z, rfl, rfl, hq, he, q⟩ := h
  refine ix_seq value slice pins s σ H _ _ v u Q I rx ry ?_ hs
  rcases hq with hq | hq
  · exact .inl ⟨p, xs, n, z, rfl, rfl, SqL.of hq, atI_nat he, q⟩
  · exact .inr (.inl ⟨p, xs, n, z, rfl, rfl, SqT.of hq, atI_nat he, q⟩)
theorem call_lenQ : CallR X (.builtin "len") (fun xs H Q => ∃ (p : Addr) (ys : List V), xs = [.ref p] ∧ Tq H p ys ∧ Q (.int (ys.length : Nat)) H) := by
  intro pins s σ H xs us Q I r h
  obtain ⟨p, ys, rfl, hq, q⟩ := h
  exact call_len_seq pins s σ H _ us Q I r ⟨p, ys, rfl, hq.sqlt, q⟩
theorem call_listQ : CallR X (.type "list") (fun xs H Q => ∃ (p : Addr) (ys : List V), xs = [.ref p] ∧ Tq H p ys ∧ ∀ l, H l = none → Q (.ref l) (upd H l (.lst ys))) := by
  intro pins s σ H xs us Q I r h
  obtain ⟨p, ys, rfl, hq, q⟩ := h
  exact call_list_of pins s σ H _ us Q I r ⟨p, ys, rfl, hq.sqlt, q⟩
/-- tuple(xs), xs a list -/
theorem call_tupleQ : CallR X (.type "tuple") (fun xs H Q => ∃ (p : Addr) (ys : List V), xs = [.ref p] ∧ H p = some (.lst ys) ∧ ∀ l, H l = none → Q (.ref l) (upd H l (.tup ys))) := by
  intro pins s σ H xs us Q I r h
  obtain ⟨p, ys, rfl, hq, q⟩ := h
  exact call_tuple_of pins s σ H _ us Q I r ⟨p, ys, rfl, .inl ⟨SqL.of hq, q⟩⟩
end
end LaneX
set_option Elab.async false
set_option linter.all false
set_option maxRecDepth 100000
set_option maxHeartbeats 4000000
namespace LaneX
open PySem PySem.Spec PyProof.Rows L2
def top (i : Nat) : Stmt := PySem.Challenge.pw_laneswap_k39_whole_banks_played.main.body.getD i (.Pass ⟨0, 0, 0, 0⟩)
abbrev s__wall : Stmt := top 0
theorem sc__wall : FnScope ["k"] ["k"] (defScope s__wall) := ⟨rfl, rfl, rfl, by decide +kernel, rfl, by decide +kernel, by decide +kernel⟩
abbrev s_is_whole : Stmt := top 10
theorem sc_is_whole : FnScope ["value"] ["value"] (defScope s_is_whole) := ⟨rfl, rfl, rfl, by decide +kernel, rfl, by decide +kernel, by decide +kernel⟩
abbrev s_need_whole : Stmt := top 11
theorem sc_need_whole : FnScope ["value"] ["value"] (defScope s_need_whole) := ⟨rfl, rfl, rfl, by decide +kernel, rfl, by decide +kernel, by decide +kernel⟩
abbrev s_need_items : Stmt := top 12
theorem sc_need_items : FnScope ["value"] ["value"] (defScope s_need_items) := ⟨rfl, rfl, rfl, by decide +kernel, rfl, by decide +kernel, by decide +kernel⟩
abbrev s_need_word : Stmt := top 13
theorem sc_need_word : FnScope ["value", "bits"] ["value", "bits"] (defScope s_need_word) := ⟨rfl, rfl, rfl, by decide +kernel, rfl, by decide +kernel, by decide +kernel⟩
abbrev s_need_words : Stmt := top 14
theorem sc_need_words : FnScope ["values", "bits", "value"] ["values", "bits"] (defScope s_need_words) := ⟨rfl, rfl, rfl, by decide +kernel, rfl, by decide +kernel, by decide +kernel⟩
abbrev s_ones : Stmt := top 16
theorem sc_ones : FnScope ["word", "found", "left", "low"] ["word"] (defScope s_ones) := ⟨rfl, rfl, rfl, by decide +kernel, rfl, by decide +kernel, by decide +kernel⟩
abbrev s_cleared : Stmt := top 18
theorem sc_cleared : FnScope ["rows", "word", "left", "row"] ["rows", "word"] (defScope s_cleared) := ⟨rfl, rfl, rfl, by decide +kernel, rfl, by decide +kernel, by decide +kernel⟩
abbrev s_grown : Stmt := top 19
theorem sc_grown : FnScope ["rows", "word", "left", "top", "row"] ["rows", "word"] (defScope s_grown) := ⟨rfl, rfl, rfl, by decide +kernel, rfl, by decide +kernel, by decide +kernel⟩
abbrev s_spanned : Stmt := top 20
theorem sc_spanned : FnScope ["words", "rows", "word"] ["words"] (defScope s_spanned) := ⟨rfl, rfl, rfl, by decide +kernel, rfl, by decide +kernel, by decide +kernel⟩
abbrev s_tops_of : Stmt := top 21
theorem sc_tops_of : FnScope ["rows", "row"] ["rows"] (defScope s_tops_of) := ⟨rfl, rfl, rfl, by decide +kernel, rfl, by decide +kernel, by decide +kernel⟩
abbrev s_missing : Stmt := top 22
theorem sc_missing : FnScope ["rows", "tops", "bit"] ["rows"] (defScope s_missing) := ⟨rfl, rfl, rfl, by decide +kernel, rfl, by decide +kernel, by decide +kernel⟩
abbrev s_image_of : Stmt := top 23
theorem sc_image_of : FnScope ["columns", "word", "total", "bit"] ["columns", "word"] (defScope s_image_of) := ⟨rfl, rfl, rfl, by decide +kernel, rfl, by decide +kernel, by decide +kernel⟩
abbrev s_paired : Stmt := top 24
theorem sc_paired : FnScope ["columns", "source", "bit"] ["columns"] (defScope s_paired) := ⟨rfl, rfl, rfl, by decide +kernel, rfl, by decide +kernel, by decide +kernel⟩
abbrev s_kernel_rows : Stmt := top 25
theorem sc_kernel_rows : FnScope ["columns", "row"] ["columns"] (defScope s_kernel_rows) := ⟨rfl, rfl, rfl, by decide +kernel, rfl, by decide +kernel, by decide +kernel⟩
abbrev s_solved : Stmt := top 26
theorem sc_solved : FnScope ["pairs", "source", "word", "left"] ["pairs", "source", "word"] (defScope s_solved) := ⟨rfl, rfl, rfl, by decide +kernel, rfl, by decide +kernel, by decide +kernel⟩
abbrev s_met : Stmt := top 27
theorem sc_met : FnScope ["bits", "rows", "others", "both", "row"] ["bits", "rows", "others"] (defScope s_met) := ⟨rfl, rfl, rfl, by decide +kernel, rfl, by decide +kernel, by decide +kernel⟩
abbrev s_Space_init : Stmt := inClass (top 29) 0
theorem sc_Space_init : FnScope ["self", "bits", "words"] ["self", "bits", "words"] (defScope s_Space_init) := ⟨rfl, rfl, rfl, by decide +kernel, rfl, by decide +kernel, by decide +kernel⟩
abbrev s_Space_eq : Stmt := inClass (top 29) 1
theorem sc_Space_eq : FnScope ["self", "other"] ["self", "other"] (defScope s_Space_eq) := ⟨rfl, rfl, rfl, by decide +kernel, rfl, by decide +kernel, by decide +kernel⟩
abbrev s_Space_contains : Stmt := inClass (top 29) 2
theorem sc_Space_contains : FnScope ["self", "word"] ["self", "word"] (defScope s_Space_contains) := ⟨rfl, rfl, rfl, by decide +kernel, rfl, by decide +kernel, by decide +kernel⟩
abbrev s_Space_and : Stmt := inClass (top 29) 3
theorem sc_Space_and : FnScope ["self", "other"] ["self", "other"] (defScope s_Space_and) := ⟨rfl, rfl, rfl, by decide +kernel, rfl, by decide +kernel, by decide +kernel⟩
abbrev s_Space_add : Stmt := inClass (top 29) 4
theorem sc_Space_add : FnScope ["self", "other"] ["self", "other"] (defScope s_Space_add) := ⟨rfl, rfl, rfl, by decide +kernel, rfl, by decide +kernel, by decide +kernel⟩
abbrev s_Space_inside : Stmt := inClass (top 29) 5
theorem sc_Space_inside : FnScope ["self", "other"] ["self", "other"] (defScope s_Space_inside) := ⟨rfl, rfl, rfl, by decide +kernel, rfl, by decide +kernel, by decide +kernel⟩
abbrev s_Space_least : Stmt := inClass (top 29) 6
theorem sc_Space_least : FnScope ["self", "word"] ["self", "word"] (defScope s_Space_least) := ⟨rfl, rfl, rfl, by decide +kernel, rfl, by decide +kernel, by decide +kernel⟩
abbrev s_Space_listed : Stmt := inClass (top 29) 7
theorem sc_Space_listed : FnScope ["self", "word"] ["self", "word"] (defScope s_Space_listed) := ⟨rfl, rfl, rfl, by decide +kernel, rfl, by decide +kernel, by decide +kernel⟩
abbrev s_Space_completing : Stmt := inClass (top 29) 8
theorem sc_Space_completing : FnScope ["self", "other"] ["self", "other"] (defScope s_Space_completing) := ⟨rfl, rfl, rfl, by decide +kernel, rfl, by decide +kernel, by decide +kernel⟩
abbrev s_Space_complement : Stmt := inClass (top 29) 9
theorem sc_Space_complement : FnScope ["self"] ["self"] (defScope s_Space_complement) := ⟨rfl, rfl, rfl, by decide +kernel, rfl, by decide +kernel, by decide +kernel⟩
abbrev s_need_space : Stmt := top 30
theorem sc_need_space : FnScope ["value", "bits"] ["value", "bits"] (defScope s_need_space) := ⟨rfl, rfl, rfl, by decide +kernel, rfl, by decide +kernel, by decide +kernel⟩
abbrev s_Map_init : Stmt := inClass (top 32) 0
theorem sc_Map_init : FnScope ["self", "goal", "columns"] ["self", "goal", "columns"] (defScope s_Map_init) := ⟨rfl, rfl, rfl, by decide +kernel, rfl, by decide +kernel, by decide +kernel⟩
abbrev s_Map_eq : Stmt := inClass (top 32) 1
theorem sc_Map_eq : FnScope ["self", "other"] ["self", "other"] (defScope s_Map_eq) := ⟨rfl, rfl, rfl, by decide +kernel, rfl, by decide +kernel, by decide +kernel⟩
abbrev s_Map_call : Stmt := inClass (top 32) 2
theorem sc_Map_call : FnScope ["self", "word"] ["self", "word"] (defScope s_Map_call) := ⟨rfl, rfl, rfl, by decide +kernel, rfl, by decide +kernel, by decide +kernel⟩
abbrev s_Map_getitem : Stmt := inClass (top 32) 3
theorem sc_Map_getitem : FnScope ["self", "bit"] ["self", "bit"] (defScope s_Map_getitem) := ⟨rfl, rfl, rfl, by decide +kernel, rfl, by decide +kernel, by decide +kernel⟩
abbrev s_Map_iter : Stmt := inClass (top 32) 4
theorem sc_Map_iter : FnScope ["self"] ["self"] (defScope s_Map_iter) := ⟨rfl, rfl, rfl, by decide +kernel, rfl, by decide +kernel, by decide +kernel⟩
abbrev s_Map_mul : Stmt := inClass (top 32) 5
theorem sc_Map_mul : FnScope ["self", "other", "column"] ["self", "other"] (defScope s_Map_mul) := ⟨rfl, rfl, rfl, by decide +kernel, rfl, by decide +kernel, by decide +kernel⟩
abbrev s_Map_add : Stmt := inClass (top 32) 6
theorem sc_Map_add : FnScope ["self", "other", "one", "two"] ["self", "other"] (defScope s_Map_add) := ⟨rfl, rfl, rfl, by decide +kernel, rfl, by decide +kernel, by decide +kernel⟩
abbrev s_Map_invert : Stmt := inClass (top 32) 7
theorem sc_Map_invert : FnScope ["self", "pairs", "bit"] ["self"] (defScope s_Map_invert) := ⟨rfl, rfl, rfl, by decide +kernel, rfl, by decide +kernel, by decide +kernel⟩
abbrev s_Map_floordiv : Stmt := inClass (top 32) 8
theorem sc_Map_floordiv : FnScope ["self", "other", "row", "pairs", "words", "bit", "word"] ["self", "other"] (defScope s_Map_floordiv) := ⟨rfl, rfl, rfl, by decide +kernel, rfl, by decide +kernel, by decide +kernel⟩
abbrev s_Map_rank : Stmt := inClass (top 32) 9
theorem sc_Map_rank : FnScope ["self"] ["self"] (defScope s_Map_rank) := ⟨rfl, rfl, rfl, by decide +kernel, rfl, by decide +kernel, by decide +kernel⟩
abbrev s_Map_kernel : Stmt := inClass (top 32) 10
theorem sc_Map_kernel : FnScope ["self"] ["self"] (defScope s_Map_kernel) := ⟨rfl, rfl, rfl, by decide +kernel, rfl, by decide +kernel, by decide +kernel⟩
abbrev s_Map_image : Stmt := inClass (top 32) 11
theorem sc_Map_image : FnScope ["self"] ["self"] (defScope s_Map_image) := ⟨rfl, rfl, rfl, by decide +kernel, rfl, by decide +kernel, by decide +kernel⟩
abbrev s_Map_solve : Stmt := inClass (top 32) 12
theorem sc_Map_solve : FnScope ["self", "word"] ["self", "word"] (defScope s_Map_solve) := ⟨rfl, rfl, rfl, by decide +kernel, rfl, by decide +kernel, by decide +kernel⟩
abbrev s_Map_turned : Stmt := inClass (top 32) 13
theorem sc_Map_turned : FnScope ["self"] ["self"] (defScope s_Map_turned) := ⟨rfl, rfl, rfl, by decide +kernel, rfl, by decide +kernel, by decide +kernel⟩
abbrev s_Map_moved : Stmt := inClass (top 32) 14
theorem sc_Map_moved : FnScope ["self", "space"] ["self", "space"] (defScope s_Map_moved) := ⟨rfl, rfl, rfl, by decide +kernel, rfl, by decide +kernel, by decide +kernel⟩
abbrev s_Map_origin : Stmt := inClass (top 32) 15
theorem sc_Map_origin : FnScope ["self", "space"] ["self", "space"] (defScope s_Map_origin) := ⟨rfl, rfl, rfl, by decide +kernel, rfl, by decide +kernel, by decide +kernel⟩
abbrev s_Map_beside : Stmt := inClass (top 32) 16
theorem sc_Map_beside : FnScope ["self", "other"] ["self", "other"] (defScope s_Map_beside) := ⟨rfl, rfl, rfl, by decide +kernel, rfl, by decide +kernel, by decide +kernel⟩
abbrev s_Map_stacked : Stmt := inClass (top 32) 17
theorem sc_Map_stacked : FnScope ["self", "other"] ["self", "other"] (defScope s_Map_stacked) := ⟨rfl, rfl, rfl, by decide +kernel, rfl, by decide +kernel, by decide +kernel⟩
abbrev s_need_map : Stmt := top 33
theorem sc_need_map : FnScope ["value", "source", "goal"] ["value", "source", "goal"] (defScope s_need_map) := ⟨rfl, rfl, rfl, by decide +kernel, rfl, by decide +kernel, by decide +kernel⟩
abbrev s_need_one_to_one : Stmt := top 34
theorem sc_need_one_to_one : FnScope ["change", "rows"] ["change"] (defScope s_need_one_to_one) := ⟨rfl, rfl, rfl, by decide +kernel, rfl, by decide +kernel, by decide +kernel⟩
abbrev s_need_onto : Stmt := top 35
theorem sc_need_onto : FnScope ["change", "rows"] ["change"] (defScope s_need_onto) := ⟨rfl, rfl, rfl, by decide +kernel, rfl, by decide +kernel, by decide +kernel⟩
abbrev s_Spread_init : Stmt := inClass (top 37) 0
theorem sc_Spread_init : FnScope ["self", "bits", "slots", "lanes", "rows"] ["self", "bits", "slots", "lanes"] (defScope s_Spread_init) := ⟨rfl, rfl, rfl, by decide +kernel, rfl, by decide +kernel, by decide +kernel⟩
abbrev s_Spread_eq : Stmt := inClass (top 37) 1
theorem sc_Spread_eq : FnScope ["self", "other"] ["self", "other"] (defScope s_Spread_eq) := ⟨rfl, rfl, rfl, by decide +kernel, rfl, by decide +kernel, by decide +kernel⟩
abbrev s_Spread_or : Stmt := inClass (top 37) 2
theorem sc_Spread_or : FnScope ["self", "other", "slots", "lanes", "word"] ["self", "other"] (defScope s_Spread_or) := ⟨rfl, rfl, rfl, by decide +kernel, rfl, by decide +kernel, by decide +kernel⟩
abbrev s_Spread_floordiv : Stmt := inClass (top 37) 3
theorem sc_Spread_floordiv : FnScope ["self", "one", "slots", "lanes"] ["self", "one"] (defScope s_Spread_floordiv) := ⟨rfl, rfl, rfl, by decide +kernel, rfl, by decide +kernel, by decide +kernel⟩
abbrev s_Spread_entry : Stmt := inClass (top 37) 4
theorem sc_Spread_entry : FnScope ["self", "slot", "lane"] ["self", "slot", "lane"] (defScope s_Spread_entry) := ⟨rfl, rfl, rfl, by decide +kernel, rfl, by decide +kernel, by decide +kernel⟩
abbrev s_Spread_lane_of : Stmt := inClass (top 37) 5
theorem sc_Spread_lane_of : FnScope ["self", "entry"] ["self", "entry"] (defScope s_Spread_lane_of) := ⟨rfl, rfl, rfl, by decide +kernel, rfl, by decide +kernel, by decide +kernel⟩
abbrev s_Spread_slot_of : Stmt := inClass (top 37) 6
theorem sc_Spread_slot_of : FnScope ["self", "entry", "lane"] ["self", "entry", "lane"] (defScope s_Spread_slot_of) := ⟨rfl, rfl, rfl, by decide +kernel, rfl, by decide +kernel, by decide +kernel⟩
abbrev s_Spread_held : Stmt := inClass (top 37) 7
theorem sc_Spread_held : FnScope ["self", "lane"] ["self", "lane"] (defScope s_Spread_held) := ⟨rfl, rfl, rfl, by decide +kernel, rfl, by decide +kernel, by decide +kernel⟩
abbrev s_Spread_slot_space : Stmt := inClass (top 37) 8
theorem sc_Spread_slot_space : FnScope ["self"] ["self"] (defScope s_Spread_slot_space) := ⟨rfl, rfl, rfl, by decide +kernel, rfl, by decide +kernel, by decide +kernel⟩
abbrev s_Spread_lane_space : Stmt := inClass (top 37) 9
theorem sc_Spread_lane_space : FnScope ["self"] ["self"] (defScope s_Spread_lane_space) := ⟨rfl, rfl, rfl, by decide +kernel, rfl, by decide +kernel, by decide +kernel⟩
abbrev s_Spread_twins : Stmt := inClass (top 37) 10
theorem sc_Spread_twins : FnScope ["self"] ["self"] (defScope s_Spread_twins) := ⟨rfl, rfl, rfl, by decide +kernel, rfl, by decide +kernel, by decide +kernel⟩
abbrev s_Spread_copies : Stmt := inClass (top 37) 11
theorem sc_Spread_copies : FnScope ["self"] ["self"] (defScope s_Spread_copies) := ⟨rfl, rfl, rfl, by decide +kernel, rfl, by decide +kernel, by decide +kernel⟩
abbrev s_Spread_placing : Stmt := inClass (top 37) 12
theorem sc_Spread_placing : FnScope ["self"] ["self"] (defScope s_Spread_placing) := ⟨rfl, rfl, rfl, by decide +kernel, rfl, by decide +kernel, by decide +kernel⟩
abbrev s_Spread_together : Stmt := inClass (top 37) 13
theorem sc_Spread_together : FnScope ["self", "entries"] ["self", "entries"] (defScope s_Spread_together) := ⟨rfl, rfl, rfl, by decide +kernel, rfl, by decide +kernel, by decide +kernel⟩
abbrev s_Spread_renamed : Stmt := inClass (top 37) 14
theorem sc_Spread_renamed : FnScope ["self", "change"] ["self", "change"] (defScope s_Spread_renamed) := ⟨rfl, rfl, rfl, by decide +kernel, rfl, by decide +kernel, by decide +kernel⟩
abbrev s_Spread_parts : Stmt := inClass (top 37) 15
theorem sc_Spread_parts : FnScope ["self"] ["self"] (defScope s_Spread_parts) := ⟨rfl, rfl, rfl, by decide +kernel, rfl, by decide +kernel, by decide +kernel⟩
abbrev s_any_spread : Stmt := top 38
theorem sc_any_spread : FnScope ["value"] ["value"] (defScope s_any_spread) := ⟨rfl, rfl, rfl, by decide +kernel, rfl, by decide +kernel, by decide +kernel⟩
abbrev s_left_over : Stmt := top 39
theorem sc_left_over : FnScope ["words", "first", "bits", "many", "word"] ["words", "first", "bits"] (defScope s_left_over) := ⟨rfl, rfl, rfl, by decide +kernel, rfl, by decide +kernel, by decide +kernel⟩
abbrev s_Store_init : Stmt := inClass (top 41) 0
theorem sc_Store_init : FnScope ["self", "change", "banks"] ["self", "change", "banks"] (defScope s_Store_init) := ⟨rfl, rfl, rfl, by decide +kernel, rfl, by decide +kernel, by decide +kernel⟩
abbrev s_Store_bank : Stmt := inClass (top 41) 1
theorem sc_Store_bank : FnScope ["self", "entry"] ["self", "entry"] (defScope s_Store_bank) := ⟨rfl, rfl, rfl, by decide +kernel, rfl, by decide +kernel, by decide +kernel⟩
abbrev s_Store_bank_map : Stmt := inClass (top 41) 2
theorem sc_Store_bank_map : FnScope ["self", "column"] ["self"] (defScope s_Store_bank_map) := ⟨rfl, rfl, rfl, by decide +kernel, rfl, by decide +kernel, by decide +kernel⟩
abbrev s_Store_meeting : Stmt := inClass (top 41) 3
theorem sc_Store_meeting : FnScope ["self", "space"] ["self", "space"] (defScope s_Store_meeting) := ⟨rfl, rfl, rfl, by decide +kernel, rfl, by decide +kernel, by decide +kernel⟩
abbrev s_Store_need_width : Stmt := inClass (top 41) 4
theorem sc_Store_need_width : FnScope ["self", "spread", "width"] ["self", "spread", "width"] (defScope s_Store_need_width) := ⟨rfl, rfl, rfl, by decide +kernel, rfl, by decide +kernel, by decide +kernel⟩
abbrev s_Store_fits : Stmt := inClass (top 41) 5
theorem sc_Store_fits : FnScope ["self", "spread", "width", "rows", "word"] ["self", "spread", "width"] (defScope s_Store_fits) := ⟨rfl, rfl, rfl, by decide +kernel, rfl, by decide +kernel, by decide +kernel⟩
abbrev s_Store_touched : Stmt := inClass (top 41) 6
theorem sc_Store_touched : FnScope ["self", "spread", "width", "low"] ["self", "spread", "width"] (defScope s_Store_touched) := ⟨rfl, rfl, rfl, by decide +kernel, rfl, by decide +kernel, by decide +kernel⟩
abbrev s_Store_beats : Stmt := inClass (top 41) 7
theorem sc_Store_beats : FnScope ["self", "spread", "width", "met"] ["self", "spread", "width"] (defScope s_Store_beats) := ⟨rfl, rfl, rfl, by decide +kernel, rfl, by decide +kernel, by decide +kernel⟩
abbrev s_phase_bits : Stmt := top 42
theorem sc_phase_bits : FnScope ["spread", "width"] ["spread", "width"] (defScope s_phase_bits) := ⟨rfl, rfl, rfl, by decide +kernel, rfl, by decide +kernel, by decide +kernel⟩
abbrev s_beginL : Stmt := top 44
theorem sc_beginL : FnScope ["_law_script"] ["_law_script"] (defScope s_beginL) := ⟨rfl, rfl, rfl, by decide +kernel, rfl, by decide +kernel, by decide +kernel⟩
abbrev s_drawL : Stmt := top 45
theorem sc_drawL : FnScope ["_law_pen", "_law_span", "_law_digit", "_law_at", "_law_cell", "_law_n"] ["_law_pen", "_law_span"] (defScope s_drawL) := ⟨rfl, rfl, rfl, by decide +kernel, rfl, by decide +kernel, by decide +kernel⟩
abbrev s_pickL : Stmt := top 46
theorem sc_pickL : FnScope ["_law_pen", "_law_some"] ["_law_pen", "_law_some"] (defScope s_pickL) := ⟨rfl, rfl, rfl, by decide +kernel, rfl, by decide +kernel, by decide +kernel⟩
abbrev s_wordL : Stmt := top 47
theorem sc_wordL : FnScope ["_law_pen", "_law_bits", "_law_found", "_law_k"] ["_law_pen", "_law_bits"] (defScope s_wordL) := ⟨rfl, rfl, rfl, by decide +kernel, rfl, by decide +kernel, by decide +kernel⟩
abbrev s_mixedL : Stmt := top 48
theorem sc_mixedL : FnScope ["_law_pen", "_law_some", "_law_left_here", "_law_found", "_law_k"] ["_law_pen", "_law_some"] (defScope s_mixedL) := ⟨rfl, rfl, rfl, by decide +kernel, rfl, by decide +kernel, by decide +kernel⟩
abbrev s_leftL : Stmt := top 49
theorem sc_leftL : FnScope ["_law_rows", "_law_word_here", "_law_row"] ["_law_rows", "_law_word_here"] (defScope s_leftL) := ⟨rfl, rfl, rfl, by decide +kernel, rfl, by decide +kernel, by decide +kernel⟩
abbrev s_basisL : Stmt := top 50
theorem sc_basisL : FnScope ["_law_words", "_law_rows", "_law_word_here"] ["_law_words"] (defScope s_basisL) := ⟨rfl, rfl, rfl, by decide +kernel, rfl, by decide +kernel, by decide +kernel⟩
abbrev s_sizeL : Stmt := top 51
theorem sc_sizeL : FnScope ["_law_words"] ["_law_words"] (defScope s_sizeL) := ⟨rfl, rfl, rfl, by decide +kernel, rfl, by decide +kernel, by decide +kernel⟩
abbrev s_imageL : Stmt := top 52
theorem sc_imageL : FnScope ["_law_columns_here", "_law_word_here", "_law_found", "_law_at"] ["_law_columns_here", "_law_word_here"] (defScope s_imageL) := ⟨rfl, rfl, rfl, by decide +kernel, rfl, by decide +kernel, by decide +kernel⟩
abbrev s_listedL : Stmt := top 53
theorem sc_listedL : FnScope ["_law_words", "_law_found", "_law_word_here", "_law_one"] ["_law_words"] (defScope s_listedL) := ⟨rfl, rfl, rfl, by decide +kernel, rfl, by decide +kernel, by decide +kernel⟩
abbrev s_truthL : Stmt := top 54
theorem sc_truthL : FnScope ["_law_value", "_law_due"] ["_law_value", "_law_due"] (defScope s_truthL) := ⟨rfl, rfl, rfl, by decide +kernel, rfl, by decide +kernel, by decide +kernel⟩
abbrev s_is_spaceL : Stmt := top 55
theorem sc_is_spaceL : FnScope ["_law_value", "_law_bits", "_law_words"] ["_law_value", "_law_bits", "_law_words"] (defScope s_is_spaceL) := ⟨rfl, rfl, rfl, by decide +kernel, rfl, by decide +kernel, by decide +kernel⟩
abbrev s_words_forL : Stmt := top 56
theorem sc_words_forL : FnScope ["_law_pen", "_law_bits", "_law_many", "_law_style", "_law_found", "_law_k"] ["_law_pen", "_law_bits", "_law_many", "_law_style"] (defScope s_words_forL) := ⟨rfl, rfl, rfl, by decide +kernel, rfl, by decide +kernel, by decide +kernel⟩
abbrev s_spread_wordsL : Stmt := top 57
theorem sc_spread_wordsL : FnScope ["_law_pen", "_law_bits", "_law_slots", "_law_lanes", "_law_style", "_law_some", "_law_others", "_law_rows", "_law_word_here", "_law_left_here", "_law_bit"] ["_law_pen", "_law_bits", "_law_slots", "_law_lanes"] (defScope s_spread_wordsL) := ⟨rfl, rfl, rfl, by decide +kernel, rfl, by decide +kernel, by decide +kernel⟩
abbrev s_columnsL : Stmt := top 58
theorem sc_columnsL : FnScope ["_law_pen", "_law_bits", "_law_found", "_law_k", "_law_one", "_law_other", "_law_bit"] ["_law_pen", "_law_bits"] (defScope s_columnsL) := ⟨rfl, rfl, rfl, by decide +kernel, rfl, by decide +kernel, by decide +kernel⟩
abbrev s_refusedL : Stmt := top 59
theorem sc_refusedL : FnScope ["_law_call"] ["_law_call"] (defScope s_refusedL) := ⟨rfl, rfl, rfl, by decide +kernel, rfl, by decide +kernel, by decide +kernel⟩
abbrev s_banks_rightL : Stmt := top 60
theorem sc_banks_rightL : FnScope ["_law_pen", "_law_store", "_law_columns_here", "_law_banks", "_law_bits", "_law_mask", "_law_words", "_law_seen", "_law_entry", "_law_column", "_law_k", "_law_word_here"] ["_law_pen", "_law_store", "_law_columns_here", "_law_banks"] (defScope s_banks_rightL) := ⟨rfl, rfl, rfl, by decide +kernel, rfl, by decide +kernel, by decide +kernel⟩
abbrev s_beats_playedL : Stmt := top 61
theorem sc_beats_playedL : FnScope ["_law_pen", "_law_lanes", "_law_columns_here", "_law_near", "_law_width", "_law_banks", "_law_beats", "_law_high", "_law_mask", "_law_start", "_law_phase", "_law_seen", "_law_counts", "_law_low", "_law_word_here", "_law_entry", "_law_bank"] ["_law_pen", "_law_lanes", "_law_columns_here", "_law_near", "_law_width", "_law_banks"] (defScope s_beats_playedL) := ⟨rfl, rfl, rfl, by decide +kernel, rfl, by decide +kernel, by decide +kernel⟩
abbrev s_law : Stmt := top 62
theorem sc_law : FnScope ["_law_script", "_law_pen", "_law_turn", "_law_bits", "_law_columns_here", "_law_banks", "_law_store", "_law_slots", "_law_lanes", "_law_near", "_law_spread", "_law_rows", "_law_width", "_law_fits", "_law_low", "_law_at", "_law_due", "_law_entry", "_law_word_here"] ["_law_script"] (defScope s_law) := ⟨rfl, rfl, rfl, by decide +kernel, rfl, by decide +kernel, by decide +kernel⟩
structure Bt (mg : Str → Option Value) : Prop where
  abs : mg "abs" = none
  all : mg "all" = none
  any : mg "any" = none
  bool : mg "bool" = none
  int : mg "int" = none
  isinstance : mg "isinstance" = none
  len : mg "len" = none
  list : mg "list" = none
  max : mg "max" = none
  min : mg "min" = none
  range : mg "range" = none
  sorted : mg "sorted" = none
  tuple : mg "tuple" = none
  zip : mg "zip" = none
end LaneX
set_option Elab.async false
set_option linter.all false
set_option maxRecDepth 100000
set_option maxHeartbeats 4000000
namespace LaneX
open PySem PySem.Spec PyProof.Rows L2
/-! ### an operator of an own class, both operands of that class -/
def rOwn (C : Addr) (sp : Sp) : R2 := fun x y H Q => ∃ (a b dx dy : Addr) (fs gs : List (Str × V)), x = .ref a ∧ y = .ref b ∧ H a = some (.ins C dx fs) ∧ H b = some (.ins C dy gs) ∧ sp [.ref a, .ref b] H Q E0
section
variable {X : Cx}
theorem back_of {pins : List (Addr × Obj)} {σ : L2.St} {Q : VK} {v : Value} {s : Shared} (h : EP X pins σ Q v s) : PySem.W.CmpBack (EP X pins σ Q) v s := by
  have h' := h
  obtain ⟨x, H', I, r, q⟩ := h'
  have nn : v ≠ Value.notImplemented := fun z => by
    subst z
    cases x with
    | non => exact absurd (show Value.notImplemented = Value.none from r) (fun z => nomatch z)
    | bl b => exact absurd (show Value.notImplemented = Value.bool b from r) (fun z => nomatch z)
    | int i => obtain ⟨t, z⟩ := (show ∃ t, Value.notImplemented = Value.int i t from r); exact nomatch z
    | str i => obtain ⟨t, z⟩ := (show ∃ t, Value.notImplemented = Value.str i t from r); exact nomatch z
    | byt i => obtain ⟨t, z⟩ := (show ∃ t, Value.notImplemented = Value.bytes i t from r); exact nomatch z
    | flt i => obtain ⟨t, z⟩ := (show ∃ t, Value.notImplemented = Value.float i t from r); exact nomatch z
    | ref a => exact absurd (show Value.notImplemented = Value.ref a from r) (fun z => nomatch z)
    | ty n => exact absurd (show Value.notImplemented = Value.type n from r) (fun z => nomatch z)
  cases v <;> first | exact h | exact absurd rfl nn
theorem op_own {op : Operator} {m : Str} {k j : Nat} {C : Addr} {ps : List Str} {sp : Sp} (hm : m = PySem.dunder op.info.2) (D : Mn X.prog X.w X.K X.mg X.base k C m ps sp) (hc : PySem.W.selfFirst X.K C = true) (hr : Room j X.A) (hk : k ≤ j := by decide) : OpR X (binaryOp op) (rOwn C sp) := by
  intro pins s σ H x y v u Q I rx ry h
  obtain ⟨a, b, dx, dy, fs, gs, rfl, rfl, ha, hb, hsp⟩ := h
  obtain ⟨f, fd, h1, h3, h4⟩ := D.ex
  cases (show v = Value.ref a from rx)
  cases (show u = Value.ref b from ry)
  obtain ⟨mA, O, _⟩ := ins_get I.hok ha
  obtain ⟨od, J, _⟩ := O.look
  obtain ⟨mB, O2, _⟩ := ins_get I.hok hb
  obtain ⟨od2, J2, _⟩ := O2.look
  obtain ⟨mm, F⟩ := I.fr
  subst hm
  refine PySem.W.binop_K F I.mod.kin J J2.type hc h1.at_ h1.fn ?_
  exact wpAny_mono (run_fn h4 (hr.mono hk) h3 .nil pass0 I (vs := [.ref a, .ref b]) (.cons rfl (.cons rfl .nil)) hsp) (fun v s' hq => back_of hq) fun _ _ z => z
end
end LaneX
set_option Elab.async false
set_option linter.all false
set_option maxRecDepth 100000
set_option maxHeartbeats 4000000
namespace LaneX
open PySem PySem.Spec PyProof.Rows L2
/-! ### lists of ints compared -/
theorem dpAll_ints {K : PySem.W.Frag} {H : Hp} : ∀ ns : List Int, DpAll K H (ns.map V.int) (ns.map PyData.int)
  | [] => .nil
  | n :: r => .cons (.int n) (dpAll_ints r)
theorem eqvAll_ints : ∀ ns ms : List Int, PyData.eqvAll (ns.map PyData.int) (ms.map PyData.int) = decide (ns = ms)
  | [], [] => rfl
  | [], _ :: _ => rfl
  | _ :: _, [] => rfl
  | n :: r, m :: q => by
    show (PyData.eqv (.int n) (.int m) && PyData.eqvAll (r.map PyData.int) (q.map PyData.int)) = _
    rw [eqvAll_ints r q]
    show ((n == m) && decide (r = q)) = _
    by_cases h : n = m
    · subst h; simp
    · simp [h]
theorem shaped_tints (ns : List Int) : SeqAt.shaped (.tuple (ns.map PyData.int)) = true := by
  have h := PySem.W.ke_shaped_ints ns
  unfold SeqAt.shaped at h ⊢
  exact h
section
variable {X : Cx}
theorem op_neL (hu : X.A.units + 64 < cLine) : OpR X (compareOp .NotEq) (fun x y H Q => ∃ (a b : Addr) (ns ms : List Int), x = .ref a ∧ y = .ref b ∧ H a = some (.lst (ns.map V.int)) ∧ H b = some (.lst (ms.map V.int)) ∧ Q (.bl (!decide (ns = ms))) H) := by
  intro pins s σ H x y v u Q I rx ry h
  obtain ⟨a, b, ns, ms, rfl, rfl, ha, hb, q⟩ := h
  refine op_neD hu pins s σ H _ _ v u Q I rx ry ⟨.list (ns.map .int), .list (ms.map .int), .lst (SqL.of ha) (dpAll_ints ns), .lst (SqL.of hb) (dpAll_ints ms), PySem.W.ke_shaped_ints ns, PySem.W.ke_shaped_ints ms, ?_⟩
  show Q (.bl (!PyData.eqvAll (ns.map .int) (ms.map .int))) H
  rw [eqvAll_ints]
  exact q
theorem op_eqL (hu : X.A.units + 64 < cLine) : OpR X (compareOp .Eq) (fun x y H Q => ∃ (a b : Addr) (ns ms : List Int), x = .ref a ∧ y = .ref b ∧ H a = some (.lst (ns.map V.int)) ∧ H b = some (.lst (ms.map V.int)) ∧ Q (.bl (decide (ns = ms))) H) := by
  intro pins s σ H x y v u Q I rx ry h
  obtain ⟨a, b, ns, ms, rfl, rfl, ha, hb, q⟩ := h
  refine op_eqD hu pins s σ H _ _ v u Q I rx ry ⟨.list (ns.map .int), .list (ms.map .int), .lst (SqL.of ha) (dpAll_ints ns), .lst (SqL.of hb) (dpAll_ints ms), PySem.W.ke_shaped_ints ns, PySem.W.ke_shaped_ints ms, ?_⟩
  show Q (.bl (PyData.eqvAll (ns.map .int) (ms.map .int))) H
  rw [eqvAll_ints]
  exact q
theorem vN_ints (l : List Nat) : l.map vN = (l.map Int.ofNat).map V.int := by rw [List.map_map]; rfl
/-- a list of naturals against the empty list -/
theorem op_neE (hu : X.A.units + 64 < cLine) : OpR X (compareOp .NotEq) (fun x y H Q => ∃ (a b : Addr) (ns : List Nat), x = .ref a ∧ y = .ref b ∧ H a = some (.lst (ns.map vN)) ∧ H b = some (.lst []) ∧ Q (.bl (!ns.isEmpty)) H) := by
  intro pins s σ H x y v u Q I rx ry h
  obtain ⟨a, b, ns, rfl, rfl, ha, hb, q⟩ := h
  rw [vN_ints] at ha
  refine op_neL hu pins s σ H _ _ v u Q I rx ry ⟨a, b, _, [], rfl, rfl, ha, hb, ?_⟩
  have e : (!decide (ns.map Int.ofNat = [])) = !ns.isEmpty := by cases ns <;> simp
  rw [e]
  exact q
theorem op_eqE (hu : X.A.units + 64 < cLine) : OpR X (compareOp .Eq) (fun x y H Q => ∃ (a b : Addr) (ns : List Nat), x = .ref a ∧ y = .ref b ∧ H a = some (.lst (ns.map vN)) ∧ H b = some (.lst []) ∧ Q (.bl ns.isEmpty) H) := by
  intro pins s σ H x y v u Q I rx ry h
  obtain ⟨a, b, ns, rfl, rfl, ha, hb, q⟩ := h
  rw [vN_ints] at ha
  refine op_eqL hu pins s σ H _ _ v u Q I rx ry ⟨a, b, _, [], rfl, rfl, ha, hb, ?_⟩
  have e : decide (ns.map Int.ofNat = []) = ns.isEmpty := by cases ns <;> simp
  rw [e]
  exact q
/-- min and max of two naturals -/
theorem call_minN (hc : X.calm = true) : CallR X (.builtin "min") (fun xs H Q => ∃ n m : Nat, xs = [.int (n : Int), .int (m : Int)] ∧ Q (.int ((min n m : Nat) : Int)) H) := by
  intro pins s σ H xs us Q I r h
  obtain ⟨n, m, rfl, q⟩ := h
  refine call_min2 hc pins s σ H _ us Q I r ⟨_, _, rfl, ?_⟩
  have e : (if (m : Int) < (n : Int) then (m : Int) else (n : Int)) = ((min n m : Nat) : Int) := by split <;> omega
  rw [e]
  exact q
/-! ### numbers -/
theorem call_intQ : CallR X (.type "int") (fun xs H Q => ∃ i : Int, xs = [.int i] ∧ Q (.int i) H) := by
  intro pins s σ H xs us Q I r h
  obtain ⟨i, rfl, q⟩ := h
  exact call_int1 pins s σ H _ us Q I r (.inl ⟨i, rfl, q⟩)
theorem call_absN : CallR X (.builtin "abs") (fun xs H Q => ∃ i : Int, xs = [.int i] ∧ Q (.int (i.natAbs : Nat)) H) := by
  intro pins s σ H xs us Q I r h
  obtain ⟨i, rfl, q⟩ := h
  refine call_abs pins s σ H _ us Q I r ⟨i, rfl, ?_⟩
  have e : (if i < 0 then -i else i) = (i.natAbs : Int) := by split <;> omega
  rw [e]
  exact q
theorem on_pow : OpR X (binaryOp .Pow) (fun x y H Q => ∃ n m : Nat, x = .int (n : Int) ∧ y = .int (m : Int) ∧ (n < 2 ^ 64 ∧ m ≤ 1000000) ∧ Q (.int ((n ^ m : Nat) : Int)) H) := by
  intro pins s σ H x y v u Q I rx ry h
  obtain ⟨n, m, rfl, rfl, ⟨c1, c2⟩, q⟩ := h
  refine op_pow pins s σ H _ _ v u Q I rx ry ⟨_, _, rfl, rfl, ⟨by omega, by omega, by simpa using c1⟩, ?_⟩
  rw [Int.natCast_pow] at q
  exact q
/-- an int of any sign, a positive divisor -/
theorem on_modI : OpR X (binaryOp .Mod) (fun x y H Q => ∃ (i : Int) (m : Nat), x = .int i ∧ y = .int (m : Int) ∧ 0 < m ∧ Q (.int ((i % (m : Int)).toNat : Nat)) H) := by
  intro pins s σ H x y v u Q I rx ry h
  obtain ⟨i, m, rfl, rfl, c, q⟩ := h
  have e : (((i % (m : Int)).toNat : Nat) : Int) = i % (m : Int) := by
    have := Int.emod_nonneg i (b := (m : Int)) (by omega)
    omega
  rw [e] at q
  exact op_mod pins s σ H _ _ v u Q I rx ry ⟨_, _, rfl, rfl, show (0 : Int) < (m : Int) by omega, q⟩
end
section
variable {X : Cx}
theorem and_neg (n : Nat) : Builtin.bitAnd (n : Int) (-(n : Int)) = ((lwb n : Nat) : Int) := by
  unfold Builtin.bitAnd lwb
  by_cases h : n = 0
  · subst h
    rfl
  · have h1 : decide (0 ≤ (n : Int)) = true := decide_eq_true (Int.natCast_nonneg _)
    have h2 : decide (0 ≤ -(n : Int)) = false := decide_eq_false (by omega)
    rw [h1, h2]
    show (n : Int) - (((n : Int).toNat &&& (Builtin.bitNot (-(n : Int))).toNat : Nat) : Int) = _
    have e : (Builtin.bitNot (-(n : Int))).toNat = n - 1 := by
      unfold Builtin.bitNot
      omega
    rw [e, Int.toNat_natCast]
    have le : n &&& (n - 1) ≤ n := Nat.and_le_left
    omega
/-- n & -n -/
theorem on_low : OpR X (binaryOp .BitAnd) (fun x y H Q => ∃ n : Nat, x = .int (n : Int) ∧ y = .int (-(n : Int)) ∧ Q (.int ((lwb n : Nat) : Int)) H) := by
  intro pins s σ H x y v u Q I rx ry h
  obtain ⟨n, rfl, rfl, q⟩ := h
  rw [← and_neg] at q
  exact op_and pins s σ H _ _ v u Q I rx ry ⟨_, _, rfl, rfl, q⟩
end
/-! ### the pen -/
def pen (a b c : Str) (lc : Addr) (n m : Nat) : List (Key × V) := [(.inr a, .ref lc), (.inr b, vN n), (.inr c, vN m)]
structure PenN (a b c : Str) : Prop where
  ab : a ≠ b
  ac : a ≠ c
  bc : b ≠ c
def PenAt (a b c : Str) (H : Hp) (p lc : Addr) (N : Nat) : Prop := ∃ (cs : List Int) (n m : Nat), H p = some (.dK (pen a b c lc n m)) ∧ H lc = some (.lst (cs.map V.int)) ∧ n ≤ N
section
variable {a b c : Str} {H H' : Hp} {p lc : Addr} {N M : Nat}
theorem PenAt.mono (h : PenAt a b c H p lc N) (l : N ≤ M) : PenAt a b c H p lc M := by
  obtain ⟨cs, n, m, h1, h2, h3⟩ := h
  exact ⟨cs, n, m, h1, h2, Nat.le_trans h3 l⟩
theorem PenAt.same (h : PenAt a b c H p lc N) (s : Same H H') : PenAt a b c H' p lc N := by
  obtain ⟨cs, n, m, h1, h2, h3⟩ := h
  exact ⟨cs, n, m, s _ _ h1, s _ _ h2, h3⟩
theorem PenAt.ne (h : PenAt a b c H p lc N) {l : Addr} (hl : H l = none) : lc ≠ l ∧ p ≠ l := by
  obtain ⟨cs, n, m, h1, h2, h3⟩ := h
  exact ⟨ne_of_none h2 hl, ne_of_none h1 hl⟩
/-- a list of one's own is written -/
theorem PenAt.put {l : Addr} {o : HO} (h : PenAt a b c H p lc N) (h1 : lc ≠ l ∧ p ≠ l) : PenAt a b c (upd H l o) p lc N := by
  obtain ⟨cs, n, m, g1, g2, g3⟩ := h
  exact ⟨cs, n, m, (upd_ne h1.2).trans g1, (upd_ne h1.1).trans g2, g3⟩
theorem pen_a (n m : Nat) : valV (pen a b c lc n m) (.inr a) = some (.ref lc) := valV_pos rfl
theorem pen_b (hN : PenN a b c) (n m : Nat) : valV (pen a b c lc n m) (.inr b) = some (vN n) := by
  unfold pen valV
  simp [hN.ab]
theorem pen_c (hN : PenN a b c) (n m : Nat) : valV (pen a b c lc n m) (.inr c) = some (vN m) := by
  unfold pen valV
  simp [hN.ac, hN.bc]
theorem pen_pb (hN : PenN a b c) (n m k : Nat) : putK (pen a b c lc n m) (.inr b) (vN k) = pen a b c lc k m := by
  unfold pen putK
  simp [hN.ab, hN.bc.symm]
theorem pen_pc (hN : PenN a b c) (n m k : Nat) : putK (pen a b c lc n m) (.inr c) (vN k) = pen a b c lc n k := by
  unfold pen putK
  simp [hN.ac, hN.bc]
theorem pen_len (n m : Nat) : (pen a b c lc n m).length < sizeLine := by
  show 3 < sizeLine
  decide
end
end LaneX
set_option Elab.async false
set_option linter.all false
set_option maxRecDepth 100000
set_option maxHeartbeats 4000000
namespace LaneX
open PySem PySem.Spec PyProof.Rows L2
/-! ### == and != of own classes -/
section
variable {X : Cx}
/-- an own def, called somewhere below the running body -/
theorem call_below {k : Nat} {f : Addr} {fd : FuncData} {ps : List Str} {sp : Sp} {A : Around} {pins : List (Addr × Obj)} {σ : L2.St} {H : Hp} {s : Shared} {vs : List V} {us : List Value} {Q : VK} (F : FnOk X.prog X.w X.K X.mg X.base CX0 k f fd ps sp) (hb : Binds X.K fd ps [])
    (sb : Sub X k A) (I : Inv X pins σ H s) (r : Vals vs us) (hsp : sp vs H Q E0) : wpAny (model X.prog X.w) A (call (.ref f) us) (EP X pins σ Q) X.xe s := by
  have e0 : Env0 X.prog X.w X.K X.mg X.base A X.stack s H := by
    have e := I.env0
    exact ⟨by rw [sb.fr]; exact e.frames, e.mod, e.bs, e.bsz, e.funs, e.frf, e.hok, e.bare⟩
  have hl := F.len _ _ _ _ hsp
  refine wpAny_call (codeAny_mono (F.run A X.stack s H ⟨us, []⟩ us vs _ E0 sb.room e0 (by
    have := hb s us I.kIn (by have := r.length; simp; omega)
    simpa using this) r hsp) fun r s' hq => ?_)
  cases r with
  | error e => exact pass0 pins σ H s e s' I hq
  | ok fl =>
    cases fl with
    | ret w =>
      obtain ⟨z, H', I', rz, q⟩ := I.after hq
      exact ⟨z, H', I', rz, q⟩
    | next => exact False.elim hq
    | brk => exact False.elim hq
    | cont => exact False.elim hq
/-- x == y, both of the class at C, by its own __eq__ -/
theorem op_eqO {k j : Nat} {C : Addr} {ps : List Str} {sp : Sp} (D : Mn X.prog X.w X.K X.mg X.base k C "__eq__" ps sp) (hr : Room j X.A) (hk : k ≤ j := by decide) : OpR X (compareOp .Eq) (rOwn C sp) := by
  intro pins s σ H x y v u Q I rx ry h
  obtain ⟨a, b, dx, dy, fs, gs, rfl, rfl, ha, hb, hsp⟩ := h
  obtain ⟨f, fd, h1, h3, h4⟩ := D.ex
  cases (show v = Value.ref a from rx)
  cases (show u = Value.ref b from ry)
  obtain ⟨mA, O, _⟩ := ins_get I.hok ha
  obtain ⟨od, J, _⟩ := O.look
  obtain ⟨mB, O2, _⟩ := ins_get I.hok hb
  obtain ⟨od2, J2, _⟩ := O2.look
  obtain ⟨mm, F⟩ := I.fr
  show wpAny (model X.prog X.w) X.A (richCompare .Eq (.ref a) (.ref b)) (EP X pins σ Q) X.xe s
  refine PySem.W.cmp_K (op := .Eq) (tb := .ref C) hr.units0 F I.mod.kin J J2.type (by simp [PySem.W.notFirst]) h1.at_ h1.fn ?_
  exact wpAny_mono (call_below (vs := [.ref a, .ref b]) (us := [Value.ref a, Value.ref b]) h4 h3 ⟨hr.mono hk, rfl⟩ I (.cons rfl (.cons rfl .nil)) hsp) (fun v s' hq => back_of hq) fun _ _ z => z
/-- x != y, both of the class at C, by its own __eq__ (no own __ne__) -/
def rNeO (C : Addr) (sp : Sp) : R2 := fun x y H Q => ∃ (a b dx dy : Addr) (fs gs : List (Str × V)), x = .ref a ∧ y = .ref b ∧ H a = some (.ins C dx fs) ∧ H b = some (.ins C dy gs) ∧ sp [.ref a, .ref b] H (fun v H' => ∃ r : Bool, v = .bl r ∧ Q (.bl (!r)) H') E0
theorem ifBound_ne {M : Model} {A : Around} {E : Value → Shared → Prop} {s : Shared} {K : PySem.W.Frag} {x C : Addr} {ox : Obj} {od : Option Obj} {args : List Value} {Q : Option Value → Shared → Prop} (X : K.In s.heap) (I : PySem.W.InstAt s.heap x ox C od)
    (hs : PySem.W.findIn K (.ref C) "__ne__" = some (some (.builtin "object.__ne__"))) (h : wpAny M A (call (.builtin "object.__ne__") (.ref x :: args)) (fun v => Q (some v)) E s) : wpAny M A (callSpecialIfBound? (.ref x) "__ne__" args) Q E s := by
  simp only [callSpecialIfBound?, bindSpecialIfBound?]
  refine wpAny_holding (wpAny_bind (wpAny_bind (wpAny_bind (I.type.here ((PySem.W.looks_findIn X hs).here ?_)))))
  refine wpAny_bind (wpAny_askSetting (wpAny_ite ?_))
  have fin : wpAny M A (call (.builtin "object.__ne__") ([.ref x] ++ args) >>= fun v => pure (some v)) Q E s := wpAny_bind (wpAny_mono h (fun v s' h' => wpAny_pure h') fun _ _ h' => h')
  split
  · exact wpAny_bind (wpAny_of_eq (F.cmp_object.ne.bind _) (wpAny_pure (by exact fin)))
  · exact wpAny_tryCatch (wpAny_bind (wpAny_of_eq (F.cmp_object.ne.bind _) (wpAny_pure (by exact fin))))
theorem op_neO {k j : Nat} {C : Addr} {ps : List Str} {sp : Sp} (D : Mn X.prog X.w X.K X.mg X.base k C "__eq__" ps sp) (hne : PySem.W.findIn X.K (.ref C) "__ne__" = some (some (.builtin "object.__ne__"))) (hm : PySem.W.mroIn X.K C (.type "object") = some true) (hr : Room j X.A) (hk : k + 1 ≤ j := by decide) :
    OpR X (compareOp .NotEq) (rNeO C sp) := by
  intro pins s σ H x y v u Q I rx ry h
  obtain ⟨a, b, dx, dy, fs, gs, rfl, rfl, ha, hb, hsp⟩ := h
  obtain ⟨f, fd, h1, h3, h4⟩ := D.ex
  cases (show v = Value.ref a from rx)
  cases (show u = Value.ref b from ry)
  obtain ⟨mA, O, _⟩ := ins_get I.hok ha
  obtain ⟨od, J, _⟩ := O.look
  obtain ⟨mB, O2, _⟩ := ins_get I.hok hb
  obtain ⟨od2, J2, _⟩ := O2.look
  have KX := I.kIn
  have r1 : Room (k + 1) X.A := hr.mono hk
  have rb := call_below (A := X.A.in1) h4 h3 ⟨r1.in1, rfl⟩ I (.cons rfl (.cons rfl .nil)) hsp (vs := [.ref a, .ref b]) (us := [Value.ref a, Value.ref b])
  have hu1 : X.A.in1.units < cLine := r1.in1.units0
  have one : wpAny (model X.prog X.w) X.A (tryCompare (.ref a) "__ne__" (.ref b)) (fun r s' => ∃ v, r = some v ∧ EP X pins σ Q v s') X.xe s := by
    unfold tryCompare
    refine wpAny_bind (ifBound_ne KX J hne (wpAny_call (codeAny_call_builtin F.cmp_object.ne.plain F.cmpEntry_ne (PySem.W.check_slot F.cmpKind_ne F.cmpSplit_ne (J.type.andThen (PySem.W.looks_mroIn KX hm)) (F.cmpArgs_ne _ _) ?_))))
    unfold Builtin.«object.__ne__»
    repeat (first | with_reducible refine wpAny_cRoomFor hu1 ?_ | (with_reducible refine PySem.W.ifBound_K KX J h1.at_ h1.fn ?_; refine wpAny_mono rb ?_ ?_) | wp_step)
    · intro v s' hq
      obtain ⟨z, H', I', rz, r, ez, q⟩ := hq
      subst ez
      cases (show v = Value.bool r from rz)
      refine wpAny_bind (wpAny_truthy_bool (wpAny_pure ?_))
      exact wpAny_pure ⟨_, rfl, .bl (!r), H', I', rfl, q⟩
    · exact fun _ _ z => z
  show wpAny (model X.prog X.w) X.A (richCompare .NotEq (.ref a) (.ref b)) (EP X pins σ Q) X.xe s
  unfold richCompare
  simp only [oneThing_ref]
  refine wpAny_holding (wpAny_bind (wpAny_cRoomFor hr.units0 ?_))
  refine wpAny_bind (J.type.here (wpAny_bind (J2.type.here ?_)))
  rw [if_neg (by simp)]
  refine wpAny_bind (wpAny_pure ?_)
  simp only [Bool.false_eq_true, if_false]
  refine wpAny_bind (wpAny_mono one (fun r s' z => ?_) fun _ _ e => e)
  obtain ⟨v, rfl, hq⟩ := z
  exact wpAny_pure hq
/-- x == y of two instances of one class without an own __eq__ -/
def rEqI (C : Addr) : R2 := fun x y H Q => ∃ (a b dx dy : Addr) (fs gs : List (Str × V)), x = .ref a ∧ y = .ref b ∧ a ≠ b ∧ H a = some (.ins C dx fs) ∧ H b = some (.ins C dy gs) ∧ Q (.bl false) H
theorem op_eqI {j : Nat} {C : Addr} (heq : PySem.W.findIn X.K (.ref C) "__eq__" = some (some (.builtin "object.__eq__"))) (hm : PySem.W.mroIn X.K C (.type "object") = some true) (hr : Room j X.A) : OpR X (compareOp .Eq) (rEqI C) := by
  intro pins s σ H x y v u Q I rx ry h
  obtain ⟨a, b, dx, dy, fs, gs, rfl, rfl, hne, ha, hb, q⟩ := h
  cases (show v = Value.ref a from rx)
  cases (show u = Value.ref b from ry)
  obtain ⟨mA, O, _⟩ := ins_get I.hok ha
  obtain ⟨od, J, _⟩ := O.look
  obtain ⟨mB, O2, _⟩ := ins_get I.hok hb
  obtain ⟨od2, J2, _⟩ := O2.look
  have KX := I.kIn
  have one : ∀ {x y : Addr} {ox oy : Obj} {ex ey : Option Obj}, x ≠ y → PySem.W.InstAt s.heap x ox C ex → PySem.W.InstAt s.heap y oy C ey → wpAny (model X.prog X.w) X.A (tryCompare (.ref x) "__eq__" (.ref y)) (fun r s' => r = none ∧ s' = s) X.xe s := by
    intro x y ox oy ex ey nxy Jx Jy
    unfold tryCompare
    refine wpAny_bind (HN.ifBound_objEq KX Jx heq (wpAny_call (codeAny_call_builtin F.cmp_object.eq.plain F.cmpEntry_eq (PySem.W.check_slot F.cmpKind_eq F.cmpSplit_eq (Jx.type.andThen (PySem.W.looks_mroIn KX hm)) (F.cmpArgs_eq _ _) ?_))))
    exact objEq_entry_other nxy Jx.at_ Jy.at_ (by rw [Jx.cls]; intro z; cases z) (wpAny_pure ⟨rfl, rfl⟩)
  show wpAny (model X.prog X.w) X.A (richCompare .Eq (.ref a) (.ref b)) (EP X pins σ Q) X.xe s
  simp only [richCompare, cmpInfo_Eq, oneThing_ref]
  refine wpAny_holding (wpAny_bind (wpAny_cRoomFor hr.units0 ?_))
  refine wpAny_bind (J.type.here (wpAny_bind (J2.type.here ?_)))
  rw [if_neg (by simp)]
  refine wpAny_bind (wpAny_pure ?_)
  simp only [Bool.false_eq_true, if_false, Bool.not_false, if_true]
  refine wpAny_bind (wpAny_mono (one hne J J2) (fun r s1 z => ?_) fun _ _ e => e)
  obtain ⟨z1, z2⟩ := z
  subst z1
  subst z2
  refine wpAny_bind (wpAny_mono (one hne.symm J2 J) (fun r s2 z => ?_) fun _ _ e => e)
  obtain ⟨z1, z2⟩ := z
  subst z1
  subst z2
  exact wpAny_bind (wpAny_rule (wpAny_bind (wpAny_isSame_ref_other hne J.at_ J2.at_ (by rw [J.cls]; intro z; cases z) (wpAny_pure ⟨.bl false, H, I, rfl, q⟩))))
end
end LaneX
set_option Elab.async false
set_option linter.all false
set_option maxRecDepth 100000
set_option maxHeartbeats 4000000
namespace LaneX
open PySem PySem.Spec PyProof.Rows L2
/-! ### enumerate(t), t a tuple -/
theorem meets_enumT {v : Value} {o : Obj} {H : Heap → Prop} (B : Begins v o H) :
    Meets (Builtin.«enumerate.__new__» ⟨[.type "enumerate", v], []⟩) (fun _ R s => H s.heap ∧
      R (.ok (.ret (.ref (s.heap.push o).objs.size))) { s with heap := (s.heap.push o).push { cls := .type "enumerate", data := .fields #[.none, .bool false, .ref s.heap.objs.size, rawInt 0, .none, .none] } }) := by
  refine .of_wp fun prog w A R s h => ?_
  obtain ⟨hp, g, d, tk, os⟩ := s
  obtain ⟨h1, h2⟩ := h
  have subE := sub_enumerate
  have itE : ∀ {A1 : Around} {E1 : Value → Shared → Prop} {Q1 : Value → Shared → Prop}, Q1 (.ref hp.objs.size) ⟨hp.push o, g, d, tk, os⟩ → wpAny (model prog w) A1 (pyIter v) Q1 E1 ⟨hp, g, d, tk, os⟩ := fun q => B.iter prog w _ _ ⟨hp, g, d, tk, os⟩ _ h1 q
  wp_walk using itE
  refine wpAny_stack_any fun st => wpAny_pure ?_
  split
  · rename_i c _ _ _ _ _
    cases (c == Value.type "enumerate") <;> (wp_walk using itE; exact ⟨_, rfl, h2⟩)
  · wp_walk using itE
    exact ⟨_, rfl, h2⟩
theorem call_enumT {P : Program} {w : World} {A : Around} {E : Value → Shared → Prop} {s : Shared} {t : Addr} {items : Array Value} {Q : Value → Shared → Prop} (hT : s.heap.IsTuple t items)
    (h : ∀ h', IsEnum h' (s.heap.objs.size + 1) s.heap.objs.size 0 .none → h'.IsTupleIter s.heap.objs.size t 0 → (∀ b o, s.heap.get? b = some o → h'.get? b = some o) → Q (.ref (s.heap.objs.size + 1)) { s with heap := h' }) :
    wpAny (model P w) A (call (.type "enumerate") [.ref t]) Q E s := by
  refine callType_new F.called_enumerate (by decide) (F.typeCall_enumerate_1 _) (F.newCall_enumerate_1 _) (fun obj => F.args_object_init_2 obj _) F.entry_enumerate_new (meets_enumT (begins_tuple t items)) ⟨hT, ?_⟩
  have sz : ∀ o : Obj, (s.heap.push o).objs.size = s.heap.objs.size + 1 := fun o => Heap.size_push ..
  show _ ∧ _
  rw [sz]
  have e1 : ∀ (o u : Obj), u.isFreed = false → ((s.heap.push o).push u).get? (s.heap.objs.size + 1) = some u := fun o u hu => by
    have := Heap.get?_push_size (s.heap.push o) (o := u) hu
    rwa [sz] at this
  have he := e1 { cls := .type "tuple_iterator", data := .fields #[.ref t, .int 0 0] } { cls := .type "enumerate", data := .fields #[.none, .bool false, .ref s.heap.objs.size, rawInt 0, .none, .none] } rfl
  exact ⟨⟨_, he, rfl⟩, h _ he ⟨_, Heap.get?_push_of_some _ (Heap.get?_push_size _ rfl), rfl, rfl⟩ fun b o z => Heap.get?_push_of_some _ (Heap.get?_push_of_some _ z)⟩
def Itu (K : PySem.W.Frag) (a : Addr) : It :=
  ⟨fun i H => ∃ (xs : List V) (x : V), SqT K H a xs ∧ xs[i]? = some x, fun i H v H' => ∃ T x, v = .ref T ∧ H T = none ∧ H' = upd H T (.tup [.int (i : Nat), x]) ∧ ∀ xs, SqT K H a xs → xs[i]? = some x, fun i H => ∃ xs : List V, SqT K H a xs ∧ xs.length ≤ i⟩
theorem turn_enumT {P : Program} {w : World} {K : PySem.W.Frag} {elts : List Expr} {kk : Nat} {tpos : Pos} (a e it : Addr) :
    Turn P w K (.Tuple elts kk tpos) (Itu K a) [e, it] e (fun i h => (∃ old, IsEnum h e it ((i : Nat) : Int) old) ∧ h.IsTupleIter it a i ∧ e ≠ it) where
  mem := List.mem_cons_self
  obj := fun i h st b hb => by
    obtain ⟨⟨old, he⟩, ⟨o, ho, hc, hd⟩, _⟩ := st
    rcases List.mem_cons.mp hb with z | z
    · subst z; exact ⟨_, he, fun v q => nomatch q⟩
    · rcases List.mem_singleton.mp z with z
      subst z; exact ⟨o, ho, fun v q => by rw [hd] at q; cases q⟩
  keep := fun i h h' st k => by
    obtain ⟨⟨old, he⟩, hi, hne⟩ := st
    exact ⟨⟨old, k e List.mem_cons_self _ he⟩, hi.at fun o q => k it (List.mem_cons_of_mem _ List.mem_cons_self) o q, hne⟩
  item := by
    intro X hP hw hK hc i pins s σ H E I hf st hg
    subst hP hw hK
    obtain ⟨⟨old, he⟩, hit, hne⟩ := st
    obtain ⟨xs, x, hq, hx⟩ := hg
    obtain ⟨its, rv, p, hz⟩ := I.tuple hq
    have p' : s.heap.IsTuple a its.toArray := p
    obtain ⟨u, hu, ru⟩ := rv.get hx
    have hel : e < s.heap.objs.size := Heap.lt_size he
    have hil : it < s.heap.objs.size := by obtain ⟨_, q, _⟩ := hit; exact Heap.lt_size q
    have nai : a ≠ it := fun z => by
      obtain ⟨o1, q1, c1, _⟩ := hit
      obtain ⟨o2, q2, c2, _⟩ := p'
      rw [z, q1] at q2; cases q2; rw [c1] at c2; exact absurd c2 (by decide)
    have nea : e ≠ a := fun z => by
      obtain ⟨o2, q2, c2, _⟩ := p'
      rw [← z, show s.heap.get? e = _ from he] at q2; cases q2; exact absurd (show Value.type "enumerate" = Value.type "tuple" from c2) (by decide)
    have hlt : i < its.toArray.size := by
      rw [List.size_toArray]
      exact (List.getElem?_eq_some_iff.mp hu).1
    refine wpAny_pyNext_enum_itemD (Draws.tuple (A := X.A.in1) (by simpa using I.ok.hd hc) it a nai its.toArray) he ⟨hit, p'⟩ hlt hne (by simp [hne, nea]) fun y h' tk hy ho st' hT hsz hk => ?_
    have ey : y = u := by
      rw [List.getElem?_toArray, hu] at hy
      exact (Option.some.inj hy).symm
    subst ey
    refine ⟨_, rfl, wpAny_letOwnedTupleGo_enum (s := { s with heap := h', toks := tk + 1 }) ho fun h'' he' sb => ?_⟩
    have hT2 : h''.get? s.heap.objs.size = some { cls := .type "tuple", data := .seq #[.int i tk, y] } := (sb.2 _ (Nat.ne_of_gt hel)).trans hT
    have new : ObjOk X.prog X.w (upd H s.heap.objs.size (.tup [.int (i : Nat), x])) h'' s.heap.objs.size (.tup [.int (i : Nat), x]) :=
      ⟨(by show 2 ≤ sizeLine; decide), [.int i tk, y], .cons ⟨_, rfl⟩ (.cons ru .nil), ⟨_, hT2, rfl, _, rfl⟩⟩
    have I1 : Inv X pins σ (upd H s.heap.objs.size (.tup [.int (i : Nat), x])) { s with heap := h'', toks := tk + 1 } :=
      I.turnedNew (ch := [e, it]) (fun b ob hb q => (sb.2 b (fun z => hb (by simp [z]))).trans (hk b ob (fun z => hb (by simp [z])) (fun z => hb (by simp [z])) q)) hf (Nat.le_refl _) new
    refine ⟨.ref s.heap.objs.size, _, I1, rfl, ⟨_, x, rfl, I.hok.fresh (Nat.le_refl _), rfl, fun ys hy => ?_⟩, ⟨⟨y, ?_⟩, st'.1.at fun o q => (sb.2 it (Ne.symm hne)).trans q, hne⟩, fun b hb => ?_⟩
    · rw [I.tuple_inj hy hq]; exact hx
    · rw [show ((i + 1 : Nat) : Int) = (i : Int) + 1 by omega]; exact he'
    · have hb' : b < s.heap.objs.size := by
        rcases List.mem_cons.mp hb with z | z
        · rw [z]; exact hel
        · rw [List.mem_singleton.mp z]; exact hil
      rw [upd_ne (Nat.ne_of_lt hb')]
      exact (hf b hb).1
  done := by
    intro X hP hw hK hc i pins s σ H E I hf st hg
    subst hP hw hK
    obtain ⟨⟨old, he⟩, hit, hne⟩ := st
    obtain ⟨xs, hq, hx⟩ := hg
    obtain ⟨its, rv, p, hz⟩ := I.tuple hq
    have p' : s.heap.IsTuple a its.toArray := p
    have nai : a ≠ it := fun z => by
      obtain ⟨o1, q1, c1, _⟩ := hit
      obtain ⟨o2, q2, c2, _⟩ := p'
      rw [z, q1] at q2; cases q2; rw [c1] at c2; exact absurd c2 (by decide)
    obtain ⟨f0, f1, f2, f3, f4, f5⟩ := hf it (List.mem_cons_of_mem _ List.mem_cons_self)
    have hn : its.toArray[i]? = none := by
      have := rv.length
      rw [List.getElem?_toArray]
      exact List.getElem?_eq_none (by omega)
    have tyE : s.TypeIs (.ref e) "enumerate" := ⟨_, he, rfl⟩
    unfold pyNext
    refine wpAny_bind (wpAny_attempt (wpAny_callSpecial?_slot (name := Str.ofString "__next__") tyE F.slot_enumerate_next (wpAny_call_entry F.slot_enumerate_next tyE F.entry_enumerate_next ?_ (F.args_enumerate_next_1 _))))
    show wpAny _ _ (field (.ref e) 2 >>= _) _ _ _
    refine wpAny_bind (wpAny_field he rfl (x := .ref it) rfl (wpAny_bind (wpAny_nextOf_tuple_end (by simpa using I.ok.hd hc) hit p' hn fun h' y he' hy' => ?_)))
    obtain ⟨o, ho, hcl⟩ := hy'
    refine wpAny_bind (wpAny_isInstance (T := "StopIteration") (b := true) ⟨o, ho, hcl⟩ isSubtype_stop (wpAny_pure ?_))
    exact ⟨rfl, I.turned (t' := s.toks) (fun b o hb q => he' b o hb q) f0 f1 f3 f4 f5⟩
  self := fun A i s Q E st h => let ⟨⟨_, he⟩, _⟩ := st; wpAny_pyIter_enum he h
def iEnumT (K : PySem.W.Frag) (ta : TA) : TI := fun σ H R => ta σ H fun vs H1 => ∃ a xs, vs = [.ref a] ∧ SqT K H1 a xs ∧ R (Itu K a) H1
theorem pi_enumT {X : Cx} {e : Expr} {ta : TA} {p pos tpos : Pos} {elts : List Expr} {kk : Nat} (hg : Gl X "enumerate") (hm : X.mg "enumerate" = none) (ha : PA X [e] ta) (hs : starEach [e] X.env = [(false, eval e X.env)] := by rfl) :
    PI X (.Tuple elts kk tpos) (.Call (.Name "enumerate" p) [e] [] pos) (iEnumT X.K ta) := by
  refine ⟨fun pins s σ H R I h => Call_ (ld_blt I hg hm boot_enumerate (PyProof.Rows.callWith_type1 (thn (ha.run pos pins s σ H _ I h) fun us s1 ⟨vs, H1, I1, r1, a, xs, ex, hq, q⟩ => ?_) hs rfl))⟩
  subst ex
  rw [Vals.ref1 r1]
  obtain ⟨its, rv, p', hz⟩ := I1.tuple hq
  refine call_enumT (show s1.heap.IsTuple a its.toArray from p') fun h' he hit hk => wpAny_pyIter_enum he ?_
  refine ⟨s1.heap.objs.size + 1, [s1.heap.objs.size + 1, s1.heap.objs.size], _, _, H1, rfl, I1.kept (t' := s1.toks) hk, turn_enumT a (s1.heap.objs.size + 1) s1.heap.objs.size, ⟨⟨.none, he⟩, hit, Nat.succ_ne_self _⟩, fun b hb => ?_, q⟩
  have le : s1.heap.objs.size ≤ b := by
    rcases List.mem_cons.mp hb with z | z
    · rw [z]; exact Nat.le_succ _
    · rw [List.mem_singleton.mp z]; exact Nat.le_refl _
  exact I1.fpOk le (I1.hok.fresh le)
theorem walk_enumT {K : PySem.W.Frag} {a : Addr} {xs : List V} : Walk (Itu K a) xs.length (fun H => SqT K H a xs) (YPair (fun i => some (.int (i : Nat))) (fun i => xs[i]?)) := by
  refine ⟨fun i _ hi q => ⟨xs, xs[i], q, List.getElem?_eq_getElem hi⟩, fun _ q => ⟨xs, q, Nat.le_refl _⟩, fun i H v H' _ q y => ?_⟩
  obtain ⟨T, x, y1, y2, y3, y4⟩ := y
  exact ⟨T, .int (i : Nat), x, y1, y2, y3, rfl, y4 xs q⟩
section
variable {K : PySem.W.Frag} {g : TG} {tt : TT} {te : TE} {vs : List Nat} {σ : L2.St} {H : Hp} {Q : Addr → Hp → Prop}
/-- a pure comprehension over enumerate(t) -/
theorem lc_pureE {a : Addr} {xs : List V} (v : Nat → V) (hS : H a = some (.tup xs)) (hlen : xs.length ≤ 1000000) (hs : ∀ i x H' T, xs[i]? = some x → Same H H' → H' T = some (.tup [vN i, x]) → LcT g tt te vs σ (.ref T) H' true (v i))
    (hd : ∀ D H', H D = none → Same H H' → H' D = some (.lst ((List.range xs.length).map v)) → Q D H') : LcR g tt te vs σ Q (Itu K a) H := by
  intro D hD
  refine lc_it walk_enumT (fun i H' => Same H H' ∧ H' D = some (.lst ((((List.range xs.length).take i).filter fun _ => true).map v))) ⟨same_new0 hD, by simpa using upd_same⟩ (fun i H' _ hp => SqT.of (hp.1 _ _ hS)) (fun i x H' H2 hi hp y => ?_) (fun H' hp => ?_)
  · obtain ⟨T, x1, x2, rfl, nT, rfl, e1, e2⟩ := y
    cases e1
    have s2 : Same H (upd H' T (.tup [vN i, x2])) := same_new hp.1 nT
    exact lc_turn (l := List.range xs.length) (ι := fun _ => .ref T) (p := fun _ => true) (v := v) (by simpa using hlen) hD (range_get hi) s2 (upd_new nT hp.2) (hs i x2 _ T e2 s2 upd_same)
  · obtain ⟨h1, h2⟩ := hp
    rw [List.take_of_length_le (by simp), List.filter_eq_self.mpr fun _ _ => rfl] at h2
    exact hd D H' hD h1 h2
end
end LaneX
set_option Elab.async false
set_option linter.all false
set_option maxRecDepth 100000
set_option maxHeartbeats 4000000
namespace LaneX
open PySem PySem.Spec PyProof.Rows L2
/-! ### naturals in lists: in, index, max; further numbers -/
theorem inV_nat {n : Nat} {l : List Nat} : inV (vN n) (l.map vN) = decide (n ∈ l) := by
  unfold inV
  rw [List.any_map, Bool.eq_iff_iff, List.any_eq_true, decide_eq_true_iff]
  have e : ∀ x : Nat, ((fun y => eqV y (vN n)) ∘ vN) x = true ↔ x = n := fun x => by
    show (((x : Int) == (n : Int)) = true) ↔ _
    rw [beq_iff_eq]; omega
  constructor
  · rintro ⟨x, hx, h⟩
    rw [← (e x).mp h]; exact hx
  · exact fun h => ⟨n, h, (e n).mpr rfl⟩
theorem flat_nats (l : List Nat) : (l.map vN).all flatV = true := by
  rw [List.all_eq_true]
  intro v hv
  obtain ⟨x, _, rfl⟩ := List.mem_map.mp hv
  rfl
section
variable {X : Cx}
theorem on_in : OpR X (compareOp .In) (fun x y H Q => ∃ (n : Nat) (p : Addr) (ns : List Nat), x = vN n ∧ y = .ref p ∧ Tq H p (ns.map vN) ∧ Q (.bl (decide (n ∈ ns))) H) := by
  intro pins s σ H x y v u Q I rx ry h
  obtain ⟨n, p, ns, rfl, rfl, hS, q⟩ := h
  refine op_in_seq pins s σ H _ _ v u Q I rx ry ⟨p, _, rfl, hS.sqlt, rfl, flat_nats ns, ?_⟩
  simp only [Bool.false_eq_true, if_false, inV_nat]
  exact q
theorem on_notIn : OpR X (compareOp .NotIn) (fun x y H Q => ∃ (n : Nat) (p : Addr) (ns : List Nat), x = vN n ∧ y = .ref p ∧ Tq H p (ns.map vN) ∧ Q (.bl (!decide (n ∈ ns))) H) := by
  intro pins s σ H x y v u Q I rx ry h
  obtain ⟨n, p, ns, rfl, rfl, hS, q⟩ := h
  refine op_notIn_seq pins s σ H _ _ v u Q I rx ry ⟨p, _, rfl, hS.sqlt, rfl, flat_nats ns, ?_⟩
  simp only [if_true, inV_nat]
  exact q
/-- the right factor below 2 ^ 64 -/
theorem on_mulR : OpR X (binaryOp .Mult) (fun x y H Q => ∃ n m : Nat, x = .int (n : Int) ∧ y = .int (m : Int) ∧ (m < 2 ^ 64) ∧ Q (.int ((n * m : Nat) : Int)) H) := by
  intro pins s σ H x y v u Q I rx ry h
  obtain ⟨n, m, rfl, rfl, c, q⟩ := h
  rw [Int.natCast_mul] at q
  exact op_mul pins s σ H _ _ v u Q I rx ry ⟨_, _, rfl, rfl, show CMul (n : Int) (m : Int) from Or.inr ⟨by omega, by have : m < 18446744073709551616 := c; omega⟩, q⟩
/-- an int of any sign times a natural -/
theorem on_mulI : OpR X (binaryOp .Mult) (fun x y H Q => ∃ (i : Int) (m : Nat), x = .int i ∧ y = .int (m : Int) ∧ (m < 2 ^ 64) ∧ Q (.int (i * (m : Int))) H) := by
  intro pins s σ H x y v u Q I rx ry h
  obtain ⟨n, m, rfl, rfl, c, q⟩ := h
  exact op_mul pins s σ H _ _ v u Q I rx ry ⟨_, _, rfl, rfl, show CMul n (m : Int) from Or.inr ⟨by omega, by have : m < 18446744073709551616 := c; omega⟩, q⟩
theorem on_addI : OpR X (binaryOp .Add) (fun x y H Q => ∃ i j : Int, x = .int i ∧ y = .int j ∧ Q (.int (i + j)) H) := op_add
/-- a difference that is a natural -/
theorem on_subD : OpR X (binaryOp .Sub) (fun x y H Q => ∃ (i j : Int) (d : Nat), x = .int i ∧ y = .int j ∧ i - j = (d : Int) ∧ Q (vN d) H) := by
  intro pins s σ H x y v u Q I rx ry h
  obtain ⟨i, j, d, rfl, rfl, e, q⟩ := h
  refine op_sub pins s σ H _ _ v u Q I rx ry ⟨i, j, rfl, rfl, ?_⟩
  show Q (V.int (i - j)) H
  rw [e]
  exact q
/-- int(True), int(False) -/
theorem call_intB : CallR X (.type "int") (fun xs H Q => ∃ b : Bool, xs = [.bl b] ∧ Q (vN (if b = true then 1 else 0)) H) := by
  intro pins s σ H xs us Q I r h
  obtain ⟨b, rfl, q⟩ := h
  refine call_int1 pins s σ H _ us Q I r (.inr ⟨b, rfl, ?_⟩)
  cases b <;> exact q
/-- max(xs), naturals -/
theorem cr_maxN (hc : X.calm = true) : CallR X (.builtin "max") (fun xs H Q => ∃ (a : Addr) (ns : List Nat), xs = [.ref a] ∧ H a = some (.lst (ns.map vN)) ∧ 0 < ns.length ∧ ∀ m, m ∈ ns → (∀ x ∈ ns, x ≤ m) → Q (vN m) H) := by
  intro pins s σ H xs us Q I r h
  obtain ⟨a, ns, rfl, hS, h0, q⟩ := h
  rw [vN_ints] at hS
  refine cr_max hc pins s σ H _ us Q I r ⟨a, ns.map Int.ofNat, rfl, SqL.of hS, by simpa using h0, fun m hm hle => ?_⟩
  obtain ⟨k, hk, rfl⟩ := List.mem_map.mp hm
  refine q k hk fun x hx => ?_
  have := hle (x : Int) (List.mem_map.mpr ⟨x, hx, rfl⟩)
  have e : Int.ofNat k = (k : Int) := rfl
  omega
theorem call_maxN (hc : X.calm = true) : CallR X (.builtin "max") (fun xs H Q => ∃ n m : Nat, xs = [.int (n : Int), .int (m : Int)] ∧ Q (.int ((max n m : Nat) : Int)) H) := by
  intro pins s σ H xs us Q I r h
  obtain ⟨n, m, rfl, q⟩ := h
  refine call_max2 hc pins s σ H _ us Q I r ⟨_, _, rfl, ?_⟩
  have e : (if (m : Int) > (n : Int) then (m : Int) else (n : Int)) = ((max n m : Nat) : Int) := by split <;> omega
  rw [e]
  exact q
end
end LaneX
set_option Elab.async false
set_option linter.all false
set_option maxRecDepth 100000
set_option maxHeartbeats 4000000
namespace LaneX
open PySem PySem.Spec PyProof.Rows L2
/-! ### defs and methods that may raise -/
section
variable (P : Program) (w : World) (K : PySem.W.Frag) (mg : Str → Option Value) (base : Heap)
structure Dx (k : Nat) (x : Str) (ps : List Str) (sp : Sp) : Prop where
  ex : ∃ (f : Addr) (fd : FuncData), mg x = some (.ref f) ∧ PySem.W.keepIn K (.ref f) = true ∧ Binds K fd ps [] ∧ FnOk P w K mg base (L2.CX P w) k f fd ps sp
structure Mx (k : Nat) (C : Addr) (m : Str) (ps : List Str) (sp : Sp) : Prop where
  cl : Cls K C
  ex : ∃ (f : Addr) (fd : FuncData), Meth K C m f ∧ Binds K fd ps [] ∧ FnOk P w K mg base (L2.CX P w) k f fd ps sp
end
section
variable {X : Cx} {k j : Nat} {x m : Str} {ps : List Str} {sp : Sp} {C : Addr} {p pos apos : Pos} {e o : Expr} {es : List Expr} {t : TA} {to : TE} {W : WX}
/-- called where it raises nothing -/
theorem pe_dx (D : Dx X.prog X.w X.K X.mg X.base k x ps sp) (hr : Room j X.A) (ha : PA X (e :: es) t) (hk : k ≤ j := by decide) (hg : Gl X x := by rfl) (hdb : (x == ("__debug__" : Str)) = false := by decide)
    (he : starEach (e :: es) X.env = (false, eval e X.env) :: starEach es X.env := by rfl) (hpl : (backTo pos (starEach es X.env)).any (·.1) = false := by rfl) :
    PE X (.Call (.Name x p) (e :: es) [] pos) (tCall sp [] E0 t) := by
  obtain ⟨f, fd, h1, h2, h3, h4⟩ := D.ex
  exact pe_call h4 (hr.mono hk) hg h1 h2 h3 .nil passL ha hdb he hpl
/-- called where what it raises is taken by W -/
theorem pe_dxS (D : Dx X.prog X.w X.K X.mg X.base k x ps sp) (tk : Takes X W) (hr : Room j X.A) (ha : PA X (e :: es) t) (hk : k ≤ j := by decide) (hg : Gl X x := by rfl) (hdb : (x == ("__debug__" : Str)) = false := by decide)
    (he : starEach (e :: es) X.env = (false, eval e X.env) :: starEach es X.env := by rfl) (hpl : (backTo pos (starEach es X.env)).any (·.1) = false := by rfl) :
    PE X (.Call (.Name x p) (e :: es) [] pos) (tCallS sp (WE W) t) := by
  obtain ⟨f, fd, h1, h2, h3, h4⟩ := D.ex
  exact pe_callS h4 (hr.mono hk) hg h1 h2 h3 (fun σ => passAt tk σ) ha hdb he hpl
theorem pe_mx {pl : Sem Bool} (ho : PE X o to) (D : Mx X.prog X.w X.K X.mg X.base k C m ps sp) (hr : Room j X.A) (ha : PA X (e :: es) t) (hk : k ≤ j := by decide)
    (hst : starEach (e :: es) X.env = (false, eval e X.env) :: starEach es X.env := by rfl) (hpl : (backTo pos (starEach es X.env)).any (·.1) = false := by rfl)
    (ht : eval (.Call (.Attribute o m apos) (e :: es) [] pos) X.env = (do
      let ov ← eval o X.env
      standAt apos.atName
      let (f, first) ← holding [ov] (getMethod ov m pl)
      callWith pos f first (backTo pos (starEach (e :: es) X.env)) (backToKw pos (keywordEach [] X.env))) := by rfl) :
    PE X (.Call (.Attribute o m apos) (e :: es) [] pos) (tMeth C m sp [] E0 to t) := by
  obtain ⟨f, fd, h1, h3, h4⟩ := D.ex
  exact pe_meth ho D.cl h1 h4 (hr.mono hk) h3 .nil passL ha hst hpl ht
def tMethS (C : Addr) (m : Str) (sp : Sp) (W : WX) (ta : TE) (t : TA) : TE := fun σ H Q => ta σ H fun x H1 => ∃ a dx fs, x = .ref a ∧ H1 a = some (.ins C dx fs) ∧ fs.lookup m = none ∧ t σ H1 fun vs H2 => sp (x :: vs) H2 Q (WE W σ)
theorem pe_mxS {pl : Sem Bool} (ho : PE X o to) (D : Mx X.prog X.w X.K X.mg X.base k C m ps sp) (tk : Takes X W) (hr : Room j X.A) (ha : PA X (e :: es) t) (hk : k ≤ j := by decide)
    (hst : starEach (e :: es) X.env = (false, eval e X.env) :: starEach es X.env := by rfl) (hpl : (backTo pos (starEach es X.env)).any (·.1) = false := by rfl)
    (ht : eval (.Call (.Attribute o m apos) (e :: es) [] pos) X.env = (do
      let ov ← eval o X.env
      standAt apos.atName
      let (f, first) ← holding [ov] (getMethod ov m pl)
      callWith pos f first (backTo pos (starEach (e :: es) X.env)) (backToKw pos (keywordEach [] X.env))) := by rfl) :
    PE X (.Call (.Attribute o m apos) (e :: es) [] pos) (tMethS C m sp W to t) := by
  obtain ⟨f, fd, h1, h3, h4⟩ := D.ex
  refine ⟨fun pins s σ H Q I h => PySem.W.methodCall_KW (pl := pl) (thn (ho.run pins s σ H _ I h) fun u s1 ⟨x, H1, I1, rx, a, dx, fs, ex, ea, l, q⟩ => ?_) ht⟩
  subst ex
  cases (show u = Value.ref a from rx)
  refine getmeth_ok I1 ea D.cl h1 l (PySem.W.callWith_K (first := [.ref a]) (h₀ := X.base) I.ok.mod.kin h1.kp (thn (ha.run pos pins s1 σ H1 _ I1 q) fun us s2 ⟨vs, H2, I2, r, q2⟩ => ⟨I2.kIn, ?_⟩) hst hpl)
  exact run_fnS (us := .ref a :: us) (vs := .ref a :: vs) (E := WE W) h4 (hr.mono hk) h3 (passAt tk σ) I2 (.cons rfl r) q2
end
section
variable {P : Program} {w : World} {K : PySem.W.Frag} {mg : Str → Option Value} {base : Heap}
/-- a def that may raise -/
theorem fnokX {x qual : Str} {st : Stmt} {f : Addr} {fd : FuncData} {N ps : List Str} {k : Nat} {sp : Sp} (F : FnP K x qual st f fd) (S : FnScope N ps (defScope st)) (len : ∀ vs H Q E, sp vs H Q E → vs.length = ps.length)
    (hbody : ∀ (cdv : Value) (A : Around) (outer : List Env) (s : Shared) (H : Hp) (vs : List V) (Q : VK) (E : XK), Room k (A.deeper (envOfC qual (defScope st) s.heap.objs.size f cdv)) → sp vs H Q E →
      ∃ t, PSs (cxOf (L2.CX P w) P w K mg base N qual (defScope st) f cdv A outer s H E) (defBody st) t ∧ t { nx := fun _ H' => Q .non H', rt := Q } (start N vs) H) : FnOk P w K mg base (L2.CX P w) (k + 1) f fd ps sp :=
  F.ok S len hbody
end
/-! ### an own error without an __init__ -/
/-- what the written part says of it -/
structure Exn (K : PySem.W.Frag) (mg : Str → Option Value) (x : Str) (C : Addr) : Prop where
  gl : mg x = some (.ref C)
  ex : PySem.W.excIn K C [.type "ValueError", .type "Exception", .type "BaseException", .type "object"] "ValueError.__new__" = true
  kp : PySem.W.keepIn K (.ref C) = true
  be : PySem.W.subIn K (.ref C) (.type "BaseException") = some true
  ty : PySem.W.typeIn K (.ref C) = some (.type "type")
section
variable {X : Cx} {x : Str} {C : Addr} {p pos : Pos}
/-- x() -/
theorem pmk_0 (T : Exn X.K X.mg x C) (hg : Gl X x) (hdb : (x == ("__debug__" : Str)) = false := by decide) : PMk X (.Call (.Name x p) [] [] pos) (fun _ H Q => Q (.ref C) none H) := by
  intro pins s σ H Q I h
  refine wpAny_Call_Name_kw (ld_glob I hg T.gl (PySem.W.callWith_K0 I.kIn T.kp ?_) hdb)
  show wpAny _ _ (call (.ref C) []) _ _ _
  obtain ⟨bm, N, nm, qn, bs, hdct, sn, sub, ab, col, dd, k0, k1, k2, k3, k5, mN, hC, hN, hni, TT⟩ := exc_obj I.kIn T.ex
  exact wpAny_call_exc_subT F.excBase_ValueError TT hC hN hni (fun h' e hm => mk_of I hm (raises_own T.be T.ty) h (I.hok.gone hm.new)) (Nat.zero_le _)
/-- isinstance(e, c) in the suite that holds e, of a class without a dict -/
theorem call_isX {a D : Addr} {oe : Obj} {pn : List (Addr × Obj)} {cls : Value} {d : Option Addr} (T : ExcC X.K D) (hz : Zc cls d oe) (hf : ∃ vs, oe.data = .fields vs) :
    CallR (X.suite a ((a, oe) :: pn)) (.builtin "isinstance") (fun xs H Q => cls = .ref D ∧ d = none ∧ rIsE X.K D a xs H Q) := by
  intro pins s σ H xs us Q I r h
  obtain ⟨rfl, rfl, h⟩ := h
  exact call_isE T hz hf pins s σ H xs us Q I r h
end
end LaneX
set_option Elab.async false
set_option linter.all false
set_option maxRecDepth 100000
set_option maxHeartbeats 4000000
namespace LaneX
open PySem PySem.Spec PyProof.Rows L2
/-! ### lists and tuples, a written tuple too -/
def Wq (K : PySem.W.Frag) (H : Hp) (a : Addr) (xs : List V) : Prop := Tq H a xs ∨ ∃ (o : Obj) (its : Array Value) (n : Nat), K.lookup a = some o ∧ o.cls = .type "tuple" ∧ o.data = .seq its n ∧ its.size ≤ sizeLine ∧ Vals xs its.toList
section
variable {K : PySem.W.Frag} {H H' : Hp} {a p : Addr} {xs : List V}
theorem Wq.sqlt (h : Wq K H a xs) : SqL K H a xs ∨ SqT K H a xs := by
  rcases h with h | h
  · exact h.sqlt
  · exact .inr (.inr h)
theorem Wq.sq (h : Wq K H a xs) : Sq K H a xs := h.sqlt
theorem Wq.kp (h : Wq K H a xs) (s : Kp H H') : Wq K H' a xs := by
  rcases h with h | h
  · exact .inl (kp_tq s h)
  · exact .inr h
theorem Wq.same (h : Wq K H a xs) (s : Same H H') : Wq K H' a xs := h.kp (Kp.of s)
theorem Wq.ty (h : Wq K H a xs) : ∃ t, TyX K H (.ref a) t ∧ PySem.W.kitAny K t [.type "list", .type "tuple"] = some true := by
  rcases h with h | ⟨o, its, n, h1, h2, _⟩
  · exact h.ty
  · exact ⟨_, .kTuple h1 h2, kitAny_cons (b := false) (kit_ty (by decide +kernel)) (fun _ => kitAny_cons (b := true) (kit_ty (by decide +kernel)) (fun z => by cases z) (fun _ => rfl)) (fun z => by cases z)⟩
end
section
variable {X : Cx}
theorem call_lenW : CallR X (.builtin "len") (fun xs H Q => ∃ (p : Addr) (ys : List V), xs = [.ref p] ∧ Wq X.K H p ys ∧ Q (.int (ys.length : Nat)) H) := by
  intro pins s σ H xs us Q I r h
  obtain ⟨p, ys, rfl, hq, q⟩ := h
  exact call_len_seq pins s σ H _ us Q I r ⟨p, ys, rfl, hq.sqlt, q⟩
theorem call_listW : CallR X (.type "list") (fun xs H Q => ∃ (p : Addr) (ys : List V), xs = [.ref p] ∧ Wq X.K H p ys ∧ ∀ l, H l = none → Q (.ref l) (upd H l (.lst ys))) := by
  intro pins s σ H xs us Q I r h
  obtain ⟨p, ys, rfl, hq, q⟩ := h
  exact call_list_of pins s σ H _ us Q I r ⟨p, ys, rfl, hq.sqlt, q⟩
end
/-! ### enumerate of a list or a tuple -/
def iEnumQ (K : PySem.W.Frag) (ta : TA) : TI := fun σ H R => ta σ H fun vs H1 => ∃ (a : Addr) (xs : List V), vs = [.ref a] ∧ ((SqL K H1 a xs ∧ R (Ite K a) H1) ∨ (SqT K H1 a xs ∧ R (Itu K a) H1))
theorem pi_enumQ {X : Cx} {e : Expr} {ta : TA} {p pos tpos : Pos} {elts : List Expr} {kk : Nat} (hg : Gl X "enumerate") (hm : X.mg "enumerate" = none) (ha : PA X [e] ta) (hs : starEach [e] X.env = [(false, eval e X.env)] := by rfl) :
    PI X (.Tuple elts kk tpos) (.Call (.Name "enumerate" p) [e] [] pos) (iEnumQ X.K ta) := by
  refine ⟨fun pins s σ H R I h => Call_ (ld_blt I hg hm boot_enumerate (PyProof.Rows.callWith_type1 (thn (ha.run pos pins s σ H _ I h) fun us s1 ⟨vs, H1, I1, r1, a, xs, ex, q⟩ => ?_) hs rfl))⟩
  subst ex
  rw [Vals.ref1 r1]
  have fp : ∀ b ∈ [s1.heap.objs.size + 1, s1.heap.objs.size], FpOk X pins H1 b := fun b hb => by
    have le : s1.heap.objs.size ≤ b := by
      rcases List.mem_cons.mp hb with z | z
      · rw [z]; exact Nat.le_succ _
      · rw [List.mem_singleton.mp z]; exact Nat.le_refl _
    exact I1.fpOk le (I1.hok.fresh le)
  rcases q with ⟨hq, q⟩ | ⟨hq, q⟩
  · obtain ⟨its, rv, p', hz⟩ := I1.list hq
    refine call_enumerate_list p'.isList fun h' he hit hsz hk => wpAny_pyIter_enum he ?_
    exact ⟨s1.heap.objs.size + 1, [s1.heap.objs.size + 1, s1.heap.objs.size], _, _, H1, rfl, I1.kept (t' := s1.toks) hk, turn_enum a (s1.heap.objs.size + 1) s1.heap.objs.size, ⟨⟨.none, he⟩, hit, Nat.succ_ne_self _⟩, fp, q⟩
  · obtain ⟨its, rv, p', hz⟩ := I1.tuple hq
    refine call_enumT (show s1.heap.IsTuple a its.toArray from p') fun h' he hit hk => wpAny_pyIter_enum he ?_
    exact ⟨s1.heap.objs.size + 1, [s1.heap.objs.size + 1, s1.heap.objs.size], _, _, H1, rfl, I1.kept (t' := s1.toks) hk, turn_enumT a (s1.heap.objs.size + 1) s1.heap.objs.size, ⟨⟨.none, he⟩, hit, Nat.succ_ne_self _⟩, fp, q⟩
section
variable {K : PySem.W.Frag} {g : TG} {tt : TT} {te : TE} {vs : List Nat} {σ : L2.St} {H : Hp} {Q : Addr → Hp → Prop}
/-- a pure comprehension over enumerate(x) -/
theorem lc_enumQ {a : Addr} {xs : List V} (v : Nat → V) (hS : Sq K H a xs) (hlen : xs.length ≤ 1000000) (hs : ∀ i x H' T, xs[i]? = some x → Same H H' → H' T = some (.tup [vN i, x]) → LcT g tt te vs σ (.ref T) H' true (v i))
    (hd : ∀ D H', H D = none → Same H H' → H' D = some (.lst ((List.range xs.length).map v)) → Q D H') :
    ∃ (a' : Addr) (xs' : List V), [V.ref a] = [.ref a'] ∧ ((SqL K H a' xs' ∧ LcR g tt te vs σ Q (Ite K a') H) ∨ (SqT K H a' xs' ∧ LcR g tt te vs σ Q (Itu K a') H)) := by
  refine ⟨a, xs, rfl, ?_⟩
  have turn : ∀ {D : Addr} {i : Nat} {x : V} {H' H2 : Hp}, H D = none → i < xs.length → (Same H H' ∧ H' D = some (.lst ((((List.range xs.length).take i).filter fun _ => true).map v))) → YPair (fun i => some (.int (i : Nat))) (fun i => xs[i]?) i H' x H2 →
      g x (wipe σ vs) H2 fun σ2 H2' => wipe σ2 vs = wipe σ vs ∧ tt σ2 H2' fun b H3 => if b = true then te σ2 H3 fun y H4 => ∃ acc, H4 D = some (.lst acc) ∧ acc.length < sizeLine ∧ (Same H (upd H4 D (.lst (acc ++ [y]))) ∧ upd H4 D (.lst (acc ++ [y])) D = some (.lst ((((List.range xs.length).take (i + 1)).filter fun _ => true).map v))) else (Same H H3 ∧ H3 D = some (.lst ((((List.range xs.length).take (i + 1)).filter fun _ => true).map v))) := fun {D i x H' H2} hD hi hp y => by
    obtain ⟨T, x1, x2, rfl, nT, rfl, e1, e2⟩ := y
    cases e1
    have s2 : Same H (upd H' T (.tup [vN i, x2])) := same_new hp.1 nT
    exact lc_turn (l := List.range xs.length) (ι := fun _ => .ref T) (p := fun _ => true) (v := v) (by simpa using hlen) hD (range_get hi) s2 (upd_new nT hp.2) (hs i x2 _ T e2 s2 upd_same)
  have done : ∀ {D : Addr} {H' : Hp}, H D = none → (Same H H' ∧ H' D = some (.lst ((((List.range xs.length).take xs.length).filter fun _ => true).map v))) → Q D H' := fun {D H'} hD hp => by
    obtain ⟨h1, h2⟩ := hp
    rw [List.take_of_length_le (by simp), List.filter_eq_self.mpr fun _ _ => rfl] at h2
    exact hd D H' hD h1 h2
  rcases hS with hS | hS
  · exact .inl ⟨hS, fun D hD => lc_it walk_enum (fun i H' => Same H H' ∧ H' D = some (.lst ((((List.range xs.length).take i).filter fun _ => true).map v))) ⟨same_new0 hD, by simpa using upd_same⟩ (fun i H' _ hp => kp_sqL (Kp.of hp.1) hS) (fun i x H' H2 hi hp y => turn hD hi hp y) (fun H' hp => done hD hp)⟩
  · exact .inr ⟨hS, fun D hD => lc_it walk_enumT (fun i H' => Same H H' ∧ H' D = some (.lst ((((List.range xs.length).take i).filter fun _ => true).map v))) ⟨same_new0 hD, by simpa using upd_same⟩ (fun i H' _ hp => kp_sqT (Kp.of hp.1) hS) (fun i x H' H2 hi hp y => turn hD hi hp y) (fun H' hp => done hD hp)⟩
end
/-! ### a def with a default, called without it -/
section
variable (P : Program) (w : World) (K : PySem.W.Frag) (mg : Str → Option Value) (base : Heap)
structure Dd (k : Nat) (x : Str) (ps : List Str) (sp : Sp) (dvs : List V) : Prop where
  ex : ∃ (f : Addr) (fd : FuncData), mg x = some (.ref f) ∧ PySem.W.keepIn K (.ref f) = true ∧ (∃ ds, Vals dvs ds ∧ Binds K fd ps ds) ∧ FnOk P w K mg base CX0 k f fd ps sp
end
section
variable {X : Cx} {k j : Nat} {x : Str} {ps : List Str} {sp : Sp} {dvs : List V} {p pos : Pos} {e : Expr} {es : List Expr} {t : TA}
theorem pe_dd (D : Dd X.prog X.w X.K X.mg X.base k x ps sp dvs) (hr : Room j X.A) (ha : PA X (e :: es) t) (hk : k ≤ j := by decide) (hg : Gl X x := by rfl) (hdb : (x == ("__debug__" : Str)) = false := by decide)
    (he : starEach (e :: es) X.env = (false, eval e X.env) :: starEach es X.env := by rfl) (hpl : (backTo pos (starEach es X.env)).any (·.1) = false := by rfl) :
    PE X (.Call (.Name x p) (e :: es) [] pos) (tCall sp dvs E0 t) := by
  obtain ⟨f, fd, h1, h2, ⟨ds, h3, h3'⟩, h4⟩ := D.ex
  exact pe_call h4 (hr.mono hk) hg h1 h2 h3' h3 pass0 ha hdb he hpl
/-- a def of the text with defaults -/
abbrev FnPD (K : PySem.W.Frag) (x qual : Str) (st : Stmt) (dvs : List V) (f : Addr) (fd : FuncData) : Prop := FunD K x qual (defArgs st) (defBody st) (defScope st) dvs [] f fd
end
section
variable {P : Program} {w : World} {K : PySem.W.Frag} {mg : Str → Option Value} {base : Heap}
theorem fnokD {x qual : Str} {st : Stmt} {dvs : List V} {f : Addr} {fd : FuncData} {N ps : List Str} {k : Nat} {sp : Sp} (F : FnPD K x qual st dvs f fd) (S : FnScope N ps (defScope st)) (len : ∀ vs H Q E, sp vs H Q E → vs.length = ps.length)
    (hbody : ∀ (cdv : Value) (A : Around) (outer : List Env) (s : Shared) (H : Hp) (vs : List V) (Q : VK) (E : XK), Room k (A.deeper (envOfC qual (defScope st) s.heap.objs.size f cdv)) → sp vs H Q E →
      ∃ t, PSs (cxOf CX0 P w K mg base N qual (defScope st) f cdv A outer s H E).nox (defBody st) t ∧ t { nx := fun _ H' => Q .non H', rt := Q } (start N vs) H) : FnOk P w K mg base CX0 (k + 1) f fd ps sp := by
  refine F.ok S len (fun cdv A outer s H vs Q E hr h => ?_)
  obtain ⟨t, h1, h2⟩ := hbody cdv A outer s H vs Q E hr h
  exact ⟨t, PSs.nox h1, h2⟩
end
end LaneX
set_option Elab.async false
set_option linter.all false
set_option maxRecDepth 100000
set_option maxHeartbeats 4000000
namespace LaneX
open PySem PySem.Spec PyProof.Rows L2
/-! ### super().__init__(x) of an own exception over ValueError, called -/
section
open PySem.W PySem.Calls
variable {prog : Program} {w : World} {M : Model} {A : Around} {E : Value → Shared → Prop}
theorem callWith_mw {i : String} {x : Addr} {s : Shared} {pos : Pos} {u : Addr} {first : List Value} {env : Env} {e : Expr} {rest : List Expr} {Q : Value → Shared → Prop}
    (h : wpAny M A (spliced (backTo pos (starEach (e :: rest) env))) (fun vs s₁ => KxsAt i u x s₁.heap ∧ wpAny M A (call (.ref u) (first ++ vs)) Q E s₁) E s)
    (he : starEach (e :: rest) env = (false, eval e env) :: starEach rest env := by rfl) (hplain : (backTo pos (starEach rest env)).any (·.1) = false := by rfl) :
    wpAny M A (callWith pos (.ref u) first (backTo pos (starEach (e :: rest) env)) []) Q E s := by
  rw [he] at h ⊢
  refine kxs_callWith (i := i) (x := x) (by show (false || (backTo pos (starEach rest env)).any (·.1)) = false; rw [hplain]; rfl) ?_
  exact evalArgs_plain h
theorem call_mw {u e C t0 : Addr} {nm q : Str} {N : Addr} {bs bm : List Value} {hdct : Bool} {sn : List Str} {sub : List Value} {ab : Bool} {col : Option Bool} {dd : Option Addr} {k0 k1 k2 k3 k5 : Option Value} {h : Heap} {g : Array GenState} {d : Drawn} {t : Nat} {os : OsState} {rest : List Value} {Q : Value → Shared → Prop}
    (hC : h.get? C = some (excClassObj nm q C N bs bm hdct sn sub ab col dd k0 k1 k2 k3 k5 "ValueError.__new__")) (he : h.get? e = some (HandSPX.excO C t0)) (hu : h.get? u = some (kxs_mw "ValueError.__init__" e)) (hrest : rest.length ≤ sizeLine)
    (hq : ∀ h' t1, (∀ b o, b ≠ e → h.get? b = some o → h'.get? b = some o) → h'.get? e = some (HandSPX.excO C t1) → Q .none ⟨h', g, d, t, os⟩) :
    wpAny (model prog w) A (call (.ref u) rest) Q E ⟨h, g, d, t, os⟩ := by
  refine wpAny_call (codeAny_of_tree ?_)
  show wpAny _ A.in1 (callAny (.ref u) ⟨rest, []⟩) _ _ _
  simp only [callAny]
  refine wpAny_bind (wpAny_load hu ?_)
  simp only [kxs_mw, show (Value.type "method-wrapper" == Value.type "method" || Value.type "method-wrapper" == Value.type "builtin_function_or_method" || Value.type "method-wrapper" == Value.type "method-wrapper") = true by decide, if_true]
  refine KFB.if_so (by decide) ?_
  refine wpAny_bind (check_bound_init F.excBase_ValueError.toExcCallFacts hC he rfl ?_)
  refine wpAny_bind (wpAny_pure (wpAny_pure ?_))
  refine ⟨plainId_quiet F.excBase_ValueError.init.plain _, codeAny_builtin F.excBase_ValueError.initEntry ?_⟩
  rw [Around.under_plainId F.excBase_ValueError.init.plain _]
  wp_walk
  refine hq _ h.objs.size (fun b o hb ho => ?_) ?_
  · rw [Heap.get?_update_other _ _ (Ne.symm hb)]
    exact Heap.get?_push_of_some _ ho
  · rw [Heap.get?_update_self _ (Heap.get?_push_of_some _ he) rfl]
    rfl
end
/-- what such an __init__ does: the field fld holds its argument -/
def sp_xi (K : PySem.W.Frag) (C : Addr) (fld : Str) : Sp := fun vs H Q _ => ∃ (a : Addr) (y : V), vs = [.ref a, y] ∧ H a = some (exo a C none) ∧ ∀ dx, H dx = none → dx ≠ a → Q .non (upd (upd H dx (exd dx [(fld, y)])) a (exo a C (some dx)))
def scX (sc : Scope) (x : Str) : Scope := { sc with names := [("self", .local), (x, .local)] }
theorem scX_ok {sc : Scope} {x : Str} (hk : sc.kind = .function) (hco : sc.isCoroutine = false) (hg : sc.isGenerator = false) (nx : x ≠ "self") : FnScope ["self", x] ["self", x] (scX sc x) := by
  refine ⟨hk, hco, hg, ?_, rfl, fun y hy => ?_, fun y hy => ?_⟩
  · simpa using fun z : ("self" : Str) = x => nx z.symm
  · left
    rcases List.mem_cons.mp hy with rfl | hy
    · rfl
    · rw [List.mem_singleton.mp hy]
      show List.lookup x [("self", NameKind.local), (x, .local)] = _
      have e : (x == ("self" : Str)) = false := by simpa using nx
      simp [List.lookup, e]
  · have : y = ((("self" : Str), NameKind.local) : Str × NameKind) ∨ y = (x, .local) := by simpa [scX] using hy
    rcases this with rfl | rfl <;> (intro z; cases z)
section
open PySem.W PySem.Calls
variable {P : Program} {w : World} {K : PySem.W.Frag} {mg : Str → Option Value} {base : Heap} {CX : CXT} {k : Nat} {f C cc cda : Addr} {qual x fld : Str} {params : Arguments} {names : List (Str × NameKind)} {more : List (Str × Const)} {p0 p1 p2 p3 p4 p5 p6 p7 p8 p9 : Pos} {dV kV doc pm ct oc : Value} {an od : Option Addr} {osl : Array (Option Value)}
theorem he_super {env : Env} (hpos : (p2.endLine == p4.line) = true) : eval (.Call (.Attribute (.Call (.Name "super" p0) [] [] p1) "__init__" p2) [.Name x p3] [] p4) env = (do
      let ov ← attributeBase (.Call (.Name "super" p0) [] [] p1) "__init__" env (eval (.Call (.Name "super" p0) [] [] p1) env)
      standAt p2.atName
      let (f, first) ← holding [ov] (getMethod ov "__init__" (do return (← importBound (.Call (.Name "super" p0) [] [] p1) env).getD true))
      callWith p4 f first (backTo p4 (starEach [.Name x p3] env)) []) := by
  have e1 : methodCallForm ([Expr.Name x p3].length + ([] : List Keyword).length) (backTo p4 (starEach [.Name x p3] env)) (backToKw p4 (keywordEach [] env)) = true := rfl
  have e2 : methodCallPos true (.Call (.Name "super" p0) [] [] p1) env p2 p4 = pure p4 := by
    unfold methodCallPos
    rw [if_pos (show (!true || p2.endLine == p4.line) = true by rw [hpos]; rfl)]
  show (do
    let ov ← attributeBase (.Call (.Name "super" p0) [] [] p1) "__init__" env (eval (.Call (.Name "super" p0) [] [] p1) env)
    standAt p2.atName
    methodCall (.Call (.Name "super" p0) [] [] p1) "__init__" p2 p4 env ov ([Expr.Name x p3].length + ([] : List Keyword).length) (backTo p4 (starEach [.Name x p3] env)) (backToKw p4 (keywordEach [] env))) = _
  unfold methodCall
  rw [e1, e2]
  rfl
theorem xi_ok (lk : K.lookup f = some ⟨oc, od, .func (ksFn "__init__" qual params [.Expr (.Call (.Attribute (.Call (.Name "super" p0) [] [] p1) "__init__" p2) [.Name x p3] [] p4) p5, .Assign [.Attribute (.Name "self" p6) fld p7] (.Name x p8) p9] (⟨.function, names, false, false, more⟩ : Scope) dV kV doc pm an (.ref cda) ct cc), osl⟩)
    (hcd : codeIn K (.ref cda) qual = true) (T : OexC K C) (hno : findIn K (.ref C) fld = some none) (nx : x ≠ "self") (hdx : (x == ("__debug__" : Str)) = false) (hpos : (p2.endLine == p4.line) = true)
    (hcell : ∀ y ∈ names, y.2 ≠ .cell)
    (hs : names.lookup ("self" : Str) = some .local) (hx : names.lookup x = some .local) (hks : names.lookup ("super" : Str) = some .globalImplicit) (hkc : names.lookup ("__class__" : Str) = some .free)
    {ar : Arg} (hp : (params.posonlyargs ++ params.args).head? = some ar) (har : ar.arg = "self")
    {ccl cl : Value} {cdd cld : Option Addr} {ccs csl : Array (Option Value)} {vs : Array Value} {file : Str} {tf : Tok}
    (hcode : K.lookup cda = some ⟨ccl, cdd, .fields vs, ccs⟩) (hvs : vs[2]? = some (.str file tf)) (hfile : ((P.main.file : Str) == file) = true) (htop : (P.main.scope.names.lookup ("super" : Str)).isSome = false)
    (hcc : K.lookup cc = some ⟨cl, cld, .cell (some (.ref C)), csl⟩) (hmg : mg "super" = none) (hboot : bootBuiltins "super" = some (.type "super"))
    (hsub : mroIn K C (.ref C) = some true) (hal : ks_superIn K C C "__init__" = some (some (.builtin "ValueError.__init__"))) (hve : subIn K (.ref C) (.type "ValueError") = some true) (hop : nsIn K cStatics "thirdparty.any" = some none) :
    FnOk P w K mg base CX (k + 1) f (ksFn "__init__" qual params [.Expr (.Call (.Attribute (.Call (.Name "super" p0) [] [] p1) "__init__" p2) [.Name x p3] [] p4) p5, .Assign [.Attribute (.Name "self" p6) fld p7] (.Name x p8) p9] (⟨.function, names, false, false, more⟩ : Scope) dV kV doc pm an (.ref cda) ct cc) ["self", x] (sp_xi K C fld) := by
  refine ⟨fun vs H Q E h => by obtain ⟨a, y, rfl, _⟩ := h; rfl, fun A outer s H args us vs Q E hr e0 hb r hsp => ?_⟩
  obtain ⟨a, y, rfl, ea, q⟩ := hsp
  cases r with
  | @cons _ ua _ ur ra rw' =>
  cases rw' with
  | @cons _ u _ ur' ry rn =>
  cases rn
  obtain rfl : ua = Value.ref a := ra
  have KX : K.In s.heap := e0.mod.kin.keeps fun b o e => (e0.bs b o e).1
  have lim : s.heap.NoLimit := e0.mod.nolimit.keeps fun b o e => (e0.bs b o e).1
  have S := scX_ok (sc := (⟨.function, names, false, false, more⟩ : Scope)) (x := x) rfl rfl rfl nx
  have nxs : (x == ("self" : Str)) = false := by simpa using nx
  have nsx : (("self" : Str) == x) = false := by simpa using fun z : ("self" : Str) = x => nx z.symm
  have hl2 : (("self" : Str), Value.ref a) = (("self" : Str), Value.ref a) := rfl
  have bl : ∀ z, List.lookup z ([((("self" : Str), Value.ref a) : Str × Value), (x, u)].reverse) = if z = x then some u else if z = ("self" : Str) then some (.ref a) else none := fun z => by
    show List.lookup z [(x, u), ((("self" : Str), Value.ref a) : Str × Value)] = _
    by_cases h1 : z = x
    · rw [h1, if_pos rfl]
      simp [List.lookup]
    · have e1 : (z == x) = false := by simpa using h1
      rw [if_neg h1]
      by_cases h2 : z = ("self" : Str)
      · rw [if_pos h2, h2]
        have e1 : (("self" : Str) == x) = false := nsx
        simp [List.lookup, e1]
      · have e2 : (z == ("self" : Str)) = false := by simpa using h2
        rw [if_neg h2]
        simp [List.lookup, e1, e2]
  refine ks_codeAny_call_defAt (binds := [((("self" : Str), Value.ref a) : Str × Value), (x, u)]) hr.depth (KX _ _ lk) rfl lim (codeRec_of KX hcd) rfl hb hcell (fun z hz => ?_) (fun h1 hns hk1 => ?_) rfl rfl rfl
  · have : z = ((("self" : Str), Value.ref a) : Str × Value) ∨ z = (x, u) := by simpa using hz
    rcases this with rfl | rfl
    · exact hs
    · exact hx
  have hns1 := hns
  rw [show (fun z => List.lookup z ([((("self" : Str), Value.ref a) : Str × Value), (x, u)].reverse)) = fun z => if z = x then some u else if z = ("self" : Str) then some (.ref a) else none from funext bl] at hns1
  have kx : (scX (⟨.function, names, false, false, more⟩ : Scope) x).names.lookup x = some .local := by
    show List.lookup x [((("self" : Str), NameKind.local) : Str × NameKind), (x, .local)] = _
    simp [List.lookup, nxs]
  have J0 : Inv (cxOf CX P w K mg base ["self", x] qual (scX (⟨.function, names, false, false, more⟩ : Scope) x) f (.ref cda) A outer s H E) [] (start ["self", x] [.ref a, y]) H { s with heap := h1, toks := s.toks + 2 } := by
    refine inv_start (us := [.ref a, u]) S hr.hd e0 rfl (.cons rfl (.cons ry .nil)) ⟨⟨⟨h1, _, rfl⟩, ?_, hk1, Nat.le_refl _⟩, fun n c hh => ?_, .nil, fun n c hh => ?_⟩
    · have e : bindL (envOfC qual (scX (⟨.function, names, false, false, more⟩ : Scope) x) s.heap.objs.size f (.ref cda)).kindOf ((["self", x] : List Str).zip [.ref a, u]) (fun _ => none) = fun z => if z = x then some u else if z = ("self" : Str) then some (.ref a) else none := by
        show bindL _ [((("self" : Str), Value.ref a) : Str × Value), (x, u)] _ = _
        unfold bindL
        rw [if_pos (show (envOfC qual (scX (⟨.function, names, false, false, more⟩ : Scope) x) s.heap.objs.size f (.ref cda)).kindOf "self" = some .local from rfl)]
        unfold bindL
        rw [if_pos (show (envOfC qual (scX (⟨.function, names, false, false, more⟩ : Scope) x) s.heap.objs.size f (.ref cda)).kindOf x = some .local from kx)]
        rfl
      rw [e]
      exact hns1
    · cases hh
    · cases hh
  have KX1 : K.In h1 := J0.kIn
  obtain ⟨mb, hb1, hb2⟩ := J0.mod.blt
  obtain ⟨nm, qn, N, bs, bm, sn, sub, ab, col, dd, k0, k1, k2, k3, k5, hC, hbm⟩ := T.cls
  have hcl : clsIn K C = some { name := nm, bases := bs, mro := .ref C :: bm, ns := N, qualname := qn, hasDict := true, slotNames := sn, subclasses := sub, abstract := ab, collection := col, hasDel := false } := by unfold clsIn; rw [hC] <;> rfl
  obtain ⟨t1, ho⟩ := exo_at J0.hok ea
  have ho : h1.get? a = some ({ cls := .ref C, dict := none, data := .fields #[.ref t1, .none, .none, .none, .bool false, .none] } : Obj) := ho
  have vself : (fun z => if z = x then some u else if z = ("self" : Str) then some (Value.ref a) else none) ("self" : Str) = some (.ref a) := by
    show (if ("self" : Str) = x then some u else if ("self" : Str) = ("self" : Str) then some (Value.ref a) else none) = _
    rw [if_neg fun z => nx z.symm, if_pos rfl]
  have vx : (fun z => if z = x then some u else if z = ("self" : Str) then some (Value.ref a) else none) x = some u := if_pos rfl
  refine ks_wpAt_execs_cons (ks_wpAt_Expr_any (ks_wpAt_MethodCall ?_ (he_super hpos)))
  refine ks_wpAt_super_base hks hkc rfl rfl (KX1 _ _ lk) rfl hp rfl (KX1 _ _ hcode) rfl hvs hfile htop ?_
  refine ks_loadName_global rfl hks (loadGlobal_builtin (J0.mod.glob.keeps J0.bk) hmg (hb1.keeps J0.bk) ((hb2 "super" (by decide)).trans hboot) ⟨rfl, ?_⟩)
  refine wpAny_loadName_free rfl hkc rfl ⟨_, KX1 _ _ hcc, rfl⟩ ?_
  rw [har]
  refine wpAny_loadName_local rfl hs hns1 vself ?_
  refine ks_wpAny_isType_cls (KX1 _ _ hC) rfl ⟨rfl, ?_⟩
  refine ks_wpAny_call_super (KX1 _ _ hC) rfl ho rfl (fun c z => by cases z) (looks_mroIn KX1 hsub) (fun h2 hso k2 => ?_)
  have J2 := J0.kept (t' := s.toks + 2) k2
  have KX2 : K.In h2 := J2.kIn
  have I2 : W.InstAt h2 a _ C none := ⟨k2 _ _ ho, rfl, rfl, trivial⟩
  have hal2 : alongIn K "__init__" (((Value.ref C :: bm).dropWhile (· != .ref C)).drop 1) = some (some (.builtin "ValueError.__init__")) := by
    have z := hal
    unfold ks_superIn at z
    rw [hcl] at z
    exact z
  refine kxs_getMethod kxs_ValueError hso (looks_opaque KX2 hop) (l₀ := .ref C :: bm) (fun A Q E s k q => wpAny_bind ((looks_clsIn KX2 hcl) A _ E s k (wpAny_pure q))) rfl KX2 hal2 (I2.type.andThen (looks_subIn KX2 hve)) (ks_ne KX2 I2 hcl) rfl ?_
  have J3 := J2.kept (h' := h2.push (kxs_mw "ValueError.__init__" a)) (t' := s.toks + 2 + 1) fun b o e => Heap.get?_push_of_some _ e
  have hu3 : (h2.push (kxs_mw "ValueError.__init__" a)).get? h2.objs.size = some (kxs_mw "ValueError.__init__" a) := Heap.get?_push_at rfl rfl
  have k13 : ∀ b o, h1.get? b = some o → (h2.push (kxs_mw "ValueError.__init__" a)).get? b = some o := fun b o e => Heap.get?_push_of_some _ (k2 b o e)
  generalize h2.push (kxs_mw "ValueError.__init__" a) = h3 at *
  have hns3 := hns1.keeps k13
  refine callWith_mw (i := "ValueError.__init__") (x := a) ?_
  refine args_cons (wpAny_Name (wpAny_loadName_local rfl hx hns3 vx ?_) hdx)
  refine args_nil ⟨hu3, ?_⟩
  refine call_mw (J3.kIn _ _ hC) (k13 _ _ ho) hu3 (by show 1 ≤ sizeLine; decide) (fun h4 t4 k4 he4 => ?_)
  have J4 := J3.write (t' := s.toks + 2 + 1) (h' := h4) (x := a) (e := a) (o := exo a C none) (by rw [ea]; exact True.intro) (.inl rfl) k4 ⟨_, he4⟩ (exo_ok he4)
  have eu : upd H a (exo a C none) = H := by
    funext b
    by_cases hb : b = a
    · rw [hb, upd_same, ea]
    · rw [upd_ne hb]
  rw [eu] at J4
  have hns4 : h4.Ns s.heap.objs.size (fun z => if z = x then some u else if z = ("self" : Str) then some (Value.ref a) else none) := by
    obtain ⟨oL, es, ep, hL, rL⟩ := hns3
    refine ⟨oL, es, ep, k4 _ _ (fun z => ?_) hL, rL⟩
    have fr := e0.hok.fresh (Nat.le_refl s.heap.objs.size)
    rw [z, ea] at fr
    cases fr
  refine ks_wpAt_execs_cons (ks_wpAt_Assign_Attr ?_)
  refine wpAt_of_any (wpAny_Name (wpAny_loadName_local rfl hx hns4 vx ?_) hdx)
  refine wpAny_Name (wpAny_loadName_local rfl hs hns4 vself ?_) (by decide)
  refine ost_new T J4 ea hno ry (fun dx s' hdx' ne J5 => ?_)
  refine wpAt_of_any (wpAny_pure ?_)
  exact ⟨.non, _, J5.os, J5.bare, J5.base, J5.hok, rfl, q dx hdx' ne⟩
end
end LaneX
set_option Elab.async false
set_option linter.all false
set_option maxRecDepth 100000
set_option maxHeartbeats 4000000
namespace LaneX
open PySem PySem.Spec PyProof.Rows L2
/-! ### an own exception with super().__init__(x), self.f = x: looked at, made -/
def oexB (K : PySem.W.Frag) (C : Addr) : Bool := match K.lookup C with
  | some ⟨.type t, _, .cls cd, sl⟩ => decide (t = "type") && (match cd.mro, sl.toList with
    | .ref C' :: bm, [_, _, _, _, some (.builtin n), _] => C' == C && (n == "ValueError.__new__" && (!cd.hasDel && (cd.hasDict && PySem.HandSPX.refsVE bm)))
    | _, _ => false)
  | _ => false
theorem oexB_ok {K : PySem.W.Frag} {C : Addr} (h : oexB K C = true) : ∃ nm q N bs bm sn sub ab col dd k0 k1 k2 k3 k5, K.lookup C = some (excClassObj nm q C N bs bm true sn sub ab col dd k0 k1 k2 k3 k5 "ValueError.__new__") ∧ PySem.HandSPX.refsVE bm = true := by
  unfold oexB at h
  split at h
  · rename_i t od cd sl ho
    obtain ⟨h1, h⟩ := He.ba h
    split at h
    · rename_i C' bm k0 k1 k2 k3 n k5 hm hs
      obtain ⟨h2, h⟩ := He.ba h
      obtain ⟨h3, h⟩ := He.ba h
      obtain ⟨h4, h⟩ := He.ba h
      obtain ⟨h5, h6⟩ := He.ba h
      obtain rfl := beq_iff_eq.mp h2
      obtain rfl := beq_iff_eq.mp h3
      obtain rfl := of_decide_eq_true h1
      obtain ⟨nm, bs, mro, N, q, hd, sn, sub, ab, col, del⟩ := cd
      dsimp only at hm h4 h5
      subst hm
      subst h5
      have hdel : del = false := by cases del <;> first | rfl | cases h4
      subst hdel
      have hsl : sl = #[k0, k1, k2, k3, some (.builtin "ValueError.__new__"), k5] := by
        apply Array.ext'
        exact hs
      exact ⟨nm, q, N, bs, bm, sn, sub, ab, col, od, k0, k1, k2, k3, k5, by rw [ho, hsl], h6⟩
    · cases h
  · cases h
/-- the file of a code object -/
def fileB (p : Program) (K : PySem.W.Frag) (cda : Addr) : Bool := match K.lookup cda with
  | some ⟨_, _, .fields vs, _⟩ => (match (vs : Array Value)[2]? with
    | some (Value.str file _) => (p.main.file : Str) == file
    | _ => false)
  | _ => false
theorem fileB_ok {p : Program} {K : PySem.W.Frag} {cda : Addr} (h : fileB p K cda = true) : ∃ (ccl : Value) (cdd : Option Addr) (vs : Array Value) (ccs : Array (Option Value)) (file : Str) (tf : Tok), K.lookup cda = some ⟨ccl, cdd, .fields vs, ccs⟩ ∧ vs[2]? = some (.str file tf) ∧ ((p.main.file : Str) == file) = true := by
  unfold fileB at h
  split at h
  · rename_i ccl cdd vs ccs ho
    split at h
    · rename_i file tf hv
      exact ⟨_, _, _, _, _, _, ho, hv, h⟩
    · cases h
  · cases h
/-- a cell that holds C -/
def cellB (K : PySem.W.Frag) (cc C : Addr) : Bool := match K.lookup cc with
  | some ⟨_, _, .cell (some (.ref D)), _⟩ => D == C
  | _ => false
theorem cellB_ok {K : PySem.W.Frag} {cc C : Addr} (h : cellB K cc C = true) : ∃ (cl : Value) (cld : Option Addr) (csl : Array (Option Value)), K.lookup cc = some ⟨cl, cld, .cell (some (.ref C)), csl⟩ := by
  unfold cellB at h
  split at h
  · rename_i cl cld D csl ho
    obtain rfl := beq_iff_eq.mp h
    exact ⟨_, _, _, ho⟩
  · cases h
def xiA (x fld : Str) (nm a0 a1 s0 s1 x1 s2 f1 x2 cn : Str) (g b : Addr) : Bool := decide (nm = "__init__" ∧ a0 = "self" ∧ a1 = x ∧ s0 = "super" ∧ s1 = "__init__" ∧ x1 = x ∧ s2 = "self" ∧ f1 = fld ∧ x2 = x ∧ g = mainGlobals ∧ b = builtinsNs ∧ cn = "__class__")
def xiN (x : Str) (names : List (Str × NameKind)) : Bool := decide (∀ y ∈ names, y.2 ≠ .cell) && decide (names.lookup ("self" : Str) = some .local ∧ names.lookup x = some .local ∧ names.lookup ("super" : Str) = some .globalImplicit ∧ names.lookup ("__class__" : Str) = some .free)
def exiB (p : Program) (K : PySem.W.Frag) (C f : Addr) (x fld : Str) : Bool := match K.lookup f with
  | some ⟨_, _, .func ⟨nm, qual, ⟨[], [⟨a0, _, _⟩, ⟨a1, _, _⟩], none, [], [], none, []⟩, .stmts [.Expr (.Call (.Attribute (.Call (.Name s0 _) [] [] _) s1 p2) [.Name x1 _] [] p4) _, .Assign [.Attribute (.Name s2 _) f1 _] (.Name x2 _) _], ⟨.function, names, false, false, more⟩, g, [(cn, cc)], .none, kV, doc, pm, an, .ref cda, ct, b⟩, _⟩ =>
    xiA x fld nm a0 a1 s0 s1 x1 s2 f1 x2 cn g b && ((p2.endLine == p4.line) && (xiN x names && (PySem.W.codeIn K (.ref cda) qual && (fileB p K cda && cellB K cc C))))
  | _ => false
/-- all that is asked of such a class -/
def exkB (p : Program) (K : PySem.W.Frag) (C : Addr) (x fld : Str) : Bool :=
  oexB K C && (He.eqO (PySem.W.findIn K (.ref C) "__setattr__") (some (some (.builtin "object.__setattr__"))) && (decide (PySem.W.subIn K (.ref C) (.type "BaseException") = some true) && ((PySem.W.typeIn K (.ref C) == some (.type "type")) && (PySem.W.keepIn K (.ref C) &&
  (He.eqO (PySem.W.findIn K (.ref C) fld) (some none) && (decide (PySem.W.mroIn K C (.ref C) = some true) && (He.eqO (PySem.W.ks_superIn K C C "__init__") (some (some (.builtin "ValueError.__init__"))) && (decide (PySem.W.subIn K (.ref C) (.type "ValueError") = some true) &&
  (He.eqO (PySem.W.nsIn K cStatics "thirdparty.any") (some none) && (match PySem.W.findIn K (.ref C) "__init__" with
    | some (some (.ref f)) => (PySem.W.typeIn K (.ref f) == some (.type "function")) && exiB p K C f x fld
    | _ => false))))))))))
structure Xi (P : Program) (K : PySem.W.Frag) (mg : Str → Option Value) (C : Addr) (x fld : Str) : Prop where
  T : OexC K C
  ini : ∃ (f : Addr) (fd : FuncData), PySem.W.findIn K (.ref C) "__init__" = some (some (.ref f)) ∧ PySem.W.typeIn K (.ref f) = some (.type "function") ∧ Binds K fd ["self", x] [] ∧
    ∀ (w : World) (base : Heap) (CX : CXT) (k : Nat), FnOk P w K mg base CX (k + 1) f fd ["self", x] (sp_xi K C fld)
/-- the parameters bind by place (true of any written name: by rfl) -/
def BndX (x : Str) : Prop := ∀ (nm qual : Str) (a0 : Option Expr) (p0 : Pos) (a1 : Option Expr) (p1 : Pos) (body : List Stmt) (sc : Scope) (kV doc pm : Value) (an : Option Addr) (cdv ct : Value) (cc : Addr) (u1 u2 : Value),
  bindArgs (PySem.W.ksFn nm qual ⟨[], [⟨"self", a0, p0⟩, ⟨x, a1, p1⟩], none, [], [], none, []⟩ body sc .none kV doc pm an cdv ct cc) ⟨[u1, u2], []⟩ = pure [((("self" : Str), u1) : Str × Value), (x, u2)]
theorem bnd_test : BndX "index" := fun _ _ _ _ _ _ _ _ _ _ _ _ _ _ _ _ _ => rfl
theorem exiB_ok {P : Program} {K : PySem.W.Frag} {mg : Str → Option Value} {C f : Addr} {x fld : Str} (h : exiB P K C f x fld = true) (T : OexC K C) (hno : PySem.W.findIn K (.ref C) fld = some none) (bx : BndX x) (nx : x ≠ "self") (hdx : (x == ("__debug__" : Str)) = false)
    (htop : (P.main.scope.names.lookup ("super" : Str)).isSome = false) (hmg : mg "super" = none) (hboot : bootBuiltins "super" = some (.type "super")) (hsub : PySem.W.mroIn K C (.ref C) = some true) (hal : PySem.W.ks_superIn K C C "__init__" = some (some (.builtin "ValueError.__init__")))
    (hve : PySem.W.subIn K (.ref C) (.type "ValueError") = some true) (hop : PySem.W.nsIn K cStatics "thirdparty.any" = some none) :
    ∃ fd : FuncData, Binds K fd ["self", x] [] ∧ ∀ (w : World) (base : Heap) (CX : CXT) (k : Nat), FnOk P w K mg base CX (k + 1) f fd ["self", x] (sp_xi K C fld) := by
  unfold exiB at h
  split at h
  · rename_i oc od nm qual a0 an0 ap0 a1 an1 ap1 s0 p0 p1 s1 p2 x1 p3 p4 p5 s2 p6 f1 p7 x2 p8 p9 names more g cn cc kV doc pm an cda ct b osl ho
    obtain ⟨h1, h⟩ := He.ba h
    obtain ⟨h2, h⟩ := He.ba h
    obtain ⟨h3, h⟩ := He.ba h
    obtain ⟨h4, h⟩ := He.ba h
    obtain ⟨h5, h6⟩ := He.ba h
    obtain ⟨rfl, rfl, rfl, rfl, rfl, rfl, rfl, rfl, rfl, rfl, rfl, rfl⟩ := of_decide_eq_true h1
    obtain ⟨h7, h8⟩ := He.ba h3
    have h7 := of_decide_eq_true h7
    obtain ⟨n1, n2, n3, n4⟩ := of_decide_eq_true h8
    obtain ⟨ccl, cdd, vs, ccs, file, tf, e1, e2, e3⟩ := fileB_ok h5
    obtain ⟨cl, cld, csl, e4⟩ := cellB_ok h6
    refine ⟨_, .all fun us hl => ?_, fun w base CX k => xi_ok ho h4 T hno nx hdx h2 h7 n1 n2 n3 n4 rfl rfl e1 e2 e3 htop e4 hmg hboot hsub hal hve hop⟩
    match us, hl with
    | [_, _], _ => exact bx _ _ _ _ _ _ _ _ _ _ _ _ _ _ _ _ _
  · cases h
theorem exkB_ok {P : Program} {K : PySem.W.Frag} {mg : Str → Option Value} {C : Addr} {x fld : Str} (h : exkB P K C x fld = true) (bx : BndX x) (nx : x ≠ "self") (hdx : (x == ("__debug__" : Str)) = false) (htop : (P.main.scope.names.lookup ("super" : Str)).isSome = false) (hmg : mg "super" = none) (hboot : bootBuiltins "super" = some (.type "super")) : Xi P K mg C x fld := by
  unfold exkB at h
  obtain ⟨h1, h⟩ := He.ba h
  obtain ⟨h2, h⟩ := He.ba h
  obtain ⟨h3, h⟩ := He.ba h
  obtain ⟨h4, h⟩ := He.ba h
  obtain ⟨h5, h⟩ := He.ba h
  obtain ⟨h6, h⟩ := He.ba h
  obtain ⟨h7, h⟩ := He.ba h
  obtain ⟨h8, h⟩ := He.ba h
  obtain ⟨h9, h⟩ := He.ba h
  obtain ⟨h10, h⟩ := He.ba h
  have T : OexC K C := ⟨oexB_ok h1, He.eqO_ok h2, of_decide_eq_true h3, beq_iff_eq.mp h4, h5⟩
  split at h
  · rename_i f hf
    obtain ⟨h11, h12⟩ := He.ba h
    obtain ⟨fd, b, F⟩ := exiB_ok h12 T (He.eqO_ok h6) bx nx hdx htop hmg hboot (of_decide_eq_true h7) (He.eqO_ok h8) (of_decide_eq_true h9) (He.eqO_ok h10)
    exact ⟨T, f, fd, hf, beq_iff_eq.mp h11, b, F⟩
  · cases h
end LaneX
set_option Elab.async false
set_option linter.all false
set_option maxRecDepth 100000
set_option maxHeartbeats 4000000
namespace LaneX
open PySem PySem.Spec PyProof.Rows L2
/-! ### a hook whose part holds the statics too (super() asks them) -/
abbrev frY (n : Nat) (g : Addr → Option Obj) : PySem.W.Frag := He.frT g (cStatics :: He.asD g n)
def obsY (n : Nat) (fa : List He.Fa) (fn : List He.DefD) (tf : List He.Defn) (ex : PySem.W.Frag → Bool) (g : Addr → Option Obj) : He.AlX := (He.obsT fa fn [] (frY n g), ex (frY n g) && He.tabsB g tf (frY n g))
theorem tab_y {g : Addr → Option Obj} {tf : List He.Defn} {K : PySem.W.Frag} (h : He.tabsB g tf K = true) {p : He.Defn} (hp : p ∈ tf) : PySem.W.codeHdIn K (He.cT K p).1 (He.cT K p).2 = true ∧ ∃ o, g (He.cT K p).2 = some o ∧ He.emptyTab o = true := by
  have z := List.all_eq_true.mp h p hp
  cases e : g (He.cT K p).2 with
  | none =>
    have z := (Bool.and_eq_true_iff.mp z).2
    rw [e] at z
    cases z
  | some o =>
    obtain ⟨z1, z2⟩ := Bool.and_eq_true_iff.mp z
    rw [e] at z2
    exact ⟨z1, o, rfl, z2⟩
theorem says_y {n : Nat} {fa : List He.Fa} {fn : List He.DefD} {tf : List He.Defn} {ex : PySem.W.Frag → Bool} {w : World} {h : Heap} (e : obsY n fa fn tf ex h.get? = He.valX fn [] w) : He.SaysX fa fn [] tf ex w h (frY n h.get?) := by
  obtain ⟨e1, e2⟩ := Prod.mk.inj e
  obtain ⟨b1, b2⟩ := Bool.and_eq_true_iff.mp e2
  refine { t := e1, more := b1, hd := fun p hp => (tab_y b2 hp).1, out := fun p hp => ?_, empty := fun p hp => ?_ }
  · obtain ⟨_, o, q, z⟩ := tab_y b2 hp
    exact He.frT_none q z
  · obtain ⟨_, o, q, z⟩ := tab_y b2 hp
    exact q.trans (congrArg some (He.emptyTab_eq z))
def hookY (n : Nat) (fa : List He.Fa) (fn : List He.DefD) (tf : List He.Defn) (ex : PySem.W.Frag → Bool) : PySem.W.Hook :=
  ⟨He.AlX, fun s => obsY n fa fn tf ex s.heap.get?, fun w => He.valX fn [] w, fun w h => ∃ K : PySem.W.Frag, K.In h ∧ He.SaysX fa fn [] tf ex w h K, fun _ _ e => ⟨_, He.frT_in, says_y e⟩,
    fun _ _ _ a k => a.imp fun K z => ⟨z.1.keeps k, { z.2 with empty := fun p hp => k _ _ (z.2.empty p hp) }⟩⟩
theorem obsY_eq {n : Nat} {fa : List He.Fa} {fn : List He.DefD} {tf : List He.Defn} {ex : PySem.W.Frag → Bool} {g : Addr → Option Obj} {s : Shared} (h : ∀ a, g a = s.heap.get? a) : obsY n fa fn tf ex g = (hookY n fa fn tf ex).obs s := by
  obtain rfl : g = s.heap.get? := funext h
  rfl
/-- what is seen, in two looks -/
theorem two_y {σ β : Type} {O : Option σ} {l : σ → Bool} {q : σ → β} {g : σ → Addr → Option Obj} {n : Nat} {lv : Bool} {qv : β} {w : World} {fa : List He.Fa} {fn : List He.DefD} {ex : PySem.W.Frag → Bool} {tf : List He.Defn} (a : O.map (fun s => (l s, q s, obsY n fa [] tf ex (g s))) = some (lv, qv, He.valX [] [] w))
    (b : O.map (fun s => obsY n [] fn [] (fun _ => true) (g s)) = some (He.valX fn [] w)) : O.map (fun s => (l s, q s, obsY n fa fn tf ex (g s))) = some (lv, qv, He.valX fn [] w) := by
  cases O with
  | none => cases a
  | some s =>
    have a := Option.some.inj a
    have b := Option.some.inj b
    obtain ⟨a1, a⟩ := Prod.mk.inj a
    obtain ⟨a2, a⟩ := Prod.mk.inj a
    unfold obsY He.valX He.obsT He.valT He.obsD He.valD at a b
    obtain ⟨a3, a4⟩ := Prod.mk.inj a
    obtain ⟨b3, b4⟩ := Prod.mk.inj b
    have a5 := (Prod.mk.inj (Prod.mk.inj a3).1).1
    obtain ⟨b5, b6⟩ := Prod.mk.inj (Prod.mk.inj b3).1
    show some (l s, q s, obsY n fa fn tf ex (g s)) = _
    unfold obsY He.valX He.obsT He.valT He.obsD He.valD
    rw [a1, a2]
    rw [List.all_nil, Bool.and_true] at a5
    rw [List.all_nil, Bool.true_and] at b5
    rw [a4, a5, b5, b6]
    rfl
end LaneX
set_option Elab.async false
set_option linter.all false
set_option maxRecDepth 100000
set_option maxHeartbeats 4000000
namespace LaneX
open PySem PySem.Spec PyProof.Rows L2
/-! ### ~x by an own __invert__; an instance called -/
def rOwn1 (C : Addr) (sp : Sp) : V → Hp → VK → Prop := fun x H Q => ∃ (a dx : Addr) (fs : List (Str × V)), x = .ref a ∧ H a = some (.ins C dx fs) ∧ sp [.ref a] H Q E0
/-- the class's __call__ is a def -/
def callFn (K : PySem.W.Frag) (C : Addr) : Bool := match PySem.W.findIn K (.ref C) "__call__" with
  | some (some (.ref f)) => PySem.W.fnIn K f
  | _ => false
theorem callFn_ok {K : PySem.W.Frag} {C f : Addr} (h : callFn K C = true) (e : PySem.W.findIn K (.ref C) "__call__" = some (some (.ref f))) : PySem.W.fnIn K f = true := by
  unfold callFn at h
  rw [e] at h
  exact h
section
variable {X : Cx}
theorem un_own {k j : Nat} {C : Addr} {ps : List Str} {sp : Sp} (D : Mn X.prog X.w X.K X.mg X.base k C "__invert__" ps sp) (hr : Room j X.A) (hk : k ≤ j := by decide) : UnR X (unaryOp .Invert) (rOwn1 C sp) := by
  intro pins s σ H x v Q I rx h
  obtain ⟨a, dx, fs, rfl, ha, hsp⟩ := h
  obtain ⟨f, fd, h1, h3, h4⟩ := D.ex
  cases (show v = Value.ref a from rx)
  obtain ⟨mA, O, _⟩ := ins_get I.hok ha
  obtain ⟨od, J, _⟩ := O.look
  obtain ⟨mm, F⟩ := I.fr
  refine PySem.W.ksp_inv F I.mod.kin J h1.at_ h1.fn ?_
  exact run_fn h4 (hr.mono hk) h3 .nil pass0 I (vs := [.ref a]) (.cons rfl .nil) hsp
/-- x(e), x a local name that stands for an instance of C -/
def tOc (C : Addr) (sp : Sp) (tf : TE) (t : TA) : TE := fun σ H Q => tf σ H fun y H1 => ∃ a, y = V.ref a ∧ t σ H1 fun vs H2 => (∃ dx fs, H2 a = some (.ins C dx fs)) ∧ sp (V.ref a :: vs) H2 Q E0
theorem pe_oc {k j : Nat} {C : Addr} {ps : List Str} {sp : Sp} {x : Str} {p pos : Pos} {e : Expr} {es : List Expr} {tf : TE} {t : TA} (hf : PE X (.Name x p) tf) (D : Mn X.prog X.w X.K X.mg X.base k C "__call__" ps sp) (hc : callFn X.K C = true) (hr : Room j X.A) (ha : PA X (e :: es) t) (hk : k ≤ j := by decide)
    (he : starEach (e :: es) X.env = (false, eval e X.env) :: starEach es X.env := by rfl) (hpl : (backTo pos (starEach es X.env)).any (·.1) = false := by rfl) : PE X (.Call (.Name x p) (e :: es) [] pos) (tOc C sp tf t) := by
  refine ⟨fun pins s σ H Q I h => ?_⟩
  obtain ⟨f, fd, h1, h3, h4⟩ := D.ex
  refine wpAny_Call_Name_kw (thn (hf.run pins s σ H _ I h) fun u s1 ⟨y, H1, I1, ry, a, ey, q⟩ => ?_)
  subst ey
  obtain rfl : u = Value.ref a := ry
  refine StX.callO_with (thn (ha.run pos pins s1 σ H1 _ I1 q) fun us s2 ⟨vs, H2, I2, r, ⟨dx, fs, hi⟩, q2⟩ => ?_) he hpl
  obtain ⟨mA, O, _⟩ := ins_get I2.hok hi
  obtain ⟨od, J, _⟩ := O.look
  refine ⟨⟨C, _, od, J, rfl⟩, wpAny_call (PySem.W.kco_code I2.kIn J rfl h1.at_ h1.fn (callFn_ok hc h1.at_) ?_)⟩
  have r2 : Vals (V.ref a :: vs) (Value.ref a :: us) := .cons rfl r
  have hl : (Value.ref a :: us).length = ps.length := by rw [← r2.length]; exact h4.len _ _ _ _ q2
  refine codeAny_mono (h4.run X.A X.stack s2 H2 ⟨Value.ref a :: us, []⟩ (Value.ref a :: us) (V.ref a :: vs) Q E0 (hr.mono hk) I2.env0 (by simpa using h3 s2 (Value.ref a :: us) I2.kIn (by simpa using hl)) r2 q2) fun r s' hq => ?_
  cases r with
  | error e => exact pass0 pins σ H2 s2 e s' I2 hq
  | ok fl =>
    cases fl with
    | ret u => exact I2.after hq
    | next => exact False.elim hq
    | brk => exact False.elim hq
    | cont => exact False.elim hq
/-! ### lists of whole numbers compared -/
theorem dec_ofNat (ns ms : List Nat) : decide (ns.map Int.ofNat = ms.map Int.ofNat) = decide (ns = ms) := by
  by_cases h : ns = ms
  · subst h; simp
  · have : ¬ ns.map Int.ofNat = ms.map Int.ofNat := fun z => h (List.map_inj_right (fun x y h => Int.ofNat.inj h) |>.mp z)
    rw [decide_eq_false h, decide_eq_false this]
theorem op_neN (hu : X.A.units + 64 < cLine) : OpR X (compareOp .NotEq) (fun x y H Q => ∃ (a b : Addr) (ns ms : List Nat), x = .ref a ∧ y = .ref b ∧ H a = some (.lst (ns.map vN)) ∧ H b = some (.lst (ms.map vN)) ∧ Q (.bl (!decide (ns = ms))) H) := by
  intro pins s σ H x y v u Q I rx ry h
  obtain ⟨a, b, ns, ms, rfl, rfl, ha, hb, q⟩ := h
  rw [vN_ints] at ha hb
  refine op_neL hu pins s σ H _ _ v u Q I rx ry ⟨a, b, _, _, rfl, rfl, ha, hb, ?_⟩
  rw [dec_ofNat]
  exact q
theorem op_eqN (hu : X.A.units + 64 < cLine) : OpR X (compareOp .Eq) (fun x y H Q => ∃ (a b : Addr) (ns ms : List Nat), x = .ref a ∧ y = .ref b ∧ H a = some (.lst (ns.map vN)) ∧ H b = some (.lst (ms.map vN)) ∧ Q (.bl (decide (ns = ms))) H) := by
  intro pins s σ H x y v u Q I rx ry h
  obtain ⟨a, b, ns, ms, rfl, rfl, ha, hb, q⟩ := h
  rw [vN_ints] at ha hb
  refine op_eqL hu pins s σ H _ _ v u Q I rx ry ⟨a, b, _, _, rfl, rfl, ha, hb, ?_⟩
  rw [dec_ofNat]
  exact q
end
end LaneX
set_option Elab.async false
set_option linter.all false
set_option maxRecDepth 100000
set_option maxHeartbeats 0
namespace LaneX
open PySem PySem.Spec PyProof.Rows L2
def fa : List He.Fa := ([.free "abs", .free "all", .free "any", .free "bool", .free "int", .free "isinstance", .free "len", .free "list", .free "max", .free "min", .free "range", .free "sorted", .free "tuple", .free "zip", .glo "Space", .cls "Space", .mkr "Space", .noat "Space" "bits", .noat "Space" "rows", .noat "Space" "dimension"] : List He.Fa) ++ ([.glo "Spread", .cls "Spread", .mkr "Spread", .noat "Spread" "bits", .noat "Spread" "slots", .noat "Spread" "lanes", .glo "Map", .cls "Map", .mkr "Map", .noat "Map" "goal", .noat "Map" "columns", .noat "Map" "source", .glo "Store", .cls "Store", .mkr "Store", .noat "Store" "change", .noat "Store" "banks", .noat "Store" "own_back", .glo "is_whole", .glo "need_whole"] : List He.Fa) ++ ([.glo "need_items", .glo "need_word", .glo "need_words", .glo "cleared", .glo "grown", .glo "spanned", .glo "paired", .glo "kernel_rows", .glo "met", .glo "need_space", .glo "any_spread", .meth "Space" "__and__", .glo "ones", .glo "image_of", .glo "solved", .glo "_law_draw", .glo "_law_begin", .glo "_law_pick", .glo "_law_word", .glo "_law_mixed"] : List He.Fa) ++ ([.glo "_law_left", .glo "_law_basis", .glo "_law_size", .glo "_law_image", .glo "_law_is_space", .glo "_law_words_for", .glo "_law_spread_words", .meth "Map" "kernel", .glo "tops_of", .glo "missing", .meth "Map" "__call__", .glo "need_onto", .meth "Map" "__eq__", .glo "need_one_to_one", .meth "Map" "__invert__", .meth "Store" "bank", .meth "Store" "bank_map", .meth "Store" "meeting", .meth "Store" "need_width", .glo "phase_bits"] : List He.Fa) ++ ([.meth "Store" "fits", .meth "Store" "touched", .meth "Store" "beats", .glo "_law_truth", .glo "_law_listed", .glo "_law_columns", .glo "_law_banks_right", .glo "_law_beats_played", .glo "law", .glo "NotOneToOne", .glo "NotOnto", .glo "Unfit", .free "super", .glo "LaneError", .exm "NotOneToOne" "NotOneToOne" true, .exm "Unfit" "Unfit" true, .exm "Unfit" "NotOneToOne" false, .glo "_law_refused"] : List He.Fa)
def d_is_whole : He.DefD := ⟨("is_whole", none), "is_whole", "is_whole", defArgs s_is_whole, defBody s_is_whole, defScope s_is_whole, [], []⟩
def d_need_whole : He.DefD := ⟨("need_whole", none), "need_whole", "need_whole", defArgs s_need_whole, defBody s_need_whole, defScope s_need_whole, [], []⟩
def d_need_items : He.DefD := ⟨("need_items", none), "need_items", "need_items", defArgs s_need_items, defBody s_need_items, defScope s_need_items, [], []⟩
def d_need_word : He.DefD := ⟨("need_word", none), "need_word", "need_word", defArgs s_need_word, defBody s_need_word, defScope s_need_word, [], []⟩
def d_need_words : He.DefD := ⟨("need_words", none), "need_words", "need_words", defArgs s_need_words, defBody s_need_words, defScope s_need_words, [], []⟩
def d_cleared : He.DefD := ⟨("cleared", none), "cleared", "cleared", defArgs s_cleared, defBody s_cleared, defScope s_cleared, [], []⟩
def d_grown : He.DefD := ⟨("grown", none), "grown", "grown", defArgs s_grown, defBody s_grown, defScope s_grown, [], []⟩
def d_spanned : He.DefD := ⟨("spanned", none), "spanned", "spanned", defArgs s_spanned, defBody s_spanned, defScope s_spanned, [], []⟩
def d_paired : He.DefD := ⟨("paired", none), "paired", "paired", defArgs s_paired, defBody s_paired, defScope s_paired, [], []⟩
def d_kernel_rows : He.DefD := ⟨("kernel_rows", none), "kernel_rows", "kernel_rows", defArgs s_kernel_rows, defBody s_kernel_rows, defScope s_kernel_rows, [], []⟩
def d_met : He.DefD := ⟨("met", none), "met", "met", defArgs s_met, defBody s_met, defScope s_met, [], []⟩
def d_Space_init : He.DefD := ⟨("Space", some "__init__"), "__init__", "Space.__init__", defArgs s_Space_init, defBody s_Space_init, defScope s_Space_init, [], []⟩
def d_Spread_init : He.DefD := ⟨("Spread", some "__init__"), "__init__", "Spread.__init__", defArgs s_Spread_init, defBody s_Spread_init, defScope s_Spread_init, [], []⟩
def d_need_space : He.DefD := ⟨("need_space", none), "need_space", "need_space", defArgs s_need_space, defBody s_need_space, defScope s_need_space, [], []⟩
def d_any_spread : He.DefD := ⟨("any_spread", none), "any_spread", "any_spread", defArgs s_any_spread, defBody s_any_spread, defScope s_any_spread, [], []⟩
def d_Space_and : He.DefD := ⟨("Space", some "__and__"), "__and__", "Space.__and__", defArgs s_Space_and, defBody s_Space_and, defScope s_Space_and, [], []⟩
def d_ones : He.DefD := ⟨("ones", none), "ones", "ones", defArgs s_ones, defBody s_ones, defScope s_ones, [], []⟩
def d_image_of : He.DefD := ⟨("image_of", none), "image_of", "image_of", defArgs s_image_of, defBody s_image_of, defScope s_image_of, [], []⟩
def d_solved : He.DefD := ⟨("solved", none), "solved", "solved", defArgs s_solved, defBody s_solved, defScope s_solved, [], []⟩
def d_drawL : He.DefD := ⟨("_law_draw", none), "_law_draw", "_law_draw", defArgs s_drawL, defBody s_drawL, defScope s_drawL, [], []⟩
def d_beginL : He.DefD := ⟨("_law_begin", none), "_law_begin", "_law_begin", defArgs s_beginL, defBody s_beginL, defScope s_beginL, [], []⟩
def d_pickL : He.DefD := ⟨("_law_pick", none), "_law_pick", "_law_pick", defArgs s_pickL, defBody s_pickL, defScope s_pickL, [], []⟩
def d_wordL : He.DefD := ⟨("_law_word", none), "_law_word", "_law_word", defArgs s_wordL, defBody s_wordL, defScope s_wordL, [], []⟩
def d_mixedL : He.DefD := ⟨("_law_mixed", none), "_law_mixed", "_law_mixed", defArgs s_mixedL, defBody s_mixedL, defScope s_mixedL, [], []⟩
def d_leftL : He.DefD := ⟨("_law_left", none), "_law_left", "_law_left", defArgs s_leftL, defBody s_leftL, defScope s_leftL, [], []⟩
def d_basisL : He.DefD := ⟨("_law_basis", none), "_law_basis", "_law_basis", defArgs s_basisL, defBody s_basisL, defScope s_basisL, [], []⟩
def d_sizeL : He.DefD := ⟨("_law_size", none), "_law_size", "_law_size", defArgs s_sizeL, defBody s_sizeL, defScope s_sizeL, [], []⟩
def d_imageL : He.DefD := ⟨("_law_image", none), "_law_image", "_law_image", defArgs s_imageL, defBody s_imageL, defScope s_imageL, [], []⟩
def d_is_spaceL : He.DefD := ⟨("_law_is_space", none), "_law_is_space", "_law_is_space", defArgs s_is_spaceL, defBody s_is_spaceL, defScope s_is_spaceL, [], []⟩
def d_words_forL : He.DefD := ⟨("_law_words_for", none), "_law_words_for", "_law_words_for", defArgs s_words_forL, defBody s_words_forL, defScope s_words_forL, [], []⟩
def d_spread_wordsL : He.DefD := ⟨("_law_spread_words", none), "_law_spread_words", "_law_spread_words", defArgs s_spread_wordsL, defBody s_spread_wordsL, defScope s_spread_wordsL, [], []⟩
def d_Map_init : He.DefD := ⟨("Map", some "__init__"), "__init__", "Map.__init__", defArgs s_Map_init, defBody s_Map_init, defScope s_Map_init, [], []⟩
def d_Map_kernel : He.DefD := ⟨("Map", some "kernel"), "kernel", "Map.kernel", defArgs s_Map_kernel, defBody s_Map_kernel, defScope s_Map_kernel, [], []⟩
def d_tops_of : He.DefD := ⟨("tops_of", none), "tops_of", "tops_of", defArgs s_tops_of, defBody s_tops_of, defScope s_tops_of, [], []⟩
def d_missing : He.DefD := ⟨("missing", none), "missing", "missing", defArgs s_missing, defBody s_missing, defScope s_missing, [], []⟩
def d_Map_call : He.DefD := ⟨("Map", some "__call__"), "__call__", "Map.__call__", defArgs s_Map_call, defBody s_Map_call, defScope s_Map_call, [], []⟩
def d_need_onto : He.DefD := ⟨("need_onto", none), "need_onto", "need_onto", defArgs s_need_onto, defBody s_need_onto, defScope s_need_onto, [], []⟩
def d_Map_eq : He.DefD := ⟨("Map", some "__eq__"), "__eq__", "Map.__eq__", defArgs s_Map_eq, defBody s_Map_eq, defScope s_Map_eq, [], []⟩
def d_need_one_to_one : He.DefD := ⟨("need_one_to_one", none), "need_one_to_one", "need_one_to_one", defArgs s_need_one_to_one, defBody s_need_one_to_one, defScope s_need_one_to_one, [], []⟩
def d_Map_invert : He.DefD := ⟨("Map", some "__invert__"), "__invert__", "Map.__invert__", defArgs s_Map_invert, defBody s_Map_invert, defScope s_Map_invert, [], []⟩
def d_Store_init : He.DefD := ⟨("Store", some "__init__"), "__init__", "Store.__init__", defArgs s_Store_init, defBody s_Store_init, defScope s_Store_init, [], []⟩
def d_Store_bank : He.DefD := ⟨("Store", some "bank"), "bank", "Store.bank", defArgs s_Store_bank, defBody s_Store_bank, defScope s_Store_bank, [], []⟩
def d_Store_bank_map : He.DefD := ⟨("Store", some "bank_map"), "bank_map", "Store.bank_map", defArgs s_Store_bank_map, defBody s_Store_bank_map, defScope s_Store_bank_map, [], []⟩
def d_Store_meeting : He.DefD := ⟨("Store", some "meeting"), "meeting", "Store.meeting", defArgs s_Store_meeting, defBody s_Store_meeting, defScope s_Store_meeting, [], []⟩
def d_Store_need_width : He.DefD := ⟨("Store", some "need_width"), "need_width", "Store.need_width", defArgs s_Store_need_width, defBody s_Store_need_width, defScope s_Store_need_width, [], []⟩
def d_phase_bits : He.DefD := ⟨("phase_bits", none), "phase_bits", "phase_bits", defArgs s_phase_bits, defBody s_phase_bits, defScope s_phase_bits, [], []⟩
def d_Store_fits : He.DefD := ⟨("Store", some "fits"), "fits", "Store.fits", defArgs s_Store_fits, defBody s_Store_fits, defScope s_Store_fits, [], []⟩
def d_Store_touched : He.DefD := ⟨("Store", some "touched"), "touched", "Store.touched", defArgs s_Store_touched, defBody s_Store_touched, defScope s_Store_touched, [], []⟩
def d_Store_beats : He.DefD := ⟨("Store", some "beats"), "beats", "Store.beats", defArgs s_Store_beats, defBody s_Store_beats, defScope s_Store_beats, [], []⟩
def d_truthL : He.DefD := ⟨("_law_truth", none), "_law_truth", "_law_truth", defArgs s_truthL, defBody s_truthL, defScope s_truthL, [], []⟩
def d_listedL : He.DefD := ⟨("_law_listed", none), "_law_listed", "_law_listed", defArgs s_listedL, defBody s_listedL, defScope s_listedL, [], []⟩
def d_columnsL : He.DefD := ⟨("_law_columns", none), "_law_columns", "_law_columns", defArgs s_columnsL, defBody s_columnsL, defScope s_columnsL, [], []⟩
def d_banks_rightL : He.DefD := ⟨("_law_banks_right", none), "_law_banks_right", "_law_banks_right", defArgs s_banks_rightL, defBody s_banks_rightL, defScope s_banks_rightL, [], []⟩
def d_beats_playedL : He.DefD := ⟨("_law_beats_played", none), "_law_beats_played", "_law_beats_played", defArgs s_beats_playedL, defBody s_beats_playedL, defScope s_beats_playedL, [], []⟩
def d_law : He.DefD := ⟨("law", none), "law", "law", defArgs s_law, defBody s_law, defScope s_law, [], []⟩
def d_refusedL : He.DefD := ⟨("_law_refused", none), "_law_refused", "_law_refused", defArgs s_refusedL, defBody s_refusedL, defScope s_refusedL, [], []⟩
def fn : List He.DefD := ([d_is_whole, d_need_whole, d_need_items, d_need_word, d_need_words, d_cleared, d_grown, d_spanned, d_paired, d_kernel_rows, d_met, d_Space_init, d_Spread_init, d_need_space, d_any_spread, d_Space_and, d_ones, d_image_of, d_solved, d_drawL] : List He.DefD) ++ ([d_beginL, d_pickL, d_wordL, d_mixedL, d_leftL, d_basisL, d_sizeL, d_imageL, d_is_spaceL, d_words_forL, d_spread_wordsL, d_Map_init, d_Map_kernel, d_tops_of, d_missing, d_Map_call, d_need_onto, d_Map_eq, d_need_one_to_one, d_Map_invert] : List He.DefD) ++ ([d_Store_init, d_Store_bank, d_Store_bank_map, d_Store_meeting, d_Store_need_width, d_phase_bits, d_Store_fits, d_Store_touched, d_Store_beats, d_truthL, d_listedL, d_columnsL, d_banks_rightL, d_beats_playedL, d_law, d_refusedL] : List He.DefD)
def exC (K : PySem.W.Frag) (C : Addr) : Bool := He.eqO (PySem.W.findIn K (.ref C) "__class__") (some (some (.builtin "object.__class__"))) && (decide (PySem.W.takesIn K (.builtin "object.__class__") = some true) && (decide (PySem.W.mroIn K C (.type "object") = some true) && (decide (PySem.W.kitOne K (.ref C) (.ref C) = some true) && (He.eqO (PySem.W.specialIn K (.builtin "object.__class__") "__get__") (some (some (.builtin "getset_descriptor.__get__"))) && PySem.W.selfFirst K C))))
def exE (K : PySem.W.Frag) (C D : Addr) : Bool := He.eqO (PySem.W.findIn K (.ref C) "__getattribute__") (some (some (.builtin "BaseException.__getattribute__"))) && (He.eqO (PySem.W.findIn K (.ref C) "__getattr__") (some none) && (decide (PySem.W.subIn K (.ref C) (.type "BaseException") = some true) && (PySem.W.hasDictIn K C && (He.eqO (PySem.W.findIn K (.ref C) "__class__") (some (some (.builtin "object.__class__"))) && (He.eqO (PySem.W.specialIn K (.builtin "object.__class__") "__get__") (some (some (.builtin "getset_descriptor.__get__"))) && (decide (PySem.W.takesIn K (.builtin "object.__class__") = some true) && (decide (PySem.W.mroIn K C (.type "object") = some true) && decide (PySem.W.kitOne K (.ref C) (.ref D) = some true))))))))
def exB (K : PySem.W.Frag) : Bool := exC K (He.ga K "Space") && exC K (He.ga K "Spread") && exC K (He.ga K "Map") && exC K (He.ga K "Store") && callFn K (He.ga K "Map") && He.eqO (PySem.W.findIn K (.ref (He.ga K "Store")) "__eq__") (some (some (.builtin "object.__eq__"))) && He.eqO (PySem.W.findIn K (.ref (He.ga K "Map")) "__ne__") (some (some (.builtin "object.__ne__"))) && exkB PySem.Challenge.rw_laneswap_k39_whole_banks_played.prog K (He.ga K "NotOneToOne") "word" "word" && exkB PySem.Challenge.rw_laneswap_k39_whole_banks_played.prog K (He.ga K "NotOnto") "word" "word" && exkB PySem.Challenge.rw_laneswap_k39_whole_banks_played.prog K (He.ga K "Unfit") "width" "width" && (exE K (He.ga K "NotOneToOne") (He.ga K "LaneError") && He.eqO (PySem.W.findIn K (.ref (He.ga K "NotOneToOne")) "word") (some none)) && (exE K (He.ga K "Unfit") (He.ga K "LaneError") && He.eqO (PySem.W.findIn K (.ref (He.ga K "Unfit")) "width") (some none))
abbrev R : PySem.W.OpenRow := PySem.W.OpenLaw.row PySem.Challenge.rw_laneswap_k39_whole_banks_played
abbrev hk : PySem.W.Hook := hookY 4 fa fn [("law", none)] exB
def ob (s : PySem.W.SharedT) : He.AlX := obsY 4 fa fn [("law", none)] exB (HandSHeadRun.getT s)
theorem ob_eq (s : PySem.W.SharedT) : ob s = hk.obs s.abs := obsY_eq (HandSHeadRun.getT_eq s)
def names : List Str := (["_wall", "__name__", "LaneError", "BadValue", "NotOneToOne", "NotOnto", "NotDivisible", "NotApart", "Unfit", "is_whole", "need_whole", "need_items", "need_word", "need_words", "ones", "cleared", "grown", "spanned", "tops_of", "missing"] : List Str) ++ (["image_of", "paired", "kernel_rows", "solved", "met", "Space", "need_space", "Map", "need_map", "need_one_to_one", "need_onto", "Spread", "any_spread", "left_over", "Store", "phase_bits", "_law_begin", "_law_draw", "_law_pick", "_law_word"] : List Str) ++ (["_law_mixed", "_law_left", "_law_basis", "_law_size", "_law_image", "_law_listed", "_law_truth", "_law_is_space", "_law_words_for", "_law_spread_words", "_law_columns", "_law_refused", "_law_banks_right", "_law_beats_played"] : List Str)
theorem runA (w : World) : HandSHeadRun.RunEq R (PySem.W.view R.prog [62]) (hookY 4 fa [] [("law", none)] exB) (fun s => obsY 4 fa [] [("law", none)] exB (HandSHeadRun.getT s)) 6000 names w := by
  intro os
  kernel_rfl
theorem runB (w : World) : ∀ os : OsState, (HandSHeadRun.endF (HandSHeadRun.stepQ (HandSHeadRun.denQ HandSHeadRun.tabQ) R.prog w) 6000 R.prog w os).map (fun s => obsY 4 [] fn [] (fun _ => true) (HandSHeadRun.getT s)) = some (He.valX fn [] w) := by
  intro os
  kernel_rfl
theorem run (w : World) : HandSHeadRun.RunEq R (PySem.W.view R.prog [62]) hk ob 6000 names w := fun os => two_y (runA w os) (runB w os)
/-- the head, but for the walk -/
theorem hd (hc : PySem.W.WalkO (PySem.W.view (PySem.W.OpenLaw.row PySem.Challenge.rw_laneswap_k39_whole_banks_played).prog [62]) names (PySem.W.XL (PySem.W.view (PySem.W.OpenLaw.row PySem.Challenge.rw_laneswap_k39_whole_banks_played).prog [62]) []) hk.says (PySem.W.OpenLaw.row PySem.Challenge.rw_laneswap_k39_whole_banks_played).toRowW (HandSHeadRun.topDef (PySem.W.OpenLaw.row PySem.Challenge.rw_laneswap_k39_whole_banks_played).prog 62) [] fun f vs => PySem.call f vs) : PySem.Challenge.rw_laneswap_k39_whole_banks_played.Holds := by
  w_on; o_law
  refine HandSHeadRun.head_any (r := PySem.W.OpenLaw.row PySem.Challenge.rw_laneswap_k39_whole_banks_played) (q := PySem.W.view (PySem.W.OpenLaw.row PySem.Challenge.rw_laneswap_k39_whole_banks_played).prog [62]) (H := LaneX.hk) (ob := LaneX.ob) (M := 6000) (loose := LaneX.names) (d := HandSHeadRun.topDef (PySem.W.OpenLaw.row PySem.Challenge.rw_laneswap_k39_whole_banks_played).prog 62) (kwd := []) LaneX.ob_eq
    (by kernel_rfl) (fun s => by kernel_rfl) LaneX.run (by kernel_rfl) (by kernel_rfl) (by kernel_rfl) (by rfl) (by first | assumption | decide +kernel) (by decide +kernel) ⟨rfl, rfl, rfl, rfl, rfl, by decide +kernel⟩ ?hw hc
  case hw => w_witness2
theorem sup_free : (PySem.Challenge.rw_laneswap_k39_whole_banks_played.prog.main.scope.names.lookup ("super" : Str)).isSome = false := by kernel_rfl
theorem dp_law : (HandSHeadRun.topDef (PySem.W.OpenLaw.row PySem.Challenge.rw_laneswap_k39_whole_banks_played).prog 62).params.defaults = [] := by kernel_rfl
theorem nm_law : (HandSHeadRun.topDef (PySem.W.OpenLaw.row PySem.Challenge.rw_laneswap_k39_whole_banks_played).prog 62).name = ("law" : PySem.Str) := by kernel_rfl
end LaneX
set_option Elab.async false
set_option linter.all false
set_option maxRecDepth 100000
set_option maxHeartbeats 4000000
namespace LaneX
open PySem PySem.Spec PyProof.Rows L2
/-! ### C(y) of such a class, raised -/
theorem xi_mk {K : PySem.W.Frag} {C : Addr} {fld : Str} {H1 : Hp} {y : V} {Q : XK} (h : ∀ d, H1 d = none → Q (.ref C) (some d) (upd H1 d (.xd [(fld, y)]))) :
    ([y] : List V).length ≤ 1000 ∧ ∀ a, H1 a = none → sp_xi K C fld (.ref a :: ([y] ++ [])) (upd H1 a (exo a C none))
      (fun v H2 => v = .non ∧ ∃ (d : Addr) (fs : List (Str × V)), H2 a = some (exo a C (some d)) ∧ H2 d = some (exd d fs) ∧ H1 d = none ∧ Q (.ref C) (some d) (upd (del H2 a) d (.xd fs))) (fun _ _ _ => False) := by
  refine ⟨by show 1 ≤ 1000; decide, fun a ha => ⟨a, y, rfl, upd_same, fun dx hdx ne => ⟨rfl, dx, [(fld, y)], upd_same, (upd_ne ne).trans upd_same, ?_, ?_⟩⟩⟩
  · rw [upd_ne ne] at hdx
    exact hdx
  · have hd1 : H1 dx = none := by
      rw [upd_ne ne] at hdx
      exact hdx
    have e : upd (del (upd (upd (upd H1 a (exo a C none)) dx (exd dx [(fld, y)])) a (exo a C (some dx))) a) dx (.xd [(fld, y)]) = upd H1 dx (.xd [(fld, y)]) := by
      funext b
      by_cases hb : b = dx
      · rw [hb, upd_same, upd_same]
      · rw [upd_ne hb, upd_ne hb]
        by_cases hba : b = a
        · rw [hba, del_same, ha]
        · rw [del_ne hba, upd_ne hba, upd_ne hb, upd_ne hba]
    rw [e]
    exact h dx hd1
section
variable {X : Cx} {x xc fld : Str} {C : Addr} {p pos : Pos} {j : Nat} {e : Expr} {es : List Expr} {ta : TA}
theorem pmk_xi (T : Xi X.prog X.K X.mg C x fld) (gl : X.mg xc = some (.ref C)) (hr : Room j X.A) (ha : PA X (e :: es) ta) (hk : 2 ≤ j := by decide) (hg : Gl X xc := by rfl) (hdb : (xc == ("__debug__" : Str)) = false := by decide)
    (he : starEach (e :: es) X.env = (false, eval e X.env) :: starEach es X.env := by rfl) (hpl : (backTo pos (starEach es X.env)).any (·.1) = false := by rfl) :
    PMk X (.Call (.Name xc p) (e :: es) [] pos) (tMkO C (sp_xi X.K C fld) [] ta) := by
  obtain ⟨f, fd, h1, h2, h3, h4⟩ := T.ini
  exact pmk_oex T.T h1 h2 (h4 X.w X.base CX0 0) (hr.mono hk) h3 .nil pass0 hg gl ha hdb he hpl
end
/-! ### isinstance of a caught one that has its dict -/
theorem call_isXD {X : Cx} {a D : Addr} {oe : Obj} {pn : List (Addr × Obj)} {cls : Value} {d : Option Addr} (C : ExcC X.K D) (hz : Zc cls d oe) (hf : ∃ vs, oe.data = .fields vs) :
    CallR (X.suite a ((a, oe) :: pn)) (.builtin "isinstance") (fun xs H Q => cls = .ref D ∧ ∃ (dd : Addr) (fs : List (Str × V)), d = some dd ∧ H dd = some (.xd fs) ∧ rIsE X.K D a xs H Q) := by
  intro pins s σ H xs us Q I r h
  obtain ⟨rfl, dd, fs, rfl, ed, c, cv, b, rfl, hcv, e, q⟩ := h
  cases r with
  | cons rx rr =>
    cases rr with
    | cons rt rr =>
      cases rr
      cases rx
      have ec := hcv _ rt
      subst ec
      obtain ⟨hget, _⟩ := I.pin (a, oe) (List.mem_append.mpr (.inl List.mem_cons_self))
      obtain ⟨vs, hv⟩ := hf
      have hx : ObjOk X.prog X.w H s.heap dd (.xd fs) := I.hok dd _ ed
      obtain ⟨mA, hns, hr⟩ := hx
      obtain ⟨od, ho, hl⟩ := lookIn_ns hns
      have J : PySem.W.InstAt s.heap a oe D (some od) := ⟨hget, hz.1, by unfold PySem.W.notCls; rw [hv] <;> rfl, by rw [hz.2]; exact ho⟩
      obtain ⟨cdD, hcD, _⟩ := PySem.W.any_some C.hd
      exact PySem.W.kia_one (PySem.W.kitx_exc (by rw [hcD]; rfl) C.hg C.hk C.hs C.ha C.hn C.ht C.hm) I.kIn J e (fun z => nomatch z) fun tk => ⟨.bl b, H, I.kept (t' := tk) fun _ _ z => z, rfl, q⟩
end LaneX
set_option Elab.async false
set_option linter.all false
set_option maxRecDepth 100000
set_option maxHeartbeats 4000000
namespace LaneX
open PySem PySem.Spec PyProof.Rows L2
/-! ### several clauses `except X as n` -/
/-- the ends, slot i let go -/
def Ends.drop (D : Ends) (i : Nat) : Ends := { nx := fun σ' H' => D.nx (σ'.set i none) H', rt := D.rt, bk := fun σ' H' => D.bk (σ'.set i none) H', ct := fun σ' H' => D.ct (σ'.set i none) H' }
def wAll (K : PySem.W.Frag) (Wout : WX) (D : Ends) (n : Nat) : List (Value × Nat × (Addr → Value → Option Addr → TS)) → WX
  | [] => Wout
  | (c, i, ts) :: r => fun cls d σ H => ∃ b, PySem.W.exmOne K cls c = some b ∧ (b = true → ∀ a, H a = none → σ.length = n → ts a cls d (Ends.drop D i) (σ.set i (some (.ref a))) H) ∧ (b = false → wAll K Wout D n r cls d σ H)
inductive ClsOk (X : Cx) : List ExceptHandler → List (Value × Nat × (Addr → Value → Option Addr → TS)) → Prop
  | nil : ClsOk X [] []
  | cons {x n : Str} {c : Value} {i : Nat} {ts : Addr → Value → Option Addr → TS} {b₀ : Stmt} {suite : List Stmt} {np pos' : Pos} {hds : List ExceptHandler} {l : List (Value × Nat × (Addr → Value → Option Addr → TS))} (hc : Names X x c) (hi : X.N[i]? = some n) (hln : X.env.kindOf n = some .local)
      (hsu : ∀ (a : Addr) (oe : Obj) (cls : Value) (d : Option Addr) (pn : List (Addr × Obj)), Zc cls d oe → (∃ vs, oe.data = .fields vs) → PSs (X.suite a ((a, oe) :: pn)) (b₀ :: suite) (ts a cls d)) (r : ClsOk X hds l) :
      ClsOk X (.ExceptHandler (some (.Name x np)) (some n) (b₀ :: suite) pos' :: hds) ((c, i, ts) :: l)
section
variable {X : Cx} {body : List Stmt} {h₀ : ExceptHandler} {hds : List ExceptHandler} {l : List (Value × Nat × (Addr → Value → Option Addr → TS))} {pos : Pos} {tb : WX → TS} {Wout : WX}
theorem ps_try_all (hs : X.stack = X.env :: X.outer) (hf : X.env.frame = some X.env.locals) (hN : X.N.Nodup) (tk : Takes X Wout)
    (hb : ∀ (W : WX) (pn : List (Addr × Obj)) (xe : Value → Shared → Prop), Takes (X.tr pn xe) W → PassesOwn (model X.prog X.w) X.A X.env xe → PSs (X.tr pn xe) body (tb W))
    (hh : ClsOk X (h₀ :: hds) l) : PS X (.Try body (h₀ :: hds) [] [] pos) (fun D σ H => tb (wAll X.K Wout D X.N.length l) D σ H) := by
  refine ⟨fun pins s σ H D I h => ?_⟩
  have ok := I.ok
  have hfr : X.A.frames = some (X.env :: X.outer) := by rw [ok.frames, hs]
  refine wpAny_Try_except ?_
  refine wpAny_mono ((hb (wAll X.K Wout D X.N.length l) (X.pn ++ pins) (fun e s₁ => wpAny (model X.prog X.w) X.A (noteFrame e X.env) (fun _ s₂ => wpAny (model X.prog X.w) X.A (setFlight e none) (fun _ s₃ =>
    wpAny (model X.prog X.w) X.A (handleBy e X.env (h₀ :: hds)) (SP X pins D) X.xe s₃) X.xe s₂) X.xe s₁) (fun u s' xx => ?_) PassesOwn.looking).run [] s σ H D (I.toTry _) h) (fun f s1 hsp => ?_) (fun e s1 he => he)
  · obtain ⟨a, B, sI, pins', σ', H', cls, d, rfl, J', nb, up, sky, na, os, ag, wd⟩ := xx
    have J : Inv X pins σ' H' sI := J'.ofTry ok
    have sky' : Sky B (X.env :: X.outer) a (Zc cls d) X.env.locals s'.heap := by rw [← hs]; exact sky
    show wpAny (model X.prog X.w) X.A (noteFrame (.ref a) X.env) _ _ _
    refine Sky.land Zc.steady hfr hf sky' fun h3 fl3 up3 => ?_
    have J3 : Inv X pins σ' H' { s' with heap := h3 } := J.landed nb fl3.1 (up.trans up3) os ag
    obtain ⟨oe3, vs3, he3, hz3, hd3⟩ := fl3.there
    have notFr : ∀ {h : Heap} {o : Obj} {vs : Array Value}, h.FunFrames B (X.env :: X.outer) → h.get? a = some o → o.data = .fields vs → a ∉ frs (X.env :: X.outer) := fun {h o vs} ff e dd hm => by
      obtain ⟨_, o', e', hnf⟩ := ff.mem hm
      rw [e] at e'; cases e'
      exact hnf _ dd
    have nfr := notFr fl3.2.2.1 he3 hd3
    have nL : a ≠ X.env.locals := fun z => nfr (List.mem_filterMap.mpr ⟨X.env, List.mem_cons_self, by rw [hf, z]⟩)
    have nF : a ∉ X.fs := fun hm => by
      obtain ⟨e, he, q⟩ := List.mem_filterMap.mp hm
      exact nfr (List.mem_filterMap.mpr ⟨e, List.mem_cons_of_mem _ he, q⟩)
    have S3 := J3.suite he3 hd3 na nL nF
    have go : ∀ {hds' : List ExceptHandler} {l' : List (Value × Nat × (Addr → Value → Option Addr → TS))}, ClsOk X hds' l' → wAll X.K Wout D X.N.length l' cls d σ' H' →
        wpAny (model X.prog X.w) X.A (handleBy (.ref a) X.env hds') (SP X pins D) X.xe { s' with heap := h3 } := by
      intro hds' l' hk
      induction hk with
      | nil =>
        intro wd
        refine wpAny_handleBy_nil ?_
        obtain ⟨_, _, _, oe, vs, T, oT, ts', he, hz, hd, h1, hr⟩ := id fl3
        unfold PySem.passOn
        refine wpAny_bind (wpAny_field he hd h1 ?_)
        rw [if_neg (show ¬ ((Value.ref T == Value.none) = true) from by simp)]
        have fin : wpAny (model X.prog X.w) X.A (setFlight (.ref a) X.env.frame) (fun _ s4 => wpAny (model X.prog X.w) X.A (throw (.ref a) : Sem Flow) (SP X pins D) X.xe s4) X.xe { s' with heap := h3 } := by
          rw [hf]
          refine HandSPX.setFlight_upZ fl3 fun h4 hh4 up4 => wpAny_throw (tk _ _ ?_)
          exact ⟨a, B, sI, pins, σ', H', cls, d, rfl, J, nb, (up.trans up3).trans up4, .inr (.inr (by rw [hs]; exact hh4)), na, os, ag, wd⟩
        first
          | exact wpAny_bind (wpAny_pure (wpAny_bind fin))
          | exact wpAny_bind fin
      | @cons x n c i ts b₀ suite np pos' hds2 l2 hc hi hln hsu r ih =>
        intro wd
        obtain ⟨b, hb1, hyes, hno⟩ := wd
        refine wpAny_handleBy_cons (codeAny_handlers_test ?_) (by intro q; cases q)
        have LT : PySem.W.Looks (model X.prog X.w) h3 (typeOf (.ref a)) cls := fun A Q E s k q => wpAny_typeOf_ref (k _ _ he3) (by rw [hz3.1]; exact q)
        have LM := PySem.W.exm_one (M := model X.prog X.w) (J3.kIn) LT hb1
        have test : ∀ {Q : Value → Shared → Prop} {E : Value → Shared → Prop}, Q c { s' with heap := h3 } → wpAny (model X.prog X.w) (X.A.mark (some (.ref a))) (eval (.Name x np) X.env) Q E { s' with heap := h3 } := fun {Q E} q => by
          obtain ⟨hg, hdbg, hm | ⟨hm, hv, hnn⟩⟩ := hc
          · exact ld_glob (X := X.suite a ((a, oe3) :: (X.pn ++ pins))) S3 hg hm q hdbg
          · exact ld_blt (X := X.suite a ((a, oe3) :: (X.pn ++ pins))) S3 hg hm hv q hnn hdbg
        refine test (LM.here ?_)
        cases b with
        | true =>
          refine codeAny_handlers_suite_as ?_
          refine HandSPX.lands_againZ fl3 fun h4 fl4 up4 => ?_
          have J4 : Inv X pins σ' H' { s' with heap := h4 } := J.landed nb fl4.1 ((up.trans up3).trans up4) os ag
          obtain ⟨oe4, vs4, he4, hz4, hd4⟩ := fl4.there
          have S4 := J4.suite he4 hd4 na nL nF
          refine store_ok (X := X.suite a ((a, oe4) :: (X.pn ++ pins))) (v := .ref a) S4 hN hi (.inl hln) rfl (fun s5 S5 => ?_) (.inr hln)
          have gone : ∀ {σ6 : L2.St} {H6 : Hp} {s6 : Shared} {Q : Shared → Prop}, Inv (X.suite a ((a, oe4) :: (X.pn ++ pins))) [] σ6 H6 s6 → (∀ s7, Inv X pins (σ6.set i none) H6 s7 → Q s7) →
              wpAny (model X.prog X.w) X.A (do bindName X.env n .none; unbindBehindTheSuite X.env n pos') (fun _ s7 => Q s7) X.xe s6 := fun {σ6 H6 s6 Q} S6 hq => gone_ok (S6.unsuite ok) hN hi hln hq
          refine wpAny_mono ((hsu a oe4 cls d (X.pn ++ pins) hz4 ⟨_, hd4⟩).run [] s5 _ H' _ S5 (hyes rfl a na J.len)) (fun f s6 hsp => ?_) (fun _ _ z => False.elim z)
          cases f with
          | next =>
            obtain ⟨σ6, H6, S6, q6⟩ := hsp
            exact gone S6 fun s7 J7 => ⟨_, _, J7, q6⟩
          | brk =>
            obtain ⟨σ6, H6, S6, q6⟩ := hsp
            exact gone S6 fun s7 J7 => ⟨_, _, J7, q6⟩
          | cont =>
            obtain ⟨σ6, H6, S6, q6⟩ := hsp
            exact gone S6 fun s7 J7 => ⟨_, _, J7, q6⟩
          | ret u =>
            obtain ⟨v6, σ6, H6, S6, r6, q6⟩ := hsp
            exact gone S6 fun s7 J7 => ⟨_, _, _, J7, r6, q6⟩
        | false =>
          show wpAny _ X.A (handleBy (.ref a) X.env hds2) _ _ _
          exact ih (hno rfl)
    exact go hh wd
  · cases f with
    | next =>
      obtain ⟨σ', H', J', q⟩ := hsp
      exact wpAny_execs_nil ⟨σ', H', J'.ofTry ok, q⟩
    | brk =>
      obtain ⟨σ', H', J', q⟩ := hsp
      exact ⟨σ', H', J'.ofTry ok, q⟩
    | cont =>
      obtain ⟨σ', H', J', q⟩ := hsp
      exact ⟨σ', H', J'.ofTry ok, q⟩
    | ret u =>
      obtain ⟨v, σ', H', J', r, q⟩ := hsp
      exact ⟨v, σ', H', J'.ofTry ok, r, q⟩
end
end LaneX
set_option Elab.async false
set_option linter.all false
set_option maxRecDepth 100000
set_option maxHeartbeats 4000000
namespace LaneX
open PySem PySem.Spec PyProof.Rows L2 LamX
/-! ### x(lambda: body, y), y a variable -/
section
variable {X : Cx} {pins : List (Addr × Obj)} {σ : L2.St} {H : Hp} {s : Shared}
/-- x(), in the def that got the lambda; what it lets out is told at the slots of the call -/
theorem pe_actS {CXg : CXT} {Eg : XK} {Ng : List Str} {qg : Str} {sg : Scope} {g f c' : Addr} {cdg pm ctv : Value} {params : Arguments} {body : Expr} {scope : Scope} {k i : Nat} {a : Str} {pn : List (Addr × Obj)} {xe : Value → Shared → Prop} {W : WX} {tb : XK → TE} {p1 p2 : Pos}
    (I : Inv X pins σ H s) (L : LamS X.env.scope scope) (hf : s.heap.get? f = some (PySem.W.kla_obj "<lambda>" (X.env.qual ++ "<lambda>") params body scope (cloFrom X.env.cells scope.names []) pm c' ctv)) (hfn : H f = none) (hfr : f ∉ frs X.stack)
    (hbind : bindArgs (PySem.W.kla_fn "<lambda>" (X.env.qual ++ "<lambda>") params body scope (cloFrom X.env.cells scope.names []) pm (.ref c') ctv) ⟨[], []⟩ = pure []) (tk : Takes ((cxOf CXg X.prog X.w X.K X.mg X.base Ng qg sg g cdg X.A X.stack s H Eg).tr pn xe) W) (hr : Room (k + 1) (X.A.deeper (envOfC qg sg s.heap.objs.size g cdg)))
    (hbody : ∀ (E : XK) (A : Around) (outer : List Env) (s : Shared) (H : Hp), Room k (A.deeper (lamEnv X scope s.heap.objs.size f c')) → PE (lamCx X A outer s H E scope f c') body (tb E)) (hN : Ng[i]? = some a) (hv : Vis sg a) (hd : (a == ("__debug__" : Str)) = false := by decide) (hcd : (a == ("__classdict__" : Str)) = false := by decide) :
    PE ((cxOf CXg X.prog X.w X.K X.mg X.base Ng qg sg g cdg X.A X.stack s H Eg).tr pn xe) (.Call (.Name a p1) [] [] p2) (fun σZ HZ Q => σZ[i]? = some (some (.ref f)) ∧ HZ c' = some (CodeO c' (X.env.qual ++ "<lambda>")) ∧ ∃ E : XK, (∀ cls d H', E cls d H' → W cls d σZ H') ∧ tb E σ HZ Q) := by
  refine ⟨fun pz sZ σZ HZ Q IZ ⟨hs, hc, EW, hEW, ht⟩ => wpAny_Call_Name_kw (thn ((pe_var (pos := p1) (i := i) hN hv hd hcd).run pz sZ σZ HZ (fun v H1 => v = .ref f ∧ H1 = HZ) IZ ⟨.ref f, hs, rfl, rfl⟩) fun u s1 ⟨v, H1, I1, r1, q1⟩ => ?_)⟩
  obtain ⟨rfl, rfl⟩ := q1; obtain rfl : u = Value.ref f := r1
  have of1 := I1.base.keep f _ hf hfn hfr (fun z => nomatch (show f ∈ ([] : List Addr) from z)); refine PySem.W.callWith_F0 ⟨_, _, _, _, of1⟩ ?_
  have un : Un (frs X.stack) [] H H1 s.heap s1.heap := I1.base; obtain ⟨⟨oc, vs, t, hoc, hdc, hvc⟩, _, _⟩ := I1.hok c' _ hc
  have rc : codeAny (model X.prog X.w) (X.A.deeper (envOfC qg sg s.heap.objs.size g cdg)) (.call (.ref f) ⟨[], []⟩) (CR (L2.CX X.prog X.w) (envOfC qg sg s.heap.objs.size g cdg :: X.stack) X.prog X.w H1 s1 Q EW) s1 := by
    refine PySem.W.kla_callFunE hr.depth of1 rfl L.co L.gen rfl ⟨c', oc, vs, t, rfl, hoc, hdc, hvc⟩ ?_; rw [hbind]
    refine wpAny_pure (wpAny_newFunctionEnv (fun y hy => (L.own y hy).2) (fun y hy => absurd hy (by simp)) (fun h1 hns hsb => ⟨I1.nolimit.fresh _ hsb, ?_⟩) L.kind); show codeAny _ _ (.expr body (lamEnv X scope s1.heap.objs.size f c')) _ _
    have kp : ∀ b o, s1.heap.get? b = some o → h1.get? b = some o := fun b o e => hsb.extBut b o (Nat.ne_of_lt (Heap.lt_size e)) (Heap.get?_push_of_some _ e)
    have J : Inv (lamCx X (X.A.deeper (envOfC qg sg s.heap.objs.size g cdg)) (envOfC qg sg s.heap.objs.size g cdg :: X.stack) s1 H1 EW scope f c') [] σ H1 { s1 with heap := h1, toks := s1.toks + ([] : List (Str × Value)).length } := lam_start2 I L I1.env0 hr.hd un hns kp
    refine PySem.W.kla_codeExpr (wpAny_mono ((hbody EW _ _ s1 H1 (hr.deeper _)).run [] _ _ H1 Q J ht) (fun v s' hq => ?_) fun e s' hq => hq)
    obtain ⟨w', H', J', rv, q⟩ := hq; exact ⟨w', H', J'.os, J'.bare, J'.base, J'.hok, rv, q⟩
  have hx : PassesAt (L2.CX X.prog X.w) ((cxOf CXg X.prog X.w X.K X.mg X.base Ng qg sg g cdg X.A X.stack s H Eg).tr pn xe) σZ EW := fun _ _ _ e s' I c => tk e s' (XE.of_call I (fun cls d H' h => hEW cls d H' h) c)
  refine wpAny_call (codeAny_mono rc fun r s' hq => ?_)
  rcases r with e | fl
  · exact hx pz H1 s1 e s' I1 hq
  · rcases fl with _ | _ | _ | u'
    all_goals first
      | exact I1.after hq
      | exact False.elim hq
end
def GivesTo2 (X : Cx) (k : Nat) (Ng : List Str) (x : Str) (sg : Scope) (g : Addr) (cdg : Value) (bg : List Stmt) (a : Str) (q : Str) (TT : (XK → Hp → VK → Prop) → V → Hp → VK → Prop) : Prop :=
  ∀ (f c' : Addr) (y : V) (s : Shared) (H : Hp) (Q : VK) (tl : XK → Hp → VK → Prop),
    (∀ (W : WX) (pn : List (Addr × Obj)) (xe : Value → Shared → Prop) (p1 p2 : Pos), Takes ((cxOf C8.CX0 X.prog X.w X.K X.mg X.base Ng x sg g cdg X.A X.stack s H C8.E0).tr pn xe) W →
      PE ((cxOf C8.CX0 X.prog X.w X.K X.mg X.base Ng x sg g cdg X.A X.stack s H C8.E0).tr pn xe) (.Call (.Name a p1) [] [] p2) (fun σZ HZ Q => σZ[0]? = some (some (.ref f)) ∧ HZ c' = some (CodeO c' q) ∧ ∃ E : XK, (∀ cls d H', E cls d H' → W cls d σZ H') ∧ tl E HZ Q)) →
    Room (k + 1) (X.A.deeper (envOfC x sg s.heap.objs.size g cdg)) → H c' = some (CodeO c' q) → TT tl y H Q →
    ∃ t, PSs (cxOf C8.CX0 X.prog X.w X.K X.mg X.base Ng x sg g cdg X.A X.stack s H C8.E0).nox bg t ∧ t { nx := fun _ H' => Q .non H', rt := Q } (L2.start Ng [.ref f, y]) H
def tLam2 (T : List (Addr × Str)) (TT : (XK → Hp → VK → Prop) → V → Hp → VK → Prop) (t : XK → TE) (i : Nat) : TE := fun σ H Q => Tabs T H ∧ ∃ y, σ[i]? = some (some y) ∧ ∀ H1, ExtN H H1 → Tabs T H1 → TT (fun E H' Q' => t E σ H' Q') y H1 Q
section
variable {X : Cx}
theorem pe_lamcall2 {T : List (Addr × Str)} {TT : (XK → Hp → VK → Prop) → V → Hp → VK → Prop} {x a b : Str} {g c P : Addr} {k i2 : Nat} {pg : Arguments} {bg : List Stmt} {sg : Scope} {dV kV doc pm cdv ct oc : Value} {an od : Option Addr} {osl : Array (Option Value)} {Ng : List Str}
    {params : Arguments} {body e2 : Expr} {scope : Scope} {t : XK → TE} {p lpos pos : Pos} (hg : Gl X x) (hm : X.mg x = some (.ref g)) (hk : PySem.W.keepIn X.K (.ref g) = true)
    (lk : X.K.lookup g = some ⟨oc, od, .func (PySem.W.fnOf x x pg bg sg dV kV doc pm an cdv ct), osl⟩) (hcg : PySem.W.codeIn X.K cdv x = true) (hb : L2.Binds X.K (PySem.W.fnOf x x pg bg sg dV kV doc pm an cdv ct) [a, b] []) (Sg : FnScope Ng [a, b] sg) (hNg : Ng[0]? = some a) (hva : Vis sg a)
    (hG : GivesTo2 X k Ng x sg g cdv bg a (X.env.qual ++ "<lambda>") TT)
    (TB : TabB X.base X.mg c P) (hcode : X.env.code = .ref c) (hmT : (P, X.env.qual ++ "<lambda>") ∈ T) (hu : ∀ p ∈ T, p.1 = P → p.2 = X.env.qual ++ "<lambda>") (hr : Room (k + 2) X.A) (L : LamS X.env.scope scope) (hdef : defaultsOf params X.env = ([], []))
    (hbind : ∀ (q : Str) (cl : List (Str × Addr)) (pm cv ctv : Value), bindArgs (PySem.W.kla_fn "<lambda>" q params body scope cl pm cv ctv) ⟨[], []⟩ = pure [])
    (hbody : ∀ (A : Around) (outer : List Env) (s : Shared) (H : Hp) (E : XK) (f c' : Addr), Room k (A.deeper (lamEnv X scope s.heap.objs.size f c')) → PE (lamCx X A outer s H E scope f c') body (t E))
    (he : PE X e2 (tVar i2)) (hsk : X.stack = X.env :: X.outer) (hfm : X.env.frame = some X.env.locals)
    (h2 : starEach [e2] X.env = (false, eval e2 X.env) :: starEach [] X.env := by rfl)
    (hdb : (x == ("__debug__" : Str)) = false := by decide) (hd : (a == ("__debug__" : Str)) = false := by decide) (hcd : (a == ("__classdict__" : Str)) = false := by decide)
    (hal : (backTo pos (starEach [e2] X.env)).any (·.1) = false := by rfl) :
    PE X (.Call (.Name x p) [.Lambda params body scope lpos, e2] [] pos) (tLam2 T TT t i2) := by
  refine ⟨fun pins s σ H Q I h => ?_⟩
  obtain ⟨hT, y, hy, h⟩ := h
  refine wpAny_Call_Name_kw (ld_glob I hg hm ?_ hdb); refine PySem.W.callWith_K (h₀ := X.base) I.ok.mod.kin hk ?_ (by rfl) hal
  show wpAny _ _ (spliced ((false, eval (.Lambda params body scope lpos) X.env) :: backTo pos (starEach [e2] X.env))) _ _ s
  refine Calls.spliced_cons (lam_make2 I TB hcode hmT hu hT hdef (L.has I.ok) fun f c' pm' ctv H1 s' I1 eN T1 hf hfn hfr hco => ?_); rw [h2]
  have nL : f ≠ X.env.locals := fun z => hfr (by rw [hsk]; exact List.mem_filterMap.mpr ⟨X.env, List.mem_cons_self, by rw [hfm, z]⟩)
  have nF : f ∉ X.fs := fun m => by
    obtain ⟨e, he', q⟩ := List.mem_filterMap.mp m
    exact hfr (by rw [hsk]; exact List.mem_filterMap.mpr ⟨e, List.mem_cons_of_mem _ he', q⟩)
  have I1' : Inv X ((f, PySem.W.kla_obj "<lambda>" (X.env.qual ++ "<lambda>") params body scope (cloFrom X.env.cells scope.names []) pm' c' ctv) :: pins) σ H1 s' := I1.pins_of fun q hq => by
    rcases List.mem_cons.mp hq with rfl | hq
    · exact ⟨hf, hfn, nL, nF, fun v z => by cases z⟩
    · exact I1.pin q (List.mem_append_right _ hq)
  refine Calls.spliced_cons (thn (he.run _ s' σ H1 (fun v H2 => v = y ∧ H2 = H1) I1' ⟨y, hy, rfl, rfl⟩) fun u s2 hh => ?_)
  obtain ⟨v, H2, I2, r2, rfl, rfl⟩ := hh
  have hf2 := (I2.pin (f, _) (List.mem_append_right _ (.head _))).1
  have I3 : Inv X pins σ H2 s2 := I2.pins_of fun q hq => I2.pin q (List.mem_append_right _ (.tail _ hq))
  refine Calls.spliced_nil ⟨I3.kIn, ?_⟩
  have rc : codeAny (model X.prog X.w) X.A (.call (.ref g) ⟨[.ref f, u], []⟩) (CR C8.CX0 X.stack X.prog X.w H2 s2 Q C8.E0) s2 := by
    refine run_ofS (N := Ng) (ps := [a, b]) (us := [.ref f, u]) (vs := [.ref f, v]) lk hcg Sg hr I3.env0 (hb s2 [.ref f, u] I3.kIn rfl) (.cons rfl (.cons r2 .nil)) rfl fun hr' => ?_
    obtain ⟨t', ht', hq'⟩ := hG f c' v s2 H2 Q (fun E H' Q' => t E σ H' Q') (fun W pn xe p1 p2 tk => pe_actS (i := 0) I3 L hf2 hfn hfr (hbind _ _ _ _ _) tk hr' (fun E A outer s H hr2 => hbody A outer s H E f c' hr2) hNg hva hd hcd) hr' hco (h H2 eN T1)
    exact ⟨t', ht'.nox, hq'⟩
  refine wpAny_call (codeAny_mono rc fun r s3 hq => ?_)
  rcases r with e | fl
  · exact absurd hq (fun z => z)
  · rcases fl with _ | _ | _ | u'
    all_goals first
      | exact I3.after hq
      | exact False.elim hq
end
end LaneX
set_option Elab.async false
set_option linter.all false
set_option maxRecDepth 100000
set_option maxHeartbeats 4000000
namespace LaneX
open PySem PySem.Spec PyProof.Rows L2
/-- a statement, with what holds behind it told -/
def tMid (t : TS) : TS := fun D σ H => ∃ J : L2.St → Hp → Prop, t ⟨J, D.rt, D.bk, D.ct⟩ σ H ∧ ∀ σ' H', J σ' H' → D.nx σ' H'
theorem ps_mid {X : Cx} {st : Stmt} {t : TS} (h : PS X st t) : PS X st (tMid t) := by
  refine ⟨fun pins s σ H D I q => ?_⟩
  obtain ⟨J, h1, h2⟩ := q
  refine thn (h.run pins s σ H _ I h1) fun f s' hf => ?_
  cases f with
  | next =>
    obtain ⟨σ', H', i, q⟩ := hf
    exact ⟨σ', H', i, h2 _ _ q⟩
  | brk => exact hf
  | cont => exact hf
  | ret u => exact hf
end LaneX
set_option Elab.async false
set_option linter.all false
set_option maxRecDepth 100000
set_option maxHeartbeats 4000000
namespace LaneX
open PySem PySem.Spec PyProof.Rows L2
/-! ### a // b of an own class that may raise; b of that class, or None, a number, a truth, a text, a list, a tuple -/
section
open PySem.W PySem.Calls
theorem bin_other {prog : Program} {w : World} {A : Around} {E : Value → Shared → Prop} {s : Shared} {K : PySem.W.Frag} {x C L f : Addr} {h0 : Heap} {m : Str → Option Value} {ox : Obj} {od : Option Obj} {T : String} {op : Operator} {b : Value} {fo ro rc : Option Value} {Q : Value → Shared → Prop}
    (F : Fr h0 L s.heap m) (X0 : K.In h0) (I : InstAt s.heap x ox C od) (hb : Looks (model prog w) s.heap (typeOf b) (.type T)) (hc : selfFirst K C = true) (hs : findIn K (.ref C) (PySem.dunder op.info.2) = some (some (.ref f))) (hf : isFn K (.ref f) = true) (hr : findIn K (.ref C) (dunderR op.info.2) = some rc) (hp : rc = none ∨ ∃ g : Addr, rc = some (.ref g))
    (h1 : findIn K (.type T) (PySem.dunder op.info.2) = some fo) (h2 : findIn K (.type T) (dunderR op.info.2) = some ro) (hsub : subIn K (.type T) (.ref C) = some false) (h : wpAny (model prog w) A (call (.ref f) [.ref x, b]) (PySem.W.CmpBack Q) E s) : wpAny (model prog w) A (binaryOp op (.ref x) b) Q E s := by
  have XK := X0.keeps F.keep; obtain ⟨cd, rest, hcd, hm⟩ := ksp_first hc
  rcases hi : op.info with ⟨sym, nm⟩; rw [hi] at hs hr h1 h2; dsimp only at hs hr h1 h2
  have one := ksp_try XK I hs hf h; obtain ⟨hh, g, d, tt, os⟩ := s
  have a1 : Looks (model prog w) hh (typeOf (.ref x)) (.ref C) := I.type; have a2 : Looks (model prog w) hh (typeOf b) (.type T) := hb
  have a3 : Looks (model prog w) hh (fillsNumberSlot (.ref C) nm) true := fills_K XK hcd hm hs; have a4 := ksp_fillsT (M := model prog w) XK h1 h2
  have a5 : Looks (model prog w) hh (isSubtype (.type T) (.ref C)) false := looks_subIn XK hsub; have a6 : Looks (model prog w) hh (numberSlotInPython (.ref C) nm) true := ksp_inPy XK hs hr hp
  have a7 : Looks (model prog w) hh (numberSlotInPython (.type T) nm) false := Looks.of_pure rfl; have a8 : Looks (model prog w) hh (typeLookup (.type T) (dunderR nm)) ro := looks_findIn XK h2
  generalize ((fo.isSome && !isSeqSlot fo) || (ro.isSome && !isSeqSlot ro)) = right at a4; have ne : (Value.ref C == Value.type T) = false := Bool.eq_false_iff.mpr fun q => by cases beq_iff_eq.mp q
  simp only [binaryOp, hi]; refine wpAny_holding (wpAny_bind ?_); unfold binaryOp1
  refine wpAny_bind (a1.at (wpAny_bind (a2.at (wpAny_bind (a3.at ?_))))); simp only [ne, Bool.false_eq_true, if_false]
  cases right with
  | false => (ksp_lk; refine wpAny_mono one (fun r s' hr' => ?_) fun _ _ e => e; obtain ⟨v, rfl, hq⟩ := hr'; ksp_lk; exact hq)
  | true => (ksp_lk; refine wpAny_mono one (fun r s' hr' => ?_) fun _ _ e => e; obtain ⟨v, rfl, hq⟩ := hr'; ksp_lk; exact hq)
end
inductive OddV (H : Hp) : V → String → Prop where
  | non : OddV H .non "NoneType"
  | int (i : Int) : OddV H (.int i) "int"
  | bl (b : Bool) : OddV H (.bl b) "bool"
  | str (x : Str) : OddV H (.str x) "str"
  | lst {a : Addr} {xs : List V} (e : H a = some (.lst xs)) : OddV H (.ref a) "list"
  | tup {a : Addr} {xs : List V} (e : H a = some (.tup xs)) : OddV H (.ref a) "tuple"
theorem OddV.ty {K : PySem.W.Frag} {H : Hp} {y : V} {t : String} (h : OddV H y t) : TyX K H y (.type t) := by
  cases h with
  | non => exact .base .non
  | int i => exact .base (.int i)
  | bl b => exact .base (.bl b)
  | str x => exact .base (.str x)
  | lst e => exact .base (.lst e)
  | tup e => exact .base (.tup e)
theorem OddV.same {H H' : Hp} {y : V} {t : String} (h : OddV H y t) (s : Same H H') : OddV H' y t := by
  cases h with
  | non => exact .non
  | int i => exact .int i
  | bl b => exact .bl b
  | str x => exact .str x
  | lst e => exact .lst (s _ _ e)
  | tup e => exact .tup (s _ _ e)
def oddN : List String := ["NoneType", "int", "bool", "str", "list", "tuple"]
theorem OddV.mem {H : Hp} {y : V} {t : String} (h : OddV H y t) : t ∈ oddN := by
  cases h <;> decide
theorem OddV.looks {X : Cx} {pins : List (Addr × Obj)} {σ : L2.St} {H : Hp} {s : Shared} {y : V} {u : Value} {t : String} (h : OddV H y t) (I : Inv X pins σ H s) (r : RelV y u) : PySem.W.Looks (model X.prog X.w) s.heap (typeOf u) (.type t) := by
  cases h with
  | non => cases (show u = Value.none from r); exact PySem.W.Looks.of_pure rfl
  | int i => obtain ⟨t, q⟩ := (show ∃ t, u = Value.int i t from r); cases q; exact PySem.W.Looks.of_pure rfl
  | bl b => cases (show u = Value.bool b from r); exact PySem.W.Looks.of_pure rfl
  | str x => obtain ⟨t, q⟩ := (show ∃ t, u = Value.str x t from r); cases q; exact PySem.W.Looks.of_pure rfl
  | @lst a xs e =>
    cases (show u = Value.ref a from r)
    obtain ⟨_, _, n, _, h1⟩ := (show ObjOk X.prog X.w H s.heap a (.lst xs) from I.hok a _ e)
    exact fun A Q E s2 k q => wpAny_typeOf ⟨_, k _ _ h1, rfl⟩ q
  | @tup a xs e =>
    cases (show u = Value.ref a from r)
    obtain ⟨_, _, _, o, h1, h2, _⟩ := (show ObjOk X.prog X.w H s.heap a (.tup xs) from I.hok a _ e)
    exact fun A Q E s2 k q => wpAny_typeOf ⟨o, k _ _ h1, h2⟩ q
/-- what is asked of the class at C for such operands -/
def oddB (K : PySem.W.Frag) (C : Addr) : Bool := He.eqO (PySem.W.findIn K (.ref C) (dunderR (Operator.FloorDiv).info.2)) (some none) && oddN.all fun t => decide (PySem.W.kitOne K (.type t) (.ref C) = some false) && (decide (PySem.W.subIn K (.type t) (.ref C) = some false) && ((PySem.W.findIn K (.type t) (PySem.dunder (Operator.FloorDiv).info.2)).isSome && (PySem.W.findIn K (.type t) (dunderR (Operator.FloorDiv).info.2)).isSome))
structure OddC (K : PySem.W.Frag) (C : Addr) : Prop where
  r : PySem.W.findIn K (.ref C) (dunderR (Operator.FloorDiv).info.2) = some none
  k : ∀ t ∈ oddN, PySem.W.kitOne K (.type t) (.ref C) = some false
  s : ∀ t ∈ oddN, PySem.W.subIn K (.type t) (.ref C) = some false
  a : ∀ t ∈ oddN, ∃ fo, PySem.W.findIn K (.type t) (PySem.dunder (Operator.FloorDiv).info.2) = some fo
  b : ∀ t ∈ oddN, ∃ fo, PySem.W.findIn K (.type t) (dunderR (Operator.FloorDiv).info.2) = some fo
theorem oddB_ok {K : PySem.W.Frag} {C : Addr} (h : oddB K C = true) : OddC K C := by
  obtain ⟨h1, h2⟩ := He.ba h
  have z := fun t (ht : t ∈ oddN) => List.all_eq_true.mp h2 t ht
  refine ⟨He.eqO_ok h1, fun t ht => of_decide_eq_true (He.ba (z t ht)).1, fun t ht => of_decide_eq_true (He.ba (He.ba (z t ht)).2).1, fun t ht => Option.isSome_iff_exists.mp (He.ba (He.ba (He.ba (z t ht)).2).2).1, fun t ht => Option.isSome_iff_exists.mp (He.ba (He.ba (He.ba (z t ht)).2).2).2⟩
def tDiv (C : Addr) (sp : Sp) (W : WX) (ta tb : TE) : TE := fun σ H Q => ta σ H fun x H1 => tb σ H1 fun y H2 => ∃ a dx fs, x = .ref a ∧ H2 a = some (.ins C dx fs) ∧ ((∃ b dy gs, y = .ref b ∧ H2 b = some (.ins C dy gs)) ∨ ∃ t, OddV H2 y t) ∧ sp [x, y] H2 Q (WE W σ)
theorem pe_divX {X : Cx} {k j : Nat} {ps : List Str} {sp : Sp} {C : Addr} {pos : Pos} {e1 e2 : Expr} {ta tb : TE} {W : WX} (D : Mx X.prog X.w X.K X.mg X.base k C "__floordiv__" ps sp) (hc : PySem.W.selfFirst X.K C = true) (od : OddC X.K C) (tk : Takes X W) (hr : Room j X.A) (ha : PE X e1 ta) (hb : PE X e2 tb) (hk : k ≤ j := by decide) :
    PE X (.BinOp e1 .FloorDiv e2 pos) (tDiv C sp W ta tb) := by
  refine ⟨fun pins s σ H Q I h => wpAny_BinOp (binT ha hb I h fun v u s2 x y H2 I2 rx ry q => ?_)⟩
  obtain ⟨a, dx, fs, rfl, ea, ho, hsp⟩ := q
  obtain ⟨f, fd, h1, h3, h4⟩ := D.ex
  cases (show v = Value.ref a from rx)
  obtain ⟨mA, O, _⟩ := ins_get I2.hok ea
  obtain ⟨od', J, _⟩ := O.look
  obtain ⟨mm, F⟩ := I2.fr
  have run : wpAny (model X.prog X.w) X.A (call (.ref f) [.ref a, u]) (PySem.W.CmpBack (EP X pins σ Q)) X.xe s2 :=
    wpAny_mono (run_fnS (us := [.ref a, u]) (vs := [.ref a, y]) (E := WE W) h4 (hr.mono hk) h3 (passAt tk σ) I2 (.cons rfl (.cons ry .nil)) hsp) (fun v s' hq => back_of hq) fun _ _ z => z
  rcases ho with ⟨b, dy, gs, rfl, eb⟩ | ⟨t, ho⟩
  · cases (show u = Value.ref b from ry)
    obtain ⟨mB, O2, _⟩ := ins_get I2.hok eb
    obtain ⟨od2, J2, _⟩ := O2.look
    exact PySem.W.binop_K F I2.mod.kin J J2.type hc h1.at_ h1.fn run
  · have hm := ho.mem
    obtain ⟨fo, e1⟩ := od.a t hm
    obtain ⟨ro, e2⟩ := od.b t hm
    exact bin_other F I2.mod.kin J (ho.looks I2 ry) hc h1.at_ h1.fn od.r (.inl rfl) e1 e2 (od.s t hm) run
end LaneX
set_option Elab.async false
set_option linter.all false
set_option maxRecDepth 100000
set_option maxHeartbeats 4000000
namespace LaneX
open PySem PySem.Spec PyProof.Rows L2
/-! ### a & b, a + b .. of an own class that may raise -/
structure OddO (K : PySem.W.Frag) (C : Addr) (op : Operator) : Prop where
  r : PySem.W.findIn K (.ref C) (dunderR op.info.2) = some none
  s : ∀ t ∈ oddN, PySem.W.subIn K (.type t) (.ref C) = some false
  a : ∀ t ∈ oddN, ∃ fo, PySem.W.findIn K (.type t) (PySem.dunder op.info.2) = some fo
  b : ∀ t ∈ oddN, ∃ fo, PySem.W.findIn K (.type t) (dunderR op.info.2) = some fo
def oddOB (K : PySem.W.Frag) (C : Addr) (op : Operator) : Bool :=
  He.eqO (PySem.W.findIn K (.ref C) (dunderR op.info.2)) (some none) && oddN.all fun t => decide (PySem.W.subIn K (.type t) (.ref C) = some false) && ((PySem.W.findIn K (.type t) (PySem.dunder op.info.2)).isSome && (PySem.W.findIn K (.type t) (dunderR op.info.2)).isSome)
theorem oddOB_ok {K : PySem.W.Frag} {C : Addr} {op : Operator} (h : oddOB K C op = true) : OddO K C op := by
  obtain ⟨h1, h2⟩ := He.ba h
  have z := fun t (ht : t ∈ oddN) => He.ba (List.all_eq_true.mp h2 t ht)
  exact ⟨He.eqO_ok h1, fun t ht => of_decide_eq_true (z t ht).1, fun t ht => Option.isSome_iff_exists.mp (He.ba (z t ht).2).1, fun t ht => Option.isSome_iff_exists.mp (He.ba (z t ht).2).2⟩
theorem pe_opX {X : Cx} {k j : Nat} {ps : List Str} {sp : Sp} {C : Addr} {m : Str} {op : Operator} {pos : Pos} {e1 e2 : Expr} {ta tb : TE} {W : WX} (hm : m = PySem.dunder op.info.2) (D : Mx X.prog X.w X.K X.mg X.base k C m ps sp) (hc : PySem.W.selfFirst X.K C = true) (od : OddO X.K C op) (tk : Takes X W) (hr : Room j X.A) (ha : PE X e1 ta) (hb : PE X e2 tb) (hk : k ≤ j := by decide) :
    PE X (.BinOp e1 op e2 pos) (tDiv C sp W ta tb) := by
  subst hm
  refine ⟨fun pins s σ H Q I h => wpAny_BinOp (binT ha hb I h fun v u s2 x y H2 I2 rx ry q => ?_)⟩
  obtain ⟨a, dx, fs, rfl, ea, alt, told⟩ := q
  obtain ⟨f, fd, mt, bd, fn⟩ := D.ex
  cases (show v = Value.ref a from rx)
  obtain ⟨_, O, _⟩ := ins_get I2.hok ea
  obtain ⟨_, J, _⟩ := O.look
  obtain ⟨_, F⟩ := I2.fr
  have run : wpAny (model X.prog X.w) X.A (call (.ref f) [.ref a, u]) (PySem.W.CmpBack (EP X pins σ Q)) X.xe s2 :=
    wpAny_mono (run_fnS (us := [.ref a, u]) (vs := [.ref a, y]) (E := WE W) fn (hr.mono hk) bd (passAt tk σ) I2 (.cons rfl (.cons ry .nil)) told) (fun v s' hq => back_of hq) fun _ _ z => z
  rcases alt with ⟨b, dy, gs, rfl, eb⟩ | ⟨t, ho⟩
  · cases (show u = Value.ref b from ry)
    obtain ⟨_, O2, _⟩ := ins_get I2.hok eb
    obtain ⟨_, J2, _⟩ := O2.look
    exact PySem.W.binop_K F I2.mod.kin J J2.type hc mt.at_ mt.fn run
  · obtain ⟨fo, q1⟩ := od.a t ho.mem
    obtain ⟨ro, q2⟩ := od.b t ho.mem
    exact bin_other F I2.mod.kin J (ho.looks I2 ry) hc mt.at_ mt.fn od.r (.inl rfl) q1 q2 (od.s t ho.mem) run
/-! ### where nothing is raised -/
theorem fnok_quiet {P : Program} {w : World} {K : PySem.W.Frag} {mg : Str → Option Value} {base : Heap} {k : Nat} {f : Addr} {fd : FuncData} {ps : List Str} {sp : Sp} (F : FnOk P w K mg base (L2.CX P w) k f fd ps sp) : FnOk P w K mg base CX0 k f fd ps (fun vs H Q _ => sp vs H Q E0) :=
  ⟨fun vs H Q E q => F.len vs H Q _ q, fun A outer s H args us vs Q E hr he hb hv hs => codeAny_mono (F.run A outer s H args us vs Q E0 hr he hb hv hs) fun r s' h => by
    cases r with
    | ok fl => cases fl <;> exact h
    | error e =>
      obtain ⟨_, _, _, _, _, _, _, _, _, _, _, _, z⟩ := h
      exact z.elim⟩
theorem Mx.quiet {P : Program} {w : World} {K : PySem.W.Frag} {mg : Str → Option Value} {base : Heap} {k : Nat} {C : Addr} {m : Str} {ps : List Str} {sp sp' : Sp} (D : Mx P w K mg base k C m ps sp) (h : ∀ vs H Q E, sp' vs H Q E → sp vs H Q E0) : Mn P w K mg base k C m ps sp' := by
  obtain ⟨f, fd, h1, h2, h3⟩ := D.ex
  exact ⟨D.cl, f, fd, h1, h2, (fnok_quiet h3).imp h⟩
theorem Dx.quiet {P : Program} {w : World} {K : PySem.W.Frag} {mg : Str → Option Value} {base : Heap} {k : Nat} {x : Str} {ps : List Str} {sp sp' : Sp} (D : Dx P w K mg base k x ps sp) (h : ∀ vs H Q E, sp' vs H Q E → sp vs H Q E0) : Dn P w K mg base k x ps sp' := by
  obtain ⟨f, fd, h1, h2, h3, h4⟩ := D.ex
  exact ⟨f, fd, h1, h2, h3, (fnok_quiet h4).imp h⟩
end LaneX
set_option Elab.async false
set_option linter.all false
set_option maxRecDepth 100000
set_option maxHeartbeats 4000000
namespace LaneX
open PySem PySem.Spec PyProof.Rows L2
section
variable {X : Cx}
/-! ### e in x by an own __contains__ -/
def rInO (C : Addr) (sp : Sp) : R2 := fun y x H Q => ∃ a dx fs, x = .ref a ∧ H a = some (.ins C dx fs) ∧ sp [.ref a, y] H (fun v H' => ∃ b : Bool, v = .bl b ∧ Q (.bl b) H') E0
theorem truth_of {pins : List (Addr × Obj)} {σ : L2.St} {Q : VK} {A : Around} {E : Value → Shared → Prop} {r : Value} {s : Shared} {M : Model} (h : EP X pins σ (fun v H' => ∃ b : Bool, v = .bl b ∧ Q (.bl b) H') r s) : wpAny M A (truthy r) (fun b => EP X pins σ Q (.bool b)) E s := by
  obtain ⟨x, H', I, rx, b, e, q⟩ := h
  subst e
  cases rx
  exact wpAny_truthy_bool ⟨.bl b, H', I, rfl, q⟩
theorem op_inO {k j : Nat} {C : Addr} {ps : List Str} {sp : Sp} (D : Mn X.prog X.w X.K X.mg X.base k C "__contains__" ps sp) (hr : Room j X.A) (hk : k ≤ j := by decide) : OpR X (compareOp .In) (rInO C sp) := by
  intro pins s σ H y x u v Q I ry rx h
  obtain ⟨a, dx, fs, rfl, ha, hsp⟩ := h
  obtain ⟨f, fd, h1, h3, h4⟩ := D.ex
  cases (show v = Value.ref a from rx)
  obtain ⟨_, O, _⟩ := ins_get I.hok ha
  obtain ⟨_, J, _⟩ := O.look
  obtain ⟨_, F⟩ := I.fr
  refine PySem.W.in_K F I.mod.kin J h1.at_ h1.fn ?_
  exact wpAny_mono (run_fn h4 (hr.mono hk) h3 .nil pass0 I (vs := [.ref a, y]) (us := [.ref a, u]) (.cons rfl (.cons ry .nil)) hsp) (fun r s' q => truth_of q) fun _ _ z => z
/-- .. that may raise -/
def tInX (C : Addr) (sp : Sp) (W : WX) (ta tb : TE) : TE := fun σ H Q => ta σ H fun y H1 => tb σ H1 fun x H2 => ∃ a dx fs, x = .ref a ∧ H2 a = some (.ins C dx fs) ∧ sp [.ref a, y] H2 (fun v H' => ∃ b : Bool, v = .bl b ∧ Q (.bl b) H') (WE W σ)
theorem pe_inX {k j : Nat} {ps : List Str} {sp : Sp} {C : Addr} {pos : Pos} {e1 e2 : Expr} {ta tb : TE} {W : WX} (D : Mx X.prog X.w X.K X.mg X.base k C "__contains__" ps sp) (tk : Takes X W) (hr : Room j X.A) (ha : PE X e1 ta) (hb : PE X e2 tb) (hm : behindInMarks .In e2 = false) (hk : k ≤ j := by decide) :
    PE X (.Compare e1 [.In] [e2] pos) (tInX C sp W ta tb) := by
  refine ⟨fun pins s σ H Q I h => wpAny_Compare1 (binT ha hb I h fun u v s2 y x H2 I2 ry rx q => ?_) hm⟩
  obtain ⟨a, dx, fs, rfl, ea, hsp⟩ := q
  obtain ⟨f, fd, h1, h3, h4⟩ := D.ex
  cases (show v = Value.ref a from rx)
  obtain ⟨_, O, _⟩ := ins_get I2.hok ea
  obtain ⟨_, J, _⟩ := O.look
  obtain ⟨_, F⟩ := I2.fr
  refine PySem.W.in_K F I2.mod.kin J h1.at_ h1.fn ?_
  exact wpAny_mono (run_fnS (us := [.ref a, u]) (vs := [.ref a, y]) (E := WE W) h4 (hr.mono hk) h3 (passAt tk σ) I2 (.cons rfl (.cons ry .nil)) hsp) (fun r s' q => truth_of q) fun _ _ z => z
/-! ### x == y by an own __eq__, y of another kind -/
def rOwnA (C : Addr) (sp : Sp) : R2 := fun x y H Q => ∃ a dx fs t, x = .ref a ∧ H a = some (.ins C dx fs) ∧ OddV H y t ∧ sp [.ref a, y] H Q E0
theorem op_eqA {k j : Nat} {C : Addr} {ps : List Str} {sp : Sp} (D : Mn X.prog X.w X.K X.mg X.base k C "__eq__" ps sp) (od : OddC X.K C) (hr : Room j X.A) (hk : k ≤ j := by decide) : OpR X (compareOp .Eq) (rOwnA C sp) := by
  intro pins s σ H x y v u Q I rx ry h
  obtain ⟨a, dx, fs, t, rfl, ha, ho, hsp⟩ := h
  obtain ⟨f, fd, h1, h3, h4⟩ := D.ex
  cases (show v = Value.ref a from rx)
  obtain ⟨mA, O, _⟩ := ins_get I.hok ha
  obtain ⟨od', J, _⟩ := O.look
  obtain ⟨mm, F⟩ := I.fr
  show wpAny (model X.prog X.w) X.A (richCompare .Eq (.ref a) u) (EP X pins σ Q) X.xe s
  refine PySem.W.cmp_K (op := .Eq) (tb := .type t) hr.units0 F I.mod.kin J (ho.looks I ry) (by simp [PySem.W.notFirst, od.s t ho.mem]) h1.at_ h1.fn ?_
  exact wpAny_mono (call_below (vs := [.ref a, y]) (us := [Value.ref a, u]) h4 h3 ⟨hr.mono hk, rfl⟩ I (.cons rfl (.cons ry .nil)) hsp) (fun v s' hq => back_of hq) fun _ _ z => z
/-- either kind -/
theorem op_eqB {k j : Nat} {C : Addr} {ps : List Str} {sp : Sp} (D : Mn X.prog X.w X.K X.mg X.base k C "__eq__" ps sp) (od : OddC X.K C) (hr : Room j X.A) (hk : k ≤ j := by decide) : OpR X (compareOp .Eq) (fun x y H Q => rOwn C sp x y H Q ∨ rOwnA C sp x y H Q) := by
  intro pins s σ H x y v u Q I rx ry h
  rcases h with h | h
  · exact op_eqO D hr hk pins s σ H x y v u Q I rx ry h
  · exact op_eqA D od hr hk pins s σ H x y v u Q I rx ry h
end
/-! ### a class made by an __init__ that may raise -/
structure Kx (P : Program) (w : World) (K : PySem.W.Frag) (mg : Str → Option Value) (base : Heap) (k : Nat) (C : Addr) (x : Str) (ps : List Str) (sp : Sp) : Prop where
  gl : mg x = some (.ref C)
  ex : ∃ (f : Addr) (fd : FuncData), Mk K C f ∧ Binds K fd ps [] ∧ FnOk P w K mg base (L2.CX P w) k f fd ps sp
theorem Kx.quiet {P : Program} {w : World} {K : PySem.W.Frag} {mg : Str → Option Value} {base : Heap} {k : Nat} {C : Addr} {x : Str} {ps : List Str} {sp sp' : Sp} (D : Kx P w K mg base k C x ps sp) (h : ∀ vs H Q E, sp' vs H Q E → sp vs H Q E0) : Kn P w K mg base k C x ps sp' := by
  obtain ⟨f, fd, h1, h2, h3⟩ := D.ex
  exact ⟨D.gl, f, fd, h1, h2, (fnok_quiet h3).imp h⟩
def tMakeX (C : Addr) (sp : Sp) (W : WX) (t : TA) : TE := fun σ H Q => t σ H fun vs H1 => ∀ x dx, H1 x = none → H1 dx = none → dx ≠ x →
  sp (.ref x :: vs) (upd (upd H1 dx (.own x)) x (.ins C dx [])) (fun v H2 => v = .non ∧ Q (.ref x) H2) (WE W σ)
section
variable {X : Cx} {k j : Nat} {x m : Str} {ps : List Str} {sp : Sp} {C : Addr} {p pos apos : Pos} {e o : Expr} {es : List Expr} {t : TA} {to : TE} {W : WX}
theorem pe_kX (D : Kx X.prog X.w X.K X.mg X.base k C x ps sp) (tk : Takes X W) (hr : Room j X.A) (ha : PA X (e :: es) t) (hk : k + 1 ≤ j := by decide) (hg : Gl X x := by rfl) (hdb : (x == ("__debug__" : Str)) = false := by decide)
    (he : starEach (e :: es) X.env = (false, eval e X.env) :: starEach es X.env := by rfl) (hpl : (backTo pos (starEach es X.env)).any (·.1) = false := by rfl) :
    PE X (.Call (.Name x p) (e :: es) [] pos) (tMakeX C sp W t) := by
  obtain ⟨f, fd, M, hb, F⟩ := D.ex
  have hr : Room (k + 1) X.A := hr.mono hk
  refine ⟨fun pins s0 σ H0 Q I0 h0 => ?_⟩
  refine wpAny_Call_Name_kw (ld_glob I0 hg D.gl ?_ hdb)
  refine PySem.W.callWith_K (h₀ := X.base) I0.ok.mod.kin M.kp (thn (ha.run pos pins s0 σ H0 _ I0 h0) fun us s ⟨vs, H, I, r, h⟩ => ⟨I.kIn, ?_⟩) he hpl
  have hq := h (s.heap.objs.size + 1) s.heap.objs.size (I.hok.fresh (Nat.le_succ _)) (I.hok.fresh (Nat.le_refl _)) (Nat.ne_of_lt (Nat.lt_succ_self _))
  have I2 := Inv.made (C := C) I
  have r2 : Vals (V.ref (s.heap.objs.size + 1) :: vs) (Value.ref (s.heap.objs.size + 1) :: us) := .cons rfl r
  have hl : (Value.ref (s.heap.objs.size + 1) :: us ++ []).length = ps.length := by
    have e := r2.length
    rw [F.len _ _ _ _ hq] at e
    rw [List.append_nil]
    exact e.symm
  have hb' := hb _ (Value.ref (s.heap.objs.size + 1) :: us) I2.kIn hl
  rw [List.append_nil] at hb'
  refine wpAny_call (make_map (f := f) I.kIn M.makes M.init (beq_iff_eq.mp M.fn) (codeAny_mono (F.run _ X.stack _ _ ⟨Value.ref (s.heap.objs.size + 1) :: us, []⟩ (Value.ref (s.heap.objs.size + 1) :: us) _ _ (WE W σ) (hr.make C us [])
    (I2.env0.make C us []) hb' r2 hq) fun r s' hq' => ?_))
  cases r with
  | error e => exact passAt tk σ pins _ _ e s' I2 hq'
  | ok fl =>
    cases fl with
    | ret u =>
      obtain ⟨v, H', I3, rv, ev, q3⟩ := I2.after hq'
      subst ev
      exact ⟨rv, ⟨V.ref (s.heap.objs.size + 1), H', I3, rfl, q3⟩⟩
    | next => exact False.elim hq'
    | brk => exact False.elim hq'
    | cont => exact False.elim hq'
/-! ### a method with a default, called without it -/
structure Md (P : Program) (w : World) (K : PySem.W.Frag) (mg : Str → Option Value) (base : Heap) (k : Nat) (C : Addr) (m : Str) (ps : List Str) (dvs : List V) (sp : Sp) : Prop where
  cl : Cls K C
  ex : ∃ (f : Addr) (fd : FuncData) (ds : List Value), Meth K C m f ∧ Binds K fd ps ds ∧ Vals dvs ds ∧ FnOk P w K mg base CX0 k f fd ps sp
theorem pe_md0 {pl : Sem Bool} {dvs : List V} (ho : PE X o to) (D : Md X.prog X.w X.K X.mg X.base k C m ps dvs sp) (hr : Room j X.A) (hk : k ≤ j := by decide)
    (ht : eval (.Call (.Attribute o m apos) [] [] pos) X.env = (do
      let ov ← eval o X.env
      standAt apos.atName
      let (f, first) ← holding [ov] (getMethod ov m pl)
      callWith pos f first (backTo pos (starEach [] X.env)) (backToKw pos (keywordEach [] X.env))) := by rfl) :
    PE X (.Call (.Attribute o m apos) [] [] pos) (tMeth C m sp dvs E0 to tNil) := by
  obtain ⟨f, fd, ds, h1, h3, hv, h4⟩ := D.ex
  exact pe_meth0 ho D.cl h1 h4 (hr.mono hk) h3 hv pass0 ht
end
end LaneX
set_option Elab.async false
set_option linter.all false
set_option maxRecDepth 100000
set_option maxHeartbeats 4000000
namespace LaneX
open PySem PySem.Spec PyProof.Rows L2

/-! ### what the checks promise, for values that are as described -/
def sp_is_whole : Sp := fun vs H Q _ => ∃ n : Nat, vs = [vN n] ∧ Q (.bl true) H
def sp_need_whole : Sp := fun vs H Q _ => ∃ n : Nat, vs = [vN n] ∧ Q .non H
def sp_need_items : Sp := fun vs H Q _ => ∃ (a : Addr) (xs : List V), vs = [.ref a] ∧ Tq H a xs ∧ ∀ H', Same H H' → Q .non H'
def sp_need_word : Sp := fun vs H Q _ => ∃ n b : Nat, vs = [vN n, vN b] ∧ blen n ≤ b ∧ Q .non H
def sp_need_words : Sp := fun vs H Q _ => ∃ (a : Addr) (ns : List Nat) (b : Nat), vs = [.ref a, vN b] ∧ Tq H a (ns.map vN) ∧ (∀ n ∈ ns, blen n ≤ b) ∧ ∀ H' p, Same H H' → H p = none → H' p = some (.lst (ns.map vN)) → Q (.ref p) H'
theorem ok_is_whole {P : Program} {w : World} {K : PySem.W.Frag} {mg : Str → Option Value} {base : Heap} {f : Addr} {fd : FuncData} (T : Bt mg) (F : FnP K "is_whole" "is_whole" s_is_whole f fd) : FnOk P w K mg base CX0 1 f fd ["value"] sp_is_whole := by
  have nd := sc_is_whole.nd
  refine fnok F sc_is_whole (fun vs H Q E h => ?_) (fun cdv A outer s H vs Q E hr h => ?_)
  · obtain ⟨n, rfl, _⟩ := h
    rfl
  · obtain ⟨n, rfl, k⟩ := h
    refine ⟨_, (pss_one (ps_ret (pe_and (pe_callB call_isi (by rfl) T.isinstance (by decide +kernel) (pa_cons (pv 0) (pa_cons (pe_bltn (v := .ty "int") (by rfl) T.int (by decide +kernel) rfl) pa_nil))) (pe_and (pe_not (pe_callB call_isi (by rfl) T.isinstance (by decide +kernel) (pa_cons (pv 0) (pa_cons (pe_bltn (v := .ty "bool") (by rfl) T.bool (by decide +kernel) rfl) pa_nil)))) (pe_one (pe_cmpR op_ge (pv 0) pe_int (nomark _))))))), ?_⟩
    refine ⟨_, rfl, _, _, _, _, _, rfl, .ty _, .base (.int _), kit_ty (r := true) (by decide +kernel), _, rfl, iteT ?_⟩
    refine ⟨_, rfl, _, _, _, _, _, rfl, .ty _, .base (.int _), kit_ty (r := false) (by decide +kernel), _, rfl, _, rfl, iteT ?_⟩
    refine ⟨_, rfl, _, _, rfl, rfl, ?_⟩
    have e : decide ((0 : Int) ≤ (n : Int)) = true := decide_eq_true (by omega)
    show Q (.bl (decide ((0 : Int) ≤ (n : Int)))) H
    rw [e]
    exact k
theorem ok_need_whole {P : Program} {w : World} {K : PySem.W.Frag} {mg : Str → Option Value} {base : Heap} {f : Addr} {fd : FuncData} (T : Bt mg) (F : FnP K "need_whole" "need_whole" s_need_whole f fd) (D_is_whole : Dn P w K mg base 1 "is_whole" ["value"] sp_is_whole) : FnOk P w K mg base CX0 2 f fd ["value"] sp_need_whole := by
  have nd := sc_need_whole.nd
  refine fnok F sc_need_whole (fun vs H Q E h => ?_) (fun cdv A outer s H vs Q E hr h => ?_)
  · obtain ⟨n, rfl, _⟩ := h
    rfl
  · obtain ⟨n, rfl, k⟩ := h
    refine ⟨_, (pss_one (ps_if (pt_not (pt_val (pe_d D_is_whole hr (pa_cons (pv 0) pa_nil))))
      (pss_one ps_never)
      pss_nil)), ?_⟩
    exact ⟨_, rfl, n, rfl, _, rfl, iteF k⟩
theorem ok_need_items {P : Program} {w : World} {K : PySem.W.Frag} {mg : Str → Option Value} {base : Heap} {f : Addr} {fd : FuncData} (T : Bt mg) (F : FnP K "need_items" "need_items" s_need_items f fd) : FnOk P w K mg base CX0 1 f fd ["value"] sp_need_items := by
  have nd := sc_need_items.nd
  refine fnok F sc_need_items (fun vs H Q E h => ?_) (fun cdv A outer s H vs Q E hr h => ?_)
  · obtain ⟨a, xs, rfl, _⟩ := h
    rfl
  · obtain ⟨a, xs, rfl, hS, k⟩ := h
    refine ⟨_, (pss_one (ps_if (pt_not (pt_val (pe_callB call_isiT (by rfl) T.isinstance (by decide +kernel) (pa_cons (pv 0) (pa_cons (pe_tup (pa_cons (pe_bltn (v := .ty "list") (by rfl) T.list (by decide +kernel) rfl) (pa_cons (pe_bltn (v := .ty "tuple") (by rfl) T.tuple (by decide +kernel) rfl) pa_nil))) pa_nil)))))
      (pss_one ps_never)
      pss_nil)), ?_⟩
    refine ⟨_, rfl, (by show 2 ≤ sizeLine; decide), fun p hp => ?_⟩
    obtain ⟨t, ht, hk⟩ := (hS.new (o := .tup [.ty "list", .ty "tuple"]) hp).ty (K := K)
    refine ⟨_, _, _, _, _, _, rfl, upd_same, .cons (.ty _) (.cons (.ty _) .nil), ht, hk, _, rfl, iteF ?_⟩
    exact k _ (same_new0 hp)
theorem ok_need_word {P : Program} {w : World} {K : PySem.W.Frag} {mg : Str → Option Value} {base : Heap} {f : Addr} {fd : FuncData} (T : Bt mg) (F : FnP K "need_word" "need_word" s_need_word f fd) (D_is_whole : Dn P w K mg base 1 "is_whole" ["value"] sp_is_whole) : FnOk P w K mg base CX0 2 f fd ["value", "bits"] sp_need_word := by
  have nd := sc_need_word.nd
  refine fnok F sc_need_word (fun vs H Q E h => ?_) (fun cdv A outer s H vs Q E hr h => ?_)
  · obtain ⟨n, b, rfl, _⟩ := h
    rfl
  · obtain ⟨n, b, rfl, hb, k⟩ := h
    refine ⟨_, (pss_one (ps_if (PW.pt (pw_or (pt_not (pt_val (pe_d D_is_whole hr (pa_cons (pv 0) pa_nil)))) (pw_or1 (pt_cmpR op_gt (pe_bits (pv 0)) (pv 1) (nomark _)))))
      (pss_one ps_never)
      pss_nil)), ?_⟩
    refine ⟨_, rfl, n, rfl, _, rfl, iteF ?_⟩
    refine ⟨_, rfl, _, rfl, _, rfl, _, _, rfl, rfl, _, rfl, ?_⟩
    rw [blen_bits]
    have e : decide ((b : Int) < (blen n : Int)) = false := decide_eq_false (by omega)
    rw [e]
    exact iteF k
theorem ok_need_words {P : Program} {w : World} {K : PySem.W.Frag} {mg : Str → Option Value} {base : Heap} {f : Addr} {fd : FuncData} (T : Bt mg) (F : FnP K "need_words" "need_words" s_need_words f fd) (D_need_items : Dn P w K mg base 1 "need_items" ["value"] sp_need_items) (D_need_word : Dn P w K mg base 2 "need_word" ["value", "bits"] sp_need_word) :
    FnOk P w K mg base CX0 3 f fd ["values", "bits"] sp_need_words := by
  have nd := sc_need_words.nd
  refine fnok F sc_need_words (fun vs H Q E h => ?_) (fun cdv A outer s H vs Q E hr h => ?_)
  · obtain ⟨a, ns, b, rfl, _⟩ := h
    rfl
  · obtain ⟨a, ns, b, rfl, hS, hb, k⟩ := h
    refine ⟨_, (pss_cons (ps_expr (pe_d D_need_items hr (pa_cons (pv 0) pa_nil)))
      (pss_cons (ps_for PassesOwn.never rfl (pi_seq (pv 0)) (pg_name (i := 2) nd rfl (Or.inl rfl))
        (pss_one (ps_expr (pe_d D_need_word hr (pa_cons (pv 2) (pa_cons (pv 1) pa_nil))))))
      (pss_one (ps_ret (pe_callTy call_listQ (by rfl) T.list (by decide +kernel) (pa_cons (pv 0) pa_nil)))))), ?_⟩
    refine ⟨_, rfl, a, _, rfl, hS, fun H1 s1 => ?_⟩
    refine ⟨_, rfl, for_seq (K := K) (same_tq s1 hS).sq (fun i σ H2 => ∃ v, σ = [some (.ref a), some (vN b), v] ∧ H2 = H1) ⟨none, rfl, rfl⟩ (fun i σ H2 hp => by obtain ⟨_, _, rfl⟩ := hp; exact Kp.refl _) ?_ ?_⟩
    · rintro i x σ H2 hx ⟨v, rfl, rfl⟩
      obtain ⟨n, hn, rfl⟩ := map_get hx
      exact ⟨_, rfl, _, rfl, n, b, rfl, hb n (List.mem_of_getElem? hn), _, rfl, rfl⟩
    · rintro σ H2 ⟨v, rfl, rfl⟩
      refine ⟨_, rfl, a, _, rfl, (same_tq s1 hS), fun l hl => ?_⟩
      exact k _ _ (same_new s1 hl) (same_free s1 hl) upd_same
end LaneX
set_option Elab.async false
set_option linter.all false
set_option maxRecDepth 100000
set_option maxHeartbeats 4000000
namespace LaneX
open PySem PySem.Spec PyProof.Rows L2
theorem dec_int {a b : Int} : decide (V.int a = V.int b) = decide (a = b) := by
  by_cases h : a = b
  · subst h; simp
  · rw [decide_eq_false h, decide_eq_false (fun e => h (by cases e; rfl))]
theorem dec_nat {a b : Nat} : decide (V.int (a : Int) = V.int (b : Int)) = decide (a = b) := by
  rw [dec_int]
  by_cases h : a = b
  · subst h; simp
  · rw [decide_eq_false h, decide_eq_false (by omega)]
theorem clr_snoc (a : List Nat) (r w : Nat) : clr (a ++ [r]) w = if (clr a w).testBit (blen r - 1) = true then clr a w ^^^ r else clr a w := clr_append a [r] w
theorem dec_zero {n : Nat} (h : decide (V.int (n : Int) = V.int 0) = true) : n = 0 := by
  rw [show (V.int 0 : V) = V.int ((0 : Nat) : Int) from rfl, dec_nat] at h
  exact of_decide_eq_true h
theorem dec_nz {n : Nat} (h : decide (V.int (n : Int) = V.int 0) = false) : n ≠ 0 := by
  rw [show (V.int 0 : V) = V.int ((0 : Nat) : Int) from rfl, dec_nat] at h
  exact of_decide_eq_false h
theorem dec_bit (n b : Nat) : decide (V.int ((n >>> b &&& 1 : Nat) : Int) = V.int 1) = n.testBit b := by
  rw [show (V.int 1 : V) = V.int ((1 : Nat) : Int) from rfl, dec_nat]
  cases q : n.testBit b with
  | true => exact decide_eq_true ((shr_and_one _ _).mpr q)
  | false => exact decide_eq_false fun z => by rw [(shr_and_one _ _).mp z] at q; cases q
theorem size6'' {n : Nat} (h : n ≤ 1000000) : n + 1 ≤ sizeLine := by rw [sizeLine_eq]; omega
def sp_spanned : Sp := fun vs H Q _ => ∃ (a : Addr) (ws : List Nat), vs = [.ref a] ∧ Tq H a (ws.map vN) ∧ ws.length ≤ 1000000 ∧
  ∀ H' p, Same H H' → H p = none → H' p = some (.lst ((spn ws).map vN)) → Q (.ref p) H'
def sp_cleared : Sp := fun vs H Q _ => ∃ (a : Addr) (rows : List Nat) (x : Nat), vs = [.ref a, vN x] ∧ Tq H a (rows.map vN) ∧ (∀ r ∈ rows, r ≠ 0) ∧ Q (vN (clr rows x)) H
def sp_grown : Sp := fun vs H Q _ => ∃ (a : Addr) (rows : List Nat) (x : Nat), vs = [.ref a, vN x] ∧ Tq H a (rows.map vN) ∧ (∀ r ∈ rows, r ≠ 0) ∧ rows.length ≤ 1000000 ∧
  ∀ H' p, Same H H' → H p = none → H' p = some (.lst ((grw rows x).map vN)) → Q (.ref p) H'
section
variable {P : Program} {w : World} {K : PySem.W.Frag} {mg : Str → Option Value} {base : Heap} {f : Addr} {fd : FuncData} (T : Bt mg)
include T
theorem ok_cleared (F : FnP K "cleared" "cleared" s_cleared f fd) : FnOk P w K mg base CX0 1 f fd ["rows", "word"] sp_cleared := by
  have nd := sc_cleared.nd
  refine fnok F sc_cleared (fun vs H Q E h => ?_) (fun cdv A outer s H vs Q E hr h => ?_)
  · obtain ⟨a, rows, x, rfl, _⟩ := h
    rfl
  · obtain ⟨a, rows, x, rfl, hS, hn, k⟩ := h
    refine ⟨_, (pss_cons (ps_set (i := 2) nd rfl (Or.inl rfl) (pv 1))
      (pss_cons (ps_for PassesOwn.never rfl (pi_seq (pv 0)) (pg_name (i := 3) nd rfl (Or.inl rfl))
        (pss_one (ps_if (pt_cmpR op_eq (pe_op on_and (pe_op on_shr (pv 2) (pe_op on_sub (pe_bits (pv 3)) pe_int)) pe_int) pe_int (nomark _))
          (pss_one (ps_set (i := 2) nd rfl (Or.inl rfl) (pe_op on_xor (pv 2) (pv 3))))
          pss_nil)))
      (pss_one (ps_ret (pv 2))))), ?_⟩
    refine ⟨_, rfl, _, rfl, for_seq (K := K) hS.sq (fun i σ H2 => ∃ v, σ = [some (.ref a), some (vN x), some (vN (clr (rows.take i) x)), v] ∧ H2 = H) ⟨none, rfl, rfl⟩ (fun i σ H2 hp => by obtain ⟨_, _, rfl⟩ := hp; exact Kp.refl _) ?_ ?_⟩
    · rintro i y σ H2 hy ⟨v, rfl, rfl⟩
      obtain ⟨r, hr', rfl⟩ := map_get hy
      have rn := hn r (List.mem_of_getElem? hr')
      have rb := blen_pos rn
      refine ⟨_, rfl, _, rfl, _, rfl, _, 1, rfl, rfl, (by show 1 ≤ Builtin.Int.intBits (r : Int); rw [blen_bits]; exact rb), _, _, rfl, rfl, _, 1, rfl, rfl, rfl, _, rfl, ?_⟩
      rw [take_succ hr', clr_snoc]
      rw [blen_bits]
      have e : decide (V.int ((clr (rows.take i) x >>> (blen r - 1) &&& 1 : Nat) : Int) = V.int 1) = (clr (rows.take i) x).testBit (blen r - 1) := by
        rw [show (V.int 1 : V) = V.int ((1 : Nat) : Int) from rfl, dec_nat]
        cases q : (clr (rows.take i) x).testBit (blen r - 1) with
        | true => exact decide_eq_true ((shr_and_one _ _).mpr q)
        | false => exact decide_eq_false fun z => by rw [(shr_and_one _ _).mp z] at q; cases q
      rw [e]
      cases q : (clr (rows.take i) x).testBit (blen r - 1) with
      | true => exact iteT ⟨_, rfl, _, rfl, _, _, rfl, rfl, _, rfl, rfl⟩
      | false => exact iteF ⟨_, rfl, rfl⟩
    · rintro σ H2 ⟨v, rfl, rfl⟩
      refine ⟨_, rfl, ?_⟩
      rw [List.length_map, List.take_length]
      exact k
theorem ok_grown (F : FnP K "grown" "grown" s_grown f fd) (D_cleared : Dn P w K mg base 1 "cleared" ["rows", "word"] sp_cleared) : FnOk P w K mg base CX0 2 f fd ["rows", "word"] sp_grown := by
  have nd := sc_grown.nd
  refine fnok F sc_grown (fun vs H Q E h => ?_) (fun cdv A outer s H vs Q E hr h => ?_)
  · obtain ⟨a, rows, x, rfl, _⟩ := h
    rfl
  · obtain ⟨a, rows, x, rfl, hS, hn, hl, k⟩ := h
    refine ⟨_, (pss_cons (ps_set (i := 2) nd rfl (Or.inr rfl) (pe_d D_cleared hr (pa_cons (pv 0) (pa_cons (pv 1) pa_nil))))
  (pss_cons (ps_if (pt_cmpR op_eq (pv 2) pe_int (nomark _))
    (pss_one (ps_ret (pe_callTy call_listQ (by rfl) T.list (by decide +kernel) (pa_cons (pv 0) pa_nil))))
    pss_nil)
  (pss_cons (ps_set (i := 3) nd rfl (Or.inr rfl) (pe_op on_sub (pe_bits (pv 2)) pe_int))
  (pss_one (ps_ret (pe_callB cr_sortedN (by rfl) T.sorted (by decide +kernel) (pa_cons (pe_op op_cat (pe_lc (own := [("row", 4)]) (g := gName 4) (by rfl) nd (pi_seq (pv 0)) (blkOk_by (own := [("row", 4)]) (N := ["rows", "word", "left", "top", "row"]) (sc := defScope s_grown) (by decide +kernel)) (fun _ _ _ _ _ => (pg_name (i := 4) nd rfl (Or.inl rfl))) (fun _ _ _ _ _ => pts_nil) (fun _ _ _ _ _ => (pe_ifExp (pt_cmpR op_eq (pe_op on_and (pe_op on_shr (pv 4) (pv 3)) pe_int) pe_int (nomark _)) (pe_op on_xor (pv 4) (pv 2)) (pv 4)))) (pe_lst (pa_cons (pv 2) pa_nil))) pa_nil))))))), ?_⟩
    refine ⟨_, rfl, _, rfl, a, rows, x, rfl, hS, hn, ?_⟩
    refine ⟨_, rfl, rfl, _, rfl, ?_⟩
    refine br (fun e => ?_) (fun e => ?_)
    · have e0 : clr rows x = 0 := dec_zero e
      refine ⟨_, rfl, a, _, rfl, hS, fun l hl' => ?_⟩
      refine k _ _ (same_new0 hl') hl' ?_
      rw [grw_eq, if_pos e0]
      exact upd_same
    · have e0 : clr rows x ≠ 0 := dec_nz e
      have eb := blen_pos e0
      refine ⟨_, rfl, _, rfl, _, 1, rfl, rfl, (by show 1 ≤ Builtin.Int.intBits (clr rows x : Int); rw [blen_bits]; exact eb), ?_⟩
      refine ⟨_, rfl, lc_pure rows vN (fun _ => true) (fun r => vN (chg (clr rows x) r)) hS hl (fun n H' hn' s => ?_) (fun D H1 hD s1 h1 => ?_)⟩
      · intro Z Nx h1 h2
        refine ⟨rfl, _, rfl, _, rfl, _, _, rfl, rfl, _, 1, rfl, rfl, rfl, _, rfl, ?_⟩
        rw [blen_bits, dec_bit]
        have z := h1 rfl H' (Same.refl H')
        unfold chg at z
        cases q : n.testBit (blen (clr rows x) - 1) with
        | true =>
          rw [q] at z
          exact iteT ⟨_, rfl, _, rfl, _, _, rfl, rfl, z⟩
        | false =>
          rw [q] at z
          exact iteF ⟨_, rfl, z⟩
      · rw [List.filter_eq_self.mpr (fun _ _ => rfl)] at h1
        refine ⟨_, rfl, (by show 1 ≤ sizeLine; decide), fun l hl' => ?_⟩
        refine ⟨_, _, _, _, rfl, rfl, upd_new hl' h1, upd_same, (by show (rows.map _).length + 1 ≤ _; rw [List.length_map]; exact size6'' hl), fun q hq => ?_⟩
        refine ⟨q, rows.map (chg (clr rows x)) ++ [clr rows x], rfl, ?_, fun p hp => ?_⟩
        · rw [upd_same]
          simp [List.map_append]
        · have s3 := same_new (o := .lst [vN (clr rows x)]) s1 hl'
          have s4 := same_new (o := .lst (rows.map (fun r => vN (chg (clr rows x) r)) ++ [vN (clr rows x)])) s3 hq
          refine k _ _ (same_new s4 hp) (same_free s4 hp) ?_
          rw [upd_same, grw_eq, if_neg e0]
theorem ok_spanned (F : FnP K "spanned" "spanned" s_spanned f fd) (D_grown : Dn P w K mg base 2 "grown" ["rows", "word"] sp_grown) : FnOk P w K mg base CX0 3 f fd ["words"] sp_spanned := by
  have nd := sc_spanned.nd
  refine fnok F sc_spanned (fun vs H Q E h => ?_) (fun cdv A outer s H vs Q E hr h => ?_)
  · obtain ⟨a, ws, rfl, _⟩ := h
    rfl
  · obtain ⟨a, ws, rfl, hS, hl, k⟩ := h
    refine ⟨_, (pss_cons (ps_set (i := 1) nd rfl (Or.inl rfl) (pe_lst pa_nil))
      (pss_cons (ps_for PassesOwn.never rfl (pi_seq (pv 0)) (pg_name (i := 2) nd rfl (Or.inl rfl))
        (pss_one (ps_set (i := 1) nd rfl (Or.inl rfl) (pe_d D_grown hr (pa_cons (pv 1) (pa_cons (pv 2) pa_nil))))))
      (pss_one (ps_ret (pv 1))))), ?_⟩
    refine ⟨(by show 0 ≤ sizeLine; decide), fun l0 hl0 => ?_⟩
    have s0 : Same H (upd H l0 (.lst [])) := same_new0 hl0
    refine ⟨_, rfl, for_seq (K := K) (same_tq s0 hS).sq (fun i σ H2 => ∃ v l, σ = [some (.ref a), some (.ref l), v] ∧ Same (upd H l0 (.lst [])) H2 ∧ H l = none ∧ H2 l = some (.lst ((spn (ws.take i)).map vN))) ⟨none, l0, rfl, Same.refl _, hl0, upd_same⟩ (fun i σ H2 hp => ?_) ?_ ?_⟩
    · obtain ⟨_, l, _, s2, hn, h2⟩ := hp
      exact Kp.of s2
    · rintro i y σ H2 hy ⟨v, l, rfl, s2, hn, h2⟩
      obtain ⟨r, hr', rfl⟩ := map_get hy
      refine ⟨_, rfl, _, rfl, l, _, r, rfl, .inl h2, (spn_rws _).nz, Nat.le_trans (spn_len _) (Nat.le_trans (by rw [List.length_take]; omega) hl), fun H3 p s3 hp h3 => ?_⟩
      refine ⟨_, p, rfl, s2.trans s3, same_free s0 (same_free s2 hp), ?_⟩
      rw [take_succ hr', spn_append]
      exact h3
    · rintro σ H2 ⟨v, l, rfl, s2, hn, h2⟩
      rw [List.length_map, List.take_length] at h2
      exact ⟨_, rfl, k _ _ (s0.trans s2) hn h2⟩
end
end LaneX
set_option Elab.async false
set_option linter.all false
set_option maxRecDepth 100000
set_option maxHeartbeats 4000000
namespace LaneX
open PySem PySem.Spec PyProof.Rows L2
def sp_paired : Sp := fun vs H Q _ => ∃ (a : Addr) (cs : List Nat), vs = [.ref a] ∧ Tq H a (cs.map vN) ∧ cs.length ≤ 1000000 ∧ (∀ c ∈ cs, blen c ≤ 1000000) ∧
  ∀ H' p, Same H H' → H p = none → H' p = some (.lst ((prd cs).map vN)) → Q (.ref p) H'
def sp_kernel_rows : Sp := fun vs H Q _ => ∃ (a : Addr) (cs : List Nat), vs = [.ref a] ∧ Tq H a (cs.map vN) ∧ cs.length ≤ 1000000 ∧ (∀ c ∈ cs, blen c ≤ 1000000) ∧
  ∀ H' p, Same H H' → H p = none → H' p = some (.lst ((ker cs).map vN)) → Q (.ref p) H'
def sp_met : Sp := fun vs H Q _ => ∃ (b : Nat) (a c : Addr) (rs os : List Nat), vs = [vN b, .ref a, .ref c] ∧ Tq H a (rs.map vN) ∧ Tq H c (os.map vN) ∧ b ≤ 1000000 ∧ rs.length ≤ 400000 ∧ os.length ≤ 400000 ∧ (∀ r ∈ rs, blen r ≤ 1000000) ∧ (∀ r ∈ os, blen r ≤ 1000000) ∧
  ∀ H' p, Same H H' → H p = none → H' p = some (.lst ((mtd b rs os).map vN)) → Q (.ref p) H'
theorem shl_ok1 {n m : Nat} (h1 : blen n ≤ 1000000) (h2 : m ≤ 1000000) : CShN n m := by unfold CShN; omega
theorem blen_one : blen 1 = 1 := by decide
theorem dec_le (a b : Nat) : decide ((a : Int) ≤ (b : Int)) = decide (a ≤ b) := by
  by_cases h : a ≤ b
  · rw [decide_eq_true h, decide_eq_true (by omega)]
  · rw [decide_eq_false h, decide_eq_false (by omega)]
theorem filt_true {α : Type} (l : List α) : l.filter (fun _ => true) = l := List.filter_eq_self.mpr fun _ _ => rfl
section
variable {P : Program} {w : World} {K : PySem.W.Frag} {mg : Str → Option Value} {base : Heap} {f : Addr} {fd : FuncData} (T : Bt mg)
include T
theorem ok_paired (F : FnP K "paired" "paired" s_paired f fd) (D_spanned : Dn P w K mg base 3 "spanned" ["words"] sp_spanned) : FnOk P w K mg base CX0 4 f fd ["columns"] sp_paired := by
  have nd := sc_paired.nd
  refine fnok F sc_paired (fun vs H Q E h => ?_) (fun cdv A outer s H vs Q E hr h => ?_)
  · obtain ⟨a, cs, rfl, _⟩ := h
    rfl
  · obtain ⟨a, cs, rfl, hS, hl, hc, k⟩ := h
    refine ⟨_, (pss_cons (ps_set (i := 1) nd rfl (Or.inr rfl) (pe_callB call_lenQ (by rfl) T.len PySem.boot_len (pa_cons (pv 0) pa_nil)))
  (pss_one (ps_ret (pe_d D_spanned hr (pa_cons (pe_lc (own := [("bit", 2)]) (g := gName 2) (by rfl) nd (pi_range1 (by rfl) T.range (pa_cons (pv 1) pa_nil)) (blkOk_by (own := [("bit", 2)]) (N := ["columns", "source", "bit"]) (sc := defScope s_paired) (by decide +kernel)) (fun _ _ _ _ _ => (pg_name (i := 2) nd rfl (Or.inl rfl))) (fun _ _ _ _ _ => pts_nil) (fun _ _ _ _ _ => (pe_op on_add (pe_op on_shl (pe_ix ix_q (pv 0) (pv 2) (fun _ _ => rfl)) (pv 1)) (pe_op on_shl pe_int (pv 2))))) pa_nil))))), ?_⟩
    refine ⟨_, rfl, a, _, rfl, hS, _, rfl, _, rfl, (by omega), (by rw [List.length_map]; omega), lc_pureR (n := (cs.map vN).length) (fun _ => true) (fun i => vN ((cs.getD i 0 <<< cs.length) + (1 <<< i))) (by rw [List.length_map]; exact hl) (fun i H' hi s => ?_) (fun D H1 hD s1 h1 => ?_)⟩
    · intro Z Nx h1 h2
      rw [List.length_map] at hi
      have hg : (cs.map vN)[i]? = some (vN (cs.getD i 0)) := by
        rw [List.getElem?_map, List.getElem?_eq_getElem hi, List.getD_eq_getElem?_getD, List.getElem?_eq_getElem hi]
        rfl
      have hm : cs.getD i 0 ∈ cs := by
        rw [List.getD_eq_getElem?_getD, List.getElem?_eq_getElem hi]
        exact List.getElem_mem hi
      have z := h1 rfl H' (Same.refl H')
      rw [← List.length_map (f := vN)] at z
      exact ⟨rfl, _, rfl, _, rfl, a, _, i, _, rfl, rfl, same_tq s hS, hg, _, rfl, _, _, rfl, rfl, shl_ok1 (hc _ hm) (by rw [List.length_map]; exact hl), _, rfl, 1, _, rfl, rfl, shl_ok1 (by rw [blen_one]; decide) (by omega), _, _, rfl, rfl, z⟩
    · rw [filt_true, List.length_map] at h1
      refine ⟨D, prs cs, rfl, .inl ?_, by simp [prs]; omega, fun H2 p s2 hp h2 => k _ _ (s1.trans s2) (same_free s1 hp) h2⟩
      rw [h1]
      simp [prs]
theorem ok_kernel_rows (F : FnP K "kernel_rows" "kernel_rows" s_kernel_rows f fd) (D_paired : Dn P w K mg base 4 "paired" ["columns"] sp_paired) : FnOk P w K mg base CX0 5 f fd ["columns"] sp_kernel_rows := by
  have nd := sc_kernel_rows.nd
  refine fnok F sc_kernel_rows (fun vs H Q E h => ?_) (fun cdv A outer s H vs Q E hr h => ?_)
  · obtain ⟨a, cs, rfl, _⟩ := h
    rfl
  · obtain ⟨a, cs, rfl, hS, hl, hc, k⟩ := h
    refine ⟨_, (pss_one (ps_ret (pe_lc (own := [("row", 1)]) (g := gName 1) (by rfl) nd (pi_seq (pe_d D_paired hr (pa_cons (pv 0) pa_nil))) (blkOk_by (own := [("row", 1)]) (N := ["columns", "row"]) (sc := defScope s_kernel_rows) (by decide +kernel)) (fun _ _ _ _ _ => (pg_name (i := 1) nd rfl (Or.inl rfl))) (fun _ _ _ _ _ => (pts_one (pt_cmpR op_le (pe_bits (pv 1)) (pe_callB call_lenQ (by rfl) T.len PySem.boot_len (pa_cons (pv 0) pa_nil)) (nomark _)))) (fun _ _ _ _ _ => (pv 1))))), ?_⟩
    refine ⟨_, rfl, a, cs, rfl, hS, hl, hc, fun H1 p s1 hp h1 => ?_⟩
    have hlp : (prd cs).length ≤ 1000000 := Nat.le_trans (spn_len _) (by simp [prs]; exact hl)
    refine lc_pure (prd cs) vN (fun r => decide (blen r ≤ cs.length)) vN (.inl h1) hlp (fun n H' hn s => ?_) (fun D H2 hD s2 h2 => ?_)
    · intro Z Nx z1 z2
      refine ⟨rfl, _, rfl, _, rfl, _, rfl, a, _, rfl, (same_tq (s1.trans s) hS), _, _, rfl, rfl, _, rfl, ?_⟩
      rw [blen_bits, List.length_map, dec_le]
      exact br (fun e => ⟨_, rfl, z1 e _ (Same.refl _)⟩) (fun e => z2 e _ (Same.refl _))
    · exact k _ _ (s1.trans s2) (same_free s1 hD) h2
theorem ok_met (F : FnP K "met" "met" s_met f fd) (D_spanned : Dn P w K mg base 3 "spanned" ["words"] sp_spanned) : FnOk P w K mg base CX0 4 f fd ["bits", "rows", "others"] sp_met := by
  have nd := sc_met.nd
  refine fnok F sc_met (fun vs H Q E h => ?_) (fun cdv A outer s H vs Q E hr h => ?_)
  · obtain ⟨b, a, c, rs, os, rfl, _⟩ := h
    rfl
  · obtain ⟨b, a, c, rs, os, rfl, hA, hC, hb, hl1, hl2, hr1, hr2, k⟩ := h
    refine ⟨_, (pss_cons (ps_set (i := 3) nd rfl (Or.inl rfl) (pe_op op_cat (pe_lc (own := [("row", 4)]) (g := gName 4) (by rfl) nd (pi_seq (pv 1)) (blkOk_by (own := [("row", 4)]) (N := ["bits", "rows", "others", "both", "row"]) (sc := defScope s_met) (by decide +kernel)) (fun _ _ _ _ _ => (pg_name (i := 4) nd rfl (Or.inl rfl))) (fun _ _ _ _ _ => pts_nil) (fun _ _ _ _ _ => (pe_op on_add (pe_op on_shl (pv 4) (pv 0)) (pv 4)))) (pe_lc (own := [("row", 4)]) (g := gName 4) (by rfl) nd (pi_seq (pv 2)) (blkOk_by (own := [("row", 4)]) (N := ["bits", "rows", "others", "both", "row"]) (sc := defScope s_met) (by decide +kernel)) (fun _ _ _ _ _ => (pg_name (i := 4) nd rfl (Or.inl rfl))) (fun _ _ _ _ _ => pts_nil) (fun _ _ _ _ _ => (pe_op on_shl (pv 4) (pv 0))))))
  (pss_one (ps_ret (pe_lc (own := [("row", 4)]) (g := gName 4) (by rfl) nd (pi_seq (pe_d D_spanned hr (pa_cons (pv 3) pa_nil))) (blkOk_by (own := [("row", 4)]) (N := ["bits", "rows", "others", "both", "row"]) (sc := defScope s_met) (by decide +kernel)) (fun _ _ _ _ _ => (pg_name (i := 4) nd rfl (Or.inl rfl))) (fun _ _ _ _ _ => (pts_one (pt_cmpR op_le (pe_bits (pv 4)) (pv 0) (nomark _)))) (fun _ _ _ _ _ => (pv 4)))))), ?_⟩
    refine ⟨_, rfl, lc_pure rs vN (fun _ => true) (fun r => vN ((r <<< b) + r)) hA (by omega) (fun n H' hn s => ?_) (fun D1 H1 hD1 s1 h1 => ?_)⟩
    · intro Z Nx z1 z2
      exact ⟨rfl, _, rfl, _, rfl, _, _, rfl, rfl, shl_ok1 (hr1 n hn) hb, _, rfl, _, _, rfl, rfl, z1 rfl _ (Same.refl _)⟩
    · rw [filt_true] at h1
      refine ⟨_, rfl, lc_pure os vN (fun _ => true) (fun r => vN (r <<< b)) (same_tq s1 hC) (by omega) (fun n H' hn s => ?_) (fun D2 H2 hD2 s2 h2 => ?_)⟩
      · intro Z Nx z1 z2
        exact ⟨rfl, _, rfl, _, rfl, _, _, rfl, rfl, shl_ok1 (hr2 n hn) hb, z1 rfl _ (Same.refl _)⟩
      · rw [filt_true] at h2
        refine ⟨_, _, _, _, rfl, rfl, s2 _ _ h1, h2, (by rw [List.length_map, List.length_map, sizeLine_eq]; omega), fun q hq => ?_⟩
        have s3 := same_new (o := .lst (rs.map (fun r => vN ((r <<< b) + r)) ++ os.map (fun r => vN (r <<< b)))) (s1.trans s2) hq
        refine ⟨_, rfl, q, mts b rs os, rfl, .inl ?_, (by simp [mts]; omega), fun H3 p s4 hp h3 => ?_⟩
        · rw [upd_same]
          simp [mts]
          rfl
        · have hlp : (spn (mts b rs os)).length ≤ 1000000 := Nat.le_trans (spn_len _) (by simp [mts]; omega)
          refine lc_pure (spn (mts b rs os)) vN (fun r => decide (blen r ≤ b)) vN (.inl h3) hlp (fun n H' hn s => ?_) (fun D H4 hD s5 h4 => ?_)
          · intro Z Nx z1 z2
            refine ⟨rfl, _, rfl, _, rfl, _, rfl, _, _, rfl, rfl, _, rfl, ?_⟩
            rw [blen_bits, dec_le]
            exact br (fun e => ⟨_, rfl, z1 e _ (Same.refl _)⟩) (fun e => z2 e _ (Same.refl _))
          · exact k _ _ ((s3.trans s4).trans s5) (same_free (s3.trans s4) hD) h4
end
end LaneX
set_option Elab.async false
set_option linter.all false
set_option maxRecDepth 100000
set_option maxHeartbeats 4000000
namespace LaneX
open PySem PySem.Spec PyProof.Rows L2
/-! ### objects -/
structure ObjT (K : PySem.W.Frag) (C : Addr) : Prop where
  cl : Cls K C
  ha : PySem.W.findIn K (.ref C) "__class__" = some (some (.builtin "object.__class__"))
  hn : PySem.W.specialIn K (.builtin "object.__class__") "__get__" = some (some (.builtin "getset_descriptor.__get__"))
  htk : PySem.W.takesIn K (.builtin "object.__class__") = some true
  hm : PySem.W.mroIn K C (.type "object") = some true
  me : PySem.W.kitOne K (.ref C) (.ref C) = some true
theorem ObjT.ty {K : PySem.W.Frag} {C : Addr} (T : ObjT K C) {H : Hp} {a dx : Addr} {fs : List (Str × V)} (e : H a = some (.ins C dx fs)) : TyX K H (.ref a) (.ref C) := .base (.ins e T.cl T.ha T.hn T.htk T.hm)
structure SpaceT (K : PySem.W.Frag) (mg : Str → Option Value) (C : Addr) : Prop extends ObjT K C where
  gl : mg "Space" = some (.ref C)
  nb : NoAttr K C "bits"
  nr : NoAttr K C "rows"
  nd : NoAttr K C "dimension"
structure SpreadT (K : PySem.W.Frag) (mg : Str → Option Value) (C : Addr) : Prop extends ObjT K C where
  gl : mg "Spread" = some (.ref C)
  nb : NoAttr K C "bits"
  ns : NoAttr K C "slots"
  nl : NoAttr K C "lanes"
def spf (b : Nat) (t : Addr) (d : Nat) : List (Str × V) := [("bits", vN b), ("rows", .ref t), ("dimension", vN d)]
def srf (b : Nat) (s l : Addr) : List (Str × V) := [("bits", vN b), ("slots", .ref s), ("lanes", .ref l)]
theorem spf_b (b : Nat) (t : Addr) (d : Nat) : (spf b t d).lookup ("bits" : Str) = some (vN b) := rfl
theorem spf_r (b : Nat) (t : Addr) (d : Nat) : (spf b t d).lookup ("rows" : Str) = some (.ref t) := rfl
theorem spf_d (b : Nat) (t : Addr) (d : Nat) : (spf b t d).lookup ("dimension" : Str) = some (vN d) := rfl
theorem srf_b (b : Nat) (t d : Addr) : (srf b t d).lookup ("bits" : Str) = some (vN b) := rfl
theorem srf_s (b : Nat) (t d : Addr) : (srf b t d).lookup ("slots" : Str) = some (.ref t) := rfl
theorem srf_l (b : Nat) (t d : Addr) : (srf b t d).lookup ("lanes" : Str) = some (.ref d) := rfl
theorem spf_p (b : Nat) (t : Addr) (d : Nat) : putF "dimension" (vN d) (putF "rows" (.ref t) (putF "bits" (vN b) [])) = spf b t d := rfl
theorem srf_p (b : Nat) (t d : Addr) : putF "lanes" (.ref d) (putF "slots" (.ref t) (putF "bits" (vN b) [])) = srf b t d := rfl
def SpaceAt (C : Addr) (H : Hp) (p : Addr) (b : Nat) (rows : List Nat) : Prop := ∃ dx t, H p = some (.ins C dx (spf b t rows.length)) ∧ H t = some (.tup (rows.map vN))
def SpreadAt (C : Addr) (H : Hp) (p : Addr) (b : Nat) (ss ls : List Nat) : Prop := ∃ dx s l, H p = some (.ins C dx (srf b s l)) ∧ H s = some (.tup (ss.map vN)) ∧ H l = some (.tup (ls.map vN))
theorem SpaceAt.same {C : Addr} {H H' : Hp} {p : Addr} {b : Nat} {rows : List Nat} (h : SpaceAt C H p b rows) (s : Same H H') : SpaceAt C H' p b rows := by
  obtain ⟨dx, t, h1, h2⟩ := h
  exact ⟨dx, t, s _ _ h1, s _ _ h2⟩
theorem SpaceAt.kp {C : Addr} {H H' : Hp} {p : Addr} {b : Nat} {rows : List Nat} (h : SpaceAt C H p b rows) (s : Kp H H') : SpaceAt C H' p b rows := by
  obtain ⟨dx, t, h1, h2⟩ := h
  exact ⟨dx, t, s _ _ h1 rfl, s _ _ h2 rfl⟩
theorem SpreadAt.same {C : Addr} {H H' : Hp} {p : Addr} {b : Nat} {ss ls : List Nat} (h : SpreadAt C H p b ss ls) (s : Same H H') : SpreadAt C H' p b ss ls := by
  obtain ⟨dx, a, l, h1, h2, h3⟩ := h
  exact ⟨dx, a, l, s _ _ h1, s _ _ h2, s _ _ h3⟩
theorem SpreadAt.kp {C : Addr} {H H' : Hp} {p : Addr} {b : Nat} {ss ls : List Nat} (h : SpreadAt C H p b ss ls) (s : Kp H H') : SpreadAt C H' p b ss ls := by
  obtain ⟨dx, a, l, h1, h2, h3⟩ := h
  exact ⟨dx, a, l, s _ _ h1 rfl, s _ _ h2 rfl, s _ _ h3 rfl⟩

/-- a new instance, filled -/
theorem made_same {H H1 : Hp} {x dx C : Addr} (nx : H x = none) (nd : H dx = none) (k : ∀ b o, (upd (upd H dx (.own x)) x (.ins C dx [])) b = some o → b ≠ x → H1 b = some o) : Same H H1 := Same.made nx nd k
def sp_Space (C : Addr) : Sp := fun vs H Q _ => ∃ (p dx : Addr) (b : Nat) (a : Addr) (ws : List Nat), vs = [.ref p, vN b, .ref a] ∧ H p = some (.ins C dx []) ∧ Tq H a (ws.map vN) ∧ (∀ x ∈ ws, blen x ≤ b) ∧ ws.length ≤ 1000000 ∧
  ∀ H', SpaceAt C H' p b (spn ws) → (∀ c o, H c = some o → c ≠ p → H' c = some o) → Q .non H'
def sp_Spread (C : Addr) : Sp := fun vs H Q _ => ∃ (p dx : Addr) (b : Nat) (a c : Addr) (ss ls : List Nat), vs = [.ref p, vN b, .ref a, .ref c] ∧ H p = some (.ins C dx []) ∧ Tq H a (ss.map vN) ∧ Tq H c (ls.map vN) ∧ (∀ x ∈ ss, blen x ≤ b) ∧ (∀ x ∈ ls, blen x ≤ b) ∧
  ss.length ≤ 400000 ∧ ls.length ≤ 400000 ∧ b ≤ rk (ss ++ ls) ∧ ∀ H', SpreadAt C H' p b ss ls → (∀ c o, H c = some o → c ≠ p → H' c = some o) → Q .non H'
def sp_need_space (C : Addr) : Sp := fun vs H Q _ => ∃ (p : Addr) (b : Nat) (rows : List Nat), vs = [.ref p, vN b] ∧ SpaceAt C H p b rows ∧ Q .non H
def sp_any_spread (C : Addr) : Sp := fun vs H Q _ => ∃ (p : Addr) (b : Nat) (ss ls : List Nat), vs = [.ref p] ∧ SpreadAt C H p b ss ls ∧ Q .non H
theorem upd_put {H : Hp} {p a : Addr} {o u : HO} (h : H a = some u) (n : a ≠ p) : upd H p o a = some u := (upd_ne n).trans h
section
variable {P : Program} {w : World} {K : PySem.W.Frag} {mg : Str → Option Value} {base : Heap} {f : Addr} {fd : FuncData} {CS CR : Addr} (T : Bt mg) (TS : SpaceT K mg CS) (TR : SpreadT K mg CR)
include T
include TS in
theorem ok_Space (F : FnP K "__init__" "Space.__init__" s_Space_init f fd) (D_need_whole : Dn P w K mg base 2 "need_whole" ["value"] sp_need_whole) (D_need_words : Dn P w K mg base 3 "need_words" ["values", "bits"] sp_need_words) (D_spanned : Dn P w K mg base 3 "spanned" ["words"] sp_spanned) :
    FnOk P w K mg base CX0 4 f fd ["self", "bits", "words"] (sp_Space CS) := by
  have nd := sc_Space_init.nd
  refine fnok F sc_Space_init (fun vs H Q E h => ?_) (fun cdv A outer s H vs Q E hr h => ?_)
  · obtain ⟨p, dx, b, a, ws, rfl, _⟩ := h
    rfl
  · obtain ⟨p, dx, b, a, ws, rfl, hp, hS, hb, hl, k⟩ := h
    refine ⟨_, (pss_cons (ps_expr (pe_d D_need_whole hr (pa_cons (pv 1) pa_nil)))
  (pss_cons (ps_fld (pv 0) (pv 1) rfl)
  (pss_cons (ps_fld (pv 0) (pe_callTy call_tupleQ (by rfl) T.tuple (by decide +kernel) (pa_cons (pe_d D_spanned hr (pa_cons (pe_d D_need_words hr (pa_cons (pv 2) (pa_cons (pv 1) pa_nil))) pa_nil)) pa_nil)) rfl)
  (pss_one (ps_fld (pv 0) (pe_callB call_lenQ (by rfl) T.len PySem.boot_len (pa_cons (pe_fld (pv 0) rfl) pa_nil)) rfl))))), ?_⟩
    have nap : a ≠ p := by
      rcases hS with h | h
      · exact ne_of h hp (by intro z; cases z)
      · exact ne_of h hp (by intro z; cases z)
    have hS1 : Tq (upd H p (.ins CS dx (putF "bits" (vN b) []))) a (ws.map vN) := hS.elim (fun h => .inl (upd_put h nap)) fun h => .inr (upd_put h nap)
    refine ⟨_, rfl, b, rfl, _, rfl, _, rfl, p, CS, dx, [], rfl, hp, TS.cl, TS.nb, (by decide), ?_⟩
    refine ⟨_, rfl, _, rfl, a, ws, b, rfl, hS1, hb, fun H1 q1 s1 hq1 h1 => ?_⟩
    refine ⟨q1, ws, rfl, .inl h1, hl, fun H2 q2 s2 hq2 h2 => ?_⟩
    refine ⟨q2, _, rfl, h2, fun t ht => ?_⟩
    have hpt : p ≠ t := ne_of_none (s2 _ _ (s1 _ _ upd_same)) ht
    have hp3 : upd H2 t (.tup ((spn ws).map vN)) p = some (.ins CS dx (putF "bits" (vN b) [])) := upd_put (s2 _ _ (s1 _ _ upd_same)) hpt
    refine ⟨_, rfl, p, CS, dx, _, rfl, hp3, TS.cl, TS.nr, (by show 1 < 1000; decide), ?_⟩
    refine ⟨_, rfl, p, CS, dx, _, .ref t, rfl, upd_same, TS.cl, TS.nr, rfl, t, _, rfl, .inr (upd_put upd_same hpt.symm), ?_⟩
    refine ⟨_, rfl, p, CS, dx, _, rfl, upd_same, TS.cl, TS.nd, (by show 2 < 1000; decide), ?_⟩
    refine k _ ⟨dx, t, ?_, upd_put (upd_put upd_same hpt.symm) hpt.symm⟩ fun c o hc hcp => ?_
    · rw [upd_same, List.length_map]
      rfl
    · have e1 : upd H p (.ins CS dx (putF "bits" (vN b) [])) c = some o := upd_put hc hcp
      have e2 := s2 _ _ (s1 _ _ e1)
      exact upd_put (upd_put (upd_put e2 (ne_of_none e2 ht)) hcp) hcp
include TR in
theorem ok_Spread (F : FnP K "__init__" "Spread.__init__" s_Spread_init f fd) (D_need_whole : Dn P w K mg base 2 "need_whole" ["value"] sp_need_whole) (D_need_words : Dn P w K mg base 3 "need_words" ["values", "bits"] sp_need_words) (D_spanned : Dn P w K mg base 3 "spanned" ["words"] sp_spanned) :
    FnOk P w K mg base CX0 4 f fd ["self", "bits", "slots", "lanes"] (sp_Spread CR) := by
  have nd := sc_Spread_init.nd
  refine fnok F sc_Spread_init (fun vs H Q E h => ?_) (fun cdv A outer s H vs Q E hr h => ?_)
  · obtain ⟨p, dx, b, a, c, ss, ls, rfl, _⟩ := h
    rfl
  · obtain ⟨p, dx, b, a, c, ss, ls, rfl, hp, hS, hL, hb1, hb2, hl1, hl2, hk, k⟩ := h
    refine ⟨_, (pss_cons (ps_expr (pe_d D_need_whole hr (pa_cons (pv 1) pa_nil)))
  (pss_cons (ps_fld (pv 0) (pv 1) rfl)
  (pss_cons (ps_fld (pv 0) (pe_callTy call_tupleQ (by rfl) T.tuple (by decide +kernel) (pa_cons (pe_d D_need_words hr (pa_cons (pv 2) (pa_cons (pv 1) pa_nil))) pa_nil)) rfl)
  (pss_cons (ps_fld (pv 0) (pe_callTy call_tupleQ (by rfl) T.tuple (by decide +kernel) (pa_cons (pe_d D_need_words hr (pa_cons (pv 3) (pa_cons (pv 1) pa_nil))) pa_nil)) rfl)
  (pss_cons (ps_set (i := 4) nd rfl (Or.inl rfl) (pe_d D_spanned hr (pa_cons (pe_op op_cat (pe_callTy call_listQ (by rfl) T.list (by decide +kernel) (pa_cons (pe_fld (pv 0) rfl) pa_nil)) (pe_callTy call_listQ (by rfl) T.list (by decide +kernel) (pa_cons (pe_fld (pv 0) rfl) pa_nil))) pa_nil)))
  (pss_one (ps_if (pt_cmpR op_lt (pe_callB call_lenQ (by rfl) T.len PySem.boot_len (pa_cons (pv 4) pa_nil)) (pv 1) (nomark _))
    (pss_one ps_never)
    pss_nil))))))), ?_⟩
    have tqp : ∀ {H0 : Hp} {o : HO} {d : Addr} {fs : List (Str × V)} {e : Addr} {xs : List V}, Tq H0 e xs → H0 p = some (.ins CR d fs) → Tq (upd H0 p o) e xs := fun {H0 o d fs e xs} h hp => by
      rcases h with h | h
      · exact .inl (upd_put h (ne_of h hp (by intro z; cases z)))
      · exact .inr (upd_put h (ne_of h hp (by intro z; cases z)))
    refine ⟨_, rfl, b, rfl, _, rfl, _, rfl, p, CR, dx, [], rfl, hp, TR.cl, TR.nb, (by decide), ?_⟩
    refine ⟨_, rfl, _, rfl, a, ss, b, rfl, tqp hS hp, hb1, fun H1 q1 s1 hq1 h1 => ?_⟩
    refine ⟨q1, _, rfl, h1, fun t ht => ?_⟩
    have hpt : p ≠ t := ne_of_none (s1 _ _ upd_same) ht
    have hp1 : upd H1 t (.tup (ss.map vN)) p = some (.ins CR dx (putF "bits" (vN b) [])) := upd_put (s1 _ _ upd_same) hpt
    refine ⟨_, rfl, p, CR, dx, _, rfl, hp1, TR.cl, TR.ns, (by show 1 < 1000; decide), ?_⟩
    refine ⟨_, rfl, _, rfl, c, ls, b, rfl, tqp (same_tq (same_new s1 ht) (tqp hL hp)) hp1, hb2, fun H2 q2 s2 hq2 h2 => ?_⟩
    refine ⟨q2, _, rfl, h2, fun u hu => ?_⟩
    have hpu : p ≠ u := ne_of_none (s2 _ _ upd_same) hu
    have htu : t ≠ u := ne_of_none (s2 _ _ (upd_put upd_same hpt.symm)) hu
    have hp2 : upd H2 u (.tup (ls.map vN)) p = some (.ins CR dx (putF "slots" (.ref t) (putF "bits" (vN b) []))) := upd_put (s2 _ _ upd_same) hpu
    refine ⟨_, rfl, p, CR, dx, _, rfl, hp2, TR.cl, TR.nl, (by show 2 < 1000; decide), ?_⟩
    have ht3 : upd (upd H2 u (.tup (ls.map vN))) p (.ins CR dx (srf b t u)) t = some (.tup (ss.map vN)) := upd_put (upd_put (s2 _ _ (upd_put upd_same hpt.symm)) htu) hpt.symm
    have hu3 : upd (upd H2 u (.tup (ls.map vN))) p (.ins CR dx (srf b t u)) u = some (.tup (ls.map vN)) := upd_put upd_same hpu.symm
    have fin : ∀ cc o, H cc = some o → cc ≠ p → upd (upd H2 u (.tup (ls.map vN))) p (.ins CR dx (srf b t u)) cc = some o := fun cc o hc hcp => by
      have e1 : upd H p (.ins CR dx (putF "bits" (vN b) [])) cc = some o := upd_put hc hcp
      have e2 := s1 _ _ e1
      have e3 : upd (upd H1 t (.tup (ss.map vN))) p (.ins CR dx (putF "slots" (.ref t) (putF "bits" (vN b) []))) cc = some o := upd_put (upd_put e2 (ne_of_none e2 ht)) hcp
      have e4 := s2 _ _ e3
      exact upd_put (upd_put e4 (ne_of_none e4 hu)) hcp
    refine ⟨_, rfl, p, CR, dx, srf b t u, .ref t, rfl, upd_same, TR.cl, TR.ns, rfl, t, _, rfl, .inr ht3, fun l1 hl1' => ?_⟩
    refine ⟨_, rfl, p, CR, dx, srf b t u, .ref u, rfl, upd_new hl1' upd_same, TR.cl, TR.nl, rfl, u, _, rfl, .inr (upd_new hl1' hu3), fun l2 hl2' => ?_⟩
    refine ⟨l1, l2, _, _, rfl, rfl, upd_new hl2' upd_same, upd_same, (by rw [List.length_map, List.length_map, sizeLine_eq]; omega), fun l3 hl3' => ?_⟩
    refine ⟨l3, ss ++ ls, rfl, .inl (by rw [upd_same, List.map_append]), (by rw [List.length_append]; omega), fun H4 q4 s4 hq4 h4 => ?_⟩
    refine ⟨_, rfl, q4, _, rfl, .inl h4, _, rfl, _, _, rfl, rfl, _, rfl, ?_⟩
    have e : decide ((((spn (ss ++ ls)).map vN).length : Int) < (b : Int)) = false := decide_eq_false (by rw [List.length_map]; have : b ≤ (spn (ss ++ ls)).length := hk; omega)
    rw [e]
    refine iteF ?_
    have sN : Same (upd (upd H2 u (.tup (ls.map vN))) p (.ins CR dx (srf b t u))) H4 := ((same_new (same_new (same_new0 hl1') hl2') hl3').trans s4)
    exact k _ ⟨dx, t, u, sN _ _ upd_same, sN _ _ ht3, sN _ _ hu3⟩ fun cc o hc hcp => sN _ _ (fin cc o hc hcp)
end
end LaneX
set_option Elab.async false
set_option linter.all false
set_option maxRecDepth 100000
set_option maxHeartbeats 4000000
namespace LaneX
open PySem PySem.Spec PyProof.Rows L2
theorem mk_Space {C : Addr} {H1 : Hp} {b : Nat} {a : Addr} {ws : List Nat} {Q : VK} {E : XK} (hS : Tq H1 a (ws.map vN)) (hb : ∀ x ∈ ws, blen x ≤ b) (hl : ws.length ≤ 1000000) (k : ∀ H' p, Same H1 H' → H1 p = none → SpaceAt C H' p b (spn ws) → Q (.ref p) H') :
    ∀ x dx, H1 x = none → H1 dx = none → dx ≠ x → sp_Space C (.ref x :: ([vN b, .ref a] ++ [])) (upd (upd H1 dx (.own x)) x (.ins C dx [])) (fun v H2 => v = .non ∧ Q (.ref x) H2) E := by
  intro x dx nx ndx ne
  have nx' : upd H1 dx (.own x) x = none := (upd_ne ne.symm).trans nx
  refine ⟨x, dx, b, a, ws, rfl, upd_same, (hS.new ndx).new nx', hb, hl, fun H' hA kp => ⟨rfl, k _ _ (made_same nx ndx kp) nx hA⟩⟩
theorem mk_Spread {C : Addr} {H1 : Hp} {b : Nat} {a c : Addr} {ss ls : List Nat} {Q : VK} {E : XK} (hS : Tq H1 a (ss.map vN)) (hL : Tq H1 c (ls.map vN)) (wf : WfR b ss ls) (hk : b ≤ rk (ss ++ ls)) (k : ∀ H' p, Same H1 H' → H1 p = none → SpreadAt C H' p b ss ls → Q (.ref p) H') :
    ∀ x dx, H1 x = none → H1 dx = none → dx ≠ x → sp_Spread C (.ref x :: ([vN b, .ref a, .ref c] ++ [])) (upd (upd H1 dx (.own x)) x (.ins C dx [])) (fun v H2 => v = .non ∧ Q (.ref x) H2) E := by
  intro x dx nx ndx ne
  have nx' : upd H1 dx (.own x) x = none := (upd_ne ne.symm).trans nx
  refine ⟨x, dx, b, a, c, ss, ls, rfl, upd_same, (hS.new ndx).new nx', (hL.new ndx).new nx', wf.s, wf.l, wf.sl, wf.ll, hk, fun H' hA kp => ⟨rfl, k _ _ (made_same nx ndx kp) nx hA⟩⟩
/-- a def that gives a new Space -/
def spNewSpace (C : Addr) (b : Nat) (rows : List Nat) (H : Hp) (Q : VK) : Prop := ∀ H' p, Same H H' → H p = none → SpaceAt C H' p b rows → Q (.ref p) H'
def sp_every (C : Addr) : Sp := fun vs H Q _ => ∃ b : Nat, vs = [vN b] ∧ b ≤ 400000 ∧ spNewSpace C b (spn ((List.range b).map fun i => 1 <<< i)) H Q
def sp_and (C : Addr) : Sp := fun vs H Q _ => ∃ (p q : Addr) (b : Nat) (rs os : List Nat), vs = [.ref p, .ref q] ∧ SpaceAt C H p b rs ∧ SpaceAt C H q b os ∧ WfS b rs ∧ WfS b os ∧ spNewSpace C b (spn (mtd b rs os)) H Q
def sp_completing (C : Addr) : Sp := fun vs H Q _ => ∃ (p q : Addr) (b : Nat) (rs os : List Nat), vs = [.ref p, .ref q] ∧ SpaceAt C H p b rs ∧ SpaceAt C H q b os ∧ WfS b rs ∧ WfS b os ∧ ∀ H' t, Same H H' → H t = none → H' t = some (.tup ((cmpl rs os).map vN)) → Q (.ref t) H'
def sp_slot_space (CS CR : Addr) : Sp := fun vs H Q _ => ∃ (p : Addr) (b : Nat) (ss ls : List Nat), vs = [.ref p] ∧ SpreadAt CR H p b ss ls ∧ WfR b ss ls ∧ spNewSpace CS b (spn ss) H Q
def sp_twins (CS CR : Addr) : Sp := fun vs H Q _ => ∃ (p : Addr) (b : Nat) (ss ls : List Nat), vs = [.ref p] ∧ SpreadAt CR H p b ss ls ∧ WfR b ss ls ∧ spNewSpace CS ls.length (twn ss ls) H Q
def sp_need_pair (CS CR : Addr) : Sp := fun vs H Q _ => ∃ (p q : Addr) (b : Nat) (ss ls rows : List Nat), vs = [.ref p, .ref q] ∧ SpreadAt CR H p b ss ls ∧ SpaceAt CS H q b rows ∧ Q .non H
/-- what a spread and a space ask -/
def spPair (CS CR : Addr) (k : Nat → List Nat → List Nat → List Nat → Hp → VK → Prop) : Sp := fun vs H Q _ => ∃ (p q : Addr) (b : Nat) (ss ls rows : List Nat), vs = [.ref p, .ref q] ∧ SpreadAt CR H p b ss ls ∧ SpaceAt CS H q b rows ∧ WfR b ss ls ∧ WfS b rows ∧ k b ss ls rows H Q
def sp_partner_rows (CS CR : Addr) : Sp := spPair CS CR fun b ss ls rows H Q => ∀ H' t, Same H H' → H t = none → H' t = some (.lst ((prw ss ls rows).map vN)) → Q (.ref t) H'
def sp_partners (CS CR : Addr) : Sp := spPair CS CR fun b ss ls rows H Q => spNewSpace CS ls.length (prt ss ls rows) H Q
def sp_leaders (CS CR : Addr) : Sp := spPair CS CR fun b ss ls rows H Q => ∀ H' t, Same H H' → H t = none → H' t = some (.lst ((ldr ss ls rows).map vN)) → Q (.ref t) H'
def sp_kept_bits (CS CR : Addr) : Sp := spPair CS CR fun b ss ls rows H Q => ∀ H', Same H H' → Q (.int (kpt b ss rows)) H'
def sp_sum_rounds (CS CR : Addr) : Sp := spPair CS CR fun b ss ls rows H Q => ∀ H', Same H H' → Q (vN (smr b ss ls rows)) H'
def sp_sum_steps (CS CR : Addr) : Sp := spPair CS CR fun b ss ls rows H Q => ∀ H' t, Same H H' → H t = none → H' t = some (.tup ((ldr ss ls rows).map vN)) → Q (.ref t) H'
def sp_rounds_for : Sp := fun vs H Q _ => ∃ n m : Nat, vs = [vN n, vN m] ∧ n ≤ 400000 ∧ m ≤ 400000 ∧ Q (vN (rdf n m)) H
theorem dec_ne0 {n : Nat} : (!decide (V.int (n : Int) = V.int 0)) = !decide (n = 0) := by
  rw [show (V.int 0 : V) = V.int ((0 : Nat) : Int) from rfl, dec_nat]
section
variable {P : Program} {w : World} {K : PySem.W.Frag} {mg : Str → Option Value} {base : Heap} {f : Addr} {fd : FuncData} {CS CR : Addr} (T : Bt mg) (TS : SpaceT K mg CS) (TR : SpreadT K mg CR)
include T
include TS in
theorem ok_need_space (F : FnP K "need_space" "need_space" s_need_space f fd) : FnOk P w K mg base CX0 1 f fd ["value", "bits"] (sp_need_space CS) := by
  have nd := sc_need_space.nd
  refine fnok F sc_need_space (fun vs H Q E h => ?_) (fun cdv A outer s H vs Q E hr h => ?_)
  · obtain ⟨p, b, rows, rfl, _⟩ := h
    rfl
  · obtain ⟨p, b, rows, rfl, ⟨dx, t, h1, h2⟩, k⟩ := h
    refine ⟨_, (pss_one (ps_if (PW.pt (pw_or (pt_not (pt_val (pe_callB call_isi (by rfl) T.isinstance (by decide +kernel) (pa_cons (pv 0) (pa_cons (pe_glob (v := .ref CS) (by rfl) TS.gl rfl) pa_nil))))) (pw_or1 (pt_cmpR op_ne (pe_fld (pv 0) rfl) (pv 1) (nomark _)))))
    (pss_one ps_never)
    pss_nil)), ?_⟩
    refine ⟨_, rfl, _, _, _, _, _, rfl, .own _, TS.ty h1, TS.me, _, rfl, iteF ?_⟩
    refine ⟨_, rfl, p, CS, dx, _, vN b, rfl, h1, TS.cl, TS.nb, rfl, _, rfl, rfl, _, rfl, ?_⟩
    rw [show (!decide (vN b = vN b)) = false by simp]
    exact iteF k
include TR in
theorem ok_any_spread (F : FnP K "any_spread" "any_spread" s_any_spread f fd) : FnOk P w K mg base CX0 1 f fd ["value"] (sp_any_spread CR) := by
  have nd := sc_any_spread.nd
  refine fnok F sc_any_spread (fun vs H Q E h => ?_) (fun cdv A outer s H vs Q E hr h => ?_)
  · obtain ⟨p, b, ss, ls, rfl, _⟩ := h
    rfl
  · obtain ⟨p, b, ss, ls, rfl, ⟨dx, t, u, h1, h2, h3⟩, k⟩ := h
    refine ⟨_, (pss_one (ps_if (pt_not (pt_val (pe_callB call_isi (by rfl) T.isinstance (by decide +kernel) (pa_cons (pv 0) (pa_cons (pe_glob (v := .ref CR) (by rfl) TR.gl rfl) pa_nil)))))
    (pss_one ps_never)
    pss_nil)), ?_⟩
    exact ⟨_, rfl, _, _, _, _, _, rfl, .own _, TR.ty h1, TR.me, _, rfl, iteF k⟩
include TS in
theorem ok_and (F : FnP K "__and__" "Space.__and__" s_Space_and f fd) (D_need_space : Dn P w K mg base 1 "need_space" ["value", "bits"] (sp_need_space CS)) (D_met : Dn P w K mg base 4 "met" ["bits", "rows", "others"] sp_met) (K_Space : Kn P w K mg base 4 CS "Space" ["self", "bits", "words"] (sp_Space CS)) :
    FnOk P w K mg base CX0 6 f fd ["self", "other"] (sp_and CS) := by
  have nd := sc_Space_and.nd
  refine fnok F sc_Space_and (fun vs H Q E h => ?_) (fun cdv A outer s H vs Q E hr h => ?_)
  · obtain ⟨p, q, b, rs, os, rfl, _⟩ := h
    rfl
  · obtain ⟨p, q, b, rs, os, rfl, hp, hq, w1, w2, k⟩ := h
    refine ⟨_, (pss_cons (ps_expr (pe_d D_need_space hr (pa_cons (pv 1) (pa_cons (pe_fld (pv 0) rfl) pa_nil))))
  (pss_one (ps_ret (pe_k K_Space hr (pa_cons (pe_fld (pv 0) rfl) (pa_cons (pe_d D_met hr (pa_cons (pe_fld (pv 0) rfl) (pa_cons (pe_fld (pv 0) rfl) (pa_cons (pe_fld (pv 1) rfl) pa_nil)))) pa_nil)))))), ?_⟩
    obtain ⟨dx, t, h1, h2⟩ := hp
    have hq' := hq
    obtain ⟨dy, u, g1, g2⟩ := hq
    refine ⟨_, rfl, _, rfl, p, CS, dx, _, vN b, rfl, h1, TS.cl, TS.nb, rfl, q, b, os, rfl, hq', ?_⟩
    refine ⟨_, rfl, p, CS, dx, _, vN b, rfl, h1, TS.cl, TS.nb, rfl, _, rfl, p, CS, dx, _, vN b, rfl, h1, TS.cl, TS.nb, rfl, _, rfl, p, CS, dx, _, .ref t, rfl, h1, TS.cl, TS.nr, rfl, _, rfl, q, CS, dy, _, .ref u, rfl, g1, TS.cl, TS.nr, rfl, ?_⟩
    have bb := w1.bb
    refine ⟨b, t, u, rs, os, rfl, .inr h2, .inr g2, by omega, w1.len, w2.len, fun r hr => Nat.le_trans (w1.b r hr) (by omega), fun r hr => Nat.le_trans (w2.b r hr) (by omega), fun H1 q1 s1 hq1 h3 => ?_⟩
    exact mk_Space (.inl h3) (mtd_blen _ _ _) (Nat.le_trans ((mtd_rws b rs os).len_le (mtd_blen _ _ _)) (by omega)) (fun H' p s2 hp hA => k _ _ (s1.trans s2) (same_free s1 hp) hA)
end
end LaneX
set_option Elab.async false
set_option linter.all false
set_option maxRecDepth 100000
set_option maxHeartbeats 4000000
namespace LaneX
open PySem PySem.Spec PyProof.Rows L2
/-! ### draws -/
abbrev ka : Str := "cells"
abbrev kb : Str := "stop"
abbrev kc : Str := "left"
theorem kN : PenN ka kb kc := ⟨by decide +kernel, by decide +kernel, by decide +kernel⟩
abbrev Pn (H : Hp) (p lc : Addr) (N : Nat) : Prop := PenAt ka kb kc H p lc N
/-- the most draws -/
abbrev TOP : Nat := 1099511627776
theorem md_lt {i : Int} {m : Nat} (h : 0 < m) (hm : m ≤ 2 ^ 64) : (i % (m : Int)).toNat < 2 ^ 64 := by
  have := Int.emod_lt_of_pos i (b := (m : Int)) (by omega)
  have h2 := Int.emod_nonneg i (b := (m : Int)) (by omega)
  have h3 : m ≤ 18446744073709551616 := hm
  show _ < 18446744073709551616
  omega
theorem mn_lt {i m : Nat} (h : 0 < m) (hm : m ≤ 2 ^ 64) : i % m < 2 ^ 64 := Nat.lt_of_lt_of_le (Nat.mod_lt _ h) hm
def sp_draw : Sp := fun vs H Q _ => ∃ (p lc : Addr) (N sp : Nat), vs = [.ref p, vN sp] ∧ Pn H p lc N ∧ 0 < sp ∧ sp < 1073741824 ∧ N + 1 ≤ TOP ∧ ∀ H' r, r < sp → Pn H' p lc (N + 1) → Kp H H' → Q (vN r) H'
section
variable {P : Program} {w : World} {K : PySem.W.Frag} {mg : Str → Option Value} {base : Heap} {f : Addr} {fd : FuncData} (T : Bt mg)
include T
theorem ok_draw (F : FnP K "_law_draw" "_law_draw" s_drawL f fd) : FnOk P w K mg base CX0 1 f fd ["_law_pen", "_law_span"] sp_draw := by
  have nd := sc_drawL.nd
  refine fnok F sc_drawL (fun vs H Q E h => ?_) (fun cdv A outer s H vs Q E hr h => ?_)
  · obtain ⟨p, lc, N, sp, rfl, _⟩ := h
    rfl
  · obtain ⟨p, lc, N, sp, rfl, ⟨cs, n, m, hp, hlc, hn⟩, hs0, hs1, hN, k⟩ := h
    have hu := hu_of hr
    refine ⟨_, (pss_cons (ps_if (pt_cmpR op_gt (pe_dget hu (pv 0) pe_str (fun _ _ => rfl)) pe_int (nomark _))
    (pss_cons (ps_set (i := 2) nd rfl (Or.inl rfl) (pe_op on_mod (pe_callTy call_intQ (by rfl) T.int (by decide +kernel) (pa_cons (pe_dget hu (pv 0) pe_str (fun _ _ => rfl)) pa_nil)) (pv 1)))
    (pss_cons (ps_dput hu (pv 0) pe_str (pe_op on_fdiv (pe_dget hu (pv 0) pe_str (fun _ _ => rfl)) (pv 1)) rfl)
    (pss_one (ps_ret (pv 2)))))
    pss_nil)
  (pss_cons (ps_set (i := 3) nd rfl (Or.inl rfl) (pe_dget hu (pv 0) pe_str (fun _ _ => rfl)))
  (pss_cons (ps_dput hu (pv 0) pe_str (pe_op on_add (pv 3) pe_int) rfl)
  (pss_cons (ps_set (i := 4) nd rfl (Or.inl rfl) (pe_op on_add (pe_op on_mul pe_int (pv 3)) pe_int))
  (pss_cons (ps_if (pt_cmpR (op_neL hr.units) (pe_dget hu (pv 0) pe_str (fun _ _ => rfl)) (pe_lst pa_nil) (nomark _))
    (pss_one (ps_set (i := 4) nd rfl (Or.inl rfl) (pe_ix ix_q (pe_dget hu (pv 0) pe_str (fun _ _ => rfl)) (pe_op on_mod (pe_callTy call_intQ (by rfl) T.int (by decide +kernel) (pa_cons (pv 3) pa_nil)) (pe_callB call_lenQ (by rfl) T.len PySem.boot_len (pa_cons (pe_dget hu (pv 0) pe_str (fun _ _ => rfl)) pa_nil))) (fun _ _ => rfl))))
    pss_nil)
  (pss_cons (ps_if (PW.pt (pw_and (pt_cmpR op_lt (pv 3) (pe_callB call_lenQ (by rfl) T.len PySem.boot_len (pa_cons (pe_dget hu (pv 0) pe_str (fun _ _ => rfl)) pa_nil)) (nomark _)) (pw_and1 (pt_cmpR op_ge (pe_callB call_absN (by rfl) T.abs (by decide +kernel) (pa_cons (pv 4) pa_nil)) (pe_op on_pow pe_int pe_int) (nomark _)))))
    (pss_cons (ps_dput hu (pv 0) pe_str (pe_op on_fdiv (pe_op on_sub (pe_callB call_absN (by rfl) T.abs (by decide +kernel) (pa_cons (pv 4) pa_nil)) (pe_op on_pow pe_int pe_int)) (pv 1)) rfl)
    (pss_one (ps_ret (pe_op on_mod (pe_callTy call_intQ (by rfl) T.int (by decide +kernel) (pa_cons (pe_op on_sub (pe_callB call_absN (by rfl) T.abs (by decide +kernel) (pa_cons (pv 4) pa_nil)) (pe_op on_pow pe_int pe_int)) pa_nil)) (pv 1)))))
    pss_nil)
  (pss_cons (ps_set (i := 5) nd rfl (Or.inl rfl) (pe_op on_add (pe_op on_mul (pe_op on_modI (pe_callTy call_intQ (by rfl) T.int (by decide +kernel) (pa_cons (pv 4) pa_nil)) pe_int) pe_int) (pe_op on_mul (pe_op on_mul pe_int (pv 3)) (pv 3))))
  (pss_cons (ps_set (i := 5) nd rfl (Or.inl rfl) (pe_op on_mod (pe_callTy call_intQ (by rfl) T.int (by decide +kernel) (pa_cons (pe_op on_add (pe_op on_add (pv 5) (pe_op on_mul pe_int (pv 3))) pe_int) pa_nil)) pe_int))
  (pss_cons (ps_set (i := 5) nd rfl (Or.inl rfl) (pe_op on_mod (pe_callTy call_intQ (by rfl) T.int (by decide +kernel) (pa_cons (pe_op on_add (pe_op on_add (pe_op on_add (pe_op on_mul (pv 5) (pv 5)) (pe_op on_mul pe_int (pv 5))) (pe_op on_mul pe_int (pv 3))) pe_int) pa_nil)) pe_int))
  (pss_cons (ps_set (i := 5) nd rfl (Or.inl rfl) (pe_op on_mod (pe_callTy call_intQ (by rfl) T.int (by decide +kernel) (pa_cons (pe_op on_add (pe_op on_add (pe_op on_mul (pv 5) (pv 5)) (pe_op on_mul pe_int (pv 5))) (pv 3)) pa_nil)) pe_int))
  (pss_one (ps_ret (pe_op on_mod (pe_callTy call_intQ (by rfl) T.int (by decide +kernel) (pa_cons (pe_op on_fdiv (pe_op on_mod (pe_callTy call_intQ (by rfl) T.int (by decide +kernel) (pa_cons (pe_op on_mul (pv 5) (pe_op on_add (pv 5) pe_int)) pa_nil)) pe_int) pe_int) pa_nil)) (pv 1)))))))))))))), ?_⟩
    have gA : ∀ (H0 : Hp) (n0 m0 : Nat), H0 p = some (.dK (pen ka kb kc lc n0 m0)) → DGet H0 p (.str ka) (some (.ref lc)) := fun H0 n0 m0 h => by have z := DGet.k (k := .inr ka) h; rw [pen_a] at z; exact z
    have gB : ∀ (H0 : Hp) (n0 m0 : Nat), H0 p = some (.dK (pen ka kb kc lc n0 m0)) → DGet H0 p (.str kb) (some (vN n0)) := fun H0 n0 m0 h => by have z := DGet.k (k := .inr kb) h; rw [pen_b kN] at z; exact z
    have gC : ∀ (H0 : Hp) (n0 m0 : Nat), H0 p = some (.dK (pen ka kb kc lc n0 m0)) → DGet H0 p (.str kc) (some (vN m0)) := fun H0 n0 m0 h => by have z := DGet.k (k := .inr kc) h; rw [pen_c kN] at z; exact z
    have pB : ∀ (H0 : Hp) (n0 m0 k0 : Nat), H0 p = some (.dK (pen ka kb kc lc n0 m0)) → DPut H0 p (.str kb) (vN k0) (upd H0 p (.dK (pen ka kb kc lc k0 m0))) := fun H0 n0 m0 k0 h => by have z := DPut.k (k := .inr kb) (v := vN k0) h (pen_len n0 m0); rw [pen_pb kN] at z; exact z
    have pC : ∀ (H0 : Hp) (n0 m0 k0 : Nat), H0 p = some (.dK (pen ka kb kc lc n0 m0)) → DPut H0 p (.str kc) (vN k0) (upd H0 p (.dK (pen ka kb kc lc n0 k0))) := fun H0 n0 m0 k0 h => by have z := DPut.k (k := .inr kc) (v := vN k0) h (pen_len n0 m0); rw [pen_pc kN] at z; exact z
    have hlp : lc ≠ p := ne_of hlc hp (by intro z; cases z)
    have kpU : ∀ (H0 : Hp) (n0 m0 n1 m1 : Nat), H0 p = some (.dK (pen ka kb kc lc n0 m0)) → Kp H0 (upd H0 p (.dK (pen ka kb kc lc n1 m1))) := fun H0 n0 m0 n1 m1 h => by
      refine ⟨fun b o hb ho => ?_, fun b hb => upd_free hb⟩
      refine (upd_ne fun z => ?_).trans hb
      rw [z, h] at hb
      cases hb
      cases ho
    refine ⟨_, rfl, p, vN m, rfl, gC _ _ _ hp, _, _, rfl, rfl, _, rfl, br (fun e => ?_) (fun e => ?_)⟩
    · -- a digit is left
      refine ⟨_, rfl, p, vN m, rfl, gC _ _ _ hp, _, rfl, _, rfl, m, sp, rfl, rfl, hs0, ?_⟩
      refine ⟨_, rfl, p, vN m, rfl, gC _ _ _ hp, _, rfl, m, sp, rfl, rfl, ⟨hs0, hs1⟩, _, rfl, p, _, rfl, pC _ _ _ _ hp, ?_⟩
      exact ⟨_, rfl, k _ _ (Nat.mod_lt _ hs0) ⟨cs, n, m / sp, upd_same, (upd_ne hlp).trans hlc, by omega⟩ (kpU _ _ _ _ _ hp)⟩
    · have hN' : N + 1 ≤ 1099511627776 := hN
      refine ⟨_, rfl, p, vN n, rfl, gB _ _ _ hp, ?_⟩
      refine ⟨_, rfl, n, 1, rfl, rfl, _, rfl, p, _, rfl, pB _ _ _ _ hp, ?_⟩
      refine ⟨_, rfl, 83, n, rfl, rfl, (by decide), 83 * n, 59, rfl, rfl, ?_⟩
      generalize hH1 : upd H p (.dK (pen ka kb kc lc (n + 1) m)) = H1
      have kp1 : Kp H H1 := by rw [← hH1]; exact kpU _ _ _ _ _ hp
      have hp1 : H1 p = some (.dK (pen ka kb kc lc (n + 1) m)) := by rw [← hH1]; exact upd_same
      have hl1 : H1 lc = some (.lst (cs.map V.int)) := kp1 _ _ hlc rfl
      refine ⟨_, rfl, p, .ref lc, rfl, gA _ _ _ hp1, (by decide), fun q hq => ?_⟩
      have hp2 : upd H1 q (.lst []) p = some (.dK (pen ka kb kc lc (n + 1) m)) := upd_new hq hp1
      have hl2 : upd H1 q (.lst []) lc = some (.lst (cs.map V.int)) := upd_new hq hl1
      have kp2 : Kp H (upd H1 q (.lst [])) := kp_new kp1 hq
      refine ⟨lc, q, cs, [], rfl, rfl, hl2, upd_same, _, rfl, br (fun e1 => ?_) (fun e1 => ?_)⟩
      · have hne : 0 < cs.length := List.length_pos_iff.mpr (by simpa using e1)
        have hix : n % cs.length < cs.length := Nat.mod_lt _ hne
        refine ⟨_, rfl, p, .ref lc, rfl, gA _ _ _ hp2, _, rfl, _, rfl, _, rfl, p, .ref lc, rfl, gA _ _ _ hp2, lc, _, rfl, .inl hl2, n, (cs.map V.int).length, rfl, rfl, (by rw [List.length_map]; exact hne), lc, _, n % (cs.map V.int).length, .int cs[n % cs.length], rfl, rfl, .inl hl2, ?_, ?_⟩
        · rw [List.length_map, List.getElem?_map, List.getElem?_eq_getElem hix]
          rfl
        · refine ⟨_, rfl, _, rfl, p, .ref lc, rfl, gA _ _ _ hp2, lc, _, rfl, .inl hl2, _, _, rfl, rfl, _, rfl, br (fun e2 => ?_) (fun e2 => ?_)⟩
          · refine ⟨_, rfl, _, rfl, 10, 18, rfl, rfl, ⟨by decide, by decide⟩, _, _, rfl, rfl, _, rfl, br (fun e3 => ?_) (fun e3 => ?_)⟩
            · have e4 := of_decide_eq_true e3
              have e5 : 10 ^ 18 ≤ Int.natAbs _ := Int.ofNat_le.mp e4
              refine ⟨_, rfl, _, rfl, 10, 18, rfl, rfl, ⟨by decide, by decide⟩, _, _, rfl, rfl, e5, _, rfl, _, sp, rfl, rfl, ⟨hs0, hs1⟩, _, rfl, p, _, rfl, pC _ _ _ _ hp2, ?_⟩
              refine ⟨_, rfl, _, rfl, 10, 18, rfl, rfl, ⟨by decide, by decide⟩, _, _, rfl, rfl, e5, _, rfl, _, rfl, _, sp, rfl, rfl, hs0, ?_⟩
              exact k _ _ (Nat.mod_lt _ hs0) ⟨cs, _, _, upd_same, (upd_ne hlp).trans hl2, by omega⟩ (kp2.trans (kpU _ _ _ _ _ hp2))
            · refine ⟨_, rfl, _, rfl, _, 2147483549, rfl, rfl, (by decide), _, 48611, rfl, rfl, md_lt (by decide) (by decide), _, rfl, 30029, n, rfl, rfl, (by decide), _, rfl, _, n, rfl, rfl, (by show 30029 * n < 18446744073709551616; omega), _, _, rfl, rfl, ?_⟩
              refine ⟨_, rfl, _, rfl, 701, n, rfl, rfl, (by decide), _, _, rfl, rfl, _, 83, rfl, rfl, _, rfl, _, 2147483543, rfl, rfl, (by decide), ?_⟩
              refine ⟨_, rfl, _, rfl, _, _, rfl, rfl, mn_lt (by decide) (by decide), _, rfl, 40111, _, rfl, rfl, (by decide), _, _, rfl, rfl, _, rfl, 73, n, rfl, rfl, (by decide), _, _, rfl, rfl, _, 19, rfl, rfl, _, rfl, _, 2147483497, rfl, rfl, (by decide), ?_⟩
              refine ⟨_, rfl, _, rfl, _, _, rfl, rfl, mn_lt (by decide) (by decide), _, rfl, 31013, _, rfl, rfl, (by decide), _, _, rfl, rfl, _, rfl, _, n, rfl, rfl, _, rfl, _, 2147483489, rfl, rfl, (by decide), ?_⟩
              refine ⟨_, rfl, _, rfl, _, 44017, rfl, rfl, _, _, rfl, rfl, mn_lt (by decide) (by decide), _, rfl, _, 2147483477, rfl, rfl, (by decide), _, 64, rfl, rfl, ⟨by decide, by decide⟩, _, rfl, _, rfl, _, sp, rfl, rfl, hs0, ?_⟩
              exact k _ _ (Nat.mod_lt _ hs0) ⟨cs, n + 1, m, hp2, hl2, by omega⟩ kp2
          · refine ⟨_, rfl, _, rfl, _, 2147483549, rfl, rfl, (by decide), _, 48611, rfl, rfl, md_lt (by decide) (by decide), _, rfl, 30029, n, rfl, rfl, (by decide), _, rfl, _, n, rfl, rfl, (by show 30029 * n < 18446744073709551616; omega), _, _, rfl, rfl, ?_⟩
            refine ⟨_, rfl, _, rfl, 701, n, rfl, rfl, (by decide), _, _, rfl, rfl, _, 83, rfl, rfl, _, rfl, _, 2147483543, rfl, rfl, (by decide), ?_⟩
            refine ⟨_, rfl, _, rfl, _, _, rfl, rfl, mn_lt (by decide) (by decide), _, rfl, 40111, _, rfl, rfl, (by decide), _, _, rfl, rfl, _, rfl, 73, n, rfl, rfl, (by decide), _, _, rfl, rfl, _, 19, rfl, rfl, _, rfl, _, 2147483497, rfl, rfl, (by decide), ?_⟩
            refine ⟨_, rfl, _, rfl, _, _, rfl, rfl, mn_lt (by decide) (by decide), _, rfl, 31013, _, rfl, rfl, (by decide), _, _, rfl, rfl, _, rfl, _, n, rfl, rfl, _, rfl, _, 2147483489, rfl, rfl, (by decide), ?_⟩
            refine ⟨_, rfl, _, rfl, _, 44017, rfl, rfl, _, _, rfl, rfl, mn_lt (by decide) (by decide), _, rfl, _, 2147483477, rfl, rfl, (by decide), _, 64, rfl, rfl, ⟨by decide, by decide⟩, _, rfl, _, rfl, _, sp, rfl, rfl, hs0, ?_⟩
            exact k _ _ (Nat.mod_lt _ hs0) ⟨cs, n + 1, m, hp2, hl2, by omega⟩ kp2
      · refine ⟨_, rfl, _, rfl, p, .ref lc, rfl, gA _ _ _ hp2, lc, _, rfl, .inl hl2, _, _, rfl, rfl, _, rfl, br (fun e2 => ?_) (fun e2 => ?_)⟩
        · refine ⟨_, rfl, _, rfl, 10, 18, rfl, rfl, ⟨by decide, by decide⟩, _, _, rfl, rfl, _, rfl, br (fun e3 => ?_) (fun e3 => ?_)⟩
          · have e4 := of_decide_eq_true e3
            have e5 : 10 ^ 18 ≤ Int.natAbs _ := Int.ofNat_le.mp e4
            refine ⟨_, rfl, _, rfl, 10, 18, rfl, rfl, ⟨by decide, by decide⟩, _, _, rfl, rfl, e5, _, rfl, _, sp, rfl, rfl, ⟨hs0, hs1⟩, _, rfl, p, _, rfl, pC _ _ _ _ hp2, ?_⟩
            refine ⟨_, rfl, _, rfl, 10, 18, rfl, rfl, ⟨by decide, by decide⟩, _, _, rfl, rfl, e5, _, rfl, _, rfl, _, sp, rfl, rfl, hs0, ?_⟩
            exact k _ _ (Nat.mod_lt _ hs0) ⟨cs, _, _, upd_same, (upd_ne hlp).trans hl2, by omega⟩ (kp2.trans (kpU _ _ _ _ _ hp2))
          · refine ⟨_, rfl, _, rfl, _, 2147483549, rfl, rfl, (by decide), _, 48611, rfl, rfl, md_lt (by decide) (by decide), _, rfl, 30029, n, rfl, rfl, (by decide), _, rfl, _, n, rfl, rfl, (by show 30029 * n < 18446744073709551616; omega), _, _, rfl, rfl, ?_⟩
            refine ⟨_, rfl, _, rfl, 701, n, rfl, rfl, (by decide), _, _, rfl, rfl, _, 83, rfl, rfl, _, rfl, _, 2147483543, rfl, rfl, (by decide), ?_⟩
            refine ⟨_, rfl, _, rfl, _, _, rfl, rfl, mn_lt (by decide) (by decide), _, rfl, 40111, _, rfl, rfl, (by decide), _, _, rfl, rfl, _, rfl, 73, n, rfl, rfl, (by decide), _, _, rfl, rfl, _, 19, rfl, rfl, _, rfl, _, 2147483497, rfl, rfl, (by decide), ?_⟩
            refine ⟨_, rfl, _, rfl, _, _, rfl, rfl, mn_lt (by decide) (by decide), _, rfl, 31013, _, rfl, rfl, (by decide), _, _, rfl, rfl, _, rfl, _, n, rfl, rfl, _, rfl, _, 2147483489, rfl, rfl, (by decide), ?_⟩
            refine ⟨_, rfl, _, rfl, _, 44017, rfl, rfl, _, _, rfl, rfl, mn_lt (by decide) (by decide), _, rfl, _, 2147483477, rfl, rfl, (by decide), _, 64, rfl, rfl, ⟨by decide, by decide⟩, _, rfl, _, rfl, _, sp, rfl, rfl, hs0, ?_⟩
            exact k _ _ (Nat.mod_lt _ hs0) ⟨cs, n + 1, m, hp2, hl2, by omega⟩ kp2
        · refine ⟨_, rfl, _, rfl, _, 2147483549, rfl, rfl, (by decide), _, 48611, rfl, rfl, md_lt (by decide) (by decide), _, rfl, 30029, n, rfl, rfl, (by decide), _, rfl, _, n, rfl, rfl, (by show 30029 * n < 18446744073709551616; omega), _, _, rfl, rfl, ?_⟩
          refine ⟨_, rfl, _, rfl, 701, n, rfl, rfl, (by decide), _, _, rfl, rfl, _, 83, rfl, rfl, _, rfl, _, 2147483543, rfl, rfl, (by decide), ?_⟩
          refine ⟨_, rfl, _, rfl, _, _, rfl, rfl, mn_lt (by decide) (by decide), _, rfl, 40111, _, rfl, rfl, (by decide), _, _, rfl, rfl, _, rfl, 73, n, rfl, rfl, (by decide), _, _, rfl, rfl, _, 19, rfl, rfl, _, rfl, _, 2147483497, rfl, rfl, (by decide), ?_⟩
          refine ⟨_, rfl, _, rfl, _, _, rfl, rfl, mn_lt (by decide) (by decide), _, rfl, 31013, _, rfl, rfl, (by decide), _, _, rfl, rfl, _, rfl, _, n, rfl, rfl, _, rfl, _, 2147483489, rfl, rfl, (by decide), ?_⟩
          refine ⟨_, rfl, _, rfl, _, 44017, rfl, rfl, _, _, rfl, rfl, mn_lt (by decide) (by decide), _, rfl, _, 2147483477, rfl, rfl, (by decide), _, 64, rfl, rfl, ⟨by decide, by decide⟩, _, rfl, _, rfl, _, sp, rfl, rfl, hs0, ?_⟩
          exact k _ _ (Nat.mod_lt _ hs0) ⟨cs, n + 1, m, hp2, hl2, by omega⟩ kp2
end
end LaneX
set_option Elab.async false
set_option linter.all false
set_option maxRecDepth 100000
set_option maxHeartbeats 4000000
namespace LaneX
open PySem PySem.Spec PyProof.Rows L2
def sp_begin (K : PySem.W.Frag) : Sp := fun vs H Q _ => ∃ (a : Addr) (ns : List Int), vs = [.ref a] ∧ SqL K H a (ns.map V.int) ∧ ∀ H' p lc, Same H H' → H p = none → Pn H' p lc 0 → Q (.ref p) H'
/-- one of some values -/
def sp_pick : Sp := fun vs H Q _ => ∃ (p lc a : Addr) (N : Nat) (xs : List V), vs = [.ref p, .ref a] ∧ Pn H p lc N ∧ Tq H a xs ∧ 0 < xs.length ∧ xs.length ≤ 1000000 ∧ N + 1 ≤ TOP ∧ ∀ H' v, v ∈ xs → Pn H' p lc (N + 1) → Kp H H' → Q v H'
def sp_word : Sp := fun vs H Q _ => ∃ (p lc : Addr) (N b : Nat), vs = [.ref p, vN b] ∧ Pn H p lc N ∧ b ≤ 1000 ∧ N + 1000 ≤ TOP ∧ ∀ H' x, x < 2 ^ b → Pn H' p lc (N + 1000) → Kp H H' → Q (vN x) H'
def sp_mixed : Sp := fun vs H Q _ => ∃ (p lc a : Addr) (N : Nat) (xs : List Nat), vs = [.ref p, .ref a] ∧ Pn H p lc N ∧ Tq H a (xs.map vN) ∧ xs.length ≤ 1000 ∧ N + 1000 ≤ TOP ∧ ∀ (H' : Hp) (q : Addr) (ys : List Nat), ys.Perm xs → H q = none → H' q = some (.lst (ys.map vN)) → Pn H' p lc (N + 1000) → Kp H H' → Q (.ref q) H'
def sp_left : Sp := fun vs H Q _ => ∃ (a : Addr) (rows : List Nat) (x : Nat), vs = [.ref a, vN x] ∧ Tq H a (rows.map vN) ∧ (∀ r ∈ rows, r ≠ 0) ∧ Q (vN (lft rows x)) H
def sp_basis : Sp := fun vs H Q _ => ∃ (a : Addr) (ws : List Nat), vs = [.ref a] ∧ Tq H a (ws.map vN) ∧ ws.length ≤ 1000000 ∧ ∀ H' q, Same H H' → H q = none → H' q = some (.lst ((bas ws).map vN)) → Q (.ref q) H'
def sp_size : Sp := fun vs H Q _ => ∃ (a : Addr) (ws : List Nat), vs = [.ref a] ∧ Tq H a (ws.map vN) ∧ ws.length ≤ 1000000 ∧ ∀ H', Same H H' → Q (vN (rk ws)) H'
def sp_image : Sp := fun vs H Q _ => ∃ (a : Addr) (cs : List Nat) (x : Nat), vs = [.ref a, vN x] ∧ Tq H a (cs.map vN) ∧ cs.length ≤ 1000000 ∧ Q (vN (img cs x)) H
def cutI (xs : List Int) (lo hi : Option Int) : List Int := (xs.drop (HT.sIx xs.length 0 lo)).take (HT.sIx xs.length xs.length hi - HT.sIx xs.length 0 lo)
theorem cut_map (xs : List Int) (lo hi : Option Int) : cutV (xs.map V.int) lo hi = (cutI xs lo hi).map V.int := by
  unfold cutV cutI
  rw [List.length_map, List.map_take, List.map_drop]
theorem seq_nat {r n : Nat} (h : r < n) : seqIndex? (r : Int) n = some r := by
  unfold seqIndex?
  have h1 : ¬ (r : Int) < 0 := by omega
  simp only [h1, if_false]
  have h2 : (decide (0 ≤ (r : Int)) && decide ((r : Int) < (n : Int))) = true := by
    rw [decide_eq_true (by omega), decide_eq_true (by omega)]
    rfl
  rw [if_pos h2]
  simp
theorem eraseIdx_map {α β : Type} (g : α → β) : ∀ (l : List α) (r : Nat), (l.map g).eraseIdx r = (l.eraseIdx r).map g
  | [], _ => rfl
  | _ :: _, 0 => rfl
  | a :: l, r + 1 => by
    show g a :: (l.map g).eraseIdx r = g a :: (l.eraseIdx r).map g
    rw [eraseIdx_map g l r]
theorem perm_erase {α : Type} : ∀ {l : List α} {r : Nat} (h : r < l.length), (l[r] :: l.eraseIdx r).Perm l
  | [], r, h => by cases h
  | a :: l, 0, _ => .refl _
  | a :: l, r + 1, h => by
    have := perm_erase (l := l) (r := r) (by simpa using h)
    exact (List.Perm.swap _ _ _).trans (this.cons a)
section
variable {P : Program} {w : World} {K : PySem.W.Frag} {mg : Str → Option Value} {base : Heap} {f : Addr} {fd : FuncData} (T : Bt mg)
include T
theorem ok_begin (F : FnP K "_law_begin" "_law_begin" s_beginL f fd) : FnOk P w K mg base CX0 1 f fd ["_law_script"] (sp_begin K) := by
  have nd := sc_beginL.nd
  refine fnok F sc_beginL (fun vs H Q E h => ?_) (fun cdv A outer s H vs Q E hr h => ?_)
  · obtain ⟨a, ns, rfl, _⟩ := h
    rfl
  · obtain ⟨a, ns, rfl, hS, k⟩ := h
    refine ⟨_, (pss_one (ps_ret (pe_disp (pps_cons pe_str (pe_callTy call_listQ (by rfl) T.list (by decide +kernel) (pa_cons (pe_slice sl_list (pv 0) po_none (po_some pe_int)) pa_nil)) (pps_cons pe_str pe_int (pps_cons pe_str pe_int pps_nil))) (by rfl) (by rfl) (fun z => by cases z) (by decide)))), ?_⟩
    intro p hp
    refine ⟨_, rfl, _, rfl, a, _, rfl, Same.seq (same_new0 hp) hS, fun l1 hl1 => ?_⟩
    refine ⟨l1, _, rfl, .inl upd_same, fun l2 hl2 => ?_⟩
    have np1 : p ≠ l1 := ne_of_none upd_same hl1
    have np2 : p ≠ l2 := ne_of_none (upd_put upd_same np1) hl2
    refine ⟨upd_put (upd_put upd_same np1) np2, [(.inr ka, .ref l2), (.inr kb, .int 0), (.inr kc, .int 0)], rfl, (by show 3 ≤ 15; decide), ?_⟩
    have em : mergeK [] [((.inr ka : Key), V.ref l2), (.inr kb, .int 0), (.inr kc, .int 0)] = pen ka kb kc l2 0 0 := by
      unfold mergeK pen putK
      simp [kN.ab, kN.ac, kN.bc]
    rw [em]
    refine k _ _ l2 (fun b o hb => ?_) hp ⟨cutI ns none (some 63), 0, 0, upd_same, ?_, Nat.le_refl _⟩
    · have hb1 := upd_new (o := .dK []) hp hb
      have hb2 := upd_new (o := .lst (cutV (ns.map V.int) none (some 63))) hl1 hb1
      have hb3 := upd_new (o := .lst (cutV (ns.map V.int) none (some 63))) hl2 hb2
      exact upd_put hb3 (ne_of_none hb hp)
    · rw [← cut_map]
      exact upd_put upd_same np2.symm
theorem ok_pick (F : FnP K "_law_pick" "_law_pick" s_pickL f fd) (D_drawL : Dn P w K mg base 1 "_law_draw" ["_law_pen", "_law_span"] sp_draw) : FnOk P w K mg base CX0 2 f fd ["_law_pen", "_law_some"] sp_pick := by
  have nd := sc_pickL.nd
  refine fnok F sc_pickL (fun vs H Q E h => ?_) (fun cdv A outer s H vs Q E hr h => ?_)
  · obtain ⟨p, lc, a, N, xs, rfl, _⟩ := h
    rfl
  · obtain ⟨p, lc, a, N, xs, rfl, hp, hS, h0, h1, hN, k⟩ := h
    refine ⟨_, (pss_one (ps_ret (pe_ix ix_q (pv 1) (pe_d D_drawL hr (pa_cons (pv 0) (pa_cons (pe_callB call_lenQ (by rfl) T.len PySem.boot_len (pa_cons (pv 1) pa_nil)) pa_nil))) (fun _ _ => rfl)))), ?_⟩
    refine ⟨_, rfl, _, rfl, _, rfl, a, xs, rfl, hS, p, lc, N, xs.length, rfl, hp, h0, (by omega), hN, fun H' r hr' hp' kp => ?_⟩
    exact ⟨a, xs, r, _, rfl, rfl, kp_tq kp hS, List.getElem?_eq_getElem hr', k _ _ (List.getElem_mem hr') hp' kp⟩
theorem ok_word (F : FnP K "_law_word" "_law_word" s_wordL f fd) (D_drawL : Dn P w K mg base 1 "_law_draw" ["_law_pen", "_law_span"] sp_draw) : FnOk P w K mg base CX0 2 f fd ["_law_pen", "_law_bits"] sp_word := by
  have nd := sc_wordL.nd
  refine fnok F sc_wordL (fun vs H Q E h => ?_) (fun cdv A outer s H vs Q E hr h => ?_)
  · obtain ⟨p, lc, N, b, rfl, _⟩ := h
    rfl
  · obtain ⟨p, lc, N, b, rfl, hp, hb, hN, k⟩ := h
    refine ⟨_, (pss_cons (ps_set (i := 2) nd rfl (Or.inl rfl) pe_int)
  (pss_cons (ps_for PassesOwn.never rfl (pi_range1 (by rfl) T.range (pa_cons (pv 1) pa_nil)) (pg_name (i := 3) nd rfl (Or.inl rfl))
    (pss_one (ps_set (i := 2) nd rfl (Or.inl rfl) (pe_op on_add (pe_op on_mul pe_int (pv 2)) (pe_d D_drawL hr (pa_cons (pv 0) (pa_cons pe_int pa_nil)))))))
  (pss_one (ps_ret (pv 2))))), ?_⟩
    have hN' : N + 1000 ≤ 1099511627776 := hN
    refine ⟨_, rfl, _, rfl, (by omega), (by omega), for_range (n := b) (fun i σ H2 => ∃ x v, σ = [some (.ref p), some (vN b), some (vN x), v] ∧ x < 2 ^ i ∧ Pn H2 p lc (N + i) ∧ Kp H H2) ⟨0, none, rfl, by decide, hp, Kp.refl H⟩ ?_ ?_⟩
    · rintro i σ H2 hi ⟨x, v, rfl, hx, hp2, kp2⟩
      refine ⟨_, rfl, 2, x, rfl, rfl, (by decide), _, rfl, p, lc, N + i, 2, rfl, hp2, (by decide), (by decide), (by show N + i + 1 ≤ 1099511627776; omega), fun H3 r hr3 hp3 kp3 => ?_⟩
      refine ⟨_, _, rfl, rfl, 2 * x + r, _, rfl, ?_, hp3, kp2.trans kp3⟩
      rw [Nat.pow_succ]
      omega
    · rintro σ H2 ⟨x, v, rfl, hx, hp2, kp2⟩
      exact ⟨_, rfl, k _ _ hx (hp2.mono (by omega)) kp2⟩
theorem ok_mixed (F : FnP K "_law_mixed" "_law_mixed" s_mixedL f fd) (D_drawL : Dn P w K mg base 1 "_law_draw" ["_law_pen", "_law_span"] sp_draw) : FnOk P w K mg base CX0 2 f fd ["_law_pen", "_law_some"] sp_mixed := by
  have nd := sc_mixedL.nd
  refine fnok F sc_mixedL (fun vs H Q E h => ?_) (fun cdv A outer s H vs Q E hr h => ?_)
  · obtain ⟨p, lc, a, N, xs, rfl, _⟩ := h
    rfl
  · obtain ⟨p, lc, a, N, xs, rfl, hp, hS, hl, hN, k⟩ := h
    refine ⟨_, (pss_cons (ps_par (i := 2) (j := 3) (by rfl) nd rfl rfl (by decide) rfl rfl (pa_cons (pe_callTy call_listQ (by rfl) T.list (by decide +kernel) (pa_cons (pv 1) pa_nil)) (pa_cons (pe_lst pa_nil) pa_nil)) (by rfl))
  (pss_cons (ps_for PassesOwn.never rfl (pi_range1 (by rfl) T.range (pa_cons (pe_callB call_lenQ (by rfl) T.len PySem.boot_len (pa_cons (pv 1) pa_nil)) pa_nil)) (pg_name (i := 4) nd rfl (Or.inl rfl))
    (pss_one (ps_expr (pe_bm PySem.F.plainAttrs_list PySem.F.slot_list_append PySem.F.type_list_append mt_append (pv 3) (pa_cons (pe_bm PySem.F.plainAttrs_list PySem.F.slot_list_pop PySem.F.type_list_pop mt_popAt (pv 2) (pa_cons (pe_d D_drawL hr (pa_cons (pv 0) (pa_cons (pe_callB call_lenQ (by rfl) T.len PySem.boot_len (pa_cons (pv 2) pa_nil)) pa_nil))) pa_nil)) pa_nil)))))
  (pss_one (ps_ret (pv 3))))), ?_⟩
    have hN' : N + 1000 ≤ 1099511627776 := hN
    refine ⟨_, rfl, a, _, rfl, hS, fun l1 hl1 => ?_⟩
    refine ⟨(by decide), fun l2 hl2 => ⟨_, _, rfl, ?_⟩⟩
    have hl2' : H l2 = none := same_free (same_new0 hl1) hl2
    have n12 : l1 ≠ l2 := ne_of_none upd_same hl2
    have ne1 := hp.ne hl1
    have ne2 := hp.ne hl2'
    have s0 : Same H (upd (upd H l1 (.lst (xs.map vN))) l2 (.lst [])) := same_new (same_new0 hl1) hl2
    refine ⟨_, rfl, a, _, rfl, same_tq s0 hS, _, rfl, (by omega), (by rw [List.length_map]; omega), for_range (n := (xs.map vN).length) (fun i σ H2 => ∃ v ys zs, σ = [some (.ref p), some (.ref a), some (.ref l1), some (.ref l2), v] ∧ Pn H2 p lc (N + i) ∧ Kp H H2 ∧ H2 l1 = some (.lst (ys.map vN)) ∧ H2 l2 = some (.lst (zs.map vN)) ∧ ys.length + i = xs.length ∧ (ys ++ zs).Perm xs)
      ⟨none, xs, [], rfl, (hp.put ne1).put ne2, Kp.of s0, upd_put upd_same n12, upd_same, rfl, by simp⟩ ?_ ?_⟩
    · rintro i σ H2 hi ⟨v, ys, zs, rfl, hp2, kp2, h1, h2, hlen, hperm⟩
      rw [List.length_map] at hi
      have hy : 0 < ys.length := by omega
      refine ⟨_, rfl, .inl ⟨rfl, _, SqL.of h2⟩, _, rfl, .inl ⟨rfl, _, SqL.of h1⟩, _, rfl, _, rfl, l1, _, rfl, .inl h1, p, lc, N + i, (ys.map vN).length, rfl, hp2, (by rw [List.length_map]; exact hy), (by rw [List.length_map]; omega), (by show N + i + 1 ≤ 1099511627776; omega), fun H3 r hr3 hp3 kp3 => ?_⟩
      rw [List.length_map] at hr3
      have g1 := kp3 _ _ h1 rfl
      have g2 := kp3 _ _ h2 rfl
      refine ⟨l1, _, (r : Int), r, vN ys[r], rfl, rfl, g1, (by omega), (by omega), ?_, ?_, ?_⟩
      · rw [List.length_map]
        exact seq_nat hr3
      · rw [List.getElem?_map, List.getElem?_eq_getElem hr3]
        rfl
      · refine ⟨l2, _, _, rfl, rfl, upd_put g2 n12.symm, (by rw [List.length_map]; refine size6 ?_; have := hperm.length_eq; rw [List.length_append] at this; omega), ?_⟩
        refine ⟨_, ys.eraseIdx r, zs ++ [ys[r]], rfl, (hp3.put ne1).put ne2, ?_, ?_, ?_, ?_, ?_⟩
        · exact kp_put (kp_put (kp2.trans kp3) hl1) hl2'
        · rw [upd_ne n12, upd_same, eraseIdx_map]
        · rw [upd_same, List.map_append]
          rfl
        · rw [List.length_eraseIdx, if_pos hr3]
          omega
        · refine List.Perm.trans ?_ hperm
          have e1 : (ys[r] :: ys.eraseIdx r).Perm ys := perm_erase hr3
          have e2 : (ys.eraseIdx r ++ (zs ++ [ys[r]])).Perm (ys[r] :: (ys.eraseIdx r ++ zs)) := by
            rw [← List.append_assoc]
            exact List.perm_append_comm
          exact e2.trans (e1.append_right zs)
    · rintro σ H2 ⟨v, ys, zs, rfl, hp2, kp2, h1, h2, hlen, hperm⟩
      rw [List.length_map] at hlen hp2
      have e : ys = [] := List.length_eq_zero_iff.mp (by omega)
      subst e
      exact ⟨_, rfl, k _ _ zs hperm hl2' h2 (hp2.mono (by omega)) kp2⟩
end
end LaneX
set_option Elab.async false
set_option linter.all false
set_option maxRecDepth 100000
set_option maxHeartbeats 4000000
namespace LaneX
open PySem PySem.Spec PyProof.Rows L2
theorem dec_low {x r : Nat} (h : r ≠ 0) : (!decide (V.int ((x &&& lwb r : Nat) : Int) = V.int 0)) = x.testBit (low r) := by
  rw [dec_ne0]
  cases q : x.testBit (low r) with
  | true =>
    have := (and_lwb (w := x) h).mpr q
    simp [this]
  | false =>
    have : x &&& lwb r = 0 := Classical.byContradiction fun z => by rw [(and_lwb h).mp z] at q; cases q
    simp [this]
/-- pairs of a row and its tag -/
def PrsAt (H : Hp) (ts : List Addr) (ps : List (Nat × Nat)) : Prop := ts.length = ps.length ∧ ∀ (i : Nat) (t : Addr), ts[i]? = some t → ∃ p, ps[i]? = some p ∧ H t = some (.tup [vN p.1, vN p.2])
theorem PrsAt.keep {H H' : Hp} {ts : List Addr} {ps : List (Nat × Nat)} (h : PrsAt H ts ps) (k : ∀ b xs, H b = some (.tup xs) → H' b = some (.tup xs)) : PrsAt H' ts ps :=
  ⟨h.1, fun i t ht => by obtain ⟨p, h1, h2⟩ := h.2 i t ht; exact ⟨p, h1, k _ _ h2⟩⟩
theorem PrsAt.snoc {H : Hp} {ts : List Addr} {ps : List (Nat × Nat)} (h : PrsAt H ts ps) {t : Addr} {p : Nat × Nat} (ht : H t = some (.tup [vN p.1, vN p.2])) : PrsAt H (ts ++ [t]) (ps ++ [p]) := by
  refine ⟨by simp [h.1], fun i t' hi => ?_⟩
  by_cases hl : i < ts.length
  · rw [List.getElem?_append_left hl] at hi
    obtain ⟨p', h1, h2⟩ := h.2 i t' hi
    exact ⟨p', by rw [List.getElem?_append_left (by rw [← h.1]; exact hl)]; exact h1, h2⟩
  · rw [List.getElem?_append_right (by omega)] at hi
    have e : i - ts.length = 0 := by
      cases q : i - ts.length with
      | zero => rfl
      | succ n => rw [q] at hi; simp at hi
    rw [e] at hi
    have e2 : t = t' := Option.some.inj hi
    subst e2
    refine ⟨p, ?_, ht⟩
    rw [List.getElem?_append_right (by rw [← h.1]; omega), ← h.1, e]
    rfl
def sp_is_word : Sp := fun vs H Q _ => ∃ n b : Nat, vs = [vN n, vN b] ∧ b ≤ 1000000 ∧ Q (.bl (decide (n < 2 ^ b))) H
def sp_is_space (C : Addr) : Sp := fun vs H Q _ => ∃ (p a : Addr) (b : Nat) (rows ws : List Nat), vs = [.ref p, vN b, .ref a] ∧ SpaceAt C H p b rows ∧ Tq H a (ws.map vN) ∧ ws.length ≤ 400000 ∧ rows.length ≤ 400000 ∧ rows.length = rk ws ∧ rk (ws ++ rows) = rows.length ∧ ∀ H', Same H H' → Q (.bl true) H'
theorem tgl_snoc (a : List (Nat × Nat)) (r : Nat × Nat) (st : Nat × Nat) : tgl (a ++ [r]) st = if (tgl a st).1.testBit (low r.1) = true then ((tgl a st).1 ^^^ r.1, (tgl a st).2 ^^^ r.2) else tgl a st := List.foldl_append ..
theorem tgs_nz (cols : List Nat) : ∀ n, ∀ p ∈ (tgs cols n).1, p.1 ≠ 0
  | 0, p, h => by cases h
  | n + 1, p, h => by
    rw [tgs_succ] at h
    split at h
    · exact tgs_nz cols n p h
    · rename_i hz
      rcases List.mem_append.mp h with h | h
      · exact tgs_nz cols n p h
      · rcases List.mem_singleton.mp h with rfl; exact hz
section
variable {P : Program} {w : World} {K : PySem.W.Frag} {mg : Str → Option Value} {base : Heap} {f : Addr} {fd : FuncData} {CS : Addr} (T : Bt mg) (TS : SpaceT K mg CS)
include T
theorem ok_left (F : FnP K "_law_left" "_law_left" s_leftL f fd) : FnOk P w K mg base CX0 1 f fd ["_law_rows", "_law_word_here"] sp_left := by
  have nd := sc_leftL.nd
  refine fnok F sc_leftL (fun vs H Q E h => ?_) (fun cdv A outer s H vs Q E hr h => ?_)
  · obtain ⟨a, rows, x, rfl, _⟩ := h
    rfl
  · obtain ⟨a, rows, x, rfl, hS, hn, k⟩ := h
    refine ⟨_, (pss_cons (ps_for PassesOwn.never rfl (pi_seq (pv 0)) (pg_name (i := 2) nd rfl (Or.inl rfl))
    (pss_one (ps_if (pt_cmpR op_ne (pe_op on_and (pv 1) (pe_op on_low (pv 2) (pe_un un_neg (pv 2)))) pe_int (nomark _))
      (pss_one (ps_set (i := 1) nd rfl (Or.inl rfl) (pe_op on_xor (pv 1) (pv 2))))
      pss_nil)))
  (pss_one (ps_ret (pv 1)))), ?_⟩
    refine ⟨_, rfl, for_seq (K := K) hS.sq (fun i σ H2 => ∃ v, σ = [some (.ref a), some (vN (lft (rows.take i) x)), v] ∧ H2 = H) ⟨none, rfl, rfl⟩ (fun i σ H2 hp => by obtain ⟨_, _, rfl⟩ := hp; exact Kp.refl _) ?_ ?_⟩
    · rintro i y σ H2 hy ⟨v, rfl, rfl⟩
      obtain ⟨r, hr', rfl⟩ := map_get hy
      refine ⟨_, rfl, _, rfl, _, rfl, _, rfl, r, rfl, rfl, _, _, rfl, rfl, rfl, _, rfl, ?_⟩
      rw [take_succ hr', lft_snoc, dec_low (hn r (List.mem_of_getElem? hr'))]
      cases q : (lft (rows.take i) x).testBit (low r) with
      | true => exact iteT ⟨_, rfl, _, rfl, _, _, rfl, rfl, _, rfl, rfl⟩
      | false => exact iteF ⟨_, rfl, rfl⟩
    · rintro σ H2 ⟨v, rfl, rfl⟩
      refine ⟨_, rfl, ?_⟩
      rw [List.length_map, List.take_length]
      exact k
theorem ok_basis (F : FnP K "_law_basis" "_law_basis" s_basisL f fd) (D_leftL : Dn P w K mg base 1 "_law_left" ["_law_rows", "_law_word_here"] sp_left) : FnOk P w K mg base CX0 2 f fd ["_law_words"] sp_basis := by
  have nd := sc_basisL.nd
  refine fnok F sc_basisL (fun vs H Q E h => ?_) (fun cdv A outer s H vs Q E hr h => ?_)
  · obtain ⟨a, ws, rfl, _⟩ := h
    rfl
  · obtain ⟨a, ws, rfl, hS, hl, k⟩ := h
    refine ⟨_, (pss_cons (ps_set (i := 1) nd rfl (Or.inl rfl) (pe_lst pa_nil))
  (pss_cons (ps_for PassesOwn.never rfl (pi_seq (pv 0)) (pg_name (i := 2) nd rfl (Or.inl rfl))
    (pss_cons (ps_set (i := 2) nd rfl (Or.inl rfl) (pe_d D_leftL hr (pa_cons (pv 1) (pa_cons (pv 2) pa_nil))))
    (pss_one (ps_if (pt_cmpR op_ne (pv 2) pe_int (nomark _))
      (pss_one (ps_expr (pe_bm PySem.F.plainAttrs_list PySem.F.slot_list_append PySem.F.type_list_append mt_append (pv 1) (pa_cons (pv 2) pa_nil))))
      pss_nil))))
  (pss_one (ps_ret (pv 1))))), ?_⟩
    refine ⟨(by decide), fun l0 hl0 => ?_⟩
    have s0 : Same H (upd H l0 (.lst [])) := same_new0 hl0
    have an : a ≠ l0 := by
      rcases hS with h | h
      · exact ne_of_none h hl0
      · exact ne_of_none h hl0
    refine ⟨_, rfl, for_sq2 (K := K) (same_tq s0 hS) (fun i σ H2 => ∃ v, σ = [some (.ref a), some (.ref l0), v] ∧ Same H H2 ∧ H2 l0 = some (.lst ((bas (ws.take i)).map vN))) ⟨none, rfl, s0, upd_same⟩ (fun i σ H2 hp o ho => ?_) ?_ ?_⟩
    · obtain ⟨_, _, s2, _⟩ := hp
      rw [upd_ne an] at ho
      exact s2 _ _ ho
    · rintro i y σ H2 hy ⟨v, rfl, s2, h2⟩
      obtain ⟨r, hr', rfl⟩ := map_get hy
      refine ⟨_, rfl, _, rfl, l0, _, r, rfl, .inl h2, (bas_lws _).nz, ?_⟩
      refine ⟨_, rfl, rfl, _, rfl, ?_⟩
      rw [dec_ne0, take_succ hr', bas_snoc]
      unfold bstep
      refine br (fun e => ?_) (fun e => ?_)
      · have e0 : lft (bas (ws.take i)) r ≠ 0 := by simpa using e
        rw [if_neg e0]
        have tl : (bas (ws.take i)).length ≤ 1000000 := Nat.le_trans (bas_len_le _) (Nat.le_trans (by rw [List.length_take]; omega) hl)
        refine ⟨_, rfl, .inl ⟨rfl, _, SqL.of h2⟩, _, rfl, l0, _, _, rfl, rfl, h2, (by rw [List.length_map]; exact size6 tl), ?_⟩
        refine ⟨_, rfl, same_put s2 hl0, ?_⟩
        rw [upd_same, List.map_append]
        rfl
      · have e0 : lft (bas (ws.take i)) r = 0 := by simpa using e
        rw [if_pos e0]
        exact ⟨_, rfl, s2, h2⟩
    · rintro σ H2 ⟨v, rfl, s2, h2⟩
      rw [List.length_map, List.take_length] at h2
      exact ⟨_, rfl, k _ _ s2 hl0 h2⟩
theorem ok_size (F : FnP K "_law_size" "_law_size" s_sizeL f fd) (D_basisL : Dn P w K mg base 2 "_law_basis" ["_law_words"] sp_basis) : FnOk P w K mg base CX0 3 f fd ["_law_words"] sp_size := by
  have nd := sc_sizeL.nd
  refine fnok F sc_sizeL (fun vs H Q E h => ?_) (fun cdv A outer s H vs Q E hr h => ?_)
  · obtain ⟨a, ws, rfl, _⟩ := h
    rfl
  · obtain ⟨a, ws, rfl, hS, hl, k⟩ := h
    refine ⟨_, (pss_one (ps_ret (pe_callB call_lenQ (by rfl) T.len PySem.boot_len (pa_cons (pe_d D_basisL hr (pa_cons (pv 0) pa_nil)) pa_nil)))), ?_⟩
    refine ⟨_, rfl, a, ws, rfl, hS, hl, fun H1 q s1 hq h1 => ⟨q, _, rfl, .inl h1, ?_⟩⟩
    rw [List.length_map, bas_len]
    exact k _ s1
theorem ok_image (F : FnP K "_law_image" "_law_image" s_imageL f fd) : FnOk P w K mg base CX0 1 f fd ["_law_columns_here", "_law_word_here"] sp_image := by
  have nd := sc_imageL.nd
  refine fnok F sc_imageL (fun vs H Q E h => ?_) (fun cdv A outer s H vs Q E hr h => ?_)
  · obtain ⟨a, cs, x, rfl, _⟩ := h
    rfl
  · obtain ⟨a, cs, x, rfl, hS, hl, k⟩ := h
    refine ⟨_, (pss_cons (ps_set (i := 2) nd rfl (Or.inl rfl) pe_int)
  (pss_cons (ps_for PassesOwn.never rfl (pi_range1 (by rfl) T.range (pa_cons (pe_callB call_lenQ (by rfl) T.len PySem.boot_len (pa_cons (pv 0) pa_nil)) pa_nil)) (pg_name (i := 3) nd rfl (Or.inl rfl))
    (pss_one (ps_if (pt_cmpR op_eq (pe_op on_and (pe_op on_shr (pv 1) (pv 3)) pe_int) pe_int (nomark _))
      (pss_one (ps_set (i := 2) nd rfl (Or.inl rfl) (pe_op on_xor (pv 2) (pe_ix ix_q (pv 0) (pv 3) (fun _ _ => rfl)))))
      pss_nil)))
  (pss_one (ps_ret (pv 2))))), ?_⟩
    refine ⟨_, rfl, a, _, rfl, hS, _, rfl, (by omega), (by rw [List.length_map]; omega), for_range (n := (cs.map vN).length) (fun i σ H2 => ∃ v, σ = [some (.ref a), some (vN x), some (vN (imf cs x i)), v] ∧ H2 = H) ⟨none, rfl, rfl⟩ ?_ ?_⟩
    · rintro i σ H2 hi ⟨v, rfl, rfl⟩
      rw [List.length_map] at hi
      rw [show (0 : Int) + (i : Int) = (i : Int) by omega]
      have hg : (cs.map vN)[i]? = some (vN (cs.getD i 0)) := by
        rw [List.getElem?_map, List.getElem?_eq_getElem hi, List.getD_eq_getElem?_getD, List.getElem?_eq_getElem hi]
        rfl
      refine ⟨_, rfl, _, rfl, _, _, rfl, rfl, _, 1, rfl, rfl, rfl, _, rfl, ?_⟩
      rw [dec_bit, imf_succ]
      cases q : x.testBit i with
      | true => exact iteT ⟨_, rfl, _, rfl, _, rfl, a, _, i, _, rfl, rfl, hS, hg, _, _, rfl, rfl, _, rfl, rfl⟩
      | false => exact iteF ⟨_, rfl, rfl⟩
    · rintro σ H2 ⟨v, rfl, rfl⟩
      refine ⟨_, rfl, ?_⟩
      rw [List.length_map]
      exact k
end
end LaneX
set_option Elab.async false
set_option linter.all false
set_option maxRecDepth 100000
set_option maxHeartbeats 4000000
namespace LaneX
open PySem PySem.Spec PyProof.Rows L2
section
variable {P : Program} {w : World} {K : PySem.W.Frag} {mg : Str → Option Value} {base : Heap} {f : Addr} {fd : FuncData} {CS : Addr} (T : Bt mg) (TS : SpaceT K mg CS)
include T
include TS in
theorem ok_is_space (F : FnP K "_law_is_space" "_law_is_space" s_is_spaceL f fd) (D_sizeL : Dn P w K mg base 3 "_law_size" ["_law_words"] sp_size) : FnOk P w K mg base CX0 4 f fd ["_law_value", "_law_bits", "_law_words"] (sp_is_space CS) := by
  have nd := sc_is_spaceL.nd
  refine fnok F sc_is_spaceL (fun vs H Q E h => ?_) (fun cdv A outer s H vs Q E hr h => ?_)
  · obtain ⟨p, a, b, rows, ws, rfl, _⟩ := h
    rfl
  · obtain ⟨p, a, b, rows, ws, rfl, hp, hS, hl, hl2, e1, e2, k⟩ := h
    refine ⟨_, (pss_cons (ps_if (PW.pt (pw_or (pt_not (pt_val (pe_callB call_isi (by rfl) T.isinstance (by decide +kernel) (pa_cons (pv 0) (pa_cons (pe_glob (v := .ref CS) (by rfl) TS.gl rfl) pa_nil))))) (pw_or (pt_cmpR op_ne (pe_fld (pv 0) rfl) (pv 1) (nomark _)) (pw_or1 (pt_cmpR op_ne (pe_fld (pv 0) rfl) (pe_d D_sizeL hr (pa_cons (pv 2) pa_nil)) (nomark _))))))
    (pss_one (ps_ret pe_bl))
    pss_nil)
  (pss_one (ps_ret (pe_cmpR op_eq (pe_d D_sizeL hr (pa_cons (pe_op op_cat (pe_callTy call_listQ (by rfl) T.list (by decide +kernel) (pa_cons (pv 2) pa_nil)) (pe_callTy call_listQ (by rfl) T.list (by decide +kernel) (pa_cons (pe_fld (pv 0) rfl) pa_nil))) pa_nil)) (pe_fld (pv 0) rfl) (nomark _))))), ?_⟩
    obtain ⟨dx, t, h1, h2⟩ := hp
    refine ⟨_, rfl, _, _, _, _, _, rfl, .own _, TS.ty h1, TS.me, _, rfl, iteF ?_⟩
    refine ⟨_, rfl, p, CS, dx, _, vN b, rfl, h1, TS.cl, TS.nb, rfl, _, rfl, rfl, _, rfl, ?_⟩
    rw [show (!decide (vN b = vN b)) = false by simp]
    refine iteF ?_
    refine ⟨_, rfl, p, CS, dx, _, vN rows.length, rfl, h1, TS.cl, TS.nd, rfl, _, rfl, a, ws, rfl, hS, by omega, fun H1 s1 => ⟨rfl, _, rfl, ?_⟩⟩
    rw [show (!decide (vN rows.length = vN (rk ws))) = false by rw [e1]; simp]
    refine iteF ?_
    refine ⟨_, rfl, a, _, rfl, same_tq s1 hS, fun l1 hl1 => ?_⟩
    have s2 := same_new (o := .lst (ws.map vN)) s1 hl1
    refine ⟨_, rfl, p, CS, dx, _, .ref t, rfl, s2 _ _ h1, TS.cl, TS.nr, rfl, t, _, rfl, .inr (s2 _ _ h2), fun l2 hl2' => ?_⟩
    have s3 := same_new (o := .lst (rows.map vN)) s2 hl2'
    refine ⟨_, _, _, _, rfl, rfl, upd_new hl2' upd_same, upd_same, (by rw [List.length_map, List.length_map, sizeLine_eq]; omega), fun l3 hl3 => ?_⟩
    have s4 := same_new (o := .lst (ws.map vN ++ rows.map vN)) s3 hl3
    refine ⟨l3, ws ++ rows, rfl, .inl (by rw [upd_same, List.map_append]), (by rw [List.length_append]; omega), fun H5 s5 => ?_⟩
    refine ⟨_, rfl, p, CS, dx, _, vN rows.length, rfl, (s4.trans s5) _ _ h1, TS.cl, TS.nd, rfl, rfl, ?_⟩
    have ee : decide (vN (rk (ws ++ rows)) = vN rows.length) = true := by rw [e2]; simp
    show Q (.bl (decide (vN (rk (ws ++ rows)) = vN rows.length))) H5
    rw [ee]
    exact k _ (s4.trans s5)
end
end LaneX
set_option Elab.async false
set_option linter.all false
set_option maxRecDepth 100000
set_option maxHeartbeats 4000000
namespace LaneX
open PySem PySem.Spec PyProof.Rows L2
/-! ### ~x by an own __invert__ that may raise -/
def tInvX (C : Addr) (sp : Sp) (W : WX) (ta : TE) : TE := fun σ H Q => ta σ H fun x H1 => ∃ a dx fs, x = .ref a ∧ H1 a = some (.ins C dx fs) ∧ sp [x] H1 Q (WE W σ)
theorem pe_invX {X : Cx} {k j : Nat} {ps : List Str} {sp : Sp} {C : Addr} {pos : Pos} {e : Expr} {ta : TE} {W : WX} (D : Mx X.prog X.w X.K X.mg X.base k C "__invert__" ps sp) (tk : Takes X W) (hr : Room j X.A) (ha : PE X e ta) (hk : k ≤ j := by decide) : PE X (.UnaryOp .Invert e pos) (tInvX C sp W ta) := by
  refine ⟨fun pins s σ H Q I h => UnaryOp_ (thn (ha.run pins s σ H _ I h) fun v s1 ⟨x, H1, I1, rx, a, dx, fs, ex, ea, told⟩ => ?_)⟩
  subst ex
  cases (show v = Value.ref a from rx)
  obtain ⟨f, fd, mt, bd, fn⟩ := D.ex
  obtain ⟨_, O, _⟩ := ins_get I1.hok ea
  obtain ⟨_, J, _⟩ := O.look
  obtain ⟨_, F⟩ := I1.fr
  refine PySem.W.ksp_inv F I1.mod.kin J mt.at_ mt.fn ?_
  exact run_fnS (us := [.ref a]) (vs := [.ref a]) (E := WE W) fn (hr.mono hk) bd (passAt tk σ) I1 (.cons rfl .nil) told
end LaneX
set_option Elab.async false
set_option linter.all false
set_option maxRecDepth 100000
set_option maxHeartbeats 4000000
namespace LaneX
open PySem PySem.Spec PyProof.Rows L2
/-! ### values that are no whole numbers; values that are no lists -/
inductive OddW (H : Hp) : V → String → Prop where
  | non : OddW H .non "NoneType"
  | bl (b : Bool) : OddW H (.bl b) "bool"
  | neg (i : Int) (h : i < 0) : OddW H (.int i) "int"
  | str (x : Str) : OddW H (.str x) "str"
  | lst {a : Addr} {xs : List V} (e : H a = some (.lst xs)) : OddW H (.ref a) "list"
  | tup {a : Addr} {xs : List V} (e : H a = some (.tup xs)) : OddW H (.ref a) "tuple"
  | dk {a : Addr} {kvs : List (Key × V)} (e : H a = some (.dK kvs)) : OddW H (.ref a) "dict"
theorem OddW.ty {K : PySem.W.Frag} {H : Hp} {y : V} {t : String} (h : OddW H y t) : TyX K H y (.type t) := by
  cases h with
  | non => exact .base .non
  | bl b => exact .base (.bl b)
  | neg i _ => exact .base (.int i)
  | str x => exact .base (.str x)
  | lst e => exact .base (.lst e)
  | tup e => exact .base (.tup e)
  | dk e => exact .base (.dK e)
theorem OddW.same {H H' : Hp} {y : V} {t : String} (h : OddW H y t) (s : Same H H') : OddW H' y t := by
  cases h with
  | non => exact .non
  | bl b => exact .bl b
  | neg i h => exact .neg i h
  | str x => exact .str x
  | lst e => exact .lst (s _ _ e)
  | tup e => exact .tup (s _ _ e)
  | dk e => exact .dk (s _ _ e)
theorem OddW.ext {H H' : Hp} {y : V} {t : String} (h : OddW H y t) (z : LamX.ExtN H H') : OddW H' y t := by
  cases h with
  | non => exact .non
  | bl b => exact .bl b
  | neg i h => exact .neg i h
  | str x => exact .str x
  | lst e => exact .lst (z _ _ e (fun ps q => by cases q))
  | tup e => exact .tup (z _ _ e (fun ps q => by cases q))
  | dk e => exact .dk (z _ _ e (fun ps q => by cases q))
theorem OddW.int_ {K : PySem.W.Frag} {H : Hp} {y : V} {t : String} (h : OddW H y t) : PySem.W.kitOne K (.type t) (.type "int") = some (decide (t = "int" ∨ t = "bool")) := by
  cases h with
  | non => exact kit_ty (r := false) (by decide +kernel)
  | bl b => exact kit_ty (r := true) (by decide +kernel)
  | neg i _ => exact kit_ty (r := true) (by decide +kernel)
  | str x => exact kit_ty (r := false) (by decide +kernel)
  | lst e => exact kit_ty (r := false) (by decide +kernel)
  | tup e => exact kit_ty (r := false) (by decide +kernel)
  | dk e => exact kit_ty (r := false) (by decide +kernel)
theorem OddW.bool_ {K : PySem.W.Frag} {H : Hp} {y : V} {t : String} (h : OddW H y t) : PySem.W.kitOne K (.type t) (.type "bool") = some (decide (t = "bool")) := by
  cases h with
  | non => exact kit_ty (r := false) (by decide +kernel)
  | bl b => exact kit_ty (r := true) (by decide +kernel)
  | neg i _ => exact kit_ty (r := false) (by decide +kernel)
  | str x => exact kit_ty (r := false) (by decide +kernel)
  | lst e => exact kit_ty (r := false) (by decide +kernel)
  | tup e => exact kit_ty (r := false) (by decide +kernel)
  | dk e => exact kit_ty (r := false) (by decide +kernel)
/-- no word of so many bits -/
def BadW (H : Hp) (b : Nat) (y : V) : Prop := (∃ t, OddW H y t) ∨ ∃ n : Nat, y = vN n ∧ b < blen n
theorem BadW.same {H H' : Hp} {b : Nat} {y : V} (h : BadW H b y) (s : Same H H') : BadW H' b y := h.elim (fun ⟨t, o⟩ => .inl ⟨t, o.same s⟩) .inr
/-- no list and no tuple -/
inductive NoSeq (H : Hp) : V → String → Prop where
  | non : NoSeq H .non "NoneType"
  | bl (b : Bool) : NoSeq H (.bl b) "bool"
  | int (i : Int) : NoSeq H (.int i) "int"
  | str (x : Str) : NoSeq H (.str x) "str"
  | dk {a : Addr} {kvs : List (Key × V)} (e : H a = some (.dK kvs)) : NoSeq H (.ref a) "dict"
theorem NoSeq.ty {K : PySem.W.Frag} {H : Hp} {y : V} {t : String} (h : NoSeq H y t) : TyX K H y (.type t) := by
  cases h with
  | non => exact .base .non
  | bl b => exact .base (.bl b)
  | int i => exact .base (.int i)
  | str x => exact .base (.str x)
  | dk e => exact .base (.dK e)
theorem NoSeq.same {H H' : Hp} {y : V} {t : String} (h : NoSeq H y t) (s : Same H H') : NoSeq H' y t := by
  cases h with
  | non => exact .non
  | bl b => exact .bl b
  | int i => exact .int i
  | str x => exact .str x
  | dk e => exact .dk (s _ _ e)
theorem NoSeq.any {K : PySem.W.Frag} {H : Hp} {y : V} {t : String} (h : NoSeq H y t) : PySem.W.kitAny K (.type t) [.type "list", .type "tuple"] = some false := by
  have go : kitB t "list" = some false → kitB t "tuple" = some false → PySem.W.kitAny K (.type t) [.type "list", .type "tuple"] = some false := fun h1 h2 =>
    kitAny_cons (b := false) (kit_ty h1) (fun _ => kitAny_cons (b := false) (kit_ty h2) (fun _ => rfl) (fun z => by cases z)) (fun z => by cases z)
  cases h with
  | non => exact go (by decide +kernel) (by decide +kernel)
  | bl b => exact go (by decide +kernel) (by decide +kernel)
  | int i => exact go (by decide +kernel) (by decide +kernel)
  | str x => exact go (by decide +kernel) (by decide +kernel)
  | dk e => exact go (by decide +kernel) (by decide +kernel)
/-! ### a promise made from a stronger one -/
theorem Dn.imp {P : Program} {w : World} {K : PySem.W.Frag} {mg : Str → Option Value} {base : Heap} {k : Nat} {x : Str} {ps : List Str} {sp sp' : Sp} (D : Dn P w K mg base k x ps sp) (h : ∀ vs H Q E, sp' vs H Q E → sp vs H Q E) : Dn P w K mg base k x ps sp' := by
  obtain ⟨f, fd, h1, h2, h3, h4⟩ := D.ex
  exact ⟨f, fd, h1, h2, h3, h4.imp h⟩
theorem Dx.imp {P : Program} {w : World} {K : PySem.W.Frag} {mg : Str → Option Value} {base : Heap} {k : Nat} {x : Str} {ps : List Str} {sp sp' : Sp} (D : Dx P w K mg base k x ps sp) (h : ∀ vs H Q E, sp' vs H Q E → sp vs H Q E) : Dx P w K mg base k x ps sp' := by
  obtain ⟨f, fd, h1, h2, h3, h4⟩ := D.ex
  exact ⟨f, fd, h1, h2, h3, h4.imp h⟩
/-! ### a value is equal to itself -/
inductive SelfV (K : PySem.W.Frag) (H : Hp) : V → String → Prop
  | data {y : V} {t : String} {d : PyData} (ty : TyX K H y (.type t)) (dp : ∀ H', Same H H' → Dp K H' y d) (st : ∀ H', Same H H' → TyX K H' y (.type t)) (sh : SeqAt.shaped d = true) (e : PyData.eqv d d = true) (b : PySem.W.kitOne K (.type t) (.type "bool") = some (decide (t = "bool"))) : SelfV K H y t
  | dk {a : Addr} {ks : List (Key × V)} (e : H a = some (.dK ks)) (h : ∀ p ∈ ks, valV ks p.1 = some p.2 ∧ flatB p.2 = true) : SelfV K H (.ref a) "dict"
theorem SelfV.same {K : PySem.W.Frag} {H H' : Hp} {y : V} {t : String} (h : SelfV K H y t) (s : Same H H') : SelfV K H' y t := by
  cases h with
  | data ty dp st sh e b => exact .data (st _ s) (fun H2 s2 => dp H2 (s.trans s2)) (fun H2 s2 => st H2 (s.trans s2)) sh e b
  | dk e h => exact .dk (s _ _ e) h
theorem SelfV.ty {K : PySem.W.Frag} {H : Hp} {y : V} {t : String} (h : SelfV K H y t) : TyX K H y (.type t) := by
  cases h with
  | data ty => exact ty
  | dk e => exact .base (.dK e)
theorem SelfV.bool_ {K : PySem.W.Frag} {H : Hp} {y : V} {t : String} (h : SelfV K H y t) : PySem.W.kitOne K (.type t) (.type "bool") = some (decide (t = "bool")) := by
  cases h with
  | data _ _ _ _ _ b => exact b
  | dk e => exact kit_ty (r := false) (by decide +kernel)
/-- y == y -/
theorem op_eqS {X : Cx} {j : Nat} (hr : Room j X.A) : OpR X (compareOp .Eq) (fun x y H Q => (∃ t, x = y ∧ SelfV X.K H y t ∧ Q (.bl true) H)) := by
  intro pins s σ H x y v u Q I rx ry h
  obtain ⟨t, rfl, sv, q⟩ := h
  cases sv with
  | data ty dp st sh e b =>
    refine op_eqD hr.units pins s σ H x x v u Q I rx ry ⟨_, _, dp _ (Same.refl _), dp _ (Same.refl _), sh, sh, ?_⟩
    rw [e]
    exact q
  | dk e h => exact op_eq_dictA (Nat.lt_of_le_of_lt (Nat.le_add_right _ _) hr.units) pins s σ H _ _ v u Q I rx ry ⟨_, _, _, _, rfl, rfl, e, e, rfl, h, q⟩
/-- simple ones -/
theorem sv_non {K : PySem.W.Frag} {H : Hp} : SelfV K H .non "NoneType" := .data (.base .non) (fun _ _ => .non) (fun _ _ => .base .non) rfl rfl (kit_ty (r := false) (by decide +kernel))
theorem sv_bl {K : PySem.W.Frag} {H : Hp} (b : Bool) : SelfV K H (.bl b) "bool" := .data (.base (.bl b)) (fun _ _ => .bl b) (fun _ _ => .base (.bl b)) rfl (by cases b <;> rfl) (kit_ty (r := true) (by decide +kernel))
theorem sv_int {K : PySem.W.Frag} {H : Hp} (i : Int) : SelfV K H (.int i) "int" := .data (.base (.int i)) (fun _ _ => .int i) (fun _ _ => .base (.int i)) rfl (by simp [PyData.eqv]) (kit_ty (r := false) (by decide +kernel))
theorem sv_str {K : PySem.W.Frag} {H : Hp} {x : Str} (h : SeqAt.shaped (.str x) = true) : SelfV K H (.str x) "str" := .data (.base (.str x)) (fun _ _ => .str x) (fun _ _ => .base (.str x)) h (by simp [PyData.eqv]) (kit_ty (r := false) (by decide +kernel))
theorem sv_nil {K : PySem.W.Frag} {H : Hp} {a : Addr} (e : H a = some (.lst [])) : SelfV K H (.ref a) "list" := .data (d := .list []) (.base (.lst e)) (fun H' s => .lst (SqL.of (s _ _ e)) .nil) (fun H' s => .base (.lst (s _ _ e))) rfl rfl (kit_ty (r := false) (by decide +kernel))
end LaneX
set_option Elab.async false
set_option linter.all false
set_option maxRecDepth 100000
set_option maxHeartbeats 4000000
namespace LaneX
open PySem PySem.Spec PyProof.Rows L2
/-! ### tuples of whole numbers compared -/
section
variable {X : Cx}
theorem op_neT (hu : X.A.units + 64 < cLine) : OpR X (compareOp .NotEq) (fun x y H Q => ∃ (a b : Addr) (ns ms : List Nat), x = .ref a ∧ y = .ref b ∧ H a = some (.tup (ns.map vN)) ∧ H b = some (.tup (ms.map vN)) ∧ Q (.bl (!decide (ns = ms))) H) := by
  intro pins s σ H x y v u Q I rx ry h
  obtain ⟨a, b, ns, ms, rfl, rfl, ha, hb, q⟩ := h
  rw [vN_ints] at ha hb
  refine op_neD hu pins s σ H _ _ v u Q I rx ry ⟨.tuple ((ns.map Int.ofNat).map .int), .tuple ((ms.map Int.ofNat).map .int), .tup (SqT.of ha) (dpAll_ints _), .tup (SqT.of hb) (dpAll_ints _), shaped_tints _, shaped_tints _, ?_⟩
  show Q (.bl (!PyData.eqvAll ((ns.map Int.ofNat).map .int) ((ms.map Int.ofNat).map .int))) H
  rw [eqvAll_ints, dec_ofNat]
  exact q
theorem op_eqT (hu : X.A.units + 64 < cLine) : OpR X (compareOp .Eq) (fun x y H Q => ∃ (a b : Addr) (ns ms : List Nat), x = .ref a ∧ y = .ref b ∧ H a = some (.tup (ns.map vN)) ∧ H b = some (.tup (ms.map vN)) ∧ Q (.bl (decide (ns = ms))) H) := by
  intro pins s σ H x y v u Q I rx ry h
  obtain ⟨a, b, ns, ms, rfl, rfl, ha, hb, q⟩ := h
  rw [vN_ints] at ha hb
  refine op_eqD hu pins s σ H _ _ v u Q I rx ry ⟨.tuple ((ns.map Int.ofNat).map .int), .tuple ((ms.map Int.ofNat).map .int), .tup (SqT.of ha) (dpAll_ints _), .tup (SqT.of hb) (dpAll_ints _), shaped_tints _, shaped_tints _, ?_⟩
  show Q (.bl (PyData.eqvAll ((ns.map Int.ofNat).map .int) ((ms.map Int.ofNat).map .int))) H
  rw [eqvAll_ints, dec_ofNat]
  exact q
end
end LaneX
set_option Elab.async false
set_option linter.all false
set_option maxRecDepth 100000
set_option maxHeartbeats 4000000
namespace LaneX
open PySem PySem.Spec PyProof.Rows L2
/-! ### o.f(e), f a field that stands for an instance of C -/
def tOf (m : Str) (Co C : Addr) (sp : Sp) (to : TE) (t : TA) : TE := fun σ H Q => to σ H fun x H1 => ∃ (a dx b : Addr) (fs : List (Str × V)), x = V.ref a ∧ H1 a = some (.ins Co dx fs) ∧ fs.lookup m = some (.ref b) ∧ t σ H1 fun vs H2 => (∃ dy gs, H2 b = some (.ins C dy gs)) ∧ sp (V.ref b :: vs) H2 Q E0
section
variable {X : Cx}
theorem pe_of {k j : Nat} {Co C : Addr} {ps : List Str} {sp : Sp} {m : Str} {apos pos : Pos} {o e : Expr} {es : List Expr} {to : TE} {t : TA} {pl : Sem Bool} (ho : PE X o to) (c : Cls X.K Co) (n : NoAttr X.K Co m) (D : Mn X.prog X.w X.K X.mg X.base k C "__call__" ps sp) (hc : callFn X.K C = true) (hr : Room j X.A) (ha : PA X (e :: es) t) (hk : k ≤ j := by decide)
    (hst : starEach (e :: es) X.env = (false, eval e X.env) :: starEach es X.env := by rfl) (hpl : (backTo pos (starEach es X.env)).any (·.1) = false := by rfl)
    (ht : eval (.Call (.Attribute o m apos) (e :: es) [] pos) X.env = (do
      let ov ← eval o X.env
      standAt apos.atName
      let (f, first) ← holding [ov] (getMethod ov m pl)
      callWith pos f first (backTo pos (starEach (e :: es) X.env)) (backToKw pos (keywordEach [] X.env))) := by rfl) :
    PE X (.Call (.Attribute o m apos) (e :: es) [] pos) (tOf m Co C sp to t) := by
  refine ⟨fun pins s σ H Q I h => ?_⟩
  obtain ⟨f, fd, h1, h3, h4⟩ := D.ex
  refine PySem.W.methodCall_KW (pl := pl) (thn (ho.run pins s σ H _ I h) fun u s1 ⟨x, H1, I1, rx, a, dx, b, fs, ex, ea, l, q⟩ => ?_) ht
  subst ex
  obtain rfl : u = Value.ref a := rx
  refine getmeth_fld I1 ea c n l fun u s1' I1' ru => ?_
  obtain rfl : u = Value.ref b := ru
  refine StX.callO_with (thn (ha.run pos pins s1' σ H1 _ I1' q) fun us s2 ⟨vs, H2, I2, r, ⟨dy, gs, hi⟩, q2⟩ => ?_) hst hpl
  obtain ⟨mA, O, _⟩ := ins_get I2.hok hi
  obtain ⟨od, J, _⟩ := O.look
  refine ⟨⟨C, _, od, J, rfl⟩, wpAny_call (PySem.W.kco_code I2.kIn J rfl h1.at_ h1.fn (callFn_ok hc h1.at_) ?_)⟩
  have r2 : Vals (V.ref b :: vs) (Value.ref b :: us) := .cons rfl r
  have hl : (Value.ref b :: us).length = ps.length := by rw [← r2.length]; exact h4.len _ _ _ _ q2
  refine codeAny_mono (h4.run X.A X.stack s2 H2 ⟨Value.ref b :: us, []⟩ (Value.ref b :: us) (V.ref b :: vs) Q E0 (hr.mono hk) I2.env0 (by simpa using h3 s2 (Value.ref b :: us) I2.kIn (by simpa using hl)) r2 q2) fun r s' hq => ?_
  cases r with
  | error e => exact pass0 pins σ H2 s2 e s' I2 hq
  | ok fl =>
    cases fl with
    | ret u => exact I2.after hq
    | next => exact False.elim hq
    | brk => exact False.elim hq
    | cont => exact False.elim hq
end
/-! ### a pure comprehension over enumerate(l), with a condition -/
section
variable {K : PySem.W.Frag} {g : TG} {tt : TT} {te : TE} {vs : List Nat} {σ : L2.St} {H : Hp} {Q : Addr → Hp → Prop}
theorem lc_pureLF {a : Addr} {xs : List V} (p : Nat → Bool) (v : Nat → V) (hS : H a = some (.lst xs)) (hlen : xs.length ≤ 1000000) (hs : ∀ i x H' T, xs[i]? = some x → Same H H' → H' T = some (.tup [vN i, x]) → LcT g tt te vs σ (.ref T) H' (p i) (v i))
    (hd : ∀ D H', H D = none → Same H H' → H' D = some (.lst (((List.range xs.length).filter p).map v)) → Q D H') : LcR g tt te vs σ Q (Ite K a) H := by
  intro D hD
  refine lc_it walk_enum (fun i H' => Same H H' ∧ H' D = some (.lst ((((List.range xs.length).take i).filter p).map v))) ⟨same_new0 hD, by simpa using upd_same⟩ (fun i H' _ hp => SqL.of (hp.1 _ _ hS)) (fun i x H' H2 hi hp y => ?_) (fun H' hp => ?_)
  · obtain ⟨T, x1, x2, rfl, nT, rfl, e1, e2⟩ := y
    cases e1
    have s2 : Same H (upd H' T (.tup [vN i, x2])) := same_new hp.1 nT
    exact lc_turn (l := List.range xs.length) (ι := fun _ => .ref T) (p := p) (v := v) (by simpa using hlen) hD (range_get hi) s2 (upd_new nT hp.2) (hs i x2 _ T e2 s2 upd_same)
  · obtain ⟨h1, h2⟩ := hp
    rw [List.take_of_length_le (by simp)] at h2
    exact hd D H' hD h1 h2
end
end LaneX
set_option linter.all false
namespace LaneX
/-! ### kernels, tags, meets: their sizes -/
theorem xor_cancel (a b : Nat) : a ^^^ (a ^^^ b) = b := by rw [← Nat.xor_assoc, Nat.xor_self, Nat.zero_xor]
theorem xor_cancel_right (a b : Nat) : a ^^^ b ^^^ b = a := by rw [Nat.xor_assoc, Nat.xor_self, Nat.xor_zero]
/-- a linear map of spans -/
structure Lin (φ : Nat → Nat) : Prop where
  z : φ 0 = 0
  x : ∀ a b, φ (a ^^^ b) = φ a ^^^ φ b
theorem Lin.spn {φ : Nat → Nat} (L : Lin φ) {l : List Nat} {y : Nat} (h : Spn l y) : Spn (l.map φ) (φ y) := by
  induction h with
  | zero => rw [L.z]; exact .zero
  | add hw _ ih => rw [L.x]; exact .add (List.mem_map.mpr ⟨_, hw, rfl⟩) ih
theorem Lin.back {φ : Nat → Nat} (L : Lin φ) {l : List Nat} {z : Nat} (h : Spn (l.map φ) z) : ∃ y, Spn l y ∧ φ y = z := by
  induction h with
  | zero => exact ⟨0, .zero, L.z⟩
  | add hw _ ih =>
    obtain ⟨y, hy, rfl⟩ := ih
    obtain ⟨u, hu, rfl⟩ := List.mem_map.mp hw
    exact ⟨y ^^^ u, .add hu hy, L.x _ _⟩
theorem Lin.comp {φ ψ : Nat → Nat} (L : Lin φ) (M : Lin ψ) : Lin (fun x => φ (ψ x)) := ⟨by rw [M.z, L.z], fun a b => by rw [M.x, L.x]⟩
theorem lin_clr (rows : List Nat) : Lin (clr rows) := ⟨clr_zero rows, clr_xor rows⟩
theorem lin_lft (rows : List Nat) : Lin (lft rows) := ⟨lft_zero rows, lft_xor rows⟩
theorem lin_shr (b : Nat) : Lin (fun x => x >>> b) := ⟨Nat.zero_shiftRight b, fun a c => Nat.shiftRight_xor_distrib⟩
theorem lin_mod (b : Nat) : Lin (fun x => x % 2 ^ b) := ⟨Nat.zero_mod _, fun a c => Nat.xor_mod_two_pow⟩
/-- taking away what S spans -/
structure Red (S : List Nat) (φ : Nat → Nat) : Prop where
  l : Lin φ
  s : ∀ x, Spn S (x ^^^ φ x)
  k : ∀ x, φ x = 0 ↔ Spn S x
theorem red_clr (S : List Nat) : Red S (clr (spn S)) := ⟨lin_clr _, fun x => (spn_span S _).mp (spn_clr _ x), fun x => clr_spn_zero⟩
theorem red_lft (S : List Nat) : Red S (lft (bas S)) := ⟨lin_lft _, fun x => (bas_span S _).mp (spn_lft _ x), fun x => lft_bas⟩
theorem Red.mem {S ls : List Nat} {φ : Nat → Nat} (R : Red S φ) (x : Nat) : Spn (ls.map φ) (φ x) ↔ Spn (S ++ ls) x := by
  constructor
  · intro h
    have h1 : Spn (S ++ ls) (φ x) := h.mono fun y hy => by
      obtain ⟨u, hu, rfl⟩ := List.mem_map.mp hy
      have a := ((R.s u).sub (vs := S ++ ls) fun z hz => List.mem_append_left _ hz).xor (Spn.of (List.mem_append_right S hu))
      rwa [Nat.xor_comm u, xor_cancel_right] at a
    have a := ((R.s x).sub (vs := S ++ ls) fun z hz => List.mem_append_left _ hz).xor h1
    rwa [xor_cancel_right] at a
  · intro h
    induction h with
    | zero => rw [R.l.z]; exact .zero
    | @add y u hu _ ih =>
      rw [R.l.x]
      refine ih.xor ?_
      rcases List.mem_append.mp hu with hu | hu
      · rw [(R.k u).mpr (.of hu)]; exact .zero
      · exact .of (List.mem_map.mpr ⟨u, hu, rfl⟩)
theorem rk_snoc' (a : List Nat) (w : Nat) [Decidable (Spn a w)] : rk (a ++ [w]) = if Spn a w then rk a else rk a + 1 := by
  split
  · rename_i h; exact rk_snoc_in h
  · rename_i h; exact rk_snoc_out h
theorem Red.rk {S : List Nat} {φ : Nat → Nat} (R : Red S φ) : ∀ ls, rk (ls.map φ) + rk S = rk (S ++ ls) :=
  snoc_rec (p := fun ls => LaneX.rk (ls.map φ) + LaneX.rk S = LaneX.rk (S ++ ls)) (by simp [LaneX.rk, spn]) (fun a x ih => by
    rw [List.map_append, ← List.append_assoc]
    show LaneX.rk (a.map φ ++ [φ x]) + _ = _
    by_cases h : Spn (S ++ a) x
    · rw [rk_snoc_in h, rk_snoc_in ((R.mem x).mpr h)]; exact ih
    · rw [rk_snoc_out h, rk_snoc_out (fun z => h ((R.mem x).mp z))]; omega)
/-! ### images -/
theorem imf_lin (cols : List Nat) : ∀ n, Lin (fun x => imf cols x n)
  | 0 => ⟨rfl, fun _ _ => (Nat.xor_self 0).symm⟩
  | n + 1 => by
    have ih := imf_lin cols n
    refine ⟨by show imf cols 0 (n + 1) = 0; rw [imf_succ, Nat.zero_testBit]; exact ih.z, fun a b => ?_⟩
    have e := ih.x a b
    show imf cols (a ^^^ b) (n + 1) = imf cols a (n + 1) ^^^ imf cols b (n + 1)
    simp only [imf_succ, Nat.testBit_xor] at e ⊢
    rw [e]
    generalize imf cols a n = A
    generalize imf cols b n = B
    generalize cols.getD n 0 = c
    cases a.testBit n <;> cases b.testBit n <;> simp
    · rw [Nat.xor_assoc]
    · rw [Nat.xor_assoc, Nat.xor_comm B c, ← Nat.xor_assoc]
    · rw [Nat.xor_comm A c, Nat.xor_assoc c A, ← Nat.xor_assoc A, Nat.xor_comm c, Nat.xor_assoc, Nat.xor_self, Nat.xor_zero]
theorem lin_img (cols : List Nat) : Lin (img cols) := imf_lin cols _
theorem imf_unit (cols : List Nat) (i : Nat) : ∀ n, imf cols (2 ^ i) n = if i < n then cols.getD i 0 else 0
  | 0 => by simp [imf]
  | n + 1 => by
    rw [imf_succ, imf_unit cols i n, Nat.testBit_two_pow]
    by_cases h : i = n
    · subst h; simp
    · have : (i < n + 1) ↔ i < n := by omega
      simp [h, this]
theorem img_unit (cols : List Nat) {i : Nat} (h : i < cols.length) : img cols (2 ^ i) = cols.getD i 0 := by
  unfold img
  rw [imf_unit, if_pos h]
theorem imf_map {φ : Nat → Nat} (L : Lin φ) (cols : List Nat) (x : Nat) : ∀ n, imf (cols.map φ) x n = φ (imf cols x n)
  | 0 => L.z.symm
  | n + 1 => by
    rw [imf_succ, imf_succ, imf_map L cols x n]
    have e : (cols.map φ).getD n 0 = φ (cols.getD n 0) := by
      simp only [List.getD_eq_getElem?_getD, List.getElem?_map]
      cases cols[n]? with
      | none => exact L.z.symm
      | some c => rfl
    rw [e]
    split
    · rw [L.x]
    · rfl
theorem img_map {φ : Nat → Nat} (L : Lin φ) (cols : List Nat) (x : Nat) : img (cols.map φ) x = φ (img cols x) := by
  unfold img
  rw [List.length_map, imf_map L]
/-- one bit more -/
theorem bit_split {x n : Nat} (h : x < 2 ^ (n + 1)) : x < 2 ^ n ∨ (x ^^^ 2 ^ n < 2 ^ n ∧ x.testBit n = true) := by
  by_cases q : x.testBit n = true
  · refine .inr ⟨?_, q⟩
    have h1 : x ^^^ 2 ^ n < 2 ^ (n + 1) := Nat.xor_lt_two_pow h (Nat.pow_lt_pow_right (by decide) (Nat.lt_succ_self n))
    refine Classical.byContradiction fun z => ?_
    have h3 : blen (x ^^^ 2 ^ n) ≤ n + 1 := blen_le.mpr h1
    have h4 : ¬ blen (x ^^^ 2 ^ n) ≤ n := fun y => z (blen_le.mp y)
    have h5 : blen (x ^^^ 2 ^ n) = n + 1 := by omega
    have h6 : x ^^^ 2 ^ n ≠ 0 := fun e => by rw [e] at h5; simp [blen] at h5
    have h7 := testBit_top h6
    rw [h5, Nat.add_sub_cancel, Nat.testBit_xor, q, Nat.testBit_two_pow] at h7
    simp at h7
  · refine .inl (Classical.byContradiction fun z => q ?_)
    have h3 : blen x ≤ n + 1 := blen_le.mpr h
    have h4 : ¬ blen x ≤ n := fun y => z (blen_le.mp y)
    have h5 : blen x = n + 1 := by omega
    have h6 : x ≠ 0 := fun e => by rw [e] at h5; simp [blen] at h5
    have h7 := testBit_top h6
    rwa [h5, Nat.add_sub_cancel] at h7
theorem not_bit_of_lt {x n : Nat} (h : x < 2 ^ n) : x.testBit n = false := Nat.testBit_lt_two_pow h
theorem getD_mem {cols : List Nat} {i : Nat} (h : i < cols.length) : cols.getD i 0 ∈ cols := by
  rw [List.getD_eq_getElem?_getD, List.getElem?_eq_getElem h]
  exact List.getElem_mem h
theorem getD_take {cols : List Nat} {i n : Nat} (h : i < n) (hn : n ≤ cols.length) : cols.getD i 0 ∈ cols.take n := by
  have e : (cols.take n).getD i 0 = cols.getD i 0 := by
    simp only [List.getD_eq_getElem?_getD, List.getElem?_take, h, if_true]
  rw [← e]
  exact getD_mem (by rw [List.length_take]; omega)
theorem img_span {cols : List Nat} : ∀ {n x : Nat}, n ≤ cols.length → x < 2 ^ n → Spn (cols.take n) (img cols x)
  | 0, x, hn, h => by
    have : x = 0 := by simpa using h
    rw [this, (lin_img cols).z]; exact .zero
  | n + 1, x, hn, h => by
    rcases bit_split h with h | ⟨h, _⟩
    · exact (img_span (by omega) h).sub fun w hw => List.take_subset_take_left _ (Nat.le_succ n) hw
    · have a := (img_span (n := n) (by omega) h).sub (vs := cols.take (n + 1)) fun w hw => List.take_subset_take_left _ (Nat.le_succ n) hw
      rw [(lin_img cols).x, img_unit cols hn] at a
      have b := a.xor (.of (getD_take (Nat.lt_succ_self n) hn))
      rwa [xor_cancel_right] at b
theorem span_img {cols : List Nat} {n : Nat} (hn : n ≤ cols.length) {c : Nat} (h : Spn (cols.take n) c) : ∃ x, x < 2 ^ n ∧ img cols x = c := by
  induction h with
  | zero => exact ⟨0, Nat.two_pow_pos n, (lin_img cols).z⟩
  | @add y w hw _ ih =>
    obtain ⟨x, hx, rfl⟩ := ih
    obtain ⟨i, hi, rfl⟩ := List.getElem_of_mem hw
    rw [List.length_take] at hi
    refine ⟨x ^^^ 2 ^ i, Nat.xor_lt_two_pow hx (Nat.pow_lt_pow_right (by decide) (by omega)), ?_⟩
    rw [(lin_img cols).x, img_unit cols (by omega)]
    congr 1
    rw [List.getElem_take, List.getD_eq_getElem?_getD, List.getElem?_eq_getElem (by omega)]
    rfl
/-! ### the kernel's rows -/
theorem Rws.low {R : List Nat} (A : Rws R) (b : Nat) : Rws (R.filter fun r => decide (blen r ≤ b)) := ⟨fun r hr => A.nz r (List.mem_filter.mp hr).1, A.red.sublist List.filter_sublist⟩
theorem Rws.low_span {R : List Nat} (A : Rws R) (b x : Nat) : Spn (R.filter fun r => decide (blen r ≤ b)) x ↔ Spn R x ∧ x < 2 ^ b := by
  constructor
  · intro h
    exact ⟨h.sub fun w hw => (List.mem_filter.mp hw).1, h.lt fun w hw => blen_le.mp (by simpa using (List.mem_filter.mp hw).2)⟩
  · rintro ⟨h, hx⟩
    have L := A.low b
    rw [L.span]
    generalize hl : (R.filter fun r => decide (blen r ≤ b)) = low at *
    have lt : ∀ r ∈ low, r < 2 ^ b := fun w hw => blen_le.mp (by rw [← hl] at hw; simpa using (List.mem_filter.mp hw).2)
    have h1 : Spn R (clr low x) := by
      have a := h.xor ((spn_clr low x).sub (vs := R) fun w hw => by rw [← hl] at hw; exact (List.mem_filter.mp hw).1)
      rwa [xor_cancel] at a
    have h2 : clr low x < 2 ^ b := clr_lt lt hx
    refine Classical.byContradiction fun hn => ?_
    obtain ⟨r, hr, e⟩ := A.top_mem h1 hn
    have hm : r ∈ low := by
      rw [← hl]
      exact List.mem_filter.mpr ⟨hr, decide_eq_true (by rw [e]; exact blen_le.mpr h2)⟩
    have a := clr_tops (x := x) L r hm
    rw [e, testBit_top hn] at a
    cases a
theorem add_eq_xor {n a b : Nat} (h : b < 2 ^ n) : (a <<< n) + b = (a <<< n) ^^^ b := by
  have e : a <<< n + b = a <<< n ||| b := Nat.shiftLeft_add_eq_or_of_lt h a
  rw [e]
  apply Nat.eq_of_testBit_eq
  intro i
  rw [Nat.testBit_or, Nat.testBit_xor, Nat.testBit_shiftLeft]
  by_cases q : n ≤ i
  · have : b.testBit i = false := Nat.testBit_lt_two_pow (Nat.lt_of_lt_of_le h (Nat.pow_le_pow_right (by decide) q))
    simp [this]
  · simp [q]
theorem prs_fwd (cols : List Nat) {y : Nat} (h : Spn (prs cols) y) : ∃ x, x < 2 ^ cols.length ∧ y = (img cols x <<< cols.length) ^^^ x := by
  induction h with
  | zero => exact ⟨0, Nat.two_pow_pos _, by rw [(lin_img cols).z]; simp⟩
  | @add y w hw _ ih =>
    obtain ⟨x, hx, rfl⟩ := ih
    obtain ⟨i, hi, rfl⟩ := List.mem_map.mp hw
    have hi := List.mem_range.mp hi
    have hu : 2 ^ i < 2 ^ cols.length := Nat.pow_lt_pow_right (by decide) hi
    refine ⟨x ^^^ 2 ^ i, Nat.xor_lt_two_pow hx hu, ?_⟩
    rw [(lin_img cols).x, img_unit cols hi, Nat.one_shiftLeft, add_eq_xor hu, Nat.shiftLeft_xor_distrib, xor4]
theorem prs_bwd (cols : List Nat) : ∀ {n x : Nat}, n ≤ cols.length → x < 2 ^ n → Spn (prs cols) ((img cols x <<< cols.length) ^^^ x)
  | 0, x, hn, h => by
    have : x = 0 := by simpa using h
    rw [this, (lin_img cols).z]
    simp only [Nat.zero_shiftLeft, Nat.xor_self]
    exact .zero
  | n + 1, x, hn, h => by
    rcases bit_split h with h | ⟨h, _⟩
    · exact prs_bwd cols (by omega) h
    · have a := prs_bwd cols (n := n) (by omega) h
      have hu : 2 ^ n < 2 ^ cols.length := Nat.pow_lt_pow_right (by decide) hn
      have b : Spn (prs cols) ((cols.getD n 0 <<< cols.length) ^^^ 2 ^ n) := by
        rw [← add_eq_xor hu]
        refine .of (List.mem_map.mpr ⟨n, List.mem_range.mpr hn, ?_⟩)
        rw [Nat.one_shiftLeft]
      have c := a.xor b
      rw [(lin_img cols).x, img_unit cols hn, Nat.shiftLeft_xor_distrib, xor4, xor_cancel_right, xor_cancel_right] at c
      exact c
theorem ker_span (cols : List Nat) (x : Nat) : Spn (ker cols) x ↔ x < 2 ^ cols.length ∧ img cols x = 0 := by
  unfold ker prd
  rw [(spn_rws (prs cols)).low_span, spn_span]
  constructor
  · rintro ⟨h, hx⟩
    obtain ⟨y, hy, e⟩ := prs_fwd cols h
    have e2 : x >>> cols.length = img cols y := by
      rw [e, Nat.shiftRight_xor_distrib, Nat.shiftLeft_shiftRight, Nat.shiftRight_eq_div_pow, Nat.div_eq_of_lt hy, Nat.xor_zero]
    rw [Nat.shiftRight_eq_div_pow, Nat.div_eq_of_lt hx] at e2
    rw [← e2] at e
    simp only [Nat.zero_shiftLeft, Nat.zero_xor] at e
    rw [e]
    exact ⟨hy, e2.symm⟩
  · rintro ⟨hx, e⟩
    have a := prs_bwd cols (Nat.le_refl _) hx
    rw [e] at a
    simp only [Nat.zero_shiftLeft, Nat.zero_xor] at a
    exact ⟨a, hx⟩
/-! ### the tags -/
theorem tgl_fst : ∀ (rows : List (Nat × Nat)) (st : Nat × Nat), (tgl rows st).1 = lft (rows.map Prod.fst) st.1
  | [], _ => rfl
  | r :: rs, st => by
    show (tgl rs _).1 = lft _ _
    rw [tgl_fst rs]
    show _ = lft (rs.map Prod.fst) (if st.1.testBit (low r.1) = true then st.1 ^^^ r.1 else st.1)
    dsimp only
    split <;> rfl
theorem tgl_keep {p : Nat × Nat → Prop} (hx : ∀ a b, p a → p b → p (a.1 ^^^ b.1, a.2 ^^^ b.2)) : ∀ {rows : List (Nat × Nat)} {st : Nat × Nat}, (∀ r ∈ rows, p r) → p st → p (tgl rows st)
  | [], _, _, h => h
  | r :: rs, st, hr, h => by
    show p (tgl rs _)
    refine tgl_keep hx (fun s hs => hr s (.tail _ hs)) ?_
    dsimp only
    split
    · exact hx _ _ h (hr r (.head _))
    · exact h
theorem tgl_snd {n : Nat} : ∀ {rows : List (Nat × Nat)} {st : Nat × Nat}, (∀ r ∈ rows, r.2 < 2 ^ n) → (tgl rows st).2 ^^^ st.2 < 2 ^ n
  | [], st, _ => by show st.2 ^^^ st.2 < 2 ^ n; rw [Nat.xor_self]; exact Nat.two_pow_pos n
  | r :: rs, st, hr => by
    show (tgl rs _).2 ^^^ st.2 < 2 ^ n
    dsimp only
    split
    · have ih := tgl_snd (rows := rs) (st := (st.1 ^^^ r.1, st.2 ^^^ r.2)) fun s hs => hr s (.tail _ hs)
      have a := Nat.xor_lt_two_pow ih (hr r (.head _))
      dsimp only at a
      rwa [← Nat.xor_assoc, xor_cancel_right] at a
    · exact tgl_snd fun s hs => hr s (.tail _ hs)
/-- what holds of the tags of n columns -/
structure Tgi (cols : List Nat) (n : Nat) : Prop where
  im : ∀ r ∈ (tgs cols n).1, img cols r.2 = r.1 ∧ r.2 < 2 ^ n
  lw : Lws ((tgs cols n).1.map Prod.fst)
  sp : ∀ x, Spn ((tgs cols n).1.map Prod.fst) x ↔ Spn (cols.take n) x
  im0 : ∀ t ∈ (tgs cols n).2, img cols t = 0 ∧ t < 2 ^ n
  ind : Ind (tgs cols n).2
  all : ∀ x, x < 2 ^ n → img cols x = 0 → Spn (tgs cols n).2 x
theorem tgi (cols : List Nat) : ∀ n, n ≤ cols.length → Tgi cols n
  | 0, _ => ⟨fun r h => (by cases h), Lws.nil, fun x => Iff.rfl, fun t h => (by cases h), .nil, fun x h _ => (by
      have : x = 0 := by simpa using h
      rw [this]; exact .zero)⟩
  | n + 1, hn => by
    have I := tgi cols n (by omega)
    have hc := getD_take (Nat.lt_succ_self n) hn
    have ic : img cols (1 <<< n) = cols.getD n 0 := by rw [Nat.one_shiftLeft, img_unit cols hn]
    have mono : 2 ^ n ≤ 2 ^ (n + 1) := Nat.pow_le_pow_right (by decide) (Nat.le_succ n)
    have hu : 1 <<< n < 2 ^ (n + 1) := by rw [Nat.one_shiftLeft]; exact Nat.pow_lt_pow_right (by decide) (Nat.lt_succ_self n)
    have tk : cols.take (n + 1) = cols.take n ++ [cols.getD n 0] := by
      rw [List.take_succ, List.getD_eq_getElem?_getD, List.getElem?_eq_getElem (by omega)]; rfl
    have e1 := tgl_fst (tgs cols n).1 (cols.getD n 0, 1 <<< n)
    have e2 : img cols (tgl (tgs cols n).1 (cols.getD n 0, 1 <<< n)).2 = (tgl (tgs cols n).1 (cols.getD n 0, 1 <<< n)).1 ∧ (tgl (tgs cols n).1 (cols.getD n 0, 1 <<< n)).2 < 2 ^ (n + 1) :=
      tgl_keep (p := fun q => img cols q.2 = q.1 ∧ q.2 < 2 ^ (n + 1)) (fun a b ha hb => ⟨by show img cols (a.2 ^^^ b.2) = a.1 ^^^ b.1; rw [(lin_img cols).x, ha.1, hb.1], Nat.xor_lt_two_pow ha.2 hb.2⟩) (fun r hr => ⟨(I.im r hr).1, Nat.lt_of_lt_of_le (I.im r hr).2 mono⟩) ⟨ic, hu⟩
    have e3 : (tgl (tgs cols n).1 (cols.getD n 0, 1 <<< n)).2 ^^^ (1 <<< n) < 2 ^ n := tgl_snd (st := (cols.getD n 0, 1 <<< n)) fun r hr => (I.im r hr).2
    have bs := bstep_span ((tgs cols n).1.map Prod.fst) (cols.getD n 0)
    have bw := I.lw.step (cols.getD n 0)
    have sp' : ∀ x, Spn (bstep ((tgs cols n).1.map Prod.fst) (cols.getD n 0)) x ↔ Spn (cols.take (n + 1)) x := fun x => by rw [bs, tk, span_app I.sp]
    have stp := tgs_succ cols n
    generalize htl : tgl (tgs cols n).1 (cols.getD n 0, 1 <<< n) = tl at *
    have e1' : tl.1 = lft ((tgs cols n).1.map Prod.fst) (cols.getD n 0) := e1
    by_cases z : tl.1 = 0
    · rw [if_pos z] at stp
      have ez : bstep ((tgs cols n).1.map Prod.fst) (cols.getD n 0) = (tgs cols n).1.map Prod.fst := by unfold bstep; rw [if_pos (by rw [← e1']; exact z)]
      rw [ez] at sp'
      refine ⟨?_, ?_, ?_, ?_, ?_, ?_⟩ <;> rw [stp]
      · exact fun r hr => ⟨(I.im r hr).1, Nat.lt_of_lt_of_le (I.im r hr).2 mono⟩
      · exact I.lw
      · exact sp'
      · intro t ht
        rcases List.mem_append.mp ht with ht | ht
        · exact ⟨(I.im0 t ht).1, Nat.lt_of_lt_of_le (I.im0 t ht).2 mono⟩
        · rcases List.mem_singleton.mp ht with rfl
          exact ⟨e2.1.trans z, e2.2⟩
      · refine .snoc I.ind fun hs => ?_
        have lt := hs.lt fun w hw => (I.im0 w hw).2
        have a := Nat.xor_lt_two_pow lt e3
        rw [xor_cancel, Nat.one_shiftLeft] at a
        exact Nat.lt_irrefl _ a
      · intro x hx h0
        have sub : ∀ w ∈ (tgs cols n).2, w ∈ (tgs cols n).2 ++ [tl.2] := fun w hw => List.mem_append_left _ hw
        rcases bit_split hx with h | ⟨h, _⟩
        · exact (I.all x h h0).sub sub
        · have a : x ^^^ tl.2 < 2 ^ n := by
            have := Nat.xor_lt_two_pow h e3
            rwa [Nat.one_shiftLeft, Nat.xor_comm tl.2, Nat.xor_assoc, xor_cancel] at this
          have b := (I.all _ a (by rw [(lin_img cols).x, h0, e2.1, z]; rfl)).sub sub
          have c := b.xor (.of (List.mem_append_right _ (List.mem_singleton_self tl.2)))
          rwa [xor_cancel_right] at c
    · rw [if_neg z] at stp
      have ez : bstep ((tgs cols n).1.map Prod.fst) (cols.getD n 0) = (tgs cols n).1.map Prod.fst ++ [tl.1] := by unfold bstep; rw [if_neg (by rw [← e1']; exact z), ← e1']
      rw [ez] at sp' bw
      refine ⟨?_, ?_, ?_, ?_, ?_, ?_⟩ <;> rw [stp]
      · intro r hr
        rcases List.mem_append.mp hr with hr | hr
        · exact ⟨(I.im r hr).1, Nat.lt_of_lt_of_le (I.im r hr).2 mono⟩
        · rcases List.mem_singleton.mp hr with rfl
          exact e2
      · rw [List.map_append]; exact bw
      · rw [List.map_append]; exact sp'
      · exact fun t ht => ⟨(I.im0 t ht).1, Nat.lt_of_lt_of_le (I.im0 t ht).2 mono⟩
      · exact I.ind
      · intro x hx h0
        rcases bit_split hx with h | ⟨h, _⟩
        · exact I.all x h h0
        · exfalso
          have a := img_span (cols := cols) (n := n) (by omega) h
          rw [(lin_img cols).x, h0, Nat.zero_xor, img_unit cols hn, ← I.sp, I.lw.span] at a
          exact z (e1'.trans a)
theorem tgd_span (cols : List Nat) (x : Nat) : Spn (tgd cols).2 x ↔ x < 2 ^ cols.length ∧ img cols x = 0 := by
  have I := tgi cols cols.length (Nat.le_refl _)
  constructor
  · intro h
    refine ⟨h.lt fun w hw => (I.im0 w hw).2, ?_⟩
    induction h with
    | zero => exact (lin_img cols).z
    | add hw _ ih => rw [(lin_img cols).x, ih, (I.im0 _ hw).1]; rfl
  · exact fun h => I.all x h.1 h.2
theorem tgd_len (cols : List Nat) : (tgd cols).2.length + rk cols = cols.length := by
  have I := tgi cols cols.length (Nat.le_refl _)
  have a := I.lw.rk
  have b : rk ((tgs cols cols.length).1.map Prod.fst) = rk cols := rk_eq fun x => by rw [I.sp, List.take_length]
  rw [List.length_map] at a
  have c := tgs_len cols cols.length
  unfold tgd
  omega
theorem tgd_rk (cols : List Nat) : rk (tgd cols).2 = (tgd cols).2.length := (tgi cols cols.length (Nat.le_refl _)).ind.rk
theorem ker_len_eq (cols : List Nat) : (ker cols).length + rk cols = cols.length := by
  have a : rk (ker cols) = rk (tgd cols).2 := rk_eq fun x => by rw [ker_span, tgd_span]
  rw [spn_id (ker_rws cols), tgd_rk] at a
  have := tgd_len cols
  omega
end LaneX
set_option linter.all false
namespace LaneX
/-! ### twins, partners -/
theorem span_clr_img (S ls : List Nat) (x : Nat) : Spn (ker (ls.map (clr (spn S)))) x ↔ x < 2 ^ ls.length ∧ Spn S (img ls x) := by
  rw [ker_span, List.length_map, img_map (lin_clr _), clr_spn_zero]
theorem span_tag (S ls : List Nat) (x : Nat) : Spn (tgd (ls.map (lft (bas S)))).2 x ↔ x < 2 ^ ls.length ∧ Spn S (img ls x) := by
  rw [tgd_span, List.length_map, img_map (lin_lft _), lft_bas]
theorem ksz (S ls : List Nat) : (spn (ker (ls.map (clr (spn S))))).length + rk (S ++ ls) = ls.length + rk S := by
  have a := ker_len_eq (ls.map (clr (spn S)))
  have b := (red_clr S).rk ls
  have c := spn_id (ker_rws (ls.map (clr (spn S))))
  unfold rk at c
  rw [List.length_map] at a
  omega
theorem tsz (S ls : List Nat) : (tgd (ls.map (lft (bas S)))).2.length + rk (S ++ ls) = ls.length + rk S := by
  have a := tgd_len (ls.map (lft (bas S)))
  have b := (red_lft S).rk ls
  rw [List.length_map] at a
  omega
theorem app_spn (A ws : List Nat) (x : Nat) : Spn (A ++ spn ws) x ↔ Spn (A ++ ws) x := span_app2 (fun _ => Iff.rfl) (fun z => spn_span ws z)
theorem rk_app_spn (A ws : List Nat) : rk (A ++ spn ws) = rk (A ++ ws) := rk_eq (app_spn A ws)
theorem twn_span (ss ls : List Nat) (x : Nat) : Spn (twn ss ls) x ↔ x < 2 ^ ls.length ∧ Spn ss (img ls x) := by
  unfold twn
  rw [spn_span, span_clr_img]
theorem prt_span (ss ls ws : List Nat) (x : Nat) : Spn (prt ss ls (spn ws)) x ↔ x < 2 ^ ls.length ∧ Spn (ss ++ ws) (img ls x) := by
  unfold prt prw
  rw [spn_span, span_clr_img, app_spn]
theorem twn_size (ss ls : List Nat) : (twn ss ls).length + rk (ss ++ ls) = ls.length + rk ss := ksz ss ls
theorem prt_size (ss ls ws : List Nat) : (prt ss ls (spn ws)).length + rk (ss ++ ws ++ ls) = ls.length + rk (ss ++ ws) := by
  have a := ksz (ss ++ spn ws) ls
  rw [rk_app_spn] at a
  have b : rk (ss ++ spn ws ++ ls) = rk (ss ++ ws ++ ls) := rk_eq fun x => span_app fun z => app_spn ss ws z
  rw [b] at a
  exact a
theorem twn_tag (ss ls : List Nat) : (twn ss ls).length = (tgd (ls.map (lft (bas ss)))).2.length := by
  have a := twn_size ss ls
  have b := tsz ss ls
  omega
theorem prt_rk (ss ls ws : List Nat) : rk (prt ss ls (spn ws)) = (prt ss ls (spn ws)).length := spn_id (spn_rws _)
theorem prt_tag (ss ls ws : List Nat) : (prt ss ls (spn ws)).length = rk (tgd (ls.map (lft (bas (ss ++ ws))))).2 := by
  rw [← prt_rk]
  exact rk_eq fun x => by rw [prt_span, span_tag]
theorem prt_tag2 (ss ls ws : List Nat) : rk ((tgd (ls.map (lft (bas (ss ++ ws))))).2 ++ prt ss ls (spn ws)) = (prt ss ls (spn ws)).length := by
  rw [← prt_rk]
  refine Nat.le_antisymm (rk_le fun x hx => ?_) (rk_right _ _)
  rcases List.mem_append.mp hx with hx | hx
  · rw [prt_span, ← span_tag]; exact .of hx
  · exact .of hx
/-! ### completing -/
theorem cms_span {A : List Nat} (R : Rws A) (B : List Nat) : (∀ x, Spn (cms A B).1 x ↔ Spn (A ++ B) x) ∧ (∀ x, Spn (cms A B).1 x ↔ Spn (A ++ (cms A B).2) x) := by
  refine snoc_rec (p := fun B => (∀ x, Spn (cms A B).1 x ↔ Spn (A ++ B) x) ∧ (∀ x, Spn (cms A B).1 x ↔ Spn (A ++ (cms A B).2) x)) ⟨fun x => by simp [cms], fun x => by simp [cms]⟩ (fun a r ih => ?_) B
  have R' := cms_rws R a
  rw [cms_snoc, ← List.append_assoc]
  split
  · rename_i h
    have hr := (ih.1 r).mp (R'.span.mpr h)
    refine ⟨fun x => ?_, ih.2⟩
    rw [ih.1 x]
    constructor
    · exact fun hx => hx.sub fun w hw => List.mem_append_left _ hw
    · refine fun hx => hx.mono fun y hy => ?_
      rcases List.mem_append.mp hy with hy | hy
      · exact .of hy
      · rcases List.mem_singleton.mp hy with rfl; exact hr
  · refine ⟨fun x => ?_, fun x => ?_⟩
    · rw [grw_span, span_app ih.1]
    · show Spn (grw _ _) x ↔ Spn (A ++ ((cms A a).2 ++ [r])) x
      rw [grw_span, span_app ih.2, List.append_assoc]
theorem cmpl_len {A : List Nat} (R : Rws A) (B : List Nat) : (cmpl A B).length + rk A = rk (A ++ B) := by
  unfold cmpl
  refine snoc_rec (p := fun B => (cms A B).2.length + rk A = rk (A ++ B)) (by simp [cms]) (fun a r ih => ?_) B
  have R' := cms_rws R a
  have S := (cms_span R a).1
  rw [cms_snoc, ← List.append_assoc]
  split
  · rename_i h
    rw [rk_snoc_in ((S r).mp (R'.span.mpr h))]; exact ih
  · rename_i h
    rw [rk_snoc_out fun z => h (R'.span.mp ((S r).mpr z)), List.length_append]
    simp only [List.length_cons, List.length_nil]
    omega
theorem cmpl_mem {A : List Nat} (B : List Nat) : ∀ x ∈ cmpl A B, x ∈ B := by
  unfold cmpl
  refine snoc_rec (p := fun B => ∀ x ∈ (cms A B).2, x ∈ B) (fun x hx => by cases hx) (fun a r ih x hx => ?_) B
  rw [cms_snoc] at hx
  split at hx
  · exact List.mem_append_left _ (ih x hx)
  · rcases List.mem_append.mp hx with hx | hx
    · exact List.mem_append_left _ (ih x hx)
    · exact List.mem_append_right _ hx
theorem cmpl_ind {A : List Nat} (R : Rws A) (B : List Nat) {φ : Nat → Nat} (L : Lin φ) : (∀ y, Spn B y → φ y = 0 → Spn A y) → Ind ((cmpl A B).map φ) := by
  unfold cmpl
  refine snoc_rec (p := fun B => (∀ y, Spn B y → φ y = 0 → Spn A y) → Ind ((cms A B).2.map φ)) (fun _ => .nil) (fun a r ih k => ?_) B
  have R' := cms_rws R a
  have S := (cms_span R a).2
  have ih := ih fun y hy => k y (hy.sub fun w hw => List.mem_append_left _ hw)
  have mem := cmpl_mem (A := A) a
  unfold cmpl at mem
  rw [cms_snoc]
  split
  · exact ih
  · rename_i h
    show Ind (((cms A a).2 ++ [r]).map φ)
    rw [List.map_append]
    refine .snoc ih fun hs => h (R'.span.mp ((S r).mpr ?_))
    obtain ⟨y, hy, e⟩ := L.back hs
    have hyr : Spn A (y ^^^ r) := by
      refine k _ ?_ (by rw [L.x, e, Nat.xor_self])
      exact (hy.sub fun w hw => List.mem_append_left _ (mem w hw)).xor (.of (List.mem_append_right _ (List.mem_singleton_self r)))
    have c := (hyr.sub (vs := A ++ (cms A a).2) fun w hw => List.mem_append_left _ hw).xor (hy.sub (vs := A ++ (cms A a).2) fun w hw => List.mem_append_right _ hw)
    rwa [Nat.xor_comm y r, xor_cancel_right] at c
/-! ### meets -/
theorem Rws.ind {rows : List Nat} (R : Rws rows) : Ind rows := by
  have : ∀ n (l : List Nat), l.length = n → Rws l → Ind l := by
    intro n
    induction n with
    | zero => intro l hl _; rw [List.length_eq_zero_iff.mp hl]; exact .nil
    | succ n ih =>
      intro l hl L
      have hne : l ≠ [] := fun e => by rw [e] at hl; cases hl
      have e := List.dropLast_concat_getLast hne
      rw [← e] at L ⊢
      have hp := List.pairwise_append.mp L.red
      have L' : Rws l.dropLast := ⟨fun r hr => L.nz r (List.mem_append_left _ hr), hp.1⟩
      refine .snoc (ih _ (by rw [List.length_dropLast, hl]; rfl) L') fun hs => ?_
      have z := L'.span.mp hs
      rw [clr_of_none fun r hr => (hp.2.2 r hr _ (List.mem_singleton_self _)).2] at z
      exact L.nz _ (List.mem_append_right _ (List.mem_singleton_self _)) z
  exact this _ rows rfl R
theorem shl_shr (b x : Nat) : (x <<< b) >>> b = x := Nat.shiftLeft_shiftRight x b
theorem shl_mod (b x : Nat) : (x <<< b) % 2 ^ b = 0 := by rw [Nat.shiftLeft_eq]; exact Nat.mul_mod_left _ _
theorem map_shl_shr (b : Nat) (B : List Nat) : (B.map fun r => r <<< b).map (fun x => x >>> b) = B := by
  rw [List.map_map]
  conv => rhs; rw [← List.map_id B]
  exact List.map_congr_left fun x _ => shl_shr b x
theorem ind_shl (b : Nat) {B : List Nat} (h : Ind B) : Ind (B.map fun r => r <<< b) := by
  induction h with
  | nil => exact .nil
  | @snoc a w _ hw ih =>
    rw [List.map_append]
    refine .snoc ih fun hs => hw ?_
    have a := (lin_shr b).spn hs
    rw [map_shl_shr] at a
    dsimp only at a
    rwa [shl_shr] at a
theorem ind_pairs (b : Nat) {A B : List Nat} (hB : Ind B) (hA : Ind A) (lt : ∀ x ∈ A, x < 2 ^ b) : Ind ((B.map fun r => r <<< b) ++ A.map fun r => (r <<< b) + r) := by
  induction hA with
  | nil => simpa using ind_shl b hB
  | @snoc a w _ hw ih =>
    have ih := ih fun x hx => lt x (List.mem_append_left _ hx)
    have hwl := lt w (List.mem_append_right _ (List.mem_singleton_self w))
    rw [List.map_append, ← List.append_assoc]
    refine .snoc ih fun hs => hw ?_
    have q := (lin_mod b).spn hs
    have pm : ∀ r, r < 2 ^ b → (r <<< b + r) % 2 ^ b = r := fun r hr => by
      rw [Nat.add_mod, shl_mod, Nat.zero_add, Nat.mod_mod, Nat.mod_eq_of_lt hr]
    dsimp only at q
    rw [pm w hwl] at q
    refine q.mono fun y hy => ?_
    obtain ⟨z, hz, rfl⟩ := List.mem_map.mp hy
    rcases List.mem_append.mp hz with hz | hz
    · obtain ⟨r, hr, rfl⟩ := List.mem_map.mp hz
      rw [shl_mod]; exact .zero
    · obtain ⟨r, hr, rfl⟩ := List.mem_map.mp hz
      rw [pm r (lt r (List.mem_append_left _ hr))]; exact .of hr
theorem blen_shr (b r : Nat) : blen (r >>> b) = blen r - b := by
  by_cases h : blen r ≤ b
  · have : r >>> b = 0 := by rw [Nat.shiftRight_eq_div_pow, Nat.div_eq_of_lt (blen_le.mp h)]
    rw [this, show blen r - b = 0 by omega]; rfl
  · have hr : r ≠ 0 := fun e => by rw [e] at h; simp [blen] at h
    have t : (r >>> b).testBit (blen r - b - 1) = true := by
      rw [Nat.testBit_shiftRight, show b + (blen r - b - 1) = blen r - 1 by omega]; exact testBit_top hr
    have h1 : ¬ blen (r >>> b) ≤ blen r - b - 1 := fun z => by rw [testBit_ge z] at t; cases t
    have h2 : blen (r >>> b) ≤ blen r - b := by
      rw [blen_le, Nat.shiftRight_eq_div_pow, Nat.div_lt_iff_lt_mul (Nat.two_pow_pos b), ← Nat.pow_add, show blen r - b + b = blen r by omega]
      exact lt_blen r
    omega
theorem Rws.high {R : List Nat} (A : Rws R) (b : Nat) : Rws ((R.filter fun r => !decide (blen r ≤ b)).map fun x => x >>> b) := by
  have hb : ∀ r ∈ R.filter fun r => !decide (blen r ≤ b), b < blen r := fun r hr => by
    have := (List.mem_filter.mp hr).2
    simp at this
    omega
  refine ⟨fun r hr => ?_, ?_⟩
  · obtain ⟨x, hx, rfl⟩ := List.mem_map.mp hr
    intro e
    have a := blen_shr b x
    rw [e] at a
    have := hb x hx
    have : blen 0 = 0 := rfl
    omega
  · rw [List.pairwise_map]
    refine (A.red.sublist List.filter_sublist).imp_of_mem fun {x y} hx hy h => ?_
    have a := hb x hx
    have c := hb y hy
    rw [blen_shr, blen_shr, Nat.testBit_shiftRight, Nat.testBit_shiftRight, show b + (blen y - b - 1) = blen y - 1 by omega, show b + (blen x - b - 1) = blen x - 1 by omega]
    exact h
theorem filter_two (p : Nat → Bool) : ∀ R : List Nat, (R.filter p).length + (R.filter fun r => !p r).length = R.length
  | [] => rfl
  | r :: rs => by
    have := filter_two p rs
    cases h : p r <;> simp [List.filter_cons, h] <;> omega
theorem Rws.split {R : List Nat} (A : Rws R) (b : Nat) : (R.filter fun r => decide (blen r ≤ b)).length + rk (R.map fun x => x >>> b) = R.length := by
  have a := spn_id (A.high b)
  rw [List.length_map] at a
  have e : rk (R.map fun x => x >>> b) = rk ((R.filter fun r => !decide (blen r ≤ b)).map fun x => x >>> b) := by
    refine Nat.le_antisymm (rk_le fun x hx => ?_) (rk_le fun x hx => ?_)
    · obtain ⟨r, hr, rfl⟩ := List.mem_map.mp hx
      by_cases h : blen r ≤ b
      · rw [Nat.shiftRight_eq_div_pow, Nat.div_eq_of_lt (blen_le.mp h)]; exact .zero
      · exact .of (List.mem_map.mpr ⟨r, List.mem_filter.mpr ⟨hr, by simpa using h⟩, rfl⟩)
    · obtain ⟨r, hr, rfl⟩ := List.mem_map.mp hx
      exact .of (List.mem_map.mpr ⟨r, (List.mem_filter.mp hr).1, rfl⟩)
  have := filter_two (fun r => decide (blen r ≤ b)) R
  omega
theorem mtd_len {b : Nat} {A B : List Nat} (RA : Rws A) (RB : Rws B) (lt : ∀ x ∈ A, x < 2 ^ b) : (mtd b A B).length + rk (A ++ B) = A.length + B.length := by
  have a := (spn_rws (mts b A B)).split b
  have r1 : (spn (mts b A B)).length = A.length + B.length := by
    have e : rk (mts b A B) = rk ((B.map fun r => r <<< b) ++ A.map fun r => (r <<< b) + r) := rk_perm List.perm_append_comm
    have i := (ind_pairs b RB.ind RA.ind lt).rk
    rw [← e] at i
    show rk (mts b A B) = _
    rw [i]
    simp
    omega
  have r2 : rk ((spn (mts b A B)).map fun x => x >>> b) = rk (A ++ B) := by
    have e1 : ∀ x, Spn ((spn (mts b A B)).map fun x => x >>> b) x ↔ Spn ((mts b A B).map fun x => x >>> b) x := fun x => by
      constructor
      · intro h
        obtain ⟨y, hy, rfl⟩ := (lin_shr b).back h
        exact (lin_shr b).spn ((spn_span _ y).mp hy)
      · intro h
        obtain ⟨y, hy, rfl⟩ := (lin_shr b).back h
        exact (lin_shr b).spn ((spn_span _ y).mpr hy)
    rw [rk_eq e1]
    unfold mts
    rw [List.map_append, map_shl_shr, List.map_map]
    have e2 : A.map ((fun x => x >>> b) ∘ fun r => (r <<< b) + r) = A := by
      conv => rhs; rw [← List.map_id A]
      refine List.map_congr_left fun x hx => ?_
      show (x <<< b + x) >>> b = x
      rw [add_eq_xor (lt x hx), Nat.shiftRight_xor_distrib, shl_shr, Nat.shiftRight_eq_div_pow, Nat.div_eq_of_lt (lt x hx), Nat.xor_zero]
    rw [e2]
  rw [r1, r2] at a
  exact a
/-! ### what the law asks -/
theorem kpt_eq {b : Nat} {ss ws : List Nat} (hs : ∀ x ∈ ss, x < 2 ^ b) : kpt b ss (spn ws) = ((rk (ss ++ ws) - rk ws : Nat) : Int) := by
  have a := mtd_len (b := b) (spn_rws ss) (spn_rws ws) (spn_lt hs)
  have c : rk (spn ss ++ spn ws) = rk (ss ++ ws) := rk_eq fun x => span_app2 (fun z => spn_span ss z) (fun z => spn_span ws z)
  have d := spn_id (mtd_rws b (spn ss) (spn ws))
  have e1 : (spn (mtd b (spn ss) (spn ws))).length = (mtd b (spn ss) (spn ws)).length := d
  have e2 : (spn ss).length = rk ss := rfl
  have e3 : (spn ws).length = rk ws := rfl
  have r := rk_right ss ws
  unfold kpt
  rw [e1, e2]
  rw [c, e2, e3] at a
  omega
theorem twn_sub_prt (ss ls ws : List Nat) : rk (twn ss ls ++ prt ss ls (spn ws)) = rk (prt ss ls (spn ws)) := by
  refine Nat.le_antisymm (rk_le fun x hx => ?_) (rk_right _ _)
  rcases List.mem_append.mp hx with hx | hx
  · have := (twn_span ss ls x).mp (.of hx)
    exact (prt_span ss ls ws x).mpr ⟨this.1, this.2.sub fun w hw => List.mem_append_left _ hw⟩
  · exact .of hx
theorem ldr_size {b : Nat} {ss ls ws : List Nat} (hs : ∀ x ∈ ss, x < 2 ^ b) (hl : ∀ x ∈ ls, x < 2 ^ b) (hw : ∀ x ∈ ws, x < 2 ^ b) (hb : b ≤ rk (ss ++ ls)) : (ldr ss ls (spn ws)).length = rk (ss ++ ws) - rk ss := by
  have a := cmpl_len (spn_rws (ker (ls.map (clr (spn ss))))) (prt ss ls (spn ws))
  have a' : (ldr ss ls (spn ws)).length + rk (twn ss ls) = rk (twn ss ls ++ prt ss ls (spn ws)) := a
  rw [twn_sub_prt, prt_rk] at a'
  have c : rk (twn ss ls) = (twn ss ls).length := spn_id (spn_rws _)
  have d := twn_size ss ls
  have e := prt_size ss ls ws
  have f : rk (ss ++ ls) = b := Nat.le_antisymm (rk_le_bits fun x hx => (List.mem_append.mp hx).elim (hs x) (hl x)) hb
  have g : rk (ss ++ ws ++ ls) = b := by
    refine Nat.le_antisymm (rk_le_bits fun x hx => ?_) (Nat.le_trans hb (rk_le fun x hx => ?_))
    · rcases List.mem_append.mp hx with hx | hx
      · exact (List.mem_append.mp hx).elim (hs x) (hw x)
      · exact hl x hx
    · rcases List.mem_append.mp hx with hx | hx
      · exact .of (List.mem_append_left _ (List.mem_append_left _ hx))
      · exact .of (List.mem_append_right _ hx)
  have h := rk_left ss ws
  omega
theorem ldr_mem {ss ls ws : List Nat} {x : Nat} (h : x ∈ ldr ss ls (spn ws)) : x < 2 ^ ls.length ∧ lft (bas (ss ++ ws)) (img ls x) = 0 := by
  have := (prt_span ss ls ws x).mp (.of (cmpl_mem _ x h))
  exact ⟨this.1, lft_bas.mpr this.2⟩
theorem ldr_rk (ss ls ws : List Nat) : rk ((ldr ss ls (spn ws)).map fun x => lft (bas ss) (img ls x)) = (ldr ss ls (spn ws)).length := by
  have L : Lin (fun x => lft (bas ss) (img ls x)) := (lin_lft _).comp (lin_img ls)
  have := (cmpl_ind (A := twn ss ls) (spn_rws _) (prt ss ls (spn ws)) L fun y hy e => (twn_span ss ls y).mpr ⟨((prt_span ss ls ws y).mp hy).1, lft_bas.mp e⟩).rk
  rw [List.length_map] at this
  exact this
theorem smr_eq {b : Nat} {ss ls ws : List Nat} (hs : ∀ x ∈ ss, x < 2 ^ b) (hl : ∀ x ∈ ls, x < 2 ^ b) (hw : ∀ x ∈ ws, x < 2 ^ b) (hb : b ≤ rk (ss ++ ls)) :
    smr b ss ls (spn ws) = rdf ((rk (ss ++ ws) - rk ws) - (tgd (ls.map (lft (bas ss)))).2.length) (rk (ss ++ ws) - rk ss) := by
  unfold smr
  rw [kpt_eq hs, ldr_size hs hl hw hb, ← twn_tag]
  congr 1
  omega
/-! ### the fewest rounds -/
/-- what is reached -/
def rch (b l t : Nat) : Nat → Nat
  | 0 => 1 <<< b
  | i + 1 => rch b l t i + min (rch b l t i) (1 <<< (l + t))
theorem rch_dbl {b l t : Nat} : ∀ i, i ≤ l + t + 1 - b → b ≤ l + t ∨ i = 0 → rch b l t i = 2 ^ (b + i)
  | 0, _, _ => Nat.one_shiftLeft b
  | i + 1, h, hb => by
    have hb' : b ≤ l + t := by omega
    have ih := rch_dbl (b := b) (l := l) (t := t) i (by omega) (.inl hb')
    show rch b l t i + min (rch b l t i) (1 <<< (l + t)) = _
    rw [ih, Nat.one_shiftLeft, Nat.min_eq_left (Nat.pow_le_pow_right (by decide) (by omega)), ← Nat.add_assoc, Nat.pow_succ]
    omega
theorem rch_ge {b l t d : Nat} (h : 2 ^ (l + t) ≤ rch b l t d) : ∀ j, rch b l t (d + j) = rch b l t d + j * 2 ^ (l + t)
  | 0 => by simp
  | j + 1 => by
    have ih := rch_ge h j
    show rch b l t (d + j) + min (rch b l t (d + j)) (1 <<< (l + t)) = _
    rw [Nat.one_shiftLeft, Nat.min_eq_right (by rw [ih]; exact Nat.le_trans h (Nat.le_add_right _ _)), ih, Nat.succ_mul]
    omega
theorem rch_lt {b l t r : Nat} (h : rch b l t r = 2 ^ (b + l)) : ∀ i, i < r → rch b l t i < 2 ^ (b + l) := by
  have up : ∀ i j, i ≤ j → rch b l t i ≤ rch b l t j := by
    intro i j hij
    induction hij with
    | refl => exact Nat.le_refl _
    | step _ ih => exact Nat.le_trans ih (Nat.le_add_right _ _)
  have pos : ∀ i, 0 < rch b l t i := fun i => Nat.lt_of_lt_of_le (by show 0 < 1 <<< b; rw [Nat.one_shiftLeft]; exact Nat.two_pow_pos b) (up 0 i (Nat.zero_le _))
  intro i hi
  have a := up (i + 1) r hi
  have c : rch b l t (i + 1) = rch b l t i + min (rch b l t i) (1 <<< (l + t)) := rfl
  have d : 0 < min (rch b l t i) (1 <<< (l + t)) := by
    rw [Nat.one_shiftLeft]
    have := pos i
    have := Nat.two_pow_pos (l + t)
    omega
  omega
theorem rch_rdf (b l t : Nat) : rch b l t (rdf (b - t) l) = 2 ^ (b + l) := by
  by_cases h : b ≤ t
  · have e : rdf (b - t) l = l := by
      rw [show b - t = 0 by omega]
      unfold rdf
      split
      · have : l = 0 := by omega
        subst this; rfl
      · simp
    rw [e, rch_dbl l (by omega) (.inl (by omega))]
  · obtain ⟨a, rfl⟩ : ∃ a, b = t + a := ⟨b - t, by omega⟩
    rw [show t + a - t = a by omega]
    unfold rdf
    split
    · rename_i hl
      obtain ⟨c, rfl⟩ : ∃ c, a = l + c := ⟨a - l, by omega⟩
      have q := rch_ge (b := t + (l + c)) (l := l) (t := t) (d := 0) (by show _ ≤ 1 <<< _; rw [Nat.one_shiftLeft]; exact Nat.pow_le_pow_right (by decide) (by omega)) (1 <<< (l + c) - 1 <<< (l + c - l))
      rw [Nat.zero_add] at q
      rw [q, show l + c - l = c by omega]
      show 1 <<< _ + _ = _
      rw [Nat.one_shiftLeft, Nat.one_shiftLeft, Nat.one_shiftLeft, Nat.sub_mul, ← Nat.pow_add, ← Nat.pow_add]
      have m : 2 ^ (c + (l + t)) ≤ 2 ^ (l + c + (l + t)) := Nat.pow_le_pow_right (by decide) (by omega)
      have e1 : t + (l + c) = c + (l + t) := by omega
      have e2 : c + (l + t) + l = l + c + (l + t) := by omega
      rw [e1, e2]
      omega
    · rename_i hl
      obtain ⟨c, rfl⟩ : ∃ c, l = a + c := ⟨l - a, by omega⟩
      have q0 : rch (t + a) (a + c) t c = 2 ^ (t + a + c) := rch_dbl c (by omega) (.inl (by omega))
      have q := rch_ge (b := t + a) (l := a + c) (t := t) (d := c) (by rw [q0]; exact Nat.pow_le_pow_right (by decide) (by omega)) (2 ^ a - 1)
      have p := Nat.two_pow_pos a
      rw [Nat.one_shiftLeft, show 2 ^ a - 1 + (a + c) - a = c + (2 ^ a - 1) by omega, q, q0, Nat.sub_mul, Nat.one_mul, ← Nat.pow_add]
      have e1 : t + a + c = a + c + t := by omega
      have e2 : t + a + (a + c) = a + (a + c + t) := by omega
      have m : 2 ^ (a + c + t) ≤ 2 ^ (a + (a + c + t)) := Nat.pow_le_pow_right (by decide) (by omega)
      rw [e1, e2]
      omega
theorem rdf_small {n l : Nat} (h : n ≤ 5) (hl : l ≤ 300) : rdf n l < 400 := by
  unfold rdf
  have : 2 ^ n ≤ 2 ^ 5 := Nat.pow_le_pow_right (by decide) h
  rw [Nat.one_shiftLeft]
  split
  · exact Nat.lt_of_le_of_lt (Nat.sub_le _ _) (by omega)
  · omega
theorem fewest_ok {b l t : Nat} (hl : l ≤ 300) : b ≤ 5 → rdf (b - t) l < 400 ∧ 1 <<< (b + l) ≤ rch b l t (rdf (b - t) l) ∧ ∀ i, i < rdf (b - t) l → rch b l t i < 1 <<< (b + l) := fun hb => by
  have h := rch_rdf b l t
  refine ⟨rdf_small (by omega) hl, ?_, ?_⟩
  · rw [h, Nat.one_shiftLeft]; exact Nat.le_refl _
  · rw [Nat.one_shiftLeft]; exact rch_lt h
end LaneX
set_option linter.all false
namespace LaneX
/-! ### numbers by their bits -/
def bitsOf (f : Nat → Bool) : Nat → Nat
  | 0 => 0
  | n + 1 => bitsOf f n ^^^ (if f n = true then 2 ^ n else 0)
theorem bitsOf_lt (f : Nat → Bool) : ∀ n, bitsOf f n < 2 ^ n
  | 0 => Nat.zero_lt_one
  | n + 1 => by
    have h := bitsOf_lt f n
    have m : 2 ^ n ≤ 2 ^ (n + 1) := Nat.pow_le_pow_right (by decide) (Nat.le_succ n)
    unfold bitsOf
    refine Nat.xor_lt_two_pow (Nat.lt_of_lt_of_le h m) ?_
    split
    · exact Nat.pow_lt_pow_right (by decide) (Nat.lt_succ_self n)
    · exact Nat.two_pow_pos _
theorem bitsOf_bit (f : Nat → Bool) : ∀ n i, (bitsOf f n).testBit i = (decide (i < n) && f i)
  | 0, i => by simp [bitsOf]
  | n + 1, i => by
    unfold bitsOf
    rw [Nat.testBit_xor, bitsOf_bit f n i]
    by_cases e : i = n
    · subst e
      cases h : f i
      · simp
      · simp [Nat.testBit_two_pow]
    · have : (i < n + 1) ↔ i < n := by omega
      cases h : f n
      · simp [this]
      · simp [this, Nat.testBit_two_pow, show ¬ n = i from fun z => e z.symm]
theorem bitsOf_xor (f g : Nat → Bool) (n : Nat) : bitsOf (fun i => f i ^^ g i) n = bitsOf f n ^^^ bitsOf g n := by
  apply Nat.eq_of_testBit_eq
  intro i
  rw [Nat.testBit_xor, bitsOf_bit, bitsOf_bit, bitsOf_bit]
  cases decide (i < n) <;> simp
theorem imf_congr {cols : List Nat} {x y : Nat} : ∀ {n}, (∀ i, i < n → x.testBit i = y.testBit i) → imf cols x n = imf cols y n
  | 0, _ => rfl
  | n + 1, h => by rw [imf_succ, imf_succ, imf_congr fun i hi => h i (by omega), h n (by omega)]
theorem img_congr {cols : List Nat} {x y : Nat} (h : ∀ i, i < cols.length → x.testBit i = y.testBit i) : img cols x = img cols y := imf_congr h
theorem imf_cols {P Q : List Nat} {x : Nat} : ∀ {n}, (∀ i, i < n → P.getD i 0 = Q.getD i 0) → imf P x n = imf Q x n
  | 0, _ => rfl
  | n + 1, h => by rw [imf_succ, imf_succ, imf_cols fun i hi => h i (by omega), h n (by omega)]
/-- columns one by one added -/
theorem imf_add {P Q R : List Nat} {x : Nat} : ∀ {n}, (∀ i, i < n → R.getD i 0 = P.getD i 0 ^^^ Q.getD i 0) → imf R x n = imf P x n ^^^ imf Q x n
  | 0, _ => (Nat.xor_self 0).symm
  | n + 1, h => by
    rw [imf_succ, imf_succ, imf_succ, imf_add fun i hi => h i (by omega), h n (by omega)]
    split
    · rw [xor4]
    · rfl
/-! ### the coefficients of rows in a word -/
def cof (R : List Nat) (l : Nat) : Nat := bitsOf (fun i => l.testBit (blen (R.getD i 0) - 1)) R.length
theorem cof_lt (R : List Nat) (l : Nat) : cof R l < 2 ^ R.length := bitsOf_lt _ _
theorem cof_bit {R : List Nat} {l i : Nat} (h : i < R.length) : (cof R l).testBit i = l.testBit (blen (R.getD i 0) - 1) := by
  unfold cof
  rw [bitsOf_bit, decide_eq_true h]; rfl
theorem cof_xor (R : List Nat) (x y : Nat) : cof R (x ^^^ y) = cof R x ^^^ cof R y := by
  unfold cof
  rw [← bitsOf_xor]
  congr 1
  funext i
  rw [Nat.testBit_xor]
theorem clr_take {R : List Nat} (A : Rws R) (l : Nat) : ∀ k, k ≤ R.length → clr (R.take k) l = l ^^^ imf R (cof R l) k
  | 0, _ => by show l = l ^^^ 0; rw [Nat.xor_zero]
  | k + 1, h => by
    have tk : R.take (k + 1) = R.take k ++ [R.getD k 0] := by
      rw [List.take_succ, List.getD_eq_getElem?_getD, List.getElem?_eq_getElem (by omega)]; rfl
    have ih := clr_take A l k (by omega)
    rw [tk, clr_append, imf_succ]
    show clr [R.getD k 0] _ = _
    rw [clr_cons]
    show _ ^^^ bx _ _ = _
    have red := A.red
    have hb : (clr (R.take k) l).testBit (blen (R.getD k 0) - 1) = l.testBit (blen (R.getD k 0) - 1) := by
      refine clr_bit fun r hr => ?_
      have e : R = R.take k ++ R.drop k := (List.take_append_drop k R).symm
      rw [e] at red
      have := (List.pairwise_append.mp red).2.2 r hr (R.getD k 0) (by
        rw [List.getD_eq_getElem?_getD, List.getElem?_eq_getElem (by omega), List.drop_eq_getElem_cons (by omega)]
        exact .head _)
      exact this.1
    rw [hb, ← cof_bit (by omega), ih]
    cases (cof R l).testBit k
    · simp [bx]
    · simp only [bx, if_true]
      rw [Nat.xor_assoc]
theorem img_cof {R : List Nat} (A : Rws R) (l : Nat) : img R (cof R l) = l ^^^ clr R l := by
  have := clr_take A l R.length (Nat.le_refl _)
  rw [List.take_length] at this
  rw [this, xor_cancel]
  rfl
theorem clr_idem {R : List Nat} (A : Rws R) (l : Nat) : clr R (clr R l) = clr R l := clr_of_none fun r hr => clr_tops A r hr
theorem getD_mem' {R : List Nat} {i : Nat} (h : i < R.length) : R.getD i 0 ∈ R := getD_mem h
theorem cof_clr {R : List Nat} (A : Rws R) (l : Nat) : cof R (clr R l) = 0 := by
  apply Nat.eq_of_testBit_eq
  intro i
  rw [Nat.zero_testBit]
  by_cases h : i < R.length
  · rw [cof_bit h]; exact clr_tops A _ (getD_mem h)
  · exact Nat.testBit_lt_two_pow (Nat.lt_of_lt_of_le (cof_lt R _) (Nat.pow_le_pow_right (by decide) (by omega)))
theorem imf_bit {R : List Nat} {t c : Nat} : ∀ {n}, (∀ i, i < n → (R.getD i 0).testBit t = false) → (imf R c n).testBit t = false
  | 0, _ => Nat.zero_testBit _
  | n + 1, h => by
    have ih := imf_bit (c := c) fun i hi => h i (Nat.lt_succ_of_lt hi)
    rw [imf_succ]
    split
    · rw [Nat.testBit_xor, ih, h n (Nat.lt_succ_self n)]; rfl
    · exact ih
theorem Rws.getD_bit {R : List Nat} (A : Rws R) {i j : Nat} (hi : i < R.length) (hj : j < R.length) (h : i ≠ j) : (R.getD i 0).testBit (blen (R.getD j 0) - 1) = false := by
  have e : ∀ k, k < R.length → R.getD k 0 = R[k]?.getD 0 := fun k _ => List.getD_eq_getElem?_getD
  have p := List.pairwise_iff_getElem.mp A.red
  rw [List.getD_eq_getElem?_getD, List.getD_eq_getElem?_getD, List.getElem?_eq_getElem hi, List.getElem?_eq_getElem hj]
  show R[i].testBit (blen R[j] - 1) = false
  rcases Nat.lt_or_ge i j with q | q
  · exact (p i j hi hj q).1
  · exact (p j i hj hi (by omega)).2
theorem imf_top {R : List Nat} (A : Rws R) {j c : Nat} (hj : j < R.length) : ∀ n, n ≤ R.length → (imf R c n).testBit (blen (R.getD j 0) - 1) = (decide (j < n) && c.testBit j)
  | 0, _ => by show (0 : Nat).testBit _ = _; simp
  | n + 1, hn => by
    have ih := imf_top A (c := c) hj n (by omega)
    rw [imf_succ]
    by_cases e : j = n
    · subst e
      have z : decide (j < j) = false := by simp
      rw [z, Bool.false_and] at ih
      have t := testBit_top (A.nz _ (getD_mem hj))
      cases q : c.testBit j
      · rw [if_neg (by simp), ih]; simp
      · rw [if_pos rfl, Nat.testBit_xor, ih, t]; simp
    · have b := A.getD_bit (i := n) (j := j) (by omega) hj (fun z => e z.symm)
      have d : (j < n + 1) ↔ j < n := by omega
      cases q : c.testBit n
      · rw [if_neg (by simp), ih]; simp [d]
      · rw [if_pos rfl, Nat.testBit_xor, ih, b]; simp [d]
theorem cof_img {R : List Nat} (A : Rws R) {c : Nat} (h : c < 2 ^ R.length) : cof R (img R c) = c := by
  apply Nat.eq_of_testBit_eq
  intro i
  by_cases hi : i < R.length
  · rw [cof_bit hi]
    unfold img
    rw [imf_top A hi _ (Nat.le_refl _), decide_eq_true hi]; rfl
  · have m : 2 ^ R.length ≤ 2 ^ i := Nat.pow_le_pow_right (by decide) (by omega)
    rw [Nat.testBit_lt_two_pow (Nat.lt_of_lt_of_le (cof_lt R _) m), Nat.testBit_lt_two_pow (Nat.lt_of_lt_of_le h m)]
theorem clr_img {R : List Nat} (A : Rws R) (c : Nat) : clr R (img R c) = 0 := by
  rw [← A.span]
  have : ∀ n, n ≤ R.length → Spn R (imf R c n) := by
    intro n
    induction n with
    | zero => intro _; exact .zero
    | succ n ih =>
      intro h
      rw [imf_succ]
      split
      · exact (ih (by omega)).xor (.of (getD_mem h))
      · exact ih (by omega)
  exact this _ (Nat.le_refl _)
/-! ### a word cleared stays as short -/
theorem clr_lt' {k : Nat} : ∀ {rows : List Nat} {w : Nat}, w < 2 ^ k → clr rows w < 2 ^ k
  | [], w, h => h
  | r :: rs, w, h => by
    rw [clr_cons]
    refine clr_lt' ?_
    cases q : w.testBit (blen r - 1) with
    | false => simpa [bx] using h
    | true =>
      simp only [bx, if_true]
      refine Nat.xor_lt_two_pow h ?_
      by_cases z : r = 0
      · rw [z]; exact Nat.two_pow_pos k
      · rw [← blen_le]
        have b := blen_pos z
        refine Classical.byContradiction fun n => ?_
        rw [testBit_ge (n := w) (i := blen r - 1) (Nat.le_trans (blen_le.mpr h) (by omega))] at q
        cases q
/-! ### solving -/
def slv (ss : List Nat) (g : Nat) : Nat := clr (prd ss) (g <<< ss.length)
theorem slv_ok {ss : List Nat} {g : Nat} (h : Spn ss g) : slv ss g < 2 ^ ss.length ∧ img ss (slv ss g) = g := by
  have h' : Spn (ss.take ss.length) g := by rw [List.take_length]; exact h
  obtain ⟨x, hx, rfl⟩ := span_img (Nat.le_refl _) h'
  have R := spn_rws (prs ss)
  have e1 : img ss x <<< ss.length = ((img ss x <<< ss.length) ^^^ x) ^^^ x := (xor_cancel_right _ _).symm
  have e2 : slv ss (img ss x) = clr (prd ss) x := by
    have z : clr (prd ss) ((img ss x <<< ss.length) ^^^ x) = 0 := R.span.mp ((spn_span _ _).mpr (prs_bwd ss (Nat.le_refl _) hx))
    unfold slv
    rw [e1, clr_xor, z, Nat.zero_xor]
  have h2 : clr (prd ss) x < 2 ^ ss.length := clr_lt' hx
  rw [e2]
  refine ⟨h2, ?_⟩
  have h3 := (spn_span (prs ss) _).mp (spn_clr (prd ss) x)
  have h4 : Spn (ker ss) (x ^^^ clr (prd ss) x) := by
    unfold ker prd
    rw [R.low_span, spn_span]
    exact ⟨h3, Nat.xor_lt_two_pow hx h2⟩
  have h5 := ((ker_span ss _).mp h4).2
  rw [(lin_img ss).x] at h5
  exact (xor_eq_zero h5).symm
/-! ### writes -/
section
variable (ss ls : List Nat)
def wmn : Nat := min (spn ss).length (twn ss ls).length
def wgoal (i : Nat) (tw : Nat) : Nat := img ls tw ^^^ (if i < wmn ss ls then (spn ss).getD i 0 else 0)
def wtn (i : Nat) (tw : Nat) : Nat × Nat := (blen tw - 1, slv ss (wgoal ss ls i tw))
def wts : List (Nat × Nat) := (List.range (twn ss ls).length).map fun i => wtn ss ls i ((twn ss ls).getD i 0)
def wst : List Nat := ((spn ss).drop (wmn ss ls)).map (slv ss)
def wslot (n l : Nat) : Nat := (wts ss ls).foldl (fun s p => if l.testBit p.1 = true then s ^^^ p.2 else s) (img (wst ss ls) n)
def went (n l : Nat) : Nat := img ss (wslot ss ls n l) ^^^ img ls l
end
section
variable {ss ls : List Nat}
theorem wfold {ps : List (Nat × Nat)} {l s : Nat} : ps.foldl (fun s p => if l.testBit p.1 = true then s ^^^ p.2 else s) s = s ^^^ img (ps.map Prod.snd) (bitsOf (fun i => l.testBit (ps.getD i (0, 0)).1) ps.length) := by
  have : ∀ k, k ≤ ps.length → (ps.take k).foldl (fun s p => if l.testBit p.1 = true then s ^^^ p.2 else s) s = s ^^^ imf (ps.map Prod.snd) (bitsOf (fun i => l.testBit (ps.getD i (0, 0)).1) ps.length) k := by
    intro k
    induction k with
    | zero => intro _; show s = s ^^^ 0; rw [Nat.xor_zero]
    | succ k ih =>
      intro h
      have tk : ps.take (k + 1) = ps.take k ++ [ps.getD k (0, 0)] := by
        rw [List.take_succ, List.getD_eq_getElem?_getD, List.getElem?_eq_getElem (by omega)]; rfl
      have e : (ps.map Prod.snd).getD k 0 = (ps.getD k (0, 0)).2 := by
        simp only [List.getD_eq_getElem?_getD, List.getElem?_map, List.getElem?_eq_getElem (show k < ps.length by omega)]
        rfl
      rw [tk, List.foldl_append, ih (by omega), imf_succ, bitsOf_bit, decide_eq_true (show k < ps.length by omega), e]
      show (if _ then _ else _) = _
      simp only [Bool.true_and]
      split
      · rw [Nat.xor_assoc]
      · rfl
  have q := this ps.length (Nat.le_refl _)
  rw [List.take_length] at q
  rw [q]
  unfold img
  rw [List.length_map]
theorem twn_rws (ss ls : List Nat) : Rws (twn ss ls) := spn_rws _
theorem wgoal_in (i : Nat) {tw : Nat} (h : tw ∈ twn ss ls) : Spn ss (wgoal ss ls i tw) := by
  refine ((twn_span ss ls tw).mp (.of h)).2.xor ?_
  split
  · rename_i hi
    rw [← spn_span]
    exact .of (getD_mem (by unfold wmn at hi; omega))
  · exact .zero
theorem wts_len : (wts ss ls).length = (twn ss ls).length := by simp [wts]
theorem wts_get {i : Nat} (h : i < (twn ss ls).length) : (wts ss ls).getD i (0, 0) = wtn ss ls i ((twn ss ls).getD i 0) := by
  unfold wts
  rw [List.getD_eq_getElem?_getD, List.getElem?_map, List.getElem?_range h]
  rfl
theorem wslot_eq (n l : Nat) : wslot ss ls n l = img (wst ss ls) n ^^^ img ((wts ss ls).map Prod.snd) (cof (twn ss ls) l) := by
  unfold wslot
  rw [wfold]
  congr 1
  refine img_congr fun i hi => ?_
  rw [List.length_map, wts_len] at hi
  rw [bitsOf_bit, wts_len, decide_eq_true hi, wts_get hi, cof_bit hi]
  rfl
theorem wst_lt : ∀ x ∈ wst ss ls, x < 2 ^ ss.length := fun x hx => by
  obtain ⟨r, hr, rfl⟩ := List.mem_map.mp hx
  exact (slv_ok ((spn_span ss r).mp (.of (List.mem_of_mem_drop hr)))).1
theorem wts_lt : ∀ p ∈ wts ss ls, p.2 < 2 ^ ss.length := fun p hp => by
  obtain ⟨i, hi, rfl⟩ := List.mem_map.mp hp
  exact (slv_ok (wgoal_in i (getD_mem (List.mem_range.mp hi)))).1
theorem imf_lt {b : Nat} {cs : List Nat} (h : ∀ c ∈ cs, c < 2 ^ b) (x : Nat) : ∀ n, imf cs x n < 2 ^ b
  | 0 => Nat.two_pow_pos b
  | n + 1 => by
    rw [imf_succ]
    split
    · refine Nat.xor_lt_two_pow (imf_lt h x n) ?_
      rw [List.getD_eq_getElem?_getD]
      cases q : cs[n]? with
      | none => exact Nat.two_pow_pos b
      | some c => exact h c (List.mem_of_getElem? q)
    · exact imf_lt h x n
theorem wslot_lt (n l : Nat) : wslot ss ls n l < 2 ^ ss.length := by
  rw [wslot_eq]
  refine Nat.xor_lt_two_pow (imf_lt wst_lt _ _) (imf_lt (fun c hc => ?_) _ _)
  obtain ⟨p, hp, rfl⟩ := List.mem_map.mp hc
  exact wts_lt p hp
theorem img_self_map {ss cols : List Nat} (h : ∀ r ∈ cols, Spn ss r) (x : Nat) : img ss (img (cols.map (slv ss)) x) = img cols x := by
  rw [← img_map (lin_img ss), List.map_map]
  unfold img
  rw [List.length_map]
  refine imf_cols fun i hi => ?_
  simp only [List.getD_eq_getElem?_getD, List.getElem?_map, List.getElem?_eq_getElem hi]
  exact (slv_ok (h _ (List.getElem_mem hi))).2
theorem went_eq (n l : Nat) : went ss ls n l = img ((spn ss).drop (wmn ss ls)) n ^^^ img ((spn ss).take (wmn ss ls)) (cof (twn ss ls) l) ^^^ img ls (clr (twn ss ls) l) := by
  unfold went
  rw [wslot_eq, (lin_img ss).x]
  have e1 : img ss (img (wst ss ls) n) = img ((spn ss).drop (wmn ss ls)) n := img_self_map (fun r hr => (spn_span ss r).mp (.of (List.mem_of_mem_drop hr))) n
  have e2 : img ss (img ((wts ss ls).map Prod.snd) (cof (twn ss ls) l)) = img ls (img (twn ss ls) (cof (twn ss ls) l)) ^^^ img ((spn ss).take (wmn ss ls)) (cof (twn ss ls) l) := by
    have a : (wts ss ls).map Prod.snd = ((List.range (twn ss ls).length).map fun i => wgoal ss ls i ((twn ss ls).getD i 0)).map (slv ss) := by
      unfold wts
      rw [List.map_map, List.map_map]
      rfl
    rw [a, img_self_map (fun r hr => by
      obtain ⟨i, hi, rfl⟩ := List.mem_map.mp hr
      exact wgoal_in i (getD_mem (List.mem_range.mp hi))), ← img_map (lin_img ls)]
    unfold img
    rw [List.length_map, List.length_map, List.length_range, List.length_take]
    have pad : ∀ k c, wmn ss ls ≤ k → imf ((spn ss).take (wmn ss ls)) c (min (wmn ss ls) (spn ss).length) = imf ((spn ss).take (wmn ss ls)) c k := by
      intro k c hk
      have m : min (wmn ss ls) (spn ss).length = wmn ss ls := by unfold wmn; omega
      rw [m]
      induction k with
      | zero => rw [show wmn ss ls = 0 by omega]
      | succ k ih =>
        by_cases q : wmn ss ls = k + 1
        · rw [q]
        · rw [imf_succ, ← ih (by omega)]
          have z : ((spn ss).take (wmn ss ls)).getD k 0 = 0 := by
            rw [List.getD_eq_getElem?_getD, List.getElem?_eq_none (by rw [List.length_take]; omega)]; rfl
          rw [z, Nat.xor_zero, ite_self]
    rw [pad (twn ss ls).length _ (by unfold wmn; omega)]
    refine imf_add fun i hi => ?_
    have g1 : ((List.range (twn ss ls).length).map fun i => wgoal ss ls i ((twn ss ls).getD i 0)).getD i 0 = wgoal ss ls i ((twn ss ls).getD i 0) := by
      rw [List.getD_eq_getElem?_getD, List.getElem?_map, List.getElem?_range hi]; rfl
    have g2 : ((twn ss ls).map (img ls)).getD i 0 = img ls ((twn ss ls).getD i 0) := by
      simp only [List.getD_eq_getElem?_getD, List.getElem?_map, List.getElem?_eq_getElem hi]
      rfl
    have g3 : ((spn ss).take (wmn ss ls)).getD i 0 = if i < wmn ss ls then (spn ss).getD i 0 else 0 := by
      simp only [List.getD_eq_getElem?_getD, List.getElem?_take]
      split <;> rfl
    rw [g1]
    show _ = ((twn ss ls).map (img ls)).getD i 0 ^^^ _
    rw [g2, g3]
    rfl
  rw [e1, e2, img_cof (twn_rws ss ls), (lin_img ls).x]
  generalize img ((spn ss).drop (wmn ss ls)) n = A
  generalize img ((spn ss).take (wmn ss ls)) (cof (twn ss ls) l) = B
  generalize img ls (clr (twn ss ls) l) = C
  generalize img ls l = D
  have q : D ^^^ C ^^^ B ^^^ D = B ^^^ C := by
    rw [Nat.xor_comm (D ^^^ C ^^^ B) D, Nat.xor_assoc D C B, xor_cancel, Nat.xor_comm]
  rw [Nat.xor_assoc A, q, Nat.xor_assoc A]
theorem img_app {P Q : List Nat} {x y : Nat} (h : x < 2 ^ P.length) : img (P ++ Q) (x ^^^ (y <<< P.length)) = img P x ^^^ img Q y := by
  have h1 : ∀ k, k ≤ P.length → imf (P ++ Q) (x ^^^ (y <<< P.length)) k = imf P x k := by
    intro k hk
    rw [imf_cols (P := P ++ Q) (Q := P) (fun i hi => by simp only [List.getD_eq_getElem?_getD, List.getElem?_append_left (show i < P.length by omega)])]
    refine imf_congr fun i hi => ?_
    rw [Nat.testBit_xor, Nat.testBit_shiftLeft]
    have : ¬ (P.length ≤ i) := by omega
    simp [this]
  have h2 : ∀ k, imf (P ++ Q) (x ^^^ (y <<< P.length)) (P.length + k) = imf P x P.length ^^^ imf Q y k := by
    intro k
    induction k with
    | zero => rw [Nat.add_zero, h1 _ (Nat.le_refl _)]; show _ = _ ^^^ 0; rw [Nat.xor_zero]
    | succ k ih =>
      rw [← Nat.add_assoc, imf_succ, imf_succ, ih]
      have g : (P ++ Q).getD (P.length + k) 0 = Q.getD k 0 := by
        simp only [List.getD_eq_getElem?_getD, List.getElem?_append_right (Nat.le_add_right P.length k), Nat.add_sub_cancel_left]
      have t : (x ^^^ (y <<< P.length)).testBit (P.length + k) = y.testBit k := by
        rw [Nat.testBit_xor, Nat.testBit_shiftLeft, Nat.testBit_lt_two_pow (Nat.lt_of_lt_of_le h (Nat.pow_le_pow_right (by decide) (Nat.le_add_right _ _)))]
        simp
      rw [g, t]
      split
      · rw [Nat.xor_assoc]
      · rfl
  unfold img
  rw [List.length_append, h2]
theorem ind_inj {A : List Nat} (h : rk A = A.length) {x : Nat} (hx : x < 2 ^ A.length) (e : img A x = 0) : x = 0 := by
  have k := ker_len_eq A
  have z : ker A = [] := List.length_eq_zero_iff.mp (by omega)
  have s := (ker_span A x).mpr ⟨hx, e⟩
  rw [z] at s
  exact s.nil
theorem in_full {ws : List Nat} {b e : Nat} (h : ∀ w ∈ ws, w < 2 ^ b) (hb : b ≤ rk ws) (he : e < 2 ^ b) : Spn ws e := by
  refine Classical.byContradiction fun n => ?_
  have a := rk_snoc_out n
  have c := rk_le_bits (ws := ws ++ [e]) (b := b) fun w hw => by
    rcases List.mem_append.mp hw with hw | hw
    · exact h w hw
    · rcases List.mem_singleton.mp hw with rfl; exact he
  omega
theorem span_split {a b : List Nat} {e : Nat} (h : Spn (a ++ b) e) : ∃ s q, Spn a s ∧ Spn b q ∧ e = s ^^^ q := by
  induction h with
  | zero => exact ⟨0, 0, .zero, .zero, rfl⟩
  | @add y w hw _ ih =>
    obtain ⟨s, q, hs, hq, rfl⟩ := ih
    rcases List.mem_append.mp hw with hw | hw
    · exact ⟨s ^^^ w, q, .add hw hs, hq, by rw [Nat.xor_assoc, Nat.xor_assoc, Nat.xor_comm q w]⟩
    · exact ⟨s, q ^^^ w, hs, .add hw hq, by rw [Nat.xor_assoc]⟩
section
variable {b : Nat} (hs : ∀ x ∈ ss, x < 2 ^ b) (hl : ∀ x ∈ ls, x < 2 ^ b) (hb : b ≤ rk (ss ++ ls))
include hs hl hb
theorem wcount : (spn ss).length - wmn ss ls = b - ls.length := by
  have a := twn_size ss ls
  have f : rk (ss ++ ls) = b := Nat.le_antisymm (rk_le_bits fun x hx => (List.mem_append.mp hx).elim (hs x) (hl x)) hb
  have e2 : (spn ss).length = rk ss := rfl
  unfold wmn
  omega
theorem went_surj {e : Nat} (he : e < 2 ^ b) : ∃ n l, n < 2 ^ (b - ls.length) ∧ l < 2 ^ ls.length ∧ went ss ls n l = e := by
  have wc := wcount hs hl hb
  have R := twn_rws ss ls
  have A := spn_rws ss
  obtain ⟨s, q, h1, h2, rfl⟩ := span_split (in_full (fun w hw => (List.mem_append.mp hw).elim (hs w) (hl w)) hb he)
  have h2' : Spn (ls.take ls.length) q := by rw [List.take_length]; exact h2
  obtain ⟨l0, hl0, rfl⟩ := span_img (Nat.le_refl _) h2'
  have tb : ∀ r ∈ twn ss ls, r < 2 ^ ls.length := fun r hr => ((twn_span ss ls r).mp (.of hr)).1
  have hc : clr (twn ss ls) l0 < 2 ^ ls.length := clr_lt tb hl0
  -- what is left lies in the slot space
  have h3 : Spn ss (s ^^^ img ls l0 ^^^ img ls (clr (twn ss ls) l0)) := by
    rw [Nat.xor_assoc, ← (lin_img ls).x]
    exact h1.xor ((twn_span ss ls _).mp (spn_clr _ l0)).2
  have h4 : Spn ((spn ss).take (spn ss).length) (s ^^^ img ls l0 ^^^ img ls (clr (twn ss ls) l0)) := by rw [List.take_length, spn_span]; exact h3
  obtain ⟨x, hx, ex⟩ := span_img (Nat.le_refl _) h4
  have m1 : wmn ss ls ≤ (spn ss).length := by unfold wmn; omega
  have m2 : wmn ss ls ≤ (twn ss ls).length := by unfold wmn; omega
  have tl : ((spn ss).take (wmn ss ls)).length = wmn ss ls := by rw [List.length_take]; omega
  have cl : x % 2 ^ wmn ss ls < 2 ^ wmn ss ls := Nat.mod_lt _ (Nat.two_pow_pos _)
  have cl2 : x % 2 ^ wmn ss ls < 2 ^ (twn ss ls).length := Nat.lt_of_lt_of_le cl (Nat.pow_le_pow_right (by decide) m2)
  refine ⟨x >>> wmn ss ls, clr (twn ss ls) l0 ^^^ img (twn ss ls) (x % 2 ^ wmn ss ls), ?_, Nat.xor_lt_two_pow hc (imf_lt tb _ _), ?_⟩
  · rw [Nat.shiftRight_eq_div_pow, ← wc]
    rw [Nat.div_lt_iff_lt_mul (Nat.two_pow_pos _), ← Nat.pow_add, show (spn ss).length - wmn ss ls + wmn ss ls = (spn ss).length by omega]
    exact hx
  · rw [went_eq, cof_xor, cof_clr R, Nat.zero_xor, cof_img R cl2, clr_xor, clr_idem R, clr_img R, Nat.xor_zero]
    have q := img_app (P := (spn ss).take (wmn ss ls)) (Q := (spn ss).drop (wmn ss ls)) (x := x % 2 ^ wmn ss ls) (y := x >>> wmn ss ls) (by rw [tl]; exact cl)
    rw [List.take_append_drop, tl, Nat.xor_comm (x % _), ← add_eq_xor cl, Nat.shiftRight_eq_div_pow, Nat.shiftLeft_eq, Nat.mul_comm, Nat.div_add_mod, ex] at q
    rw [Nat.shiftRight_eq_div_pow, Nat.xor_comm (img _ _) (img _ _), ← q, xor_cancel_right]
theorem went_zero (ht : ls.length ≤ b) {n l : Nat} (hn : n < 2 ^ (b - ls.length)) (hl2 : l < 2 ^ ls.length) (h : went ss ls n l = 0) : n = 0 ∧ l = 0 := by
  have wc := wcount hs hl hb
  have R := twn_rws ss ls
  have A := spn_rws ss
  have a := twn_size ss ls
  have f : rk (ss ++ ls) = b := Nat.le_antisymm (rk_le_bits fun x hx => (List.mem_append.mp hx).elim (hs x) (hl x)) hb
  have e2 : (spn ss).length = rk ss := rfl
  have m : wmn ss ls = (twn ss ls).length := by unfold wmn; omega
  have m1 : wmn ss ls ≤ (spn ss).length := by unfold wmn; omega
  have tl : ((spn ss).take (wmn ss ls)).length = wmn ss ls := by rw [List.length_take]; omega
  have tb : ∀ r ∈ twn ss ls, r < 2 ^ ls.length := fun r hr => ((twn_span ss ls r).mp (.of hr)).1
  have cl : cof (twn ss ls) l < 2 ^ ((spn ss).take (wmn ss ls)).length := by rw [tl, m]; exact cof_lt _ _
  rw [went_eq] at h
  have q := img_app (Q := (spn ss).drop (wmn ss ls)) (y := n) cl
  rw [List.take_append_drop, tl] at q
  rw [Nat.xor_comm (img ((spn ss).drop _) _), ← q] at h
  have h' := xor_eq_zero h
  have sA : ∀ x k, k ≤ (spn ss).length → Spn ss (imf (spn ss) x k) := by
    intro x k
    induction k with
    | zero => intro _; exact .zero
    | succ k ih =>
      intro hk
      rw [imf_succ]
      split
      · exact (ih (by omega)).xor ((spn_span ss _).mp (.of (getD_mem hk)))
      · exact ih (by omega)
  have hz : clr (twn ss ls) l = 0 := by
    have s1 : Spn (twn ss ls) (clr (twn ss ls) l) := (twn_span ss ls _).mpr ⟨clr_lt tb hl2, by rw [← h']; exact sA _ _ (Nat.le_refl _)⟩
    have s2 := R.span.mp s1
    rwa [clr_idem R] at s2
  rw [hz, (lin_img ls).z] at h'
  have big : cof (twn ss ls) l ^^^ (n <<< wmn ss ls) < 2 ^ (spn ss).length := by
    refine Nat.xor_lt_two_pow (Nat.lt_of_lt_of_le cl (Nat.pow_le_pow_right (by decide) (by rw [tl]; exact m1))) ?_
    rw [Nat.shiftLeft_eq, show (spn ss).length = (b - ls.length) + wmn ss ls by omega, Nat.pow_add]
    exact Nat.mul_lt_mul_of_pos_right hn (Nat.two_pow_pos _)
  have z := ind_inj (spn_id A) big h'
  have n0 : n = 0 := by
    have := congrArg (fun x => x >>> wmn ss ls) z
    simp only [Nat.shiftRight_xor_distrib, Nat.shiftLeft_shiftRight, Nat.zero_shiftRight] at this
    rw [Nat.shiftRight_eq_div_pow, Nat.div_eq_of_lt (by rw [tl] at cl; exact cl), Nat.zero_xor] at this
    exact this
  rw [n0, Nat.zero_shiftLeft, Nat.xor_zero] at z
  have il := img_cof R l
  rw [z, (lin_img _).z, hz, Nat.xor_zero] at il
  exact ⟨n0, il.symm⟩
theorem went_inj (ht : ls.length ≤ b) {n l n' l' : Nat} (hn : n < 2 ^ (b - ls.length)) (hl2 : l < 2 ^ ls.length) (hn' : n' < 2 ^ (b - ls.length)) (hl2' : l' < 2 ^ ls.length) (h : went ss ls n l = went ss ls n' l') : n = n' ∧ l = l' := by
  have e : went ss ls (n ^^^ n') (l ^^^ l') = 0 := by
    have : went ss ls (n ^^^ n') (l ^^^ l') = went ss ls n l ^^^ went ss ls n' l' := by
      rw [went_eq, went_eq, went_eq, cof_xor, clr_xor, (lin_img _).x, (lin_img _).x, (lin_img _).x]
      rw [xor4 (img _ n), xor4 (_ ^^^ _) (_ ^^^ _)]
    rw [this, h, Nat.xor_self]
  obtain ⟨a, c⟩ := went_zero hs hl hb ht (Nat.xor_lt_two_pow hn hn') (Nat.xor_lt_two_pow hl2 hl2') e
  exact ⟨xor_eq_zero a, xor_eq_zero c⟩
end
end
end LaneX
set_option linter.all false
namespace LaneX
/-! ### the sums that lanes hold, step by step (k36) -/
theorem span_snoc {A : List Nat} {w x : Nat} : Spn (A ++ [w]) x ↔ Spn A x ∨ Spn A (x ^^^ w) := by
  constructor
  · intro h
    obtain ⟨s, q, h1, h2, rfl⟩ := span_split h
    have : q = 0 ∨ q = w := by
      clear h
      induction h2 with
      | zero => exact .inl rfl
      | add hw _ ih =>
        rcases List.mem_singleton.mp hw with rfl
        rcases ih with rfl | rfl
        · rw [Nat.zero_xor]; exact .inr rfl
        · rw [Nat.xor_self]; exact .inl rfl
    rcases this with rfl | rfl
    · rw [Nat.xor_zero]; exact .inl h1
    · rw [xor_cancel_right]; exact .inr h1
  · rintro (h | h)
    · exact h.sub fun z hz => List.mem_append_left _ hz
    · have a : Spn (A ++ [w]) (x ^^^ w) := h.sub fun z hz => List.mem_append_left _ hz
      have b : Spn (A ++ [w]) w := .of (List.mem_append_right _ (List.mem_singleton_self _))
      have := a.xor b
      rwa [xor_cancel_right] at this
/-- an entry that a lane knows of behind the steps P -/
def Ent (ss ls P : List Nat) (L e : Nat) : Prop := Spn (ss ++ P.map (img ls)) (e ^^^ img ls L)
theorem ent_nil {ss ls : List Nat} {L e : Nat} : Ent ss ls [] L e ↔ ∃ s, s < 2 ^ ss.length ∧ img ls L ^^^ img ss s = e := by
  unfold Ent
  rw [List.map_nil, List.append_nil]
  constructor
  · intro h
    obtain ⟨x, hx, e1⟩ := span_img (cols := ss) (Nat.le_refl _) (by rwa [List.take_length])
    refine ⟨x, hx, ?_⟩
    rw [e1, Nat.xor_comm e, xor_cancel]
  · rintro ⟨s, hs, rfl⟩
    rw [Nat.xor_comm, xor_cancel]
    have := img_span (cols := ss) (Nat.le_refl _) hs
    rwa [List.take_length] at this
theorem ent_snoc {ss ls P : List Nat} {p L e : Nat} : Ent ss ls (P ++ [p]) L e ↔ Ent ss ls P L e ∨ Ent ss ls P (L ^^^ p) e := by
  unfold Ent
  rw [List.map_append, List.map_singleton, ← List.append_assoc, span_snoc, (lin_img ls).x, Nat.xor_assoc]
theorem ent_apart {ss ls P : List Nat} {p L e : Nat} (hp : ¬ Spn (ss ++ P.map (img ls)) (img ls p)) (h1 : Ent ss ls P L e) (h2 : Ent ss ls P (L ^^^ p) e) : False := by
  refine hp ?_
  have := Spn.xor h1 h2
  rw [(lin_img ls).x] at this
  have e1 : e ^^^ img ls L ^^^ (e ^^^ (img ls L ^^^ img ls p)) = img ls p := by
    rw [← Nat.xor_assoc e, xor_cancel]
  rwa [e1] at this
theorem ent_lt {b : Nat} {ss ls P : List Nat} (hs : ∀ x ∈ ss, x < 2 ^ b) (hl : ∀ x ∈ ls, x < 2 ^ b) {L e : Nat} (h : Ent ss ls P L e) : e < 2 ^ b := by
  have a : e ^^^ img ls L < 2 ^ b := Spn.lt h fun w hw => by
    rcases List.mem_append.mp hw with hw | hw
    · exact hs w hw
    · obtain ⟨p, _, rfl⟩ := List.mem_map.mp hw
      exact imf_lt hl _ _
  have b1 : img ls L < 2 ^ b := imf_lt hl _ _
  have := Nat.xor_lt_two_pow a b1
  rwa [xor_cancel_right] at this
/-- steps that are independent beside the slots -/
def Fre (ss ls P : List Nat) : Prop := rk (ss ++ P.map (img ls)) = rk ss + P.length
theorem Fre.perm {ss ls P Q : List Nat} (h : Fre ss ls P) (p : Q.Perm P) : Fre ss ls Q := by
  unfold Fre at *
  rw [p.length_eq, ← h]
  exact rk_perm ((p.map _).append_left ss)
theorem Fre.head {ss ls P Q : List Nat} (h : Fre ss ls (P ++ Q)) : Fre ss ls P := by
  unfold Fre at *
  rw [List.map_append, ← List.append_assoc, List.length_append] at h
  have a := rk_app_len (ss ++ P.map (img ls)) (Q.map (img ls))
  have b := rk_app_len ss (P.map (img ls))
  rw [List.length_map] at a b
  omega
theorem Fre.out {ss ls P : List Nat} {p : Nat} (h : Fre ss ls (P ++ [p])) : ¬ Spn (ss ++ P.map (img ls)) (img ls p) := by
  intro z
  have a := h.head
  unfold Fre at *
  rw [List.map_append, List.map_singleton, ← List.append_assoc, rk_snoc_in z, List.length_append] at h
  simp only [List.length_singleton] at h
  omega
theorem ldr_free (ss ls ws : List Nat) : Fre ss ls (ldr ss ls (spn ws)) := by
  have a := (red_lft ss).rk ((ldr ss ls (spn ws)).map (img ls))
  rw [List.map_map] at a
  have b := ldr_rk ss ls ws
  unfold Fre
  have e : (fun x => lft (bas ss) (img ls x)) = lft (bas ss) ∘ img ls := rfl
  rw [e] at b
  omega
theorem ldr_spans {b : Nat} {ss ls ws : List Nat} (hs : ∀ x ∈ ss, x < 2 ^ b) (hl : ∀ x ∈ ls, x < 2 ^ b) (hw : ∀ x ∈ ws, x < 2 ^ b) (hb : b ≤ rk (ss ++ ls)) {w : Nat} (h : Spn ws w) : Spn (ss ++ (ldr ss ls (spn ws)).map (img ls)) w := by
  have wl : w < 2 ^ b := h.lt hw
  obtain ⟨s, q, h1, h2, rfl⟩ := span_split (in_full (ws := ss ++ ls) (fun w hw => (List.mem_append.mp hw).elim (hs w) (hl w)) hb wl)
  obtain ⟨x, hx, rfl⟩ := span_img (cols := ls) (Nat.le_refl _) (by rwa [List.take_length])
  have px : Spn (ss ++ ws) (img ls x) := by
    have a : Spn (ss ++ ws) (s ^^^ img ls x) := h.sub fun z hz => List.mem_append_right _ hz
    have c : Spn (ss ++ ws) s := h1.sub fun z hz => List.mem_append_left _ hz
    have := c.xor a
    rwa [xor_cancel] at this
  have pp : Spn (prt ss ls (spn ws)) x := (prt_span ss ls ws x).mpr ⟨hx, px⟩
  have R : Rws (twn ss ls) := spn_rws _
  have cs := cms_span R (prt ss ls (spn ws))
  have q2 : Spn (twn ss ls ++ ldr ss ls (spn ws)) x := (cs.2 x).mp ((cs.1 x).mpr (pp.sub fun z hz => List.mem_append_right _ hz))
  obtain ⟨t, y, ht, hy, rfl⟩ := span_split q2
  have i1 : Spn ss (img ls t) := ((twn_span ss ls t).mp ht).2
  have i2 : Spn ((ldr ss ls (spn ws)).map (img ls)) (img ls y) := (lin_img ls).spn hy
  rw [(lin_img ls).x, ← Nat.xor_assoc]
  exact ((h1.xor i1).sub fun z hz => List.mem_append_left _ hz).xor (i2.sub fun z hz => List.mem_append_right _ hz)
theorem coset_span {ws : List Nat} {x y : Nat} : lft (bas ws) x = lft (bas ws) y ↔ Spn ws (x ^^^ y) := by
  rw [← lft_bas, lft_xor]
  exact ⟨fun h => by rw [h, Nat.xor_self], fun h => xor_eq_zero h⟩
/-- behind all steps a lane knows of all entries of the cosets of which it holds one -/
theorem ent_all {b : Nat} {ss ls ws P : List Nat} (hs : ∀ x ∈ ss, x < 2 ^ b) (hl : ∀ x ∈ ls, x < 2 ^ b) (hw : ∀ x ∈ ws, x < 2 ^ b) (hb : b ≤ rk (ss ++ ls)) (hP : P.Perm (ldr ss ls (spn ws))) {L e0 e : Nat} (h0 : Ent ss ls [] L e0)
    (he : lft (bas ws) e = lft (bas ws) e0) : Ent ss ls P L e := by
  have a := ldr_spans hs hl hw hb (coset_span.mp he)
  have c : Spn (ss ++ P.map (img ls)) (e ^^^ e0) := a.sub fun z hz => by
    rcases List.mem_append.mp hz with hz | hz
    · exact List.mem_append_left _ hz
    · exact List.mem_append_right _ ((hP.map (img ls)).mem_iff.mpr hz)
  unfold Ent at *
  rw [List.map_nil, List.append_nil] at h0
  have d := c.xor (h0.sub (vs := ss ++ P.map (img ls)) fun z hz => List.mem_append_left _ hz)
  have e1 : e ^^^ e0 ^^^ (e0 ^^^ img ls L) = e ^^^ img ls L := by rw [Nat.xor_assoc, xor_cancel]
  rwa [e1] at d
/-- with one of the steps left out it lacks one of them -/
theorem ent_less {b : Nat} {ss ls ws P : List Nat} {p : Nat} (hs : ∀ x ∈ ss, x < 2 ^ b) (hl : ∀ x ∈ ls, x < 2 ^ b) (hw : ∀ x ∈ ws, x < 2 ^ b) (hP : ldr ss ls (spn ws) = p :: P) {L e0 : Nat} (h0 : Ent ss ls [] L e0) :
    ∃ e, e < 2 ^ b ∧ lft (bas ws) e = lft (bas ws) e0 ∧ ¬ Ent ss ls P L e := by
  have F : Fre ss ls (P ++ [p]) := (ldr_free ss ls ws).perm (by rw [hP]; exact List.perm_append_comm)
  have hp : p ∈ ldr ss ls (spn ws) := by rw [hP]; exact List.mem_cons_self
  have m := lft_bas.mp (ldr_mem hp).2
  obtain ⟨s, w, h1, h2, e1⟩ := span_split m
  refine ⟨e0 ^^^ w, Nat.xor_lt_two_pow (ent_lt hs hl h0) (h2.lt hw), coset_span.mpr ?_, fun z => F.out ?_⟩
  · rw [Nat.xor_comm e0, xor_cancel_right]; exact h2
  · unfold Ent at *
    rw [List.map_nil, List.append_nil] at h0
    have d := (z.xor (h0.sub (vs := ss ++ P.map (img ls)) fun z hz => List.mem_append_left _ hz)).xor (h1.sub (vs := ss ++ P.map (img ls)) fun z hz => List.mem_append_left _ hz)
    have e2 : e0 ^^^ w ^^^ img ls L ^^^ (e0 ^^^ img ls L) ^^^ s = img ls p := by
      rw [e1, Nat.xor_assoc e0 w, xor4, Nat.xor_self, Nat.zero_xor, xor_cancel_right, Nat.xor_comm]
    rwa [e2] at d
/-! ### masks -/
/-- the word with ones where p, below n -/
def mask (p : Nat → Bool) (n : Nat) : Nat := (((List.range n).filter p).map fun i => 1 <<< i).sum
theorem mask_bits (p : Nat → Bool) : ∀ n, mask p n = bitsOf p n
  | 0 => rfl
  | n + 1 => by
    have ih := mask_bits p n
    unfold mask at *
    rw [List.range_succ, List.filter_append, List.map_append, List.sum_append, ih]
    apply Nat.eq_of_testBit_eq
    intro i
    rw [bitsOf_bit]
    have lt := bitsOf_lt p n
    by_cases h : p n = true
    · have e : ((List.filter p [n]).map fun i => 1 <<< i).sum = 2 ^ n := by simp [h, Nat.one_shiftLeft]
      rw [e, Nat.add_comm]
      by_cases hi : i = n
      · subst hi
        rw [Nat.testBit_two_pow_add_eq, bitsOf_bit]
        simp [h]
      · rcases Nat.lt_or_gt_of_ne hi with hi | hi
        · rw [Nat.testBit_two_pow_add_gt hi, bitsOf_bit]
          have : i < n + 1 := by omega
          simp [hi, this]
        · rw [Nat.testBit_lt_two_pow]
          · simp; omega
          · have : 2 ^ (n + 1) ≤ 2 ^ i := Nat.pow_le_pow_right (by decide) hi
            rw [Nat.pow_succ] at this
            omega
    · have e : ((List.filter p [n]).map fun i => 1 <<< i).sum = 0 := by simp [h]
      rw [e, Nat.add_zero, bitsOf_bit]
      by_cases hi : i = n
      · subst hi; simp [h]
      · have : (i < n) ↔ (i < n + 1) := by omega
        simp [this]
theorem mask_bit (p : Nat → Bool) (n i : Nat) : (mask p n).testBit i = (decide (i < n) && p i) := by rw [mask_bits, bitsOf_bit]
theorem mask_lt (p : Nat → Bool) (n : Nat) : mask p n < 2 ^ n := by rw [mask_bits]; exact bitsOf_lt _ _
/-- m is the word of the entries of E whose coset is c -/
def Msk (rows : List Nat) (E : Nat → Prop) (c m : Nat) : Prop := ∀ e, m.testBit e = true ↔ E e ∧ lft rows e = c
theorem Msk.or {rows : List Nat} {E F : Nat → Prop} {c m n : Nat} (h : Msk rows E c m) (g : Msk rows F c n) : Msk rows (fun e => E e ∨ F e) c (m ||| n) := fun e => by
  rw [Nat.testBit_or, Bool.or_eq_true, h e, g e]
  constructor
  · rintro (⟨a, b⟩ | ⟨a, b⟩)
    · exact ⟨.inl a, b⟩
    · exact ⟨.inr a, b⟩
  · rintro ⟨a | a, b⟩
    · exact .inl ⟨a, b⟩
    · exact .inr ⟨a, b⟩
theorem Msk.and {rows : List Nat} {E F : Nat → Prop} {c m n : Nat} (h : Msk rows E c m) (g : Msk rows F c n) (d : ∀ e, E e → F e → False) : m &&& n = 0 := by
  apply Nat.eq_of_testBit_eq
  intro e
  rw [Nat.zero_testBit, Nat.testBit_and]
  cases h1 : m.testBit e with
  | false => rfl
  | true =>
    cases h2 : n.testBit e with
    | false => rfl
    | true => exact (d e ((h e).mp h1).1 ((g e).mp h2).1).elim
theorem Msk.zero {rows : List Nat} {E : Nat → Prop} {c : Nat} (h : ∀ e, E e → lft rows e ≠ c) : Msk rows E c 0 := fun e => by
  rw [Nat.zero_testBit]
  exact ⟨fun z => (by cases z), fun z => (h e z.1 z.2).elim⟩
theorem Msk.congr {rows : List Nat} {E F : Nat → Prop} {c m : Nat} (h : Msk rows E c m) (g : ∀ e, E e ↔ F e) : Msk rows F c m := fun e => by rw [h e, g e]
theorem Msk.unit {rows : List Nat} (e : Nat) : Msk rows (fun x => x = e) (lft rows e) (1 <<< e) := fun x => by
  rw [unit_bit, decide_eq_true_iff]
  exact ⟨fun h => by subst h; exact ⟨rfl, rfl⟩, fun h => h.1.symm⟩
theorem Msk.whole {rows : List Nat} {E : Nat → Prop} {c m n : Nat} (h : Msk rows E c m) (lt : ∀ e, E e → e < n) (all : ∀ e, e < n → lft rows e = c → E e) : m = mask (fun e => decide (lft rows e = c)) n := by
  apply Nat.eq_of_testBit_eq
  intro e
  rw [mask_bit, Bool.eq_iff_iff, h e, Bool.and_eq_true, decide_eq_true_iff, decide_eq_true_iff]
  exact ⟨fun z => ⟨lt e z.1, z.2⟩, fun z => ⟨all e z.1 z.2, z.2⟩⟩
theorem Msk.less {rows : List Nat} {E : Nat → Prop} {c m n : Nat} (h : Msk rows E c m) (ex : ∃ e, e < n ∧ lft rows e = c ∧ ¬ E e) : m ≠ mask (fun e => decide (lft rows e = c)) n := by
  obtain ⟨e, h1, h2, h3⟩ := ex
  rintro rfl
  have := (h e).mp (by rw [mask_bit]; simp [h1, h2])
  exact h3 this.1
end LaneX
set_option linter.all false
namespace LaneX
/-! ### drawn words that can be undone (k17 and the laws behind it) -/
theorem rk_of_inj {A : List Nat} (h : ∀ x, x < 2 ^ A.length → img A x = 0 → x = 0) : rk A = A.length := by
  have k := ker_len_eq A
  have z : ker A = [] := by
    cases e : ker A with
    | nil => rfl
    | cons r l =>
      have m : r ∈ ker A := by rw [e]; exact List.mem_cons_self
      have s := (ker_span A r).mp (.of m)
      exact absurd (h r s.1 s.2) ((ker_rws A).nz r m)
  rw [z] at k
  simpa using k
theorem imf_none {A : List Nat} {x : Nat} : ∀ n, (∀ i, i < n → x.testBit i = false) → imf A x n = 0
  | 0, _ => rfl
  | n + 1, h => by
    rw [imf_succ, h n (Nat.lt_succ_self n), if_neg (by decide)]
    exact imf_none n fun i hi => h i (Nat.lt_succ_of_lt hi)
/-- bit t stays where the columns behind n are 0 at it, or are not taken -/
theorem imf_stay {A : List Nat} {x t m : Nat} : ∀ k, (∀ i, m ≤ i → i < m + k → x.testBit i = true → (A.getD i 0).testBit t = false) → (imf A x (m + k)).testBit t = (imf A x m).testBit t
  | 0, _ => rfl
  | k + 1, h => by
    have ih := imf_stay k fun i h1 h2 h3 => h i h1 (by omega) h3
    show (imf A x (m + k + 1)).testBit t = _
    rw [imf_succ]
    by_cases e : x.testBit (m + k) = true
    · rw [if_pos e, Nat.testBit_xor, h (m + k) (by omega) (by omega) e, ih]; simp
    · rw [if_neg e, ih]
theorem low_below {n i : Nat} (h : n ≠ 0) (hi : i < low n) : n.testBit i = false := by
  induction n using Nat.strongRecOn generalizing i with
  | ind n ih =>
    unfold low at hi
    rw [dif_neg h] at hi
    split at hi
    · omega
    · rename_i h2
      cases i with
      | zero => rw [Nat.testBit_zero]; simp; omega
      | succ i =>
        rw [Nat.testBit_succ]
        exact ih (n / 2) (by omega) (by omega) (by omega)
/-- the columns' lowest bits are 0, 1, 2 .. -/
theorem rk_highs {A : List Nat} (h1 : ∀ i, i < A.length → (A.getD i 0).testBit i = true) (h2 : ∀ i j, i < A.length → j < i → (A.getD i 0).testBit j = false) : rk A = A.length := by
  refine rk_of_inj fun x hx e => Classical.byContradiction fun nz => ?_
  have lb := low_bit nz
  have ll : low x < A.length := by
    refine Nat.lt_of_not_le fun q => ?_
    have := Nat.testBit_lt_two_pow (Nat.lt_of_lt_of_le hx (Nat.pow_le_pow_right (by decide) q))
    rw [this] at lb; cases lb
  have a : imf A x (low x + 1) = A.getD (low x) 0 := by
    rw [imf_succ, if_pos lb, imf_none _ fun i hi => low_below nz hi, Nat.zero_xor]
  have c := imf_stay (A := A) (x := x) (t := low x) (m := low x + 1) (A.length - (low x + 1)) fun i h3 h4 _ => h2 i _ (by omega) (by omega)
  rw [show low x + 1 + (A.length - (low x + 1)) = A.length by omega, a, h1 _ ll] at c
  have d : (img A x).testBit (low x) = true := c
  rw [e] at d
  simp at d
/-- the columns' highest bits are 0, 1, 2 .. -/
theorem rk_lows {A : List Nat} (h1 : ∀ i, i < A.length → (A.getD i 0).testBit i = true) (h2 : ∀ i j, i < A.length → i < j → (A.getD i 0).testBit j = false) : rk A = A.length := by
  refine rk_of_inj fun x hx e => Classical.byContradiction fun nz => ?_
  have tb := testBit_top nz
  have tl : blen x - 1 < A.length := by
    have := blen_le.mpr hx
    have := blen_pos nz
    omega
  have a : (imf A x (blen x - 1)).testBit (blen x - 1) = false := by
    have c := imf_stay (A := A) (x := x) (t := blen x - 1) (m := 0) (blen x - 1) fun i _ h4 _ => h2 i _ (by omega) (by omega)
    rw [Nat.zero_add] at c
    rw [c]; exact Nat.zero_testBit _
  have a2 : (imf A x (blen x - 1 + 1)).testBit (blen x - 1) = true := by
    rw [imf_succ, if_pos tb, Nat.testBit_xor, a, h1 _ tl]; rfl
  have c := imf_stay (A := A) (x := x) (t := blen x - 1) (m := blen x - 1 + 1) (A.length - (blen x - 1 + 1)) fun i h3 h4 h5 => by
    rw [testBit_ge (by omega)] at h5; cases h5
  rw [show blen x - 1 + 1 + (A.length - (blen x - 1 + 1)) = A.length by omega, a2] at c
  have d : (img A x).testBit (blen x - 1) = true := c
  rw [e] at d
  simp at d
/-- M: as many words as bits, that can be undone -/
structure Mix (b : Nat) (M : List Nat) : Prop where
  len : M.length = b
  lt : ∀ x ∈ M, x < 2 ^ b
  rk : rk M = b
theorem Mix.perm {b : Nat} {M N : List Nat} (h : Mix b M) (p : N.Perm M) : Mix b N := ⟨p.length_eq.trans h.len, fun x hx => h.lt x (p.mem_iff.mp hx), (rk_perm p).trans h.rk⟩
theorem mix_units (b : Nat) : Mix b (units b) := ⟨by simp [units], fun x hx => by
  obtain ⟨i, hi, rfl⟩ := List.mem_map.mp hx
  rw [Nat.one_shiftLeft]
  exact Nat.pow_lt_pow_right (by decide) (List.mem_range.mp hi), units_rk b⟩
theorem mix_comp {b : Nat} {A B : List Nat} (hA : Mix b A) (hB : Mix b B) : Mix b (B.map (img A)) := by
  have l : (B.map (img A)).length = b := by rw [List.length_map, hB.len]
  refine ⟨l, fun x hx => ?_, ?_⟩
  · obtain ⟨y, _, rfl⟩ := List.mem_map.mp hx
    exact imf_lt hA.lt _ _
  · rw [rk_of_inj fun x hx e => ?_, l]
    rw [img_map (lin_img A)] at e
    rw [l] at hx
    have lt : img B x < 2 ^ A.length := by rw [hA.len]; exact imf_lt hB.lt _ _
    have z := ind_inj (by rw [hA.rk, hA.len]) lt e
    exact ind_inj (by rw [hB.rk, hB.len]) (by rw [hB.len]; exact hx) z
def hiw (w i : Nat) : Nat := 1 <<< i ||| (w >>> (i + 1)) <<< (i + 1)
def low' (w i : Nat) : Nat := 1 <<< i ||| (w &&& (1 <<< i - 1))
theorem hiw_bit (w i j : Nat) : (hiw w i).testBit j = (decide (i = j) || (decide (i + 1 ≤ j) && w.testBit j)) := by
  unfold hiw
  rw [Nat.testBit_or, unit_bit, Nat.testBit_shiftLeft]
  by_cases h : i + 1 ≤ j
  · rw [Nat.testBit_shiftRight, show i + 1 + (j - (i + 1)) = j by omega]
  · have : decide (j ≥ i + 1) = false := by simp; omega
    rw [this]; simp
theorem low'_bit (w i j : Nat) : (low' w i).testBit j = (decide (i = j) || (decide (j < i) && w.testBit j)) := by
  unfold low'
  rw [Nat.testBit_or, unit_bit, Nat.testBit_and, Nat.one_shiftLeft, Nat.testBit_two_pow_sub_one, Bool.and_comm (w.testBit j)]
theorem lt_of_bits {x b : Nat} (h : ∀ j, b ≤ j → x.testBit j = false) : x < 2 ^ b := Nat.lt_of_not_le fun q => by
  have nz : x ≠ 0 := fun z => by rw [z] at q; have := Nat.two_pow_pos b; omega
  have : b < blen x := Nat.lt_of_not_le fun z => by have := blen_le.mp z; omega
  have t := testBit_top nz
  rw [h _ (by omega)] at t; cases t
theorem hiw_lt {w i b : Nat} (hw : w < 2 ^ b) (hi : i < b) : hiw w i < 2 ^ b := lt_of_bits fun j hj => by
  rw [hiw_bit, Nat.testBit_lt_two_pow (Nat.lt_of_lt_of_le hw (Nat.pow_le_pow_right (by decide) hj))]
  have : decide (i = j) = false := by simp; omega
  rw [this]; simp
theorem low'_lt {w i b : Nat} (hi : i < b) : low' w i < 2 ^ b := lt_of_bits fun j hj => by
  rw [low'_bit]
  have : decide (i = j) = false := by simp; omega
  have : decide (j < i) = false := by simp; omega
  simp [*]
theorem map_range_getD (f : Nat → Nat) {b i : Nat} (h : i < b) : ((List.range b).map f).getD i 0 = f i := by
  rw [List.getD_eq_getElem?_getD, List.getElem?_map, List.getElem?_range h]; rfl
theorem mix_highs {b : Nat} {w : Nat → Nat} (hw : ∀ i, i < b → w i < 2 ^ b) : Mix b ((List.range b).map fun i => hiw (w i) i) := by
  have l : ((List.range b).map fun i => hiw (w i) i).length = b := by simp
  refine ⟨l, fun x hx => ?_, ?_⟩
  · obtain ⟨i, hi, rfl⟩ := List.mem_map.mp hx
    exact hiw_lt (hw i (List.mem_range.mp hi)) (List.mem_range.mp hi)
  · rw [rk_highs (fun i hi => ?_) (fun i j hi hj => ?_), l]
    · rw [l] at hi
      rw [map_range_getD _ hi, hiw_bit]; simp
    · rw [l] at hi
      rw [map_range_getD _ hi, hiw_bit]
      have : decide (i = j) = false := by simp; omega
      have : decide (i + 1 ≤ j) = false := by simp; omega
      simp [*]
theorem mix_lows {b : Nat} (w : Nat → Nat) : Mix b ((List.range b).map fun i => low' (w i) i) := by
  have l : ((List.range b).map fun i => low' (w i) i).length = b := by simp
  refine ⟨l, fun x hx => ?_, ?_⟩
  · obtain ⟨i, hi, rfl⟩ := List.mem_map.mp hx
    exact low'_lt (List.mem_range.mp hi)
  · rw [rk_lows (fun i hi => ?_) (fun i j hi hj => ?_), l]
    · rw [l] at hi
      rw [map_range_getD _ hi, low'_bit]; simp
    · rw [l] at hi
      rw [map_range_getD _ hi, low'_bit]
      have : decide (i = j) = false := by simp; omega
      have : decide (j < i) = false := by simp; omega
      simp [*]
/-- a list taken in another order -/
theorem perm_order {b : Nat} {o M : List Nat} (p : o.Perm (List.range b)) (l : M.length = b) : (o.map fun i => M.getD i 0).Perm M := by
  have a := p.map fun i => M.getD i 0
  have e : (List.range b).map (fun i => M.getD i 0) = M := by
    refine List.ext_getElem (by simp [l]) fun i h1 h2 => ?_
    rw [List.getElem_map, List.getElem_range, List.getD_eq_getElem?_getD, List.getElem?_eq_getElem h2]; rfl
  rwa [e] at a
/-- sums by words that can be undone span the same -/
theorem Mix.span {b : Nat} {M W : List Nat} (h : Mix b M) (l : W.length = b) (x : Nat) : Spn (M.map (img W)) x ↔ Spn W x := by
  constructor
  · intro hx
    refine hx.mono fun y hy => ?_
    obtain ⟨z, hz, rfl⟩ := List.mem_map.mp hy
    have := img_span (cols := W) (Nat.le_refl _) (by rw [l]; exact h.lt z hz)
    rwa [List.take_length] at this
  · intro hx
    obtain ⟨y, hy, rfl⟩ := span_img (cols := W) (Nat.le_refl _) (by rwa [List.take_length])
    exact (lin_img W).spn (in_full h.lt (Nat.le_of_eq h.rk.symm) (by rw [← l]; exact hy))
theorem img_in (W : List Nat) {z : Nat} (h : z < 2 ^ W.length) : Spn W (img W z) := by
  have := img_span (cols := W) (Nat.le_refl _) h
  rwa [List.take_length] at this
/-- one more word of the span, anywhere -/
theorem span_more {A B : List Nat} {w : Nat} (p : B.Perm (w :: A)) (h : Spn A w) (x : Nat) : Spn B x ↔ Spn A x := by
  constructor
  · intro hx
    refine hx.mono fun y hy => ?_
    rcases List.mem_cons.mp (p.mem_iff.mp hy) with rfl | hy
    · exact h
    · exact .of hy
  · exact fun hx => hx.sub fun y hy => p.mem_iff.mpr (List.mem_cons_of_mem _ hy)
/-- each word with a sum of others: beside these the same span -/
theorem span_shift {S A : List Nat} {n : Nat} {f g : Nat → Nat} (h : ∀ i, i < n → Spn S (f i ^^^ g i)) (x : Nat) : Spn (S ++ (List.range n).map f) x ↔ Spn (S ++ (List.range n).map g) x := by
  have one : ∀ {f g : Nat → Nat}, (∀ i, i < n → Spn S (f i ^^^ g i)) → ∀ x, Spn (S ++ (List.range n).map f) x → Spn (S ++ (List.range n).map g) x := by
    intro f g h x hx
    refine hx.mono fun y hy => ?_
    rcases List.mem_append.mp hy with hy | hy
    · exact .of (List.mem_append_left _ hy)
    · obtain ⟨i, hi, rfl⟩ := List.mem_map.mp hy
      have a : Spn (S ++ (List.range n).map g) (f i ^^^ g i) := (h i (List.mem_range.mp hi)).sub fun z hz => List.mem_append_left _ hz
      have c : Spn (S ++ (List.range n).map g) (g i) := .of (List.mem_append_right _ (List.mem_map.mpr ⟨i, hi, rfl⟩))
      have := a.xor c
      rwa [xor_cancel_right] at this
  exact ⟨one h x, one (fun i hi => by rw [Nat.xor_comm]; exact h i hi) x⟩
end LaneX
set_option linter.all false
namespace LaneX
/-! ### the law's own rows by min (k17 and others) -/
def les (rows : List Nat) (w : Nat) : Nat := rows.foldl (fun l r => min l (l ^^^ r)) w
theorem lt_bit {x y i : Nat} (hx : x.testBit i = false) (hy : y.testBit i = true) (h : ∀ j, i < j → x.testBit j = y.testBit j) : x < y := by
  have e1 : x >>> (i + 1) = y >>> (i + 1) := by
    apply Nat.eq_of_testBit_eq
    intro j
    rw [Nat.testBit_shiftRight, Nat.testBit_shiftRight]
    exact h _ (by omega)
  rw [Nat.shiftRight_eq_div_pow, Nat.shiftRight_eq_div_pow] at e1
  have p := Nat.two_pow_pos i
  have q : (2 : Nat) ^ (i + 1) = 2 * 2 ^ i := by rw [Nat.pow_succ]; omega
  have a : x % 2 ^ (i + 1) < 2 ^ i := by
    refine lt_of_bits fun j hj => ?_
    rw [Nat.testBit_mod_two_pow]
    by_cases z : j < i + 1
    · have : j = i := by omega
      subst this; simp [hx]
    · simp [z]
  have c : 2 ^ i ≤ y % 2 ^ (i + 1) := by
    refine Nat.ge_two_pow_of_testBit ?_
    rw [Nat.testBit_mod_two_pow, hy]; simp
  have d1 := Nat.div_add_mod x (2 ^ (i + 1))
  have d2 := Nat.div_add_mod y (2 ^ (i + 1))
  rw [e1] at d1
  omega
theorem min_xor {l r : Nat} (h : r ≠ 0) : min l (l ^^^ r) = if l.testBit (blen r - 1) = true then l ^^^ r else l := by
  have t := testBit_top h
  have above : ∀ j, blen r - 1 < j → (l ^^^ r).testBit j = l.testBit j := fun j hj => by
    rw [Nat.testBit_xor, testBit_ge (n := r) (by omega)]; simp
  by_cases e : l.testBit (blen r - 1) = true
  · rw [if_pos e]
    have : l ^^^ r < l := lt_bit (i := blen r - 1) (by rw [Nat.testBit_xor, e, t]; rfl) e fun j hj => above j hj
    omega
  · rw [if_neg e]
    have e' : l.testBit (blen r - 1) = false := by simpa using e
    have : l < l ^^^ r := lt_bit (i := blen r - 1) e' (by rw [Nat.testBit_xor, e', t]; rfl) fun j hj => (above j hj).symm
    omega
theorem les_clr : ∀ {rows : List Nat} (w : Nat), (∀ r ∈ rows, r ≠ 0) → les rows w = clr rows w
  | [], w, _ => rfl
  | r :: rs, w, h => by
    have ih := les_clr (rows := rs) (min w (w ^^^ r)) fun s hs => h s (List.mem_cons_of_mem _ hs)
    show les rs (min w (w ^^^ r)) = clr rs (if w.testBit (blen r - 1) = true then w ^^^ r else w)
    rw [ih, min_xor (h r List.mem_cons_self)]
def rwstep (rows : List Nat) (w : Nat) : List Nat := if clr rows w = 0 then rows else rows ++ [clr rows w]
def rws (ws : List Nat) : List Nat := ws.foldl rwstep []
theorem rws_snoc (a : List Nat) (w : Nat) : rws (a ++ [w]) = rwstep (rws a) w := List.foldl_append ..
/-- none is 0, later ones are 0 at the highest bits of earlier ones -/
structure Hws (rows : List Nat) : Prop where
  nz : ∀ r ∈ rows, r ≠ 0
  red : rows.Pairwise fun r s => s.testBit (blen r - 1) = false
theorem Hws.nil : Hws [] := ⟨fun _ h => (by cases h), .nil⟩
theorem Hws.tops : ∀ {rows : List Nat} {x : Nat}, Hws rows → ∀ r ∈ rows, (clr rows x).testBit (blen r - 1) = false
  | [], x, _, r, h => by cases h
  | s :: rs, x, R, r, h => by
    have hp := List.pairwise_cons.mp R.red
    have R' : Hws rs := ⟨fun t ht => R.nz t (.tail _ ht), hp.2⟩
    rw [clr_cons]
    rcases List.mem_cons.mp h with rfl | h
    · rw [clr_bit fun t ht => hp.1 t ht, Nat.testBit_xor]
      have := testBit_top (R.nz r (.head _))
      cases q : x.testBit (blen r - 1) <;> simp [bx, this]
    · exact R'.tops r h
theorem Hws.self : ∀ {rows : List Nat}, Hws rows → ∀ r ∈ rows, clr rows r = 0
  | [], _, r, h => by cases h
  | s :: rs, R, r, h => by
    have hp := List.pairwise_cons.mp R.red
    have R' : Hws rs := ⟨fun t ht => R.nz t (.tail _ ht), hp.2⟩
    rw [clr_cons]
    rcases List.mem_cons.mp h with rfl | h
    · rw [testBit_top (R.nz r (.head _))]
      simp [bx, clr_zero]
    · rw [hp.1 r h]
      simp only [bx, Bool.false_eq_true, if_false, Nat.xor_zero]
      exact R'.self r h
theorem Hws.span {rows : List Nat} (R : Hws rows) {x : Nat} : Spn rows x ↔ clr rows x = 0 := by
  constructor
  · intro h
    induction h with
    | zero => exact clr_zero rows
    | add hw _ ih => rw [clr_xor, ih, R.self _ hw]; rfl
  · intro h
    have := spn_clr rows x
    rwa [h, Nat.xor_zero] at this
theorem Hws.step {rows : List Nat} (R : Hws rows) (w : Nat) : Hws (rwstep rows w) := by
  unfold rwstep
  split
  · exact R
  · rename_i h
    refine ⟨fun r hr => ?_, List.pairwise_append.mpr ⟨R.red, by simp, fun r hr s hs => ?_⟩⟩
    · rcases List.mem_append.mp hr with hr | hr
      · exact R.nz r hr
      · rcases List.mem_singleton.mp hr with rfl; exact h
    · rcases List.mem_singleton.mp hs with rfl
      exact R.tops r hr
theorem Hws.ind {rows : List Nat} (R : Hws rows) : Ind rows := by
  have : ∀ n (l : List Nat), l.length = n → Hws l → Ind l := by
    intro n
    induction n with
    | zero => intro l hl _; rw [List.length_eq_zero_iff.mp hl]; exact .nil
    | succ n ih =>
      intro l hl L
      have hne : l ≠ [] := fun e => by rw [e] at hl; cases hl
      have e := List.dropLast_concat_getLast hne
      rw [← e] at L ⊢
      have hp := List.pairwise_append.mp L.red
      have L' : Hws l.dropLast := ⟨fun r hr => L.nz r (List.mem_append_left _ hr), hp.1⟩
      refine .snoc (ih _ (by rw [List.length_dropLast, hl]; rfl) L') fun hs => ?_
      have z := L'.span.mp hs
      rw [clr_of_none fun r hr => hp.2.2 r hr _ (List.mem_singleton_self _)] at z
      exact L.nz _ (List.mem_append_right _ (List.mem_singleton_self _)) z
  exact this _ rows rfl R
theorem rws_hws (ws : List Nat) : Hws (rws ws) := snoc_rec (p := fun l => Hws (rws l)) Hws.nil (fun a x ih => by rw [rws_snoc]; exact ih.step x) ws
/-- a word against what is left of it -/
theorem span_trade {rows : List Nat} {w l : Nat} (h : Spn rows (w ^^^ l)) (x : Nat) : Spn (rows ++ [l]) x ↔ Spn (rows ++ [w]) x := by
  rw [span_snoc, span_snoc]
  have e : ∀ a c : Nat, Spn rows (a ^^^ c) → Spn rows (x ^^^ a) → Spn rows (x ^^^ c) := fun a c h1 h2 => by
    have := h2.xor h1
    rwa [Nat.xor_assoc, xor_cancel] at this
  constructor
  · rintro (z | z)
    · exact .inl z
    · exact .inr (e l w (by rw [Nat.xor_comm]; exact h) z)
  · rintro (z | z)
    · exact .inl z
    · exact .inr (e w l h z)
theorem rwstep_span (rows : List Nat) (w x : Nat) : Spn (rwstep rows w) x ↔ Spn (rows ++ [w]) x := by
  have hw := spn_clr rows w
  unfold rwstep
  split
  · rename_i h
    rw [h, Nat.xor_zero] at hw
    rw [span_snoc]
    constructor
    · exact .inl
    · rintro (z | z)
      · exact z
      · have := z.xor hw
        rwa [xor_cancel_right] at this
  · exact span_trade hw x
theorem rws_span (ws : List Nat) : ∀ x, Spn (rws ws) x ↔ Spn ws x := snoc_rec (p := fun l => ∀ x, Spn (rws l) x ↔ Spn l x) (fun x => Iff.rfl) (fun a w ih x => by rw [rws_snoc, rwstep_span, span_app ih]) ws
theorem rws_len (ws : List Nat) : (rws ws).length = rk ws := by rw [← (rws_hws ws).ind.rk]; exact rk_eq (rws_span ws)
theorem rws_len_le (ws : List Nat) : (rws ws).length ≤ ws.length := by rw [rws_len]; exact rk_len ws
/-! ### all sums of some words -/
def sev (rows : List Nat) : List Nat := rows.foldl (fun f w => f ++ f.map fun x => x ^^^ w) [0]
theorem sev_snoc (a : List Nat) (w : Nat) : sev (a ++ [w]) = sev a ++ (sev a).map fun x => x ^^^ w := List.foldl_append ..
theorem sev_len (rows : List Nat) : (sev rows).length = 2 ^ rows.length := snoc_rec (p := fun l => (sev l).length = 2 ^ l.length) rfl (fun a w ih => by
  rw [sev_snoc, List.length_append, List.length_map, ih, List.length_append, List.length_singleton, Nat.pow_succ]; omega) rows
theorem sev_mem (rows : List Nat) : ∀ x, x ∈ sev rows ↔ Spn rows x := snoc_rec (p := fun l => ∀ x, x ∈ sev l ↔ Spn l x) (fun x => by
    show x ∈ [0] ↔ _
    rw [List.mem_singleton]
    exact ⟨fun h => by rw [h]; exact .zero, fun h => h.nil⟩) (fun a w ih x => by
  rw [sev_snoc, List.mem_append, ih, span_snoc]
  constructor
  · rintro (h | h)
    · exact .inl h
    · obtain ⟨y, hy, rfl⟩ := List.mem_map.mp h
      rw [xor_cancel_right]
      exact .inr ((ih y).mp hy)
  · rintro (h | h)
    · exact .inl h
    · exact .inr (List.mem_map.mpr ⟨_, (ih _).mpr h, xor_cancel_right x w⟩)) rows
theorem nodup_xor {l : List Nat} (h : l.Nodup) (w : Nat) : (l.map fun x => x ^^^ w).Nodup := by
  unfold List.Nodup
  rw [List.pairwise_map]
  exact h.imp fun n e => n (by have := congrArg (· ^^^ w) e; simpa [xor_cancel_right] using this)
theorem nodup_xorL {l : List Nat} (h : l.Nodup) (w : Nat) : (l.map fun x => w ^^^ x).Nodup := by
  have : (l.map fun x => w ^^^ x) = l.map fun x => x ^^^ w := List.map_congr_left fun x _ => Nat.xor_comm w x
  rw [this]; exact nodup_xor h w
theorem sev_nodup {rows : List Nat} (h : Ind rows) : (sev rows).Nodup := by
  induction h with
  | nil => show [0].Nodup; simp
  | @snoc a w _ hw ih =>
    rw [sev_snoc]
    refine List.nodup_append.mpr ⟨ih, nodup_xor ih w, fun x hx y hy e => hw ?_⟩
    subst e
    obtain ⟨z, hz, e⟩ := List.mem_map.mp hy
    have c := ((sev_mem a _).mp hx).xor ((sev_mem a _).mp hz)
    rw [← e] at c
    have e2 : z ^^^ w ^^^ z = w := by rw [Nat.xor_comm z w, xor_cancel_right]
    rwa [e2] at c
/-! ### the meet, as a span -/
theorem mtd_span {b : Nat} {A B : List Nat} (lt : ∀ x ∈ A, x < 2 ^ b) (x : Nat) : Spn (mtd b A B) x ↔ Spn A x ∧ Spn B x := by
  have L1 : Lin (fun r => (r <<< b) ^^^ r) := ⟨by simp, fun a c => by rw [Nat.shiftLeft_xor_distrib, xor4]⟩
  have L2 : Lin (fun r => r <<< b) := ⟨by simp, fun a c => Nat.shiftLeft_xor_distrib⟩
  have e1 : (A.map fun r => (r <<< b) + r) = A.map fun r => (r <<< b) ^^^ r := List.map_congr_left fun r hr => add_eq_xor (lt r hr)
  unfold mtd
  rw [(spn_rws _).low_span, spn_span]
  unfold mts
  rw [e1]
  constructor
  · rintro ⟨h, hx⟩
    obtain ⟨p, q, h1, h2, rfl⟩ := span_split h
    obtain ⟨y, hy, rfl⟩ := L1.back h1
    obtain ⟨z, hz, rfl⟩ := L2.back h2
    have hyb := hy.lt lt
    have e2 : (y <<< b ^^^ y) ^^^ z <<< b = ((y ^^^ z) <<< b) ^^^ y := by
      rw [Nat.shiftLeft_xor_distrib, Nat.xor_assoc, Nat.xor_comm y, ← Nat.xor_assoc]
    have hx' : ((y ^^^ z) <<< b) ^^^ y < 2 ^ b := by rw [← e2]; exact hx
    have hs : (y ^^^ z) <<< b < 2 ^ b := by
      have := Nat.xor_lt_two_pow hx' hyb
      rwa [xor_cancel_right] at this
    have z0 : y ^^^ z = 0 := by
      rw [Nat.shiftLeft_eq] at hs
      have pb := Nat.two_pow_pos b
      rcases Nat.eq_zero_or_pos (y ^^^ z) with h0 | h0
      · exact h0
      · have : 1 * 2 ^ b ≤ (y ^^^ z) * 2 ^ b := Nat.mul_le_mul_right _ h0
        omega
    show Spn A ((y <<< b ^^^ y) ^^^ z <<< b) ∧ Spn B ((y <<< b ^^^ y) ^^^ z <<< b)
    rw [e2, z0, Nat.zero_shiftLeft, Nat.zero_xor]
    exact ⟨hy, by rw [xor_eq_zero z0]; exact hz⟩
  · rintro ⟨h1, h2⟩
    refine ⟨?_, h1.lt lt⟩
    have a := (L1.spn h1).sub (vs := A.map (fun r => (r <<< b) ^^^ r) ++ B.map fun r => r <<< b) fun z hz => List.mem_append_left _ hz
    have c := (L2.spn h2).sub (vs := A.map (fun r => (r <<< b) ^^^ r) ++ B.map fun r => r <<< b) fun z hz => List.mem_append_right _ hz
    have d := a.xor c
    have e3 : (x <<< b ^^^ x) ^^^ x <<< b = x := by rw [Nat.xor_comm (x <<< b) x, xor_cancel_right]
    have d' : Spn (A.map (fun r => (r <<< b) ^^^ r) ++ B.map fun r => r <<< b) ((x <<< b ^^^ x) ^^^ x <<< b) := d
    rwa [e3] at d'
/-! ### what a lane lacks, by counting -/
theorem len_of_mem {l m : List Nat} (h1 : l.Nodup) (h2 : m.Nodup) (h : ∀ x, x ∈ l ↔ x ∈ m) : l.length = m.length :=
  Nat.le_antisymm (nodup_sub_len h1 fun x hx => (h x).mp hx) (nodup_sub_len h2 fun x hx => (h x).mpr hx)
theorem filter_not_len (l : List Nat) (p : Nat → Bool) : (l.filter fun x => !p x).length = l.length - (l.filter p).length := by
  have := filter_two p l
  omega
section
variable {b : Nat} {ss os : List Nat}
def shr (ss os : List Nat) : Nat := rk ss + rk os - rk (ss ++ os)
theorem mtd_shr (hs : ∀ x ∈ ss, x < 2 ^ b) : (mtd b (spn ss) (spn os)).length = shr ss os := by
  have a := mtd_len (b := b) (spn_rws ss) (spn_rws os) (spn_lt hs)
  have e : rk (spn ss ++ spn os) = rk (ss ++ os) := rk_eq fun x => span_app2 (spn_span ss) (spn_span os)
  rw [e] at a
  unfold shr
  have h1 : (spn ss).length = rk ss := rfl
  have h2 : (spn os).length = rk os := rfl
  omega
/-- of the sums of os those that lie in a coset of ss -/
theorem count_in (hs : ∀ x ∈ ss, x < 2 ^ b) {T : List Nat} (nd : T.Nodup) (mem : ∀ x, x ∈ T ↔ Spn os x) {d : Nat} (hd : Spn (ss ++ os) d) {q : Nat → Bool} (hq : ∀ w, q w = true ↔ Spn ss (d ^^^ w)) : (T.filter q).length = 2 ^ shr ss os := by
  obtain ⟨s, o, h1, h2, rfl⟩ := span_split hd
  rw [← mtd_shr hs, ← sev_len]
  have e : (sev (mtd b (spn ss) (spn os))).length = ((sev (mtd b (spn ss) (spn os))).map fun x => x ^^^ o).length := by simp
  rw [e]
  refine len_of_mem (nd.filter _) (nodup_xor (sev_nodup (mtd_rws _ _ _).ind) o) fun x => ?_
  rw [List.mem_filter, mem, hq, List.mem_map]
  have key : ∀ y, Spn (mtd b (spn ss) (spn os)) y ↔ Spn ss y ∧ Spn os y := fun y => by rw [mtd_span (spn_lt hs), spn_span, spn_span]
  constructor
  · rintro ⟨h3, h4⟩
    refine ⟨x ^^^ o, (sev_mem _ _).mpr ((key _).mpr ⟨?_, h3.xor h2⟩), xor_cancel_right _ _⟩
    have := h1.xor h4
    rw [Nat.xor_assoc, xor_cancel, Nat.xor_comm] at this
    exact this
  · rintro ⟨y, hy, rfl⟩
    have := (key y).mp ((sev_mem _ _).mp hy)
    refine ⟨this.2.xor h2, ?_⟩
    have e : s ^^^ o ^^^ (y ^^^ o) = s ^^^ y := by rw [xor4, Nat.xor_self, Nat.xor_zero]
    rw [e]
    exact h1.xor this.1
theorem count_out {T : List Nat} (mem : ∀ x, x ∈ T ↔ Spn os x) {d : Nat} (hd : ¬ Spn (ss ++ os) d) {q : Nat → Bool} (hq : ∀ w, q w = true ↔ Spn ss (d ^^^ w)) : (T.filter q).length = 0 := by
  rw [List.length_eq_zero_iff, List.filter_eq_nil_iff]
  intro w hw z
  refine hd ?_
  have a := ((hq w).mp z).sub (vs := ss ++ os) fun y hy => List.mem_append_left _ hy
  have c := ((mem w).mp hw).sub (vs := ss ++ os) fun y hy => List.mem_append_right _ hy
  have := a.xor c
  rwa [xor_cancel_right] at this
end
/-- the entries of a lane, by listing -/
def lot (ss ls : List Nat) (L : Nat) : List Nat := (sev (rws ss)).map fun w => img ls L ^^^ w
theorem sevr_mem (ss : List Nat) (x : Nat) : x ∈ sev (rws ss) ↔ Spn ss x := by rw [sev_mem, rws_span]
theorem lot_mem (ss ls : List Nat) (L e : Nat) : e ∈ lot ss ls L ↔ Spn ss (img ls L ^^^ e) := by
  unfold lot
  rw [List.mem_map]
  constructor
  · rintro ⟨w, hw, rfl⟩
    rw [xor_cancel]; exact (sevr_mem ss w).mp hw
  · intro h
    exact ⟨_, (sevr_mem ss _).mpr h, xor_cancel _ _⟩
def lsm (ls ps : List Nat) : List Nat := (List.range ls.length).map fun i => ls.getD i 0 ^^^ ps.getD i 0
theorem lsm_len (ls ps : List Nat) : (lsm ls ps).length = ls.length := by simp [lsm]
theorem img_lsm {ls ps : List Nat} (h : ls.length = ps.length) (L : Nat) : img (lsm ls ps) L = img ls L ^^^ img ps L := by
  unfold img
  rw [lsm_len, ← h]
  exact imf_add fun i hi => map_range_getD _ hi
def due (ss ls os ps : List Nat) (L : Nat) : Nat := ((lot os ps L).filter fun e => !decide (e ∈ lot ss ls L)).length
open Classical in
theorem due_eq {b : Nat} {ss ls os ps : List Nat} (hs : ∀ x ∈ ss, x < 2 ^ b) (h : ls.length = ps.length) (L : Nat) : due ss ls os ps L = if Spn (ss ++ os) (img (lsm ls ps) L) then 2 ^ rk os - 2 ^ shr ss os else 2 ^ rk os := by
  unfold due
  rw [filter_not_len]
  have nd := sev_nodup (rws_hws os).ind
  have hq : ∀ w, (fun w => decide (img ps L ^^^ w ∈ lot ss ls L)) w = true ↔ Spn ss (img (lsm ls ps) L ^^^ w) := fun w => by
    rw [decide_eq_true_iff, lot_mem, img_lsm h, Nat.xor_assoc]
  have e : ((lot os ps L).filter fun e => decide (e ∈ lot ss ls L)).length = ((sev (rws os)).filter fun w => decide (img ps L ^^^ w ∈ lot ss ls L)).length := by
    unfold lot
    rw [List.filter_map, List.length_map]
    rfl
  have l : (lot os ps L).length = 2 ^ rk os := by
    unfold lot
    rw [List.length_map, sev_len, rws_len]
  rw [e, l]
  split
  · rename_i hd
    rw [count_in hs nd (sevr_mem os) hd hq]
  · rename_i hd
    rw [count_out (sevr_mem os) hd hq, Nat.sub_zero]
/-! ### the least lane that keeps nothing -/
/-- j is the least bit that is no row's highest -/
def Mis (rows : List Nat) (j : Nat) : Prop := (∀ i, i < j → ∃ r ∈ rows, blen r - 1 = i) ∧ ∀ r ∈ rows, blen r - 1 ≠ j
theorem mis_le {rows : List Nat} {j : Nat} (h : ∀ i, i < j → ∃ r ∈ rows, blen r - 1 = i) : j ≤ rows.length := by
  have := nodup_sub_len (l := List.range j) (m := rows.map fun r => blen r - 1) List.nodup_range fun i hi => by
    obtain ⟨r, hr, e⟩ := h i (List.mem_range.mp hi)
    exact List.mem_map.mpr ⟨r, hr, e⟩
  simpa using this
theorem Mis.below {rows : List Nat} (R : Rws rows) {j : Nat} (h : Mis rows j) {x : Nat} (hx : x < 2 ^ j) : Spn rows x := by
  have F := R.low j
  have l : j ≤ (rows.filter fun r => decide (blen r ≤ j)).length := mis_le fun i hi => by
    obtain ⟨r, hr, e⟩ := h.1 i hi
    have := blen_pos (R.nz r hr)
    exact ⟨r, List.mem_filter.mpr ⟨hr, decide_eq_true (by omega)⟩, e⟩
  have := in_full (ws := rows.filter fun r => decide (blen r ≤ j)) (b := j) (fun w hw => blen_le.mp (of_decide_eq_true (List.mem_filter.mp hw).2)) (by rw [spn_id F]; exact l) hx
  exact this.sub fun z hz => (List.mem_filter.mp hz).1
theorem Mis.at_ {rows : List Nat} (R : Rws rows) {j : Nat} (h : Mis rows j) : ¬ Spn rows (2 ^ j) := fun z => by
  obtain ⟨r, hr, e⟩ := R.top_mem z (Nat.ne_of_gt (Nat.two_pow_pos j))
  have e2 : blen (2 ^ j) = j + 1 := by rw [← Nat.one_shiftLeft]; exact blen_unit j
  exact h.2 r hr (by omega)
theorem allin_img {S W : List Nat} (h : ∀ w ∈ W, Spn S w) (L : Nat) : Spn S (img W L) := by
  unfold img
  generalize W.length = n
  induction n with
  | zero => exact .zero
  | succ n ih =>
    rw [imf_succ]
    split
    · refine ih.xor ?_
      by_cases hn : n < W.length
      · exact h _ (getD_mem hn)
      · rw [List.getD_eq_getElem?_getD, List.getElem?_eq_none (by omega)]; exact .zero
    · exact ih
open Classical in
/-- fewest rounds -/
noncomputable def fwr (ss ls os ps : List Nat) : Nat := if ∀ w ∈ lsm ls ps, Spn (ss ++ os) w then 2 ^ rk os - 2 ^ shr ss os else 2 ^ rk os
section
variable {b : Nat} {ss ls os ps : List Nat} (hs : ∀ x ∈ ss, x < 2 ^ b) (hl : ls.length = ps.length)
include hs hl
open Classical in
theorem due_le (L : Nat) : due ss ls os ps L ≤ fwr ss ls os ps := by
  rw [due_eq hs hl]
  unfold fwr
  by_cases h : ∀ w ∈ lsm ls ps, Spn (ss ++ os) w
  · rw [if_pos h, if_pos (allin_img h L)]; exact Nat.le_refl _
  · rw [if_neg h]
    split
    · exact Nat.sub_le _ _
    · exact Nat.le_refl _
theorem due_all (h : ∀ w ∈ lsm ls ps, Spn (ss ++ os) w) (L : Nat) : due ss ls os ps L = fwr ss ls os ps := by
  rw [due_eq hs hl]
  unfold fwr
  rw [if_pos h, if_pos (allin_img h L)]
theorem due_short {j : Nat} (h : ¬ ∀ w ∈ lsm ls ps, Spn (ss ++ os) w) (hj : Mis (ker ((lsm ls ps).map (clr (spn (ss ++ os))))) j) :
    j < ls.length ∧ due ss ls os ps (2 ^ j) = fwr ss ls os ps ∧ ∀ L, L < 2 ^ j → due ss ls os ps L ≠ fwr ss ls os ps := by
  have R := ker_rws ((lsm ls ps).map (clr (spn (ss ++ os))))
  have sp := span_clr_img (ss ++ os) (lsm ls ps)
  rw [lsm_len] at sp
  have jl : j < ls.length := by
    refine Nat.lt_of_not_le fun q => h fun w hw => ?_
    obtain ⟨i, hi, rfl⟩ := List.mem_map.mp hw
    have hi := List.mem_range.mp hi
    have u := (sp (2 ^ i)).mp (hj.below R (Nat.pow_lt_pow_right (by decide) (by omega)))
    have e := img_unit (lsm ls ps) (i := i) (by rw [lsm_len]; exact hi)
    have u2 := u.2
    rw [e] at u2
    have e2 : (lsm ls ps).getD i 0 = ls.getD i 0 ^^^ ps.getD i 0 := map_range_getD _ hi
    rwa [e2] at u2
  refine ⟨jl, ?_, fun L hL => ?_⟩
  · rw [due_eq hs hl]
    unfold fwr
    rw [if_neg h, if_neg fun z => hj.at_ R ((sp _).mpr ⟨Nat.pow_lt_pow_right (by decide) jl, z⟩)]
  · rw [due_eq hs hl]
    unfold fwr
    rw [if_neg h, if_pos ((sp _).mp (hj.below R hL)).2]
    have := Nat.two_pow_pos (rk os)
    have := Nat.two_pow_pos (shr ss os)
    omega
end
end LaneX
set_option linter.all false
namespace LaneX
/-! ### the lane of a word; steps of hops (k24) -/
theorem slv_xor (cs : List Nat) (g h : Nat) : slv cs (g ^^^ h) = slv cs g ^^^ slv cs h := by
  unfold slv
  rw [Nat.shiftLeft_xor_distrib, clr_xor]
theorem slv_zero (cs : List Nat) : slv cs 0 = 0 := by unfold slv; rw [Nat.zero_shiftLeft, clr_zero]
theorem lin_slv (cs : List Nat) : Lin (slv cs) := ⟨slv_zero cs, slv_xor cs⟩
/-- the columns of the lanes, beside the slots -/
def lcs (ss ls : List Nat) : List Nat := ls.map (clr (spn ss))
theorem lcs_len (ss ls : List Nat) : (lcs ss ls).length = ls.length := by simp [lcs]
/-- the least lane that holds a word -/
def lno (ss ls : List Nat) (w : Nat) : Nat := slv (lcs ss ls) (clr (spn ss) w)
theorem lin_lno (ss ls : List Nat) : Lin (lno ss ls) := (lin_slv _).comp (lin_clr _)
/-- a lane's word beside the slots -/
def lph (ss ls : List Nat) (x : Nat) : Nat := clr (spn ss) (img ls x)
theorem lin_lph (ss ls : List Nat) : Lin (lph ss ls) := (lin_clr _).comp (lin_img ls)
theorem lph_zero {ss ls : List Nat} {x : Nat} : lph ss ls x = 0 ↔ Spn ss (img ls x) := clr_spn_zero
theorem img_lcs (ss ls : List Nat) (x : Nat) : img (lcs ss ls) x = lph ss ls x := img_map (lin_clr _) ls x
section
variable {b : Nat} {ss ls : List Nat} (hs : ∀ x ∈ ss, x < 2 ^ b) (hl : ∀ x ∈ ls, x < 2 ^ b) (hb : b ≤ rk (ss ++ ls))
include hs hl hb
theorem lcs_span {w : Nat} (hw : w < 2 ^ b) : Spn (lcs ss ls) (clr (spn ss) w) := by
  refine ((red_clr ss).mem w).mpr (in_full (fun z hz => ?_) hb hw)
  rcases List.mem_append.mp hz with hz | hz
  · exact hs z hz
  · exact hl z hz
theorem lno_ok {w : Nat} (hw : w < 2 ^ b) : lno ss ls w < 2 ^ ls.length ∧ lph ss ls (lno ss ls w) = clr (spn ss) w := by
  have a := slv_ok (lcs_span hs hl hb hw)
  rw [lcs_len, img_lcs] at a
  exact a
theorem lno_span {w : Nat} (hw : w < 2 ^ b) : Spn ss (img ls (lno ss ls w) ^^^ w) := by
  have a := (lno_ok hs hl hb hw).2
  unfold lph at a
  rw [← clr_spn_zero, clr_xor, a, Nat.xor_self]
end
/-- the distances that hops must go -/
def dst (ss ls os ps : List Nat) : List Nat := os.map (lno ss ls) ++ (List.range ps.length).map fun i => lno ss ls (ps.getD i 0) ^^^ 2 ^ i
def nst (ss ls os ps : List Nat) : List Nat := cmpl (twn ss ls) (spn (twn ss ls ++ dst ss ls os ps))
theorem map_span {φ : Nat → Nat} (L : Lin φ) {A B : List Nat} (h : ∀ x, Spn A x ↔ Spn B x) (z : Nat) : Spn (A.map φ) z ↔ Spn (B.map φ) z := by
  constructor
  · intro hz
    obtain ⟨y, hy, rfl⟩ := L.back hz
    exact L.spn ((h y).mp hy)
  · intro hz
    obtain ⟨y, hy, rfl⟩ := L.back hz
    exact L.spn ((h y).mpr hy)
theorem twn_lt {ss ls : List Nat} {x : Nat} (h : Spn (twn ss ls) x) : x < 2 ^ ls.length := ((twn_span ss ls x).mp h).1
theorem twn_ker {ss ls : List Nat} {x : Nat} (h : Spn (twn ss ls) x) : lph ss ls x = 0 := lph_zero.mpr ((twn_span ss ls x).mp h).2
section
variable {b : Nat} {ss ls os ps : List Nat} (hs : ∀ x ∈ ss, x < 2 ^ b) (hl : ∀ x ∈ ls, x < 2 ^ b) (hb : b ≤ rk (ss ++ ls)) (ho : ∀ x ∈ os, x < 2 ^ b) (hp : ∀ x ∈ ps, x < 2 ^ b) (hn : ls.length = ps.length)
include hs hl hb ho hp hn
theorem dst_lt : ∀ x ∈ dst ss ls os ps, x < 2 ^ ls.length := fun x hx => by
  rcases List.mem_append.mp hx with hx | hx
  · obtain ⟨w, hw, rfl⟩ := List.mem_map.mp hx
    exact (lno_ok hs hl hb (ho w hw)).1
  · obtain ⟨i, hi, rfl⟩ := List.mem_map.mp hx
    have hi := List.mem_range.mp hi
    exact Nat.xor_lt_two_pow (lno_ok hs hl hb (hp _ (getD_mem hi))).1 (Nat.pow_lt_pow_right (by decide) (by omega))
theorem dst_lph : (dst ss ls os ps).map (lph ss ls) = (os ++ lsm ls ps).map (clr (spn ss)) := by
  unfold dst
  rw [List.map_append, List.map_map, List.map_append]
  congr 1
  · exact List.map_congr_left fun w hw => (lno_ok hs hl hb (ho w hw)).2
  · unfold lsm
    rw [List.map_map, List.map_map, hn]
    refine List.map_congr_left fun i hi => ?_
    have hi := List.mem_range.mp hi
    show lph ss ls (lno ss ls (ps.getD i 0) ^^^ 2 ^ i) = clr (spn ss) (ls.getD i 0 ^^^ ps.getD i 0)
    rw [(lin_lph ss ls).x, (lno_ok hs hl hb (hp _ (getD_mem hi))).2, clr_xor, Nat.xor_comm]
    congr 1
    unfold lph
    rw [img_unit ls (by omega)]
theorem all_lt {x : Nat} (h : Spn (twn ss ls ++ dst ss ls os ps) x) : x < 2 ^ ls.length := h.lt fun w hw => by
  rcases List.mem_append.mp hw with hw | hw
  · exact twn_lt (.of hw)
  · exact dst_lt hs hl hb ho hp hn w hw
/-- as many steps as the words that slots do not lead to -/
theorem nst_len : (nst ss ls os ps).length = rk (ss ++ (os ++ lsm ls ps)) - rk ss := by
  have R : Rws (twn ss ls) := spn_rws _
  have i := cmpl_ind R (spn (twn ss ls ++ dst ss ls os ps)) (lin_lph ss ls) fun y hy z => by
    have hy := (spn_span _ y).mp hy
    exact (twn_span ss ls y).mpr ⟨all_lt hs hl hb ho hp hn hy, lph_zero.mp z⟩
  have a : rk ((nst ss ls os ps).map (lph ss ls)) = (nst ss ls os ps).length := by
    have := i.rk
    rw [List.length_map] at this
    exact this
  have e : ∀ z, Spn ((nst ss ls os ps).map (lph ss ls)) z ↔ Spn ((dst ss ls os ps).map (lph ss ls)) z := fun z => by
    have cs := cms_span R (spn (twn ss ls ++ dst ss ls os ps))
    have key : ∀ x, Spn (twn ss ls ++ nst ss ls os ps) x ↔ Spn (twn ss ls ++ dst ss ls os ps) x := fun x => by
      have c1 := cs.1 x
      have c2 := cs.2 x
      have c3 : Spn (twn ss ls ++ spn (twn ss ls ++ dst ss ls os ps)) x ↔ Spn (twn ss ls ++ dst ss ls os ps) x := by
        constructor
        · refine fun h => h.mono fun y hy => ?_
          rcases List.mem_append.mp hy with hy | hy
          · exact .of (List.mem_append_left _ hy)
          · exact (spn_span _ y).mp (.of hy)
        · exact fun h => ((spn_span _ x).mpr h).sub fun y hy => List.mem_append_right _ hy
      exact c2.symm.trans (c1.trans c3)
    have dropT : ∀ (D : List Nat), Spn ((twn ss ls ++ D).map (lph ss ls)) z ↔ Spn (D.map (lph ss ls)) z := fun D => by
      rw [List.map_append]
      constructor
      · refine fun h => h.mono fun y hy => ?_
        rcases List.mem_append.mp hy with hy | hy
        · obtain ⟨t, ht, rfl⟩ := List.mem_map.mp hy
          rw [twn_ker (.of ht)]; exact .zero
        · exact .of hy
      · exact fun h => h.sub fun y hy => List.mem_append_right _ hy
    rw [← dropT, map_span (lin_lph ss ls) key, dropT]
  have r := rk_eq e
  rw [dst_lph hs hl hb ho hp hn] at r
  have q := (red_clr ss).rk (os ++ lsm ls ps)
  omega
theorem nst_mem : ∀ x ∈ nst ss ls os ps, x < 2 ^ ls.length := fun x hx => all_lt hs hl hb ho hp hn ((spn_span _ x).mp (.of (cmpl_mem _ x hx)))
theorem nst_span (x : Nat) : Spn (nst ss ls os ps ++ twn ss ls) x ↔ Spn (twn ss ls ++ dst ss ls os ps) x := by
  have R : Rws (twn ss ls) := spn_rws _
  have cs := cms_span R (spn (twn ss ls ++ dst ss ls os ps))
  rw [span_swap]
  refine (cs.2 x).symm.trans ((cs.1 x).trans ?_)
  constructor
  · refine fun h => h.mono fun y hy => ?_
    rcases List.mem_append.mp hy with hy | hy
    · exact .of (List.mem_append_left _ hy)
    · exact (spn_span _ y).mp (.of hy)
  · exact fun h => ((spn_span _ x).mpr h).sub fun y hy => List.mem_append_right _ hy
/-- a wanted entry's lane is reached by the steps -/
theorem reach {lane e : Nat} (h : lane < 2 ^ ls.length) (he : Spn os (e ^^^ img ps lane)) : Spn (nst ss ls os ps ++ twn ss ls) (lane ^^^ lno ss ls e) := by
  rw [nst_span hs hl hb ho hp hn]
  -- lane ^ lno (img ps lane) by the distances of the lanes
  have a : ∀ n, n ≤ ps.length → ∀ x, x < 2 ^ n → Spn (dst ss ls os ps) (x ^^^ lno ss ls (img ps x)) := by
    intro n
    induction n with
    | zero =>
      intro _ x hx
      have : x = 0 := by simpa using hx
      subst this
      rw [(lin_img ps).z, (lin_lno ss ls).z, Nat.xor_zero]; exact .zero
    | succ n ih =>
      intro hn' x hx
      rcases bit_split hx with q | ⟨q, hb'⟩
      · exact ih (by omega) x q
      · have i1 := ih (by omega) _ q
        have i2 : Spn (dst ss ls os ps) (lno ss ls (ps.getD n 0) ^^^ 2 ^ n) := .of (List.mem_append_right _ (List.mem_map.mpr ⟨n, List.mem_range.mpr (by omega), rfl⟩))
        have i3 := i1.xor i2
        rw [(lin_img ps).x, img_unit ps (by omega), (lin_lno ss ls).x] at i3
        have e1 : x ^^^ 2 ^ n ^^^ (lno ss ls (img ps x) ^^^ lno ss ls (ps.getD n 0)) ^^^ (lno ss ls (ps.getD n 0) ^^^ 2 ^ n) = x ^^^ lno ss ls (img ps x) := by
          rw [Nat.xor_comm (lno ss ls (ps.getD n 0)) (2 ^ n), xor4, xor_cancel_right, xor_cancel_right]
        rwa [e1] at i3
  have b1 := a ps.length (Nat.le_refl _) lane (by rw [← hn]; exact h)
  have b2 : Spn (dst ss ls os ps) (lno ss ls (e ^^^ img ps lane)) := ((lin_lno ss ls).spn he).sub fun z hz => List.mem_append_left _ hz
  have c := b1.xor b2
  rw [(lin_lno ss ls).x] at c
  have e2 : lane ^^^ lno ss ls (img ps lane) ^^^ (lno ss ls e ^^^ lno ss ls (img ps lane)) = lane ^^^ lno ss ls e := by rw [xor4, Nat.xor_self, Nat.xor_zero]
  rw [e2] at c
  exact c.sub fun z hz => List.mem_append_right _ hz
end
/-! ### a route -/
/-- the lanes of a route -/
def rte (st : List Nat) (lane c : Nat) (k : Nat) : Nat := (lane ^^^ img st c) ^^^ imf st c k
theorem rte_zero (st : List Nat) (lane c : Nat) : rte st lane c 0 = lane ^^^ img st c := by
  unfold rte
  have : imf st c 0 = 0 := rfl
  rw [this, Nat.xor_zero]
theorem rte_last (st : List Nat) (lane c : Nat) : rte st lane c st.length = lane := by
  unfold rte
  have : imf st c st.length = img st c := rfl
  rw [this, xor_cancel_right]
theorem rte_step (st : List Nat) (lane c k : Nat) : rte st lane c (k + 1) = if c.testBit k = true then rte st lane c k ^^^ st.getD k 0 else rte st lane c k := by
  unfold rte
  rw [imf_succ]
  split
  · rw [Nat.xor_assoc (lane ^^^ img st c)]
  · rfl
theorem rte_lt {st : List Nat} {n lane c : Nat} (h : ∀ x ∈ st, x < 2 ^ n) (hl : lane < 2 ^ n) (k : Nat) : rte st lane c k < 2 ^ n :=
  Nat.xor_lt_two_pow (Nat.xor_lt_two_pow hl (imf_lt h _ _)) (imf_lt h _ _)
/-- the first part of a sum -/
theorem img_mask {P Q : List Nat} {x : Nat} (h : x < 2 ^ (P ++ Q).length) : ∃ y, y < 2 ^ Q.length ∧ img (P ++ Q) x = img P (x &&& (2 ^ P.length - 1)) ^^^ img Q y := by
  have e1 : x &&& (2 ^ P.length - 1) = x % 2 ^ P.length := Nat.and_two_pow_sub_one_eq_mod x P.length
  have lt : x % 2 ^ P.length < 2 ^ P.length := Nat.mod_lt _ (Nat.two_pow_pos _)
  refine ⟨x >>> P.length, ?_, ?_⟩
  · rw [Nat.shiftRight_eq_div_pow, Nat.div_lt_iff_lt_mul (Nat.two_pow_pos _), ← Nat.pow_add, Nat.add_comm, ← List.length_append]
    exact h
  · rw [e1, ← img_app lt]
    congr 1
    apply Nat.eq_of_testBit_eq
    intro i
    rw [Nat.testBit_xor, Nat.testBit_mod_two_pow, Nat.testBit_shiftLeft, Nat.testBit_shiftRight]
    by_cases hi : i < P.length
    · have : decide (i ≥ P.length) = false := by simp; omega
      rw [this]; simp [hi]
    · have : decide (i ≥ P.length) = true := by simp; omega
      rw [this, show P.length + (i - P.length) = i by omega]; simp [hi]
end LaneX
set_option linter.all false
namespace LaneX
/-! ### plans of rounds (k18, k19) -/
theorem img_inj {A : List Nat} (h : rk A = A.length) {x : Nat} (hx : x < 2 ^ A.length) (z : img A x = 0) : x = 0 := by
  have k := ker_len_eq A
  have e : ker A = [] := List.length_eq_zero_iff.mp (by omega)
  have := (ker_span A x).mpr ⟨hx, z⟩
  rw [e] at this
  exact this.nil
theorem img_inj2 {A : List Nat} (h : rk A = A.length) {x y : Nat} (hx : x < 2 ^ A.length) (hy : y < 2 ^ A.length) (z : img A x = img A y) : x = y :=
  xor_eq_zero (img_inj h (Nat.xor_lt_two_pow hx hy) (by rw [(lin_img A).x, z, Nat.xor_self]))
/-- what solved tells of a word that is no sum -/
theorem slv_none {cs : List Nat} {g : Nat} (h : ¬ Spn cs g) : 2 ^ cs.length ≤ slv cs g := by
  refine Nat.le_of_not_lt fun z => h ?_
  have a := spn_clr (prd cs) (g <<< cs.length)
  have a : Spn (prs cs) (g <<< cs.length ^^^ slv cs g) := (spn_span _ _).mp a
  obtain ⟨x, hx, e⟩ := prs_fwd cs a
  have e2 := congrArg (fun y => y >>> cs.length) e
  simp only [Nat.shiftRight_xor_distrib, shl_shr] at e2
  rw [Nat.shiftRight_eq_zero _ _ z, Nat.shiftRight_eq_zero _ _ hx, Nat.xor_zero, Nat.xor_zero] at e2
  rw [e2]
  exact img_in cs hx
/-- the part of a word in the first rows -/
def pin (R O : List Nat) (w : Nat) : Nat := img R (slv (R ++ O) w &&& (2 ^ R.length - 1))
theorem pin_ok {R O : List Nat} {w : Nat} (h : Spn (R ++ O) w) : Spn R (pin R O w) ∧ Spn O (w ^^^ pin R O w) := by
  obtain ⟨a, e⟩ := slv_ok h
  obtain ⟨y, hy, e2⟩ := img_mask a
  rw [e] at e2
  have lt : slv (R ++ O) w &&& (2 ^ R.length - 1) < 2 ^ R.length := by
    rw [Nat.and_two_pow_sub_one_eq_mod]; exact Nat.mod_lt _ (Nat.two_pow_pos _)
  refine ⟨img_in R lt, ?_⟩
  have e3 : w ^^^ pin R O w = img O y := by
    unfold pin
    conv => lhs; lhs; rw [e2]
    rw [Nat.xor_comm, xor_cancel]
  rw [e3]
  exact img_in O hy
theorem img_diff {A B S : List Nat} (hl : A.length = B.length) (h : ∀ i, i < A.length → Spn S (A.getD i 0 ^^^ B.getD i 0)) (x : Nat) : Spn S (img A x ^^^ img B x) := by
  rw [← img_lsm hl]
  refine allin_img (fun w hw => ?_) x
  obtain ⟨i, hi, rfl⟩ := List.mem_map.mp hw
  exact h i (List.mem_range.mp hi)
theorem imf_at {A B : List Nat} {x : Nat} : ∀ {n}, (∀ i, i < n → x.testBit i = true → A.getD i 0 = B.getD i 0) → imf A x n = imf B x n
  | 0, _ => rfl
  | n + 1, h => by
    rw [imf_succ, imf_succ, imf_at fun i hi => h i (by omega)]
    split
    · rename_i z
      rw [h n (by omega) z]
    · rfl
theorem img_at {A B : List Nat} {x : Nat} (hl : A.length = B.length) (h : ∀ i, i < A.length → x.testBit i = true → A.getD i 0 = B.getD i 0) : img A x = img B x := by
  unfold img
  rw [← hl]
  exact imf_at h
theorem Rws.rk {R : List Nat} (h : Rws R) : rk R = R.length := spn_id h
/-- A with what completes it to B -/
theorem base_of {A B : List Nat} (R : Rws A) (h : ∀ x ∈ A, Spn B x) : (∀ x, Spn (A ++ cmpl A B) x ↔ Spn B x) ∧ LaneX.rk (A ++ cmpl A B) = (A ++ cmpl A B).length ∧ (A ++ cmpl A B).length = LaneX.rk B := by
  have cs := cms_span R B
  have e : ∀ x, Spn (A ++ B) x ↔ Spn B x := fun x => ⟨fun z => z.mono fun y hy => by
    rcases List.mem_append.mp hy with hy | hy
    · exact h y hy
    · exact .of hy, fun z => z.sub fun y hy => List.mem_append_right _ hy⟩
  have e2 : ∀ x, Spn (A ++ cmpl A B) x ↔ Spn B x := fun x => ((cs.2 x).symm.trans (cs.1 x)).trans (e x)
  have l := cmpl_len R B
  rw [rk_eq e, R.rk] at l
  have l2 : (A ++ cmpl A B).length = LaneX.rk B := by rw [List.length_append]; omega
  exact ⟨e2, (rk_eq e2).trans l2.symm, l2⟩
/-! ### starts that lanes keep -/
def kst (R O ls ps : List Nat) : List Nat := (List.range ls.length).map fun i => ls.getD i 0 ^^^ pin R O ((lsm ls ps).getD i 0)
theorem kst_len (R O ls ps : List Nat) : (kst R O ls ps).length = ls.length := by simp [kst]
theorem kst_at (R O ls ps : List Nat) {i : Nat} (h : i < ls.length) : (kst R O ls ps).getD i 0 = ls.getD i 0 ^^^ pin R O ((lsm ls ps).getD i 0) := map_range_getD _ h
theorem lsm_at {ls ps : List Nat} {i : Nat} (h : i < ls.length) : (lsm ls ps).getD i 0 = ls.getD i 0 ^^^ ps.getD i 0 := map_range_getD _ h
theorem kst_ok {ss ls os ps : List Nat} (hl : ls.length = ps.length) (h : ∀ w ∈ lsm ls ps, Spn (ss ++ os) w) (x : Nat) :
    Spn ss (img (kst (spn ss) (spn os) ls ps) x ^^^ img ls x) ∧ Spn os (img (kst (spn ss) (spn os) ls ps) x ^^^ img ps x) := by
  have key : ∀ i, i < ls.length → Spn ss (pin (spn ss) (spn os) ((lsm ls ps).getD i 0)) ∧ Spn os ((lsm ls ps).getD i 0 ^^^ pin (spn ss) (spn os) ((lsm ls ps).getD i 0)) := fun i hi => by
    have m : (lsm ls ps).getD i 0 ∈ lsm ls ps := getD_mem (by rw [lsm_len]; exact hi)
    have p := pin_ok (R := spn ss) (O := spn os) ((span_app2 (spn_span ss) (spn_span os)).mpr (h _ m))
    exact ⟨(spn_span ss _).mp p.1, (spn_span os _).mp p.2⟩
  constructor
  · refine img_diff (kst_len _ _ _ _) (fun i hi => ?_) x
    rw [kst_len] at hi
    rw [kst_at _ _ _ _ hi, Nat.xor_comm (ls.getD i 0), xor_cancel_right]
    exact (key i hi).1
  · refine img_diff (by rw [kst_len, hl]) (fun i hi => ?_) x
    rw [kst_len] at hi
    have k2 := (key i hi).2
    rw [lsm_at hi] at k2
    rw [kst_at _ _ _ _ hi, lsm_at hi, Nat.xor_assoc, Nat.xor_comm (pin _ _ _), ← Nat.xor_assoc]
    exact k2
theorem kst_lt {b : Nat} {ss ls os ps : List Nat} (hs : ∀ x ∈ ss, x < 2 ^ b) (hL : ∀ x ∈ ls, x < 2 ^ b) (h : ∀ w ∈ lsm ls ps, Spn (ss ++ os) w) : ∀ x ∈ kst (spn ss) (spn os) ls ps, x < 2 ^ b := fun x hx => by
  obtain ⟨i, hi, rfl⟩ := List.mem_map.mp hx
  have hi := List.mem_range.mp hi
  have m : (lsm ls ps).getD i 0 ∈ lsm ls ps := getD_mem (by rw [lsm_len]; exact hi)
  have p := pin_ok (R := spn ss) (O := spn os) ((span_app2 (spn_span ss) (spn_span os)).mpr (h _ m))
  exact Nat.xor_lt_two_pow (hL _ (getD_mem hi)) (((spn_span ss _).mp p.1).lt hs)
/-! ### starts that span, with the slots, all -/
def wvl (ps I G W : List Nat) (i : Nat) : Nat := G.getD i 0 ^^^ W.getD i 0 ^^^ img ps (I.getD i 0 ^^^ 1 <<< (blen (I.getD i 0) - 1))
def wsf (ps I G W : List Nat) (k : Nat) : List Nat := (List.range k).foldl (fun st i => st.set (blen (I.getD i 0) - 1) (wvl ps I G W i)) ps
theorem wsf_succ (ps I G W : List Nat) (k : Nat) : wsf ps I G W (k + 1) = (wsf ps I G W k).set (blen (I.getD k 0) - 1) (wvl ps I G W k) := by
  unfold wsf
  rw [List.range_succ, List.foldl_append]
  rfl
theorem wsf_len (ps I G W : List Nat) : ∀ k, (wsf ps I G W k).length = ps.length
  | 0 => rfl
  | k + 1 => by rw [wsf_succ, List.length_set, wsf_len ps I G W k]
theorem getD_set' (F : List Nat) (i j v : Nat) (hi : i < F.length) : (F.set i v).getD j 0 = if j = i then v else F.getD j 0 := by
  simp only [List.getD_eq_getElem?_getD, List.getElem?_set]
  by_cases h : i = j
  · subst h; simp [hi]
  · rw [if_neg h, if_neg (fun z => h z.symm)]
theorem tops_ne {I : List Nat} (R : Rws I) {i j : Nat} (hi : i < I.length) (hj : j < I.length) (h : i ≠ j) : blen (I.getD i 0) - 1 ≠ blen (I.getD j 0) - 1 := fun z => by
  have n1 := blen_pos (R.nz _ (getD_mem hi))
  have n2 := blen_pos (R.nz _ (getD_mem hj))
  have e : blen (I.getD i 0) = blen (I.getD j 0) := by omega
  have nd := R.tops_nodup
  have e1 : (I.map blen)[i]? = some (blen (I.getD i 0)) := by
    rw [List.getElem?_map, List.getElem?_eq_getElem hi, List.getD_eq_getElem?_getD, List.getElem?_eq_getElem hi]; rfl
  have e2 : (I.map blen)[j]? = some (blen (I.getD j 0)) := by
    rw [List.getElem?_map, List.getElem?_eq_getElem hj, List.getD_eq_getElem?_getD, List.getElem?_eq_getElem hj]; rfl
  exact h ((List.getElem?_inj (by rw [List.length_map]; exact hi) nd).mp (by rw [e1, e2, e]))
theorem tops_bit {I : List Nat} (R : Rws I) {i j : Nat} (hi : i < I.length) (hj : j < I.length) (h : i ≠ j) : (I.getD i 0).testBit (blen (I.getD j 0) - 1) = false := by
  have p := R.red
  rw [List.pairwise_iff_getElem] at p
  have e1 : I.getD i 0 = I[i] := by rw [List.getD_eq_getElem?_getD, List.getElem?_eq_getElem hi]; rfl
  have e2 : I.getD j 0 = I[j] := by rw [List.getD_eq_getElem?_getD, List.getElem?_eq_getElem hj]; rfl
  rw [e1, e2]
  rcases Nat.lt_or_gt_of_ne h with z | z
  · exact (p i j hi hj z).1
  · exact (p j i hj hi z).2
section
variable {ps I G W : List Nat} (R : Rws I) (hI : ∀ x ∈ I, x < 2 ^ ps.length)
include R hI
theorem wsf_at : ∀ k, k ≤ I.length → (∀ i, i < k → (wsf ps I G W k).getD (blen (I.getD i 0) - 1) 0 = wvl ps I G W i) ∧ ∀ j, (∀ i, i < k → j ≠ blen (I.getD i 0) - 1) → (wsf ps I G W k).getD j 0 = ps.getD j 0
  | 0, _ => ⟨fun i hi => absurd hi (Nat.not_lt_zero _), fun j _ => rfl⟩
  | k + 1, hk => by
    obtain ⟨h1, h2⟩ := wsf_at k (by omega)
    have tl : blen (I.getD k 0) - 1 < (wsf ps I G W k).length := by
      rw [wsf_len]
      have a := blen_le.mpr (hI _ (getD_mem (show k < I.length by omega)))
      have b := blen_pos (R.nz _ (getD_mem (show k < I.length by omega)))
      omega
    rw [wsf_succ]
    refine ⟨fun i hi => ?_, fun j hj => ?_⟩
    · rw [getD_set' _ _ _ _ tl]
      by_cases e : i = k
      · subst e; rw [if_pos rfl]
      · rw [if_neg (tops_ne R (by omega) (by omega) e)]
        exact h1 i (by omega)
    · rw [getD_set' _ _ _ _ tl, if_neg (hj k (by omega))]
      exact h2 j fun i hi => hj i (by omega)
theorem wsf_row {k i : Nat} (hk : k ≤ I.length) (hi : i < k) : img (wsf ps I G W k) (I.getD i 0) = G.getD i 0 ^^^ W.getD i 0 := by
  obtain ⟨h1, h2⟩ := wsf_at R hI k hk
  have nz := R.nz _ (getD_mem (show i < I.length by omega))
  have lt := hI _ (getD_mem (show i < I.length by omega))
  have a := blen_le.mpr lt
  have b := blen_pos nz
  have tb := testBit_top nz
  generalize hx : I.getD i 0 = x at *
  generalize ht : blen x - 1 = t at *
  have e1 : x = 2 ^ t ^^^ (x ^^^ 2 ^ t) := by rw [Nat.xor_comm x, xor_cancel]
  have e2 : img (wsf ps I G W k) (2 ^ t) = wvl ps I G W i := by
    rw [img_unit _ (by rw [wsf_len]; omega)]
    have := h1 i hi
    rwa [hx, ht] at this
  have e3 : img (wsf ps I G W k) (x ^^^ 2 ^ t) = img ps (x ^^^ 2 ^ t) := by
    refine img_at (wsf_len _ _ _ _ _) fun j _ hb => h2 j fun m hm z => ?_
    rw [Nat.testBit_xor, Nat.testBit_two_pow] at hb
    by_cases e : m = i
    · subst e
      rw [hx, ht] at z
      subst z
      rw [tb] at hb
      simp at hb
    · have q := tops_bit R (show i < I.length by omega) (show m < I.length by omega) (Ne.symm e)
      have q2 := tops_ne R (show i < I.length by omega) (show m < I.length by omega) (Ne.symm e)
      rw [hx, ← z] at q
      rw [hx, ht, ← z] at q2
      rw [q] at hb
      simp [q2] at hb
  conv => lhs; rw [e1]
  rw [(lin_img _).x, e2, e3]
  unfold wvl
  rw [hx, ht, Nat.one_shiftLeft, xor_cancel_right]
theorem wsf_to {O : List Nat} {k : Nat} (hk : k ≤ I.length) (h : ∀ i, i < k → Spn O (img ps (I.getD i 0) ^^^ G.getD i 0) ∧ Spn O (W.getD i 0)) : ∀ j, j < ps.length → Spn O ((wsf ps I G W k).getD j 0 ^^^ ps.getD j 0) := fun j hj => by
  obtain ⟨h1, h2⟩ := wsf_at (G := G) (W := W) R hI k hk
  by_cases e : ∃ i, i < k ∧ j = blen (I.getD i 0) - 1
  · obtain ⟨i, hi, rfl⟩ := e
    rw [h1 i hi]
    unfold wvl
    have a := h i hi
    rw [← img_unit ps hj, Nat.xor_assoc, ← (lin_img ps).x, Nat.one_shiftLeft, Nat.xor_assoc (I.getD i 0), Nat.xor_self, Nat.xor_zero]
    have := a.1.xor a.2
    have e : G.getD i 0 ^^^ W.getD i 0 ^^^ img ps (I.getD i 0) = img ps (I.getD i 0) ^^^ G.getD i 0 ^^^ W.getD i 0 := by
      rw [Nat.xor_comm, ← Nat.xor_assoc]
    rw [e]
    exact this
  · rw [h2 j fun i hi z => e ⟨i, hi, z⟩, Nat.xor_self]
    exact .zero
end
/-- the lanes that want what slots of both lead to -/
def wdi (ss os ps : List Nat) : List Nat := ker (ps.map (clr (spn (spn ss ++ spn os))))
def wdg (ss os ps : List Nat) : List Nat := (wdi ss os ps).map fun x => pin (spn ss) (spn os) (img ps x)
def wdw (ss os : List Nat) : List Nat := cmpl (spn ss) (spn os)
def wds (ss os ps : List Nat) : List Nat := wsf ps (wdi ss os ps) (wdg ss os ps) (wdw ss os) (wdw ss os).length
theorem both_sp (ss os : List Nat) (x : Nat) : Spn (spn ss ++ spn os) x ↔ Spn (ss ++ os) x := span_app2 (spn_span ss) (spn_span os)
theorem wdi_span (ss os ps : List Nat) (x : Nat) : Spn (wdi ss os ps) x ↔ x < 2 ^ ps.length ∧ Spn (ss ++ os) (img ps x) := by
  unfold wdi
  rw [span_clr_img, both_sp]
theorem wdi_rws (ss os ps : List Nat) : Rws (wdi ss os ps) := ker_rws _
theorem wds_len (ss os ps : List Nat) : (wds ss os ps).length = ps.length := wsf_len _ _ _ _ _
theorem wdg_at {ss os ps : List Nat} {i : Nat} (h : i < (wdi ss os ps).length) : (wdg ss os ps).getD i 0 = pin (spn ss) (spn os) (img ps ((wdi ss os ps).getD i 0)) := by
  unfold wdg
  simp only [List.getD_eq_getElem?_getD, List.getElem?_map, List.getElem?_eq_getElem h]
  rfl
section
variable {b : Nat} {ss ls os ps : List Nat} (hs : ∀ x ∈ ss, x < 2 ^ b) (hL : ∀ x ∈ ls, x < 2 ^ b) (ho : ∀ x ∈ os, x < 2 ^ b) (hp : ∀ x ∈ ps, x < 2 ^ b) (hl : ls.length = ps.length) (hb : b ≤ rk (ss ++ ls)) (hb2 : b ≤ rk (os ++ ps))
include hs ho hp hl hb in
theorem wdw_le : (wdw ss os).length ≤ (wdi ss os ps).length := by
  have a := ksz (spn ss ++ spn os) ps
  have e1 : (spn (ker (ps.map (clr (spn (spn ss ++ spn os)))))).length = (wdi ss os ps).length := (wdi_rws ss os ps).rk
  have c := cmpl_len (spn_rws ss) (spn os)
  have e2 : rk (spn ss ++ spn os ++ ps) ≤ b := rk_le_bits fun x hx => by
    rcases List.mem_append.mp hx with hx | hx
    · rcases List.mem_append.mp hx with hx | hx
      · exact spn_lt hs x hx
      · exact spn_lt ho x hx
    · exact hp x hx
  have e3 := rk_app_len ss ls
  rw [rk_spn] at c
  have e4 : (wdw ss os).length = (cmpl (spn ss) (spn os)).length := rfl
  omega
theorem wdi_in {i : Nat} (h : i < (wdi ss os ps).length) : Spn ss ((wdg ss os ps).getD i 0) ∧ Spn os (img ps ((wdi ss os ps).getD i 0) ^^^ (wdg ss os ps).getD i 0) := by
  have a := ((wdi_span ss os ps _).mp (.of (getD_mem h))).2
  have p := pin_ok (R := spn ss) (O := spn os) ((both_sp ss os _).mpr a)
  rw [wdg_at h]
  exact ⟨(spn_span ss _).mp p.1, (spn_span os _).mp p.2⟩
theorem wdw_in {i : Nat} (h : i < (wdw ss os).length) : Spn os ((wdw ss os).getD i 0) := (spn_span os _).mp (.of (cmpl_mem _ _ (getD_mem h)))
theorem wdi_lt : ∀ x ∈ wdi ss os ps, x < 2 ^ ps.length := fun x hx => ((wdi_span ss os ps x).mp (.of hx)).1
include hs ho hp hl hb
theorem wds_to (x : Nat) : Spn os (img (wds ss os ps) x ^^^ img ps x) := by
  have le := wdw_le hs ho hp hl hb
  refine img_diff (wds_len ss os ps) (fun i hi => ?_) x
  rw [wds_len] at hi
  exact wsf_to (wdi_rws ss os ps) wdi_lt le (fun m hm => ⟨(wdi_in (by omega)).2, wdw_in hm⟩) i hi
theorem wds_at {i : Nat} (hi : i < ps.length) : Spn os ((wds ss os ps).getD i 0 ^^^ ps.getD i 0) :=
  wsf_to (wdi_rws ss os ps) wdi_lt (wdw_le hs ho hp hl hb) (fun m hm => ⟨(wdi_in (by have := wdw_le hs ho hp hl hb; omega)).2, wdw_in hm⟩) i hi
theorem wds_lt : ∀ x ∈ wds ss os ps, x < 2 ^ b := fun x hx => by
  obtain ⟨i, hi, rfl⟩ := List.mem_iff_getElem.mp hx
  have hi' : i < ps.length := by rwa [wds_len] at hi
  have a := wds_at hs ho hp hl hb hi'
  have e : (wds ss os ps).getD i 0 = (wds ss os ps)[i] := by rw [List.getD_eq_getElem?_getD, List.getElem?_eq_getElem hi]; rfl
  rw [e] at a
  have q := Nat.xor_lt_two_pow (a.lt ho) (hp _ (getD_mem hi'))
  rwa [xor_cancel_right] at q
include hb2
/-- with the slots they span all -/
theorem wds_all : b ≤ rk (ss ++ wds ss os ps) := by
  have le := wdw_le hs ho hp hl hb
  have key : ∀ i, i < (wdw ss os).length → Spn (ss ++ wds ss os ps) ((wdw ss os).getD i 0) := fun i hi => by
    have r := wsf_row (G := wdg ss os ps) (W := wdw ss os) (wdi_rws ss os ps) wdi_lt le hi
    have a : Spn (ss ++ wds ss os ps) (img (wds ss os ps) ((wdi ss os ps).getD i 0)) := by
      refine (img_in _ ?_).sub fun y hy => List.mem_append_right _ hy
      rw [wds_len]
      exact wdi_lt _ (getD_mem (by omega))
    have r' : img (wds ss os ps) ((wdi ss os ps).getD i 0) = (wdg ss os ps).getD i 0 ^^^ (wdw ss os).getD i 0 := r
    rw [r'] at a
    have g : Spn (ss ++ wds ss os ps) ((wdg ss os ps).getD i 0) := (wdi_in (ss := ss) (os := os) (ps := ps) (i := i) (by omega)).1.sub fun y hy => List.mem_append_left _ hy
    have := g.xor a
    rwa [xor_cancel] at this
  have cs := cms_span (spn_rws ss) (spn os)
  have os_in : ∀ x, Spn os x → Spn (ss ++ wds ss os ps) x := fun x hx => by
    have h1 : Spn (spn ss ++ spn os) x := ((spn_span os x).mpr hx).sub fun y hy => List.mem_append_right _ hy
    have h2 := (cs.2 x).mp ((cs.1 x).mpr h1)
    refine h2.mono fun y hy => ?_
    rcases List.mem_append.mp hy with hy | hy
    · exact ((spn_span ss y).mp (.of hy)).sub fun z hz => List.mem_append_left _ hz
    · obtain ⟨i, hi, rfl⟩ := List.mem_iff_getElem.mp hy
      have e : (wdw ss os).getD i 0 = (cms (spn ss) (spn os)).2[i] := by
        have hi' : i < (wdw ss os).length := hi
        rw [List.getD_eq_getElem?_getD, List.getElem?_eq_getElem hi']; rfl
      rw [← e]
      exact key i hi
  refine Nat.le_trans hb2 (rk_le fun x hx => ?_)
  rcases List.mem_append.mp hx with hx | hx
  · exact os_in x (.of hx)
  · obtain ⟨i, hi, rfl⟩ := List.mem_iff_getElem.mp hx
    have a := os_in _ (wds_at hs ho hp hl hb hi)
    have c : Spn (ss ++ wds ss os ps) ((wds ss os ps).getD i 0) := (Spn.of (getD_mem (by rw [wds_len]; exact hi))).sub fun z hz => List.mem_append_right _ hz
    have d := c.xor a
    rw [xor_cancel] at d
    have e : ps.getD i 0 = ps[i] := by rw [List.getD_eq_getElem?_getD, List.getElem?_eq_getElem hi]; rfl
    rwa [e] at d
end
/-! ### lanes that show -/
def shi (b : Nat) (ss st : List Nat) : List Nat := mtd b (spn st) (spn ss)
def sho (b : Nat) (ss st : List Nat) : List Nat := cmpl (shi b ss st) (spn st)
def shL (b : Nat) (ss ls st : List Nat) : List Nat := (twn ss ls).take (shi b ss st).length ++ (sho b ss st).map (lno ss ls)
def shn (b : Nat) (ss ls st : List Nat) : List Nat := st.map fun w => img (shL b ss ls st) (slv (shi b ss st ++ sho b ss st) w)
section
variable {b : Nat} {ss ls st : List Nat} (hs : ∀ x ∈ ss, x < 2 ^ b) (hL : ∀ x ∈ ls, x < 2 ^ b) (hS : ∀ x ∈ st, x < 2 ^ b) (hl : st.length = ls.length) (hb : b ≤ rk (ss ++ ls)) (hst : b ≤ rk (ss ++ st))
include hS in
theorem shi_span (x : Nat) : Spn (shi b ss st) x ↔ Spn st x ∧ Spn ss x := by
  unfold shi
  rw [mtd_span (spn_lt hS), spn_span, spn_span]
include hS in
theorem sh_base : (∀ x, Spn (shi b ss st ++ sho b ss st) x ↔ Spn st x) ∧ rk (shi b ss st ++ sho b ss st) = (shi b ss st ++ sho b ss st).length := by
  have a := base_of (A := shi b ss st) (B := spn st) (mtd_rws _ _ _) fun x hx => (spn_span st x).mpr ((shi_span hS x).mp (.of hx)).1
  exact ⟨fun x => (a.1 x).trans (spn_span st x), a.2.1⟩
include hs hL hS hl hb hst
theorem shi_le : (shi b ss st).length ≤ (twn ss ls).length := by
  have a := mtd_len (b := b) (spn_rws st) (spn_rws ss) (spn_lt hS)
  have t := twn_size ss ls
  have e : rk (spn st ++ spn ss) = rk (ss ++ st) := rk_eq fun x => (both_sp st ss x).trans (span_swap st ss x)
  have e1 : (spn st).length = rk st := rfl
  have e2 : (spn ss).length = rk ss := rfl
  have e3 := rk_len st
  have e4 : (shi b ss st).length = (mtd b (spn st) (spn ss)).length := rfl
  have e5 : rk (ss ++ ls) ≤ b := rk_le_bits fun x hx => by
    rcases List.mem_append.mp hx with hx | hx
    · exact hs x hx
    · exact hL x hx
  omega
theorem shL_len : (shL b ss ls st).length = (shi b ss st ++ sho b ss st).length := by
  have := shi_le hs hL hS hl hb hst
  unfold shL
  rw [List.length_append, List.length_append, List.length_take, List.length_map]
  omega
theorem sho_lt : ∀ x ∈ sho b ss st, x < 2 ^ b := fun x hx => ((spn_span st x).mp (.of (cmpl_mem _ x hx))).lt hS
theorem shL_lt : ∀ x ∈ shL b ss ls st, x < 2 ^ ls.length := fun x hx => by
  rcases List.mem_append.mp hx with hx | hx
  · exact twn_lt (.of (List.mem_of_mem_take hx))
  · obtain ⟨w, hw, rfl⟩ := List.mem_map.mp hx
    exact (lno_ok hs hL hb (sho_lt hs hL hS hl hb hst w hw)).1
theorem sh_from (c : Nat) : Spn ss (img ls (img (shL b ss ls st) c) ^^^ img (shi b ss st ++ sho b ss st) c) := by
  have le := shi_le hs hL hS hl hb hst
  rw [← img_map (lin_img ls)]
  refine img_diff (by rw [List.length_map, shL_len hs hL hS hl hb hst]) (fun i hi => ?_) c
  rw [List.length_map, shL_len hs hL hS hl hb hst, List.length_append] at hi
  have tl : ((twn ss ls).take (shi b ss st).length).length = (shi b ss st).length := by rw [List.length_take]; omega
  by_cases z : i < (shi b ss st).length
  · have e1 : (shL b ss ls st).getD i 0 = (twn ss ls).getD i 0 := by
      unfold shL
      simp only [List.getD_eq_getElem?_getD, List.getElem?_append_left (show i < ((twn ss ls).take (shi b ss st).length).length by omega), List.getElem?_take, if_pos z]
    have e2 : (shi b ss st ++ sho b ss st).getD i 0 = (shi b ss st).getD i 0 := by
      simp only [List.getD_eq_getElem?_getD, List.getElem?_append_left z]
    have e3 : ((shL b ss ls st).map (img ls)).getD i 0 = img ls ((shL b ss ls st).getD i 0) := by
      have : i < (shL b ss ls st).length := by rw [shL_len hs hL hS hl hb hst, List.length_append]; omega
      simp only [List.getD_eq_getElem?_getD, List.getElem?_map, List.getElem?_eq_getElem this]; rfl
    rw [e3, e1, e2]
    exact ((twn_span ss ls _).mp (.of (getD_mem (by omega)))).2.xor ((shi_span hS _).mp (.of (getD_mem z))).2
  · have e1 : (shL b ss ls st).getD i 0 = lno ss ls ((sho b ss st).getD (i - (shi b ss st).length) 0) := by
      unfold shL
      have : i - (shi b ss st).length < (sho b ss st).length := by omega
      simp only [List.getD_eq_getElem?_getD, List.getElem?_append_right (show ((twn ss ls).take (shi b ss st).length).length ≤ i by omega), tl, List.getElem?_map, List.getElem?_eq_getElem this]
      rfl
    have e2 : (shi b ss st ++ sho b ss st).getD i 0 = (sho b ss st).getD (i - (shi b ss st).length) 0 := by
      simp only [List.getD_eq_getElem?_getD, List.getElem?_append_right (show (shi b ss st).length ≤ i by omega)]
    have e3 : ((shL b ss ls st).map (img ls)).getD i 0 = img ls ((shL b ss ls st).getD i 0) := by
      have : i < (shL b ss ls st).length := by rw [shL_len hs hL hS hl hb hst, List.length_append]; omega
      simp only [List.getD_eq_getElem?_getD, List.getElem?_map, List.getElem?_eq_getElem this]; rfl
    rw [e3, e1, e2]
    exact lno_span hs hL hb (sho_lt hs hL hS hl hb hst _ (getD_mem (by omega)))
theorem lin_sh : Lin fun w => img (shL b ss ls st) (slv (shi b ss st ++ sho b ss st) w) := (lin_img _).comp (lin_slv _)
theorem shn_img (x : Nat) : img (shn b ss ls st) x = img (shL b ss ls st) (slv (shi b ss st ++ sho b ss st) (img st x)) := img_map (lin_sh hs hL hS hl hb hst) st x
theorem shn_from {x : Nat} (hx : x < 2 ^ st.length) : Spn ss (img ls (img (shn b ss ls st) x) ^^^ img st x) := by
  rw [shn_img hs hL hS hl hb hst]
  have a := slv_ok (((sh_base (b := b) (ss := ss) hS).1 _).mpr (img_in st hx))
  have c := sh_from hs hL hS hl hb hst (slv (shi b ss st ++ sho b ss st) (img st x))
  rwa [a.2] at c
theorem shn_lt : ∀ x ∈ shn b ss ls st, x < 2 ^ ls.length := fun x hx => by
  obtain ⟨w, _, rfl⟩ := List.mem_map.mp hx
  exact imf_lt (shL_lt hs hL hS hl hb hst) _ _
theorem shn_inj {x y : Nat} (hx : x < 2 ^ st.length) (hy : y < 2 ^ st.length) (h : img (shn b ss ls st) x = img (shn b ss ls st) y) : img st x = img st y := by
  have z : x ^^^ y < 2 ^ st.length := Nat.xor_lt_two_pow hx hy
  have e : img (shn b ss ls st) (x ^^^ y) = 0 := by rw [(lin_img _).x, h, Nat.xor_self]
  have fr := shn_from hs hL hS hl hb hst z
  rw [e, (lin_img ls).z, Nat.zero_xor] at fr
  rw [shn_img hs hL hS hl hb hst] at e
  have inst := img_in st z
  obtain ⟨c1, c2⟩ := slv_ok (((sh_base (b := b) (ss := ss) hS).1 _).mpr inst)
  have inner : Spn (shi b ss st) (img st (x ^^^ y)) := (shi_span hS _).mpr ⟨inst, fr⟩
  obtain ⟨w, hw, e2⟩ := span_img (cols := shi b ss st) (Nat.le_refl _) (by rw [List.take_length]; exact inner)
  have e3 : img (shi b ss st ++ sho b ss st) w = img (shi b ss st) w := by
    have := img_app (P := shi b ss st) (Q := sho b ss st) (y := 0) hw
    rwa [Nat.zero_shiftLeft, Nat.xor_zero, (lin_img _).z, Nat.xor_zero] at this
  have hw2 : w < 2 ^ (shi b ss st ++ sho b ss st).length := Nat.lt_of_lt_of_le hw (Nat.pow_le_pow_right (by decide) (by rw [List.length_append]; omega))
  have e4 : slv (shi b ss st ++ sho b ss st) (img st (x ^^^ y)) = w := img_inj2 (sh_base hS).2 c1 hw2 (by rw [c2, e3, e2])
  rw [e4] at e
  have le := shi_le hs hL hS hl hb hst
  have tl : ((twn ss ls).take (shi b ss st).length).length = (shi b ss st).length := by rw [List.length_take]; omega
  have e5 : img (shL b ss ls st) w = img ((twn ss ls).take (shi b ss st).length) w := by
    have := img_app (P := (twn ss ls).take (shi b ss st).length) (Q := (sho b ss st).map (lno ss ls)) (x := w) (y := 0) (by rw [tl]; exact hw)
    rwa [Nat.zero_shiftLeft, Nat.xor_zero, (lin_img _).z, Nat.xor_zero] at this
  rw [e5] at e
  have R : Rws ((twn ss ls).take (shi b ss st).length) := by
    have A : Rws (twn ss ls) := spn_rws _
    exact ⟨fun r hr => A.nz r (List.mem_of_mem_take hr), A.red.sublist (List.take_sublist _ _)⟩
  have w0 := img_inj R.rk (by rw [tl]; exact hw) e
  rw [w0, (lin_img _).z] at e2
  have := e2.symm
  rw [(lin_img st).x] at this
  exact xor_eq_zero this
end
/-! ### a plan -/
structure Pln (b : Nat) (ss ls os ps st sh wd : List Nat) (sk : Nat) : Prop where
  sl : st.length = ls.length
  hl : sh.length = ls.length
  wl : wd.length = rk os
  sm : ∀ x ∈ st, x < 2 ^ b
  hm : ∀ x ∈ sh, x < 2 ^ ls.length
  wm : ∀ x ∈ wd, x < 2 ^ b
  wi : rk wd = wd.length
  ws : ∀ x, Spn wd x ↔ Spn os x
  to : ∀ x, Spn os (img st x ^^^ img ps x)
  fr : ∀ x, x < 2 ^ ls.length → Spn ss (img ls (img sh x) ^^^ img st x)
  inj : ∀ x y, x < 2 ^ ls.length → y < 2 ^ ls.length → img sh x = img sh y → img st x = img st y
  sk1 : 2 ^ wd.length - sk = fwr ss ls os ps
  sk2 : sk ≤ 2 ^ wd.length
  low : ∀ f x, f < sk → Spn ss (img wd f ^^^ (img st x ^^^ img ls x))
  high : ∀ f x, sk ≤ f → f < 2 ^ wd.length → x < 2 ^ ls.length → sk ≠ 0 → ¬ Spn ss (img wd f ^^^ (img st x ^^^ img ls x))
theorem img_units {n x : Nat} (h : x < 2 ^ n) : img ((List.range n).map fun i => 1 <<< i) x = x := by
  have key : ∀ m, m ≤ n → imf ((List.range n).map fun i => 1 <<< i) x m = x % 2 ^ m := by
    intro m
    induction m with
    | zero => intro _; simp [imf, Nat.mod_one]
    | succ m ih =>
      intro hm
      rw [imf_succ, ih (by omega), map_range_getD _ (by omega), Nat.one_shiftLeft]
      apply Nat.eq_of_testBit_eq
      intro j
      rw [Nat.testBit_mod_two_pow]
      split
      · rename_i z
        rw [Nat.testBit_xor, Nat.testBit_mod_two_pow, Nat.testBit_two_pow]
        by_cases e : m = j
        · subst e; simp [z]
        · by_cases e2 : j < m
          · simp [e, e2, show j < m + 1 by omega]
          · simp [e, e2, show ¬ j < m + 1 by omega]
      · rename_i z
        rw [Nat.testBit_mod_two_pow]
        by_cases e : j = m
        · subst e; simp [z]
        · by_cases e2 : j < m
          · simp [e2, show j < m + 1 by omega]
          · simp [e2, show ¬ j < m + 1 by omega]
  unfold img
  rw [List.length_map, List.length_range, key n (Nat.le_refl _), Nat.mod_eq_of_lt h]
section
variable {b : Nat} {ss ls os ps : List Nat} (hs : ∀ x ∈ ss, x < 2 ^ b) (hL : ∀ x ∈ ls, x < 2 ^ b) (ho : ∀ x ∈ os, x < 2 ^ b) (hp : ∀ x ∈ ps, x < 2 ^ b) (hl : ls.length = ps.length) (hb : b ≤ rk (ss ++ ls)) (hb2 : b ≤ rk (os ++ ps))
def kwd (b : Nat) (ss os : List Nat) : List Nat := mtd b (spn ss) (spn os) ++ cmpl (mtd b (spn ss) (spn os)) (spn os)
include hs hL ho hl
theorem pln_keep (h : ∀ w ∈ lsm ls ps, Spn (ss ++ os) w) : Pln b ss ls os ps (kst (spn ss) (spn os) ls ps) ((List.range ls.length).map fun i => 1 <<< i) (kwd b ss os) (2 ^ (mtd b (spn ss) (spn os)).length) := by
  have key : ∀ y, Spn (mtd b (spn ss) (spn os)) y ↔ Spn ss y ∧ Spn os y := fun y => by rw [mtd_span (spn_lt hs), spn_span, spn_span]
  have B := base_of (A := mtd b (spn ss) (spn os)) (B := spn os) (mtd_rws _ _ _) fun x hx => (spn_span os x).mpr ((key x).mp (.of hx)).2
  have wl : (kwd b ss os).length = rk os := B.2.2.trans (rk_spn os)
  have ws : ∀ x, Spn (kwd b ss os) x ↔ Spn os x := fun x => (B.1 x).trans (spn_span os x)
  have ml := mtd_shr (os := os) hs
  have mle : (mtd b (spn ss) (spn os)).length ≤ (kwd b ss os).length := by unfold kwd; rw [List.length_append]; omega
  have ap : ∀ f, f < 2 ^ (mtd b (spn ss) (spn os)).length → img (kwd b ss os) f = img (mtd b (spn ss) (spn os)) f := fun f hf => by
    have := img_app (P := mtd b (spn ss) (spn os)) (Q := cmpl (mtd b (spn ss) (spn os)) (spn os)) (y := 0) hf
    rwa [Nat.zero_shiftLeft, Nat.xor_zero, (lin_img _).z, Nat.xor_zero] at this
  have ks := fun x => kst_ok hl h x
  refine ⟨kst_len _ _ _ _, by simp, wl, kst_lt hs hL h, fun x hx => ?_, fun x hx => ((ws x).mp (.of hx)).lt ho, B.2.1, ws, fun x => (ks x).2, fun x hx => ?_, fun x y hx hy z => ?_, ?_, Nat.pow_le_pow_right (by decide) mle, fun f x hf => ?_, fun f x h1 h2 hx _ z => ?_⟩
  · obtain ⟨i, hi, rfl⟩ := List.mem_map.mp hx
    rw [Nat.one_shiftLeft]
    exact Nat.pow_lt_pow_right (by decide) (List.mem_range.mp hi)
  · rw [img_units hx, Nat.xor_comm]
    exact (ks x).1
  · rw [img_units hx, img_units hy] at z
    rw [z]
  · rw [wl, ml]
    unfold fwr
    rw [if_pos h]
  · rw [ap f hf]
    exact ((key _).mp (img_in _ hf)).1.xor (ks x).1
  · have z1 := z.xor (ks x).1
    rw [xor_cancel_right] at z1
    have z2 : Spn (mtd b (spn ss) (spn os)) (img (kwd b ss os) f) := (key _).mpr ⟨z1, (ws _).mp (img_in _ h2)⟩
    obtain ⟨w, hw, e⟩ := span_img (cols := mtd b (spn ss) (spn os)) (Nat.le_refl _) (by rw [List.take_length]; exact z2)
    have hw2 : w < 2 ^ (kwd b ss os).length := Nat.lt_of_lt_of_le hw (Nat.pow_le_pow_right (by decide) mle)
    have := img_inj2 B.2.1 h2 hw2 (e.symm.trans (ap w hw).symm)
    omega
include hp hb hb2
theorem pln_wide (h : ¬ ∀ w ∈ lsm ls ps, Spn (ss ++ os) w) : Pln b ss ls os ps (wds ss os ps) (shn b ss ls (wds ss os ps)) (spn os) 0 := by
  have hS := wds_lt hs ho hp hl hb
  have hl2 : (wds ss os ps).length = ls.length := (wds_len ss os ps).trans hl.symm
  have al := wds_all hs ho hp hl hb hb2
  refine ⟨hl2, by unfold shn; rw [List.length_map, hl2], rfl, hS, shn_lt hs hL hS hl2 hb al, spn_lt ho, (spn_rws os).rk, spn_span os, wds_to hs ho hp hl hb, fun x hx => shn_from hs hL hS hl2 hb al (by rw [hl2]; exact hx), fun x y hx hy z => shn_inj hs hL hS hl2 hb al (by rw [hl2]; exact hx) (by rw [hl2]; exact hy) z, ?_, Nat.zero_le _, fun f x hf => absurd hf (Nat.not_lt_zero _), fun f x _ _ _ z => absurd rfl z⟩
  unfold fwr
  rw [if_neg h, Nat.sub_zero]
  rfl
end
end LaneX
set_option linter.all false
namespace LaneX
/-! ### what a plan of rounds tells -/
section
variable {b : Nat} {ss ls os ps st sh wd : List Nat} {sk : Nat} (pn : Pln b ss ls os ps st sh wd sk) (hs : ∀ x ∈ ss, x < 2 ^ b) (hL : ∀ x ∈ ls, x < 2 ^ b) (hb : b ≤ rk (ss ++ ls))
include pn
theorem Pln.wlt (n : Nat) : img wd n < 2 ^ b := imf_lt pn.wm _ _
theorem Pln.win {n : Nat} (h : n < 2 ^ wd.length) : Spn os (img wd n) := (pn.ws _).mp (img_in _ h)
theorem Pln.want {L n : Nat} (h : n < 2 ^ wd.length) : Spn os ((img st L ^^^ img wd n) ^^^ img ps L) := by
  have a := (pn.to L).xor (pn.win h)
  have e : img st L ^^^ img ps L ^^^ img wd n = (img st L ^^^ img wd n) ^^^ img ps L := by
    rw [Nat.xor_assoc, Nat.xor_comm (img ps L), ← Nat.xor_assoc]
  rwa [e] at a
theorem Pln.one {f g : Nat} (hf : f < 2 ^ wd.length) (hg : g < 2 ^ wd.length) (h : img wd f = img wd g) : f = g := img_inj2 pn.wi hf hg h
theorem Pln.in_wanted {L e : Nat} : Spn os (e ^^^ img st L) ↔ Spn os (e ^^^ img ps L) := by
  constructor
  · intro h
    have := h.xor (pn.to L)
    have e2 : e ^^^ img st L ^^^ (img st L ^^^ img ps L) = e ^^^ img ps L := by rw [Nat.xor_assoc, xor_cancel]
    rwa [e2] at this
  · intro h
    have := h.xor (pn.to L)
    have e2 : e ^^^ img ps L ^^^ (img st L ^^^ img ps L) = e ^^^ img st L := by rw [xor4, Nat.xor_self, Nat.xor_zero]
    rwa [e2] at this
include hs hL hb
theorem Pln.src {L : Nat} (n : Nat) : img sh L ^^^ lno ss ls (img wd n) < 2 ^ ls.length :=
  Nat.xor_lt_two_pow (imf_lt pn.hm _ _) (lno_ok hs hL hb (pn.wlt n)).1
theorem Pln.hold {L : Nat} (n : Nat) (h : L < 2 ^ ls.length) : Spn ss ((img st L ^^^ img wd n) ^^^ img ls (img sh L ^^^ lno ss ls (img wd n))) := by
  rw [(lin_img ls).x]
  have a := (pn.fr L h).xor (lno_span hs hL hb (pn.wlt n))
  have e : img ls (img sh L) ^^^ img st L ^^^ (img ls (lno ss ls (img wd n)) ^^^ img wd n) = (img st L ^^^ img wd n) ^^^ (img ls (img sh L) ^^^ img ls (lno ss ls (img wd n))) := by
    rw [xor4, Nat.xor_comm]
  rwa [e] at a
end
/-! ### the least lane that keeps nothing -/
/-- the lanes of one bit that keep nothing -/
def sty (ss ls os ps : List Nat) : List Nat := (List.range ls.length).filter fun i => !decide (clr (rws (ss ++ os)) (ls.getD i 0 ^^^ ps.getD i 0) = 0)
theorem clr_rws' {ws : List Nat} {x : Nat} : clr (rws ws) x = 0 ↔ Spn ws x := by rw [← (rws_hws ws).span, rws_span]
section
variable {b : Nat} {ss ls os ps : List Nat} (hs : ∀ x ∈ ss, x < 2 ^ b) (hl : ls.length = ps.length)
theorem sty_nil : sty ss ls os ps = [] ↔ ∀ w ∈ lsm ls ps, Spn (ss ++ os) w := by
  unfold sty
  rw [List.filter_eq_nil_iff]
  constructor
  · intro h w hw
    obtain ⟨i, hi, rfl⟩ := List.mem_map.mp hw
    have := h i hi
    simp only [Bool.not_eq_true', Bool.not_eq_true, decide_eq_false_iff_not, Decidable.not_not] at this
    exact clr_rws'.mp (by simpa using this)
  · intro h i hi
    have := clr_rws'.mpr (h _ (List.mem_map.mpr ⟨i, hi, rfl⟩))
    rw [decide_eq_true this]; decide
theorem head_least : ∀ {l : List Nat} {n : Nat} {p : Nat → Bool} {j : Nat} {r : List Nat}, (List.range n).filter p = j :: r → j < n ∧ p j = true ∧ ∀ i, i < j → p i = false := by
  intro l n p j r h
  have m : j ∈ (List.range n).filter p := by rw [h]; exact .head _
  have m' := List.mem_filter.mp m
  refine ⟨List.mem_range.mp m'.1, m'.2, fun i hi => ?_⟩
  cases q : p i with
  | false => rfl
  | true =>
    have mi : i ∈ (List.range n).filter p := List.mem_filter.mpr ⟨List.mem_range.mpr (by have := List.mem_range.mp m'.1; omega), q⟩
    rw [h] at mi
    have sorted : ((List.range n).filter p).Pairwise (· < ·) := List.Pairwise.filter _ List.pairwise_lt_range
    rw [h] at sorted
    rcases List.mem_cons.mp mi with e | e
    · omega
    · have := (List.pairwise_cons.mp sorted).1 i e
      omega
include hs hl
theorem sty_due {j : Nat} {r : List Nat} (h : sty ss ls os ps = j :: r) : j < ls.length ∧ due ss ls os ps (2 ^ j) = fwr ss ls os ps ∧ ∀ L, L < 2 ^ j → due ss ls os ps L ≠ fwr ss ls os ps := by
  obtain ⟨h1, h2, h3⟩ := head_least (l := []) h
  have at_ : ∀ i, i < ls.length → img (lsm ls ps) (2 ^ i) = ls.getD i 0 ^^^ ps.getD i 0 := fun i hi => by rw [img_unit _ (by rw [lsm_len]; exact hi), lsm_at hi]
  have out : ¬ Spn (ss ++ os) (img (lsm ls ps) (2 ^ j)) := by
    rw [at_ j h1, ← clr_rws']
    simpa using h2
  have nall : ¬ ∀ w ∈ lsm ls ps, Spn (ss ++ os) w := fun z => by
    rw [← sty_nil, h] at z
    cases z
  have e1 : fwr ss ls os ps = 2 ^ rk os := by unfold fwr; rw [if_neg nall]
  refine ⟨h1, ?_, fun L hL => ?_⟩
  · rw [due_eq hs hl, if_neg out, e1]
  · have inn : Spn (ss ++ os) (img (lsm ls ps) L) := by
      have key : ∀ n, n ≤ j → ∀ x, x < 2 ^ n → Spn (ss ++ os) (img (lsm ls ps) x) := by
        intro n
        induction n with
        | zero =>
          intro _ x hx
          have : x = 0 := by simpa using hx
          subst this
          rw [(lin_img _).z]; exact .zero
        | succ n ih =>
          intro hn x hx
          rcases bit_split hx with q | ⟨q, _⟩
          · exact ih (by omega) x q
          · have a := ih (by omega) _ q
            have c : Spn (ss ++ os) (img (lsm ls ps) (2 ^ n)) := by
              rw [at_ n (by omega), ← clr_rws']
              simpa using h3 n (by omega)
            have d := a.xor c
            rwa [← (lin_img _).x, xor_cancel_right] at d
      exact key j (Nat.le_refl _) L hL
    rw [due_eq hs hl, if_pos inn, e1]
    have := Nat.two_pow_pos (shr ss os)
    have := Nat.two_pow_pos (rk os)
    omega
/-- the short lane is told -/
theorem short_is {L : Nat} (h1 : due ss ls os ps L = fwr ss ls os ps) (h2 : ∀ i, i < L → due ss ls os ps i ≠ fwr ss ls os ps) : L = match sty ss ls os ps with | [] => 0 | j :: _ => 2 ^ j := by
  cases q : sty ss ls os ps with
  | nil =>
    have a := sty_nil.mp q
    refine Classical.byContradiction fun z => ?_
    exact h2 0 (by simp at z; omega) (due_all hs hl a 0)
  | cons j r =>
    obtain ⟨_, d1, d2⟩ := sty_due hs hl q
    show L = 2 ^ j
    rcases Nat.lt_trichotomy L (2 ^ j) with z | z | z
    · exact absurd h1 (d2 L z)
    · exact z
    · exact absurd d1 (h2 _ z)
end
end LaneX
set_option linter.all false
namespace LaneX
/-! ### side by side (k62) -/
def jn (n : Nat) (A B : List Nat) : List Nat := A ++ B.map fun x => x <<< n
theorem jn_len (n : Nat) (A B : List Nat) : (jn n A B).length = A.length + B.length := by simp [jn]
theorem lin_shl (n : Nat) : Lin fun x => x <<< n := ⟨Nat.zero_shiftLeft n, fun a b => Nat.shiftLeft_xor_distrib⟩
theorem low_split {n a b c d : Nat} (ha : a < 2 ^ n) (hc : c < 2 ^ n) (h : a ^^^ b <<< n = c ^^^ d <<< n) : a = c ∧ b = d := by
  have e1 := congrArg (fun x => x >>> n) h
  simp only [Nat.shiftRight_xor_distrib, shl_shr] at e1
  rw [Nat.shiftRight_eq_zero _ _ ha, Nat.shiftRight_eq_zero _ _ hc, Nat.zero_xor, Nat.zero_xor] at e1
  subst e1
  have e2 := congrArg (fun x => x ^^^ b <<< n) h
  simp only [xor_cancel_right] at e2
  exact ⟨e2, rfl⟩
theorem jn_span {n : Nat} {A B : List Nat} (x : Nat) : Spn (jn n A B) x ↔ ∃ a b, Spn A a ∧ Spn B b ∧ x = a ^^^ b <<< n := by
  constructor
  · intro h
    obtain ⟨a, c, h1, h2, rfl⟩ := span_split h
    obtain ⟨b, h3, rfl⟩ := (lin_shl n).back h2
    exact ⟨a, b, h1, h3, rfl⟩
  · rintro ⟨a, b, h1, h2, rfl⟩
    exact (h1.sub fun y hy => List.mem_append_left _ hy).xor (((lin_shl n).spn h2).sub fun y hy => List.mem_append_right _ hy)
theorem jn_in {n : Nat} {A B : List Nat} (hA : ∀ x ∈ A, x < 2 ^ n) {a b : Nat} (ha : a < 2 ^ n) : Spn (jn n A B) (a ^^^ b <<< n) ↔ Spn A a ∧ Spn B b := by
  rw [jn_span]
  constructor
  · rintro ⟨c, d, h1, h2, e⟩
    obtain ⟨rfl, rfl⟩ := low_split ha (h1.lt hA) e
    exact ⟨h1, h2⟩
  · rintro ⟨h1, h2⟩
    exact ⟨a, b, h1, h2, rfl⟩
theorem jn_ind {n : Nat} {A B : List Nat} (hA : ∀ x ∈ A, x < 2 ^ n) (iA : Ind A) (iB : Ind B) : Ind (jn n A B) := by
  induction iB with
  | nil => simpa [jn] using iA
  | snoc h1 h2 ih =>
    rename_i a w
    have e : jn n A (a ++ [w]) = jn n A a ++ [w <<< n] := by simp [jn]
    rw [e]
    refine .snoc ih fun z => h2 ?_
    have z' : Spn (jn n A a) (0 ^^^ w <<< n) := by rw [Nat.zero_xor]; exact z
    exact ((jn_in hA (Nat.two_pow_pos n)).mp z').2
theorem jn_rk {n : Nat} {A B : List Nat} (hA : ∀ x ∈ A, x < 2 ^ n) : rk (jn n A B) = rk A + rk B := by
  have e : rk (jn n A B) = rk (jn n (spn A) (spn B)) := rk_eq fun x => by
    rw [jn_span, jn_span]
    constructor
    · rintro ⟨a, b, h1, h2, rfl⟩
      exact ⟨a, b, (spn_span A a).mpr h1, (spn_span B b).mpr h2, rfl⟩
    · rintro ⟨a, b, h1, h2, rfl⟩
      exact ⟨a, b, (spn_span A a).mp h1, (spn_span B b).mp h2, rfl⟩
  rw [e, (jn_ind (spn_lt hA) (spn_rws A).ind (spn_rws B).ind).rk, jn_len]
  rfl
/-- two and two, side by side -/
theorem jn_app {n : Nat} {A B C D : List Nat} (x : Nat) : Spn (jn n A B ++ jn n C D) x ↔ Spn (jn n (A ++ C) (B ++ D)) x := by
  have p : (jn n A B ++ jn n C D).Perm (jn n (A ++ C) (B ++ D)) := by
    unfold jn
    rw [List.map_append, List.append_assoc, List.append_assoc]
    refine List.Perm.append_left A ?_
    rw [← List.append_assoc, ← List.append_assoc]
    exact List.Perm.append_right _ List.perm_append_comm
  exact ⟨fun h => h.sub fun w hw => p.mem_iff.mp hw, fun h => h.sub fun w hw => p.mem_iff.mpr hw⟩
theorem jn_lt {n m : Nat} {A B : List Nat} (hA : ∀ x ∈ A, x < 2 ^ n) (hB : ∀ x ∈ B, x < 2 ^ m) : ∀ x ∈ jn n A B, x < 2 ^ (n + m) := fun x hx => by
  rcases List.mem_append.mp hx with hx | hx
  · exact Nat.lt_of_lt_of_le (hA x hx) (Nat.pow_le_pow_right (by decide) (by omega))
  · obtain ⟨y, hy, rfl⟩ := List.mem_map.mp hx
    rw [Nat.shiftLeft_eq, Nat.pow_add, Nat.mul_comm (2 ^ n)]
    exact Nat.mul_lt_mul_of_pos_right (hB y hy) (Nat.two_pow_pos n)
theorem jn_img {n : Nat} {A B : List Nat} {x y : Nat} (h : x < 2 ^ A.length) : img (jn n A B) (x ^^^ y <<< A.length) = img A x ^^^ img B y <<< n := by
  unfold jn
  rw [img_app h, img_map (lin_shl n)]
theorem shr_le' (ss os : List Nat) : shr ss os ≤ rk os ∧ shr ss os ≤ rk ss ∧ rk (ss ++ os) + shr ss os = rk ss + rk os := by
  have a := rk_app ss os
  have b := rk_left ss os
  have c := rk_right ss os
  unfold shr
  omega
theorem jn_shr {n : Nat} {A B C D : List Nat} (hA : ∀ x ∈ A, x < 2 ^ n) (hC : ∀ x ∈ C, x < 2 ^ n) : shr (jn n A B) (jn n C D) = shr A C + shr B D := by
  have a := shr_le' A C
  have b := shr_le' B D
  have c := shr_le' (jn n A B) (jn n C D)
  have e : rk (jn n A B ++ jn n C D) = rk (A ++ C) + rk (B ++ D) := by
    rw [rk_eq jn_app, jn_rk fun x hx => by
      rcases List.mem_append.mp hx with hx | hx
      · exact hA x hx
      · exact hC x hx]
  have r1 := jn_rk (B := B) hA
  have r2 := jn_rk (B := D) hC
  omega
section
variable {n m : Nat} {s1 l1 o1 p1 s2 l2 o2 p2 : List Nat} (hs1 : ∀ x ∈ s1, x < 2 ^ n) (hl1 : ∀ x ∈ l1, x < 2 ^ n) (ho1 : ∀ x ∈ o1, x < 2 ^ n) (hp1 : ∀ x ∈ p1, x < 2 ^ n) (hs2 : ∀ x ∈ s2, x < 2 ^ m) (e1 : l1.length = p1.length) (e2 : l2.length = p2.length)
/-- what a lane holds of what it wants -/
noncomputable def hld (ss ls os ps : List Nat) (L : Nat) : Nat := 2 ^ rk os - due ss ls os ps L
open Classical in
theorem hld_eq {b : Nat} {ss ls os ps : List Nat} (hs : ∀ x ∈ ss, x < 2 ^ b) (h : ls.length = ps.length) (L : Nat) : hld ss ls os ps L = if Spn (ss ++ os) (img ls L ^^^ img ps L) then 2 ^ shr ss os else 0 := by
  have a := Nat.pow_le_pow_right (n := 2) (by decide) (shr_le' ss os).1
  unfold hld
  rw [due_eq hs h, img_lsm h]
  generalize 2 ^ shr ss os = u at *
  generalize 2 ^ rk os = v at *
  split
  · omega
  · omega
include hs1 hl1 ho1 hp1 hs2 e1 e2
theorem jn_due {x y : Nat} (hx : x < 2 ^ l1.length) : due (jn n s1 s2) (jn n l1 l2) (jn n o1 o2) (jn n p1 p2) (x ^^^ y <<< l1.length) = 2 ^ rk o1 * 2 ^ rk o2 - hld s1 l1 o1 p1 x * hld s2 l2 o2 p2 y := by
  have E : (jn n l1 l2).length = (jn n p1 p2).length := by rw [jn_len, jn_len, e1, e2]
  have hJ : ∀ x ∈ jn n s1 s2, x < 2 ^ (n + m) := jn_lt hs1 hs2
  rw [due_eq hJ E, img_lsm E, jn_img hx]
  have hx' : x < 2 ^ p1.length := by rw [← e1]; exact hx
  have eP : img (jn n p1 p2) (x ^^^ y <<< l1.length) = img p1 x ^^^ img p2 y <<< n := by rw [e1]; exact jn_img hx'
  rw [eP, xor4, ← Nat.shiftLeft_xor_distrib, hld_eq hs1 e1, hld_eq hs2 e2, jn_rk ho1, jn_shr hs1 ho1, Nat.pow_add, Nat.pow_add]
  have hSO : ∀ z ∈ s1 ++ o1, z < 2 ^ n := fun z hz => by
    rcases List.mem_append.mp hz with hz | hz
    · exact hs1 z hz
    · exact ho1 z hz
  have lt : img l1 x ^^^ img p1 x < 2 ^ n := Nat.xor_lt_two_pow (imf_lt hl1 _ _) (imf_lt hp1 _ _)
  have key : Spn (jn n s1 s2 ++ jn n o1 o2) ((img l1 x ^^^ img p1 x) ^^^ (img l2 y ^^^ img p2 y) <<< n) ↔ Spn (s1 ++ o1) (img l1 x ^^^ img p1 x) ∧ Spn (s2 ++ o2) (img l2 y ^^^ img p2 y) := by
    rw [jn_app, jn_in hSO lt]
  by_cases q1 : Spn (s1 ++ o1) (img l1 x ^^^ img p1 x)
  · by_cases q2 : Spn (s2 ++ o2) (img l2 y ^^^ img p2 y)
    · rw [if_pos (key.mpr ⟨q1, q2⟩), if_pos q1, if_pos q2]
    · rw [if_neg (fun z => q2 (key.mp z).2), if_neg q2, Nat.mul_zero, Nat.sub_zero]
  · rw [if_neg (fun z => q1 (key.mp z).1), if_neg q1, Nat.zero_mul, Nat.sub_zero]
end
theorem fwr_self (ss ls : List Nat) : fwr ss ls ss ls = 0 := by
  have h : ∀ w ∈ lsm ls ls, Spn (ss ++ ss) w := fun w hw => by
    obtain ⟨i, _, rfl⟩ := List.mem_map.mp hw
    rw [Nat.xor_self]; exact .zero
  have e : rk (ss ++ ss) = rk ss := rk_eq fun x => ⟨fun h => h.sub fun w hw => (List.mem_append.mp hw).elim id id, fun h => h.sub fun w hw => List.mem_append_left _ hw⟩
  unfold fwr
  rw [if_pos h]
  unfold shr
  rw [e, Nat.add_sub_cancel, Nat.sub_self]
theorem fwr_le (ss ls os ps : List Nat) : fwr ss ls os ps ≤ 2 ^ rk os := by
  unfold fwr
  split
  · exact Nat.sub_le _ _
  · exact Nat.le_refl _
section
variable {n m : Nat} {s1 l1 o1 p1 s2 l2 o2 p2 : List Nat} (hs1 : ∀ x ∈ s1, x < 2 ^ n) (hl1 : ∀ x ∈ l1, x < 2 ^ n) (ho1 : ∀ x ∈ o1, x < 2 ^ n) (hp1 : ∀ x ∈ p1, x < 2 ^ n) (e1 : l1.length = p1.length) (e2 : l2.length = p2.length)
theorem jn_at1 {n : Nat} {A B : List Nat} {i : Nat} (h : i < A.length) : (jn n A B).getD i 0 = A.getD i 0 := by
  unfold jn
  simp only [List.getD_eq_getElem?_getD, List.getElem?_append_left h]
theorem jn_at2 {n : Nat} {A B : List Nat} {i : Nat} (h : i < B.length) : (jn n A B).getD (A.length + i) 0 = B.getD i 0 <<< n := by
  unfold jn
  simp only [List.getD_eq_getElem?_getD, List.getElem?_append_right (Nat.le_add_right _ _), Nat.add_sub_cancel_left, List.getElem?_map, List.getElem?_eq_getElem h]
  rfl
include hs1 hl1 ho1 hp1 e1 e2
theorem jn_hold (h : ∀ w ∈ lsm (jn n l1 l2) (jn n p1 p2), Spn (jn n s1 s2 ++ jn n o1 o2) w) : (∀ w ∈ lsm l1 p1, Spn (s1 ++ o1) w) ∧ ∀ w ∈ lsm l2 p2, Spn (s2 ++ o2) w := by
  have hSO : ∀ z ∈ s1 ++ o1, z < 2 ^ n := fun z hz => by
    rcases List.mem_append.mp hz with hz | hz
    · exact hs1 z hz
    · exact ho1 z hz
  constructor
  · intro w hw
    obtain ⟨i, hi, rfl⟩ := List.mem_map.mp hw
    have hi := List.mem_range.mp hi
    have a := h _ (List.mem_map.mpr ⟨i, List.mem_range.mpr (by rw [jn_len]; omega), rfl⟩)
    rw [jn_at1 hi, jn_at1 (by omega), jn_app] at a
    have lt : l1.getD i 0 ^^^ p1.getD i 0 < 2 ^ n := Nat.xor_lt_two_pow (hl1 _ (getD_mem hi)) (hp1 _ (getD_mem (by omega)))
    have b : Spn (jn n (s1 ++ o1) (s2 ++ o2)) ((l1.getD i 0 ^^^ p1.getD i 0) ^^^ 0 <<< n) := by rw [Nat.zero_shiftLeft, Nat.xor_zero]; exact a
    exact ((jn_in hSO lt).mp b).1
  · intro w hw
    obtain ⟨i, hi, rfl⟩ := List.mem_map.mp hw
    have hi := List.mem_range.mp hi
    have a := h _ (List.mem_map.mpr ⟨l1.length + i, List.mem_range.mpr (by rw [jn_len]; omega), rfl⟩)
    have q : (jn n p1 p2).getD (l1.length + i) 0 = p2.getD i 0 <<< n := by rw [e1]; exact jn_at2 (by omega)
    rw [jn_at2 hi, q, ← Nat.shiftLeft_xor_distrib, jn_app] at a
    have b : Spn (jn n (s1 ++ o1) (s2 ++ o2)) (0 ^^^ (l2.getD i 0 ^^^ p2.getD i 0) <<< n) := by rw [Nat.zero_xor]; exact a
    exact ((jn_in hSO (Nat.two_pow_pos n)).mp b).2
theorem jn_fwr : fwr s1 l1 o1 p1 ≤ fwr (jn n s1 s2) (jn n l1 l2) (jn n o1 o2) (jn n p1 p2) ∧ fwr s2 l2 o2 p2 ≤ fwr (jn n s1 s2) (jn n l1 l2) (jn n o1 o2) (jn n p1 p2) := by
  have r := jn_rk (B := o2) ho1
  have p1' : 1 ≤ 2 ^ rk o1 := Nat.two_pow_pos _
  have p2' : 1 ≤ 2 ^ rk o2 := Nat.two_pow_pos _
  by_cases h : ∀ w ∈ lsm (jn n l1 l2) (jn n p1 p2), Spn (jn n s1 s2 ++ jn n o1 o2) w
  · obtain ⟨h1, h2⟩ := jn_hold hs1 hl1 ho1 hp1 e1 e2 h
    have e : fwr (jn n s1 s2) (jn n l1 l2) (jn n o1 o2) (jn n p1 p2) = 2 ^ rk o1 * 2 ^ rk o2 - 2 ^ shr s1 o1 * 2 ^ shr s2 o2 := by
      unfold fwr
      rw [if_pos h, r, jn_shr hs1 ho1, Nat.pow_add, Nat.pow_add]
    have f1 : fwr s1 l1 o1 p1 = 2 ^ rk o1 - 2 ^ shr s1 o1 := by unfold fwr; rw [if_pos h1]
    have f2 : fwr s2 l2 o2 p2 = 2 ^ rk o2 - 2 ^ shr s2 o2 := by unfold fwr; rw [if_pos h2]
    have q1 := Nat.pow_le_pow_right (n := 2) (by decide) (shr_le' s1 o1).1
    have q2 := Nat.pow_le_pow_right (n := 2) (by decide) (shr_le' s2 o2).1
    have p3 : 1 ≤ 2 ^ shr s1 o1 := Nat.two_pow_pos _
    have p4 : 1 ≤ 2 ^ shr s2 o2 := Nat.two_pow_pos _
    rw [e, f1, f2]
    generalize 2 ^ rk o1 = R1 at *
    generalize 2 ^ rk o2 = R2 at *
    generalize 2 ^ shr s1 o1 = S1 at *
    generalize 2 ^ shr s2 o2 = S2 at *
    have m1 : S1 * S2 ≤ S1 * R2 := Nat.mul_le_mul_left _ q2
    have m2 : S1 * S2 ≤ R1 * S2 := Nat.mul_le_mul_right _ q1
    have m3 : R1 - S1 ≤ (R1 - S1) * R2 := Nat.le_mul_of_pos_right _ (by omega)
    have m4 : R2 - S2 ≤ R1 * (R2 - S2) := Nat.le_mul_of_pos_left _ (by omega)
    have m5 : (R1 - S1) * R2 = R1 * R2 - S1 * R2 := Nat.sub_mul _ _ _
    have m6 : R1 * (R2 - S2) = R1 * R2 - R1 * S2 := Nat.mul_sub _ _ _
    rw [m5] at m3
    rw [m6] at m4
    constructor <;> omega
  · have e : fwr (jn n s1 s2) (jn n l1 l2) (jn n o1 o2) (jn n p1 p2) = 2 ^ rk o1 * 2 ^ rk o2 := by
      unfold fwr
      rw [if_neg h, r, Nat.pow_add]
    rw [e]
    have f1 := fwr_le s1 l1 o1 p1
    have f2 := fwr_le s2 l2 o2 p2
    exact ⟨Nat.le_trans f1 (Nat.le_mul_of_pos_right _ (by omega)), Nat.le_trans f2 (Nat.le_mul_of_pos_left _ (by omega))⟩
end
/-- the rank of words that span all -/
theorem rk_all {b : Nat} {A : List Nat} (h : ∀ x ∈ A, x < 2 ^ b) (hb : b ≤ rk A) : rk A = b := Nat.le_antisymm (rk_le_bits h) hb
section
variable {n m : Nat} {s1 l1 s2 l2 : List Nat} (hs1 : ∀ x ∈ s1, x < 2 ^ n) (hl1 : ∀ x ∈ l1, x < 2 ^ n) (hs2 : ∀ x ∈ s2, x < 2 ^ m) (hl2 : ∀ x ∈ l2, x < 2 ^ m) (hb1 : n ≤ rk (s1 ++ l1)) (hb2 : m ≤ rk (s2 ++ l2))
include hs1 hl1
theorem two_lt : ∀ x ∈ s1 ++ l1, x < 2 ^ n := fun x hx => by
  rcases List.mem_append.mp hx with hx | hx
  · exact hs1 x hx
  · exact hl1 x hx
theorem jn_rk2 : rk (jn n s1 s2 ++ jn n l1 l2) = rk (s1 ++ l1) + rk (s2 ++ l2) := by rw [rk_eq jn_app, jn_rk (two_lt hs1 hl1)]
include hb1 hb2
/-- side by side they are onto -/
theorem jn_full : n + m ≤ rk (jn n s1 s2 ++ jn n l1 l2) := by
  rw [jn_rk2 hs1 hl1]; omega
include hs2 hl2
/-- copies -/
theorem jn_copies : (ker (jn n s1 s2 ++ jn n l1 l2)).length = (ker (s1 ++ l1)).length + (ker (s2 ++ l2)).length := by
  have a := ker_len_eq (jn n s1 s2 ++ jn n l1 l2)
  have b := ker_len_eq (s1 ++ l1)
  have c := ker_len_eq (s2 ++ l2)
  rw [jn_rk2 hs1 hl1, List.length_append, jn_len, jn_len] at a
  rw [List.length_append] at b c
  have q1 := rk_len (s1 ++ l1)
  have q2 := rk_len (s2 ++ l2)
  omega
/-- partners of words of the first one -/
theorem jn_partners {ws : List Nat} (hw : ∀ x ∈ ws, x < 2 ^ n) : (prt (jn n s1 s2) (jn n l1 l2) (spn ws)).length = (prt s1 l1 (spn ws)).length + (twn s2 l2).length := by
  have a := prt_size (jn n s1 s2) (jn n l1 l2) ws
  have b := prt_size s1 l1 ws
  have c := twn_size s2 l2
  have hsw : ∀ x ∈ s1 ++ ws, x < 2 ^ n := two_lt hs1 hw
  have e : ∀ x, Spn (jn n s1 s2 ++ ws) x ↔ Spn (jn n (s1 ++ ws) s2) x := fun x => by
    have p : (jn n s1 s2 ++ ws).Perm (jn n (s1 ++ ws) s2) := by
      unfold jn
      rw [List.append_assoc, List.append_assoc]
      exact List.Perm.append_left _ List.perm_append_comm
    exact ⟨fun h => h.sub fun w hw => p.mem_iff.mp hw, fun h => h.sub fun w hw => p.mem_iff.mpr hw⟩
  have r1 : rk (jn n s1 s2 ++ ws) = rk (s1 ++ ws) + rk s2 := by rw [rk_eq e, jn_rk hsw]
  have r2 : rk (jn n s1 s2 ++ ws ++ jn n l1 l2) = rk (s1 ++ ws ++ l1) + rk (s2 ++ l2) := by
    rw [rk_eq fun x => span_app e, rk_eq jn_app, jn_rk (two_lt hsw hl1)]
  have f1 : rk (s1 ++ ws ++ l1) ≤ l1.length + rk (s1 ++ ws) := by have := rk_app_len (s1 ++ ws) l1; omega
  rw [r1, r2, jn_len] at a
  omega
end
/-- no rounds for an empty space -/
theorem smr_nil {b : Nat} {ss ls : List Nat} (hs : ∀ x ∈ ss, x < 2 ^ b) (hl : ∀ x ∈ ls, x < 2 ^ b) (hb : b ≤ rk (ss ++ ls)) : smr b ss ls (spn []) = 0 := by
  have l := ldr_size (ws := []) hs hl (fun x hx => by cases hx) hb
  rw [List.append_nil, Nat.sub_self] at l
  unfold smr
  rw [l]
  unfold rdf
  rw [if_pos (Nat.zero_le _), Nat.sub_zero, Nat.sub_self]
end LaneX
set_option linter.all false
namespace LaneX
/-! ### words added to one another, words beside one another -/
theorem add_beside {n a b : Nat} (h : a < 2 ^ n) : a + b * 2 ^ n = a ^^^ b <<< n := by
  rw [← Nat.shiftLeft_eq, Nat.add_comm, add_eq_xor h, Nat.xor_comm]
theorem beside_lt {n m a b : Nat} (ha : a < 2 ^ n) (hb : b < 2 ^ m) : a ^^^ b <<< n < 2 ^ (n + m) := by
  refine Nat.xor_lt_two_pow (Nat.lt_of_lt_of_le ha (Nat.pow_le_pow_right (by decide) (Nat.le_add_right _ _))) ?_
  rw [Nat.shiftLeft_eq, Nat.pow_add, Nat.mul_comm]
  exact Nat.mul_lt_mul_of_pos_left hb (Nat.two_pow_pos n)
theorem set_span {M : List Nat} {i j : Nat} (hi : i < M.length) (hj : j < M.length) (ne : i ≠ j) (x : Nat) : Spn (M.set j (M.getD j 0 ^^^ M.getD i 0)) x ↔ Spn M x := by
  have gi : (M.set j (M.getD j 0 ^^^ M.getD i 0)).getD i 0 = M.getD i 0 := by rw [getD_set' _ _ _ _ hj, if_neg ne]
  have gj : (M.set j (M.getD j 0 ^^^ M.getD i 0)).getD j 0 = M.getD j 0 ^^^ M.getD i 0 := by rw [getD_set' _ _ _ _ hj, if_pos rfl]
  have l : (M.set j (M.getD j 0 ^^^ M.getD i 0)).length = M.length := List.length_set
  have gk : ∀ k, k ≠ j → (M.set j (M.getD j 0 ^^^ M.getD i 0)).getD k 0 = M.getD k 0 := fun k e => by rw [getD_set' _ _ _ _ hj, if_neg e]
  have at_ : ∀ (L : List Nat) (w : Nat), w ∈ L → ∃ k, k < L.length ∧ L.getD k 0 = w := fun L w hw => by
    obtain ⟨k, hk, e⟩ := List.getElem_of_mem hw
    exact ⟨k, hk, by rw [List.getD_eq_getElem?_getD, List.getElem?_eq_getElem hk, ← e]; rfl⟩
  constructor
  · intro h
    refine h.mono fun w hw => ?_
    obtain ⟨k, hk, rfl⟩ := at_ _ w hw
    rw [l] at hk
    rw [getD_set' _ _ _ _ hj]
    split
    · exact (Spn.of (getD_mem hj)).xor (.of (getD_mem hi))
    · exact .of (getD_mem hk)
  · intro h
    refine h.mono fun w hw => ?_
    obtain ⟨k, hk, rfl⟩ := at_ _ w hw
    have m : ∀ k, k < M.length → (M.set j (M.getD j 0 ^^^ M.getD i 0)).getD k 0 ∈ M.set j (M.getD j 0 ^^^ M.getD i 0) := fun k hk => getD_mem (by rw [l]; exact hk)
    generalize M.set j (M.getD j 0 ^^^ M.getD i 0) = N at *
    by_cases e : k = j
    · subst e
      have a := (Spn.of (m k hj)).xor (Spn.of (m i hi))
      rwa [gj, gi, Nat.xor_assoc, Nat.xor_self, Nat.xor_zero] at a
    · have g := gk k e
      rw [← g]
      exact .of (m k hk)
theorem mix_step {b : Nat} {M : List Nat} (h : Mix b M) {i j : Nat} (hi : i < b) (hj : j < b) (ne : i ≠ j) : Mix b (M.set j (M.getD j 0 ^^^ M.getD i 0)) := by
  have l := h.len
  have sp := set_span (M := M) (by omega) (by omega) ne
  refine ⟨by rw [List.length_set, l], fun x hx => ((sp x).mp (.of hx)).lt h.lt, by rw [rk_eq sp, h.rk]⟩
theorem prt_twice (ss ls ws : List Nat) : (prt ss ls (spn (spn ws))).length = (prt ss ls (spn ws)).length := by
  have a := prt_size ss ls ws
  have b := prt_size ss ls (spn ws)
  have e : ∀ x, Spn (ss ++ spn ws) x ↔ Spn (ss ++ ws) x := fun x => span_app2 (fun _ => Iff.rfl) (spn_span ws)
  have e2 : ∀ x, Spn (ss ++ spn ws ++ ls) x ↔ Spn (ss ++ ws ++ ls) x := fun x => span_app e
  rw [rk_eq e, rk_eq e2] at b
  omega
end LaneX
set_option linter.all false
namespace LaneX
/-! ### maps by their columns -/
theorem xz {a c : Nat} (h : a ^^^ c = 0) : a = c := by
  have := congrArg (· ^^^ c) h
  simp only [Nat.xor_assoc, Nat.xor_self, Nat.xor_zero, Nat.zero_xor] at this
  exact this
theorem two1 (i : Nat) : 1 <<< i = 2 ^ i := Nat.one_shiftLeft i
def colsf (b : Nat) (f : Nat → Nat) : List Nat := (List.range b).map fun i => f (1 <<< i)
theorem colsf_len (b : Nat) (f : Nat → Nat) : (colsf b f).length = b := by simp [colsf]
theorem colsf_at {b i : Nat} (f : Nat → Nat) (h : i < b) : (colsf b f).getD i 0 = f (1 <<< i) := by
  unfold colsf
  rw [List.getD_eq_getElem?_getD, List.getElem?_map, List.getElem?_range h]
  rfl
theorem colsf_img {b x : Nat} {f : Nat → Nat} (L : Lin f) (h : x < 2 ^ b) : img (colsf b f) x = f x := by
  have e : colsf b f = ((List.range b).map fun i => 1 <<< i).map f := by unfold colsf; rw [List.map_map]; rfl
  rw [e, img_map L, img_units h]
theorem getD_ext {M N : List Nat} (hl : M.length = N.length) (h : ∀ i, i < M.length → M.getD i 0 = N.getD i 0) : M = N := by
  refine List.ext_getElem hl fun i h1 h2 => ?_
  have := h i h1
  rwa [List.getD_eq_getElem?_getD, List.getD_eq_getElem?_getD, List.getElem?_eq_getElem h1, List.getElem?_eq_getElem h2] at this
theorem ext_cols {b : Nat} {M N : List Nat} (hM : M.length = b) (hN : N.length = b) (h : ∀ x, x < 2 ^ b → img M x = img N x) : M = N :=
  getD_ext (hM.trans hN.symm) fun i hi => by
    have := h (2 ^ i) (Nat.pow_lt_pow_right (by decide) (by omega))
    rwa [img_unit M hi, img_unit N (by omega)] at this
theorem mix_of {b : Nat} {F : List Nat} (len : F.length = b) (lt : ∀ x ∈ F, x < 2 ^ b) (inj : ∀ x, x < 2 ^ b → img F x = 0 → x = 0) : Mix b F :=
  ⟨len, lt, by rw [rk_of_inj (by rw [len]; exact inj), len]⟩
theorem Mix.inj0 {b : Nat} {M : List Nat} (h : Mix b M) {x : Nat} (hx : x < 2 ^ b) (e : img M x = 0) : x = 0 := img_inj (by rw [h.rk, h.len]) (by rw [h.len]; exact hx) e
theorem Mix.inj {b : Nat} {M : List Nat} (h : Mix b M) {x y : Nat} (hx : x < 2 ^ b) (hy : y < 2 ^ b) (e : img M x = img M y) : x = y := img_inj2 (by rw [h.rk, h.len]) (by rw [h.len]; exact hx) (by rw [h.len]; exact hy) e
theorem Mix.img_lt {b : Nat} {M : List Nat} (h : Mix b M) (x : Nat) : img M x < 2 ^ b := imf_lt h.lt _ _
theorem colsf_lt {b c : Nat} {f : Nat → Nat} (h : ∀ x, x < 2 ^ b → f x < 2 ^ c) : ∀ x ∈ colsf b f, x < 2 ^ c := fun x hx => by
  obtain ⟨i, hi, rfl⟩ := List.mem_map.mp hx
  exact h _ (by rw [two1]; exact Nat.pow_lt_pow_right (by decide) (List.mem_range.mp hi))
theorem mix_colsf {b : Nat} {f : Nat → Nat} (L : Lin f) (lt : ∀ x, x < 2 ^ b → f x < 2 ^ b) (inj : ∀ x, x < 2 ^ b → f x = 0 → x = 0) : Mix b (colsf b f) :=
  mix_of (colsf_len b f) (colsf_lt lt) fun x hx e => inj x hx (by rw [← colsf_img L hx]; exact e)
/-- words that are as many independent ones as there are bits span all -/
theorem span_of_rk {b : Nat} {A : List Nat} (lt : ∀ x ∈ A, x < 2 ^ b) (h : b ≤ rk A) {w : Nat} (hw : w < 2 ^ b) : Spn A w := by
  by_cases z : Spn A w
  · exact z
  · have a := rk_snoc_out z
    have c := rk_le_bits (ws := A ++ [w]) (b := b) fun x hx => by
      rcases List.mem_append.mp hx with hx | hx
      · exact lt x hx
      · rw [List.mem_singleton.mp hx]; exact hw
    omega
theorem Mix.all {b : Nat} {M : List Nat} (h : Mix b M) {w : Nat} (hw : w < 2 ^ b) : Spn M w := span_of_rk h.lt (by rw [h.rk]; exact Nat.le_refl _) hw
/-! ### undoing -/
def inv (b : Nat) (M : List Nat) : List Nat := (List.range b).map fun i => slv M (1 <<< i)
theorem inv_cols (b : Nat) (M : List Nat) : inv b M = colsf b (slv M) := rfl
section
variable {b : Nat} {M : List Nat} (h : Mix b M)
include h
theorem slv_lt' {x : Nat} (hx : x < 2 ^ b) : slv M x < 2 ^ b := by
  have := (slv_ok (h.all hx)).1
  rwa [h.len] at this
theorem inv_right {x : Nat} (hx : x < 2 ^ b) : img M (img (inv b M) x) = x := by
  rw [inv_cols, colsf_img (lin_slv M) hx]
  exact (slv_ok (h.all hx)).2
theorem inv_mix : Mix b (inv b M) := mix_colsf (lin_slv M) (fun x hx => slv_lt' h hx) fun x hx e => by
  have := (slv_ok (h.all hx)).2
  rw [e, (lin_img M).z] at this
  exact this.symm
theorem inv_left {x : Nat} (hx : x < 2 ^ b) : img (inv b M) (img M x) = x :=
  h.inj ((inv_mix h).img_lt _) hx (by rw [inv_right h (h.img_lt x)])
end
theorem img_comp (M N : List Nat) (x : Nat) : img (N.map (img M)) x = img M (img N x) := img_map (lin_img M) N x
/-! ### slots and lanes -/
def lo (s x : Nat) : Nat := x &&& (1 <<< s - 1)
theorem lo_mod (s x : Nat) : lo s x = x % 2 ^ s := by unfold lo; rw [two1, Nat.and_two_pow_sub_one_eq_mod]
theorem lo_lt (s x : Nat) : lo s x < 2 ^ s := by rw [lo_mod]; exact Nat.mod_lt _ (Nat.two_pow_pos s)
theorem lin_lo (s : Nat) : Lin (lo s) := ⟨by rw [lo_mod]; exact Nat.zero_mod _, fun a b => by rw [lo_mod, lo_mod, lo_mod]; exact Nat.xor_mod_two_pow⟩
theorem lo_of_lt {s x : Nat} (h : x < 2 ^ s) : lo s x = x := by rw [lo_mod, Nat.mod_eq_of_lt h]
theorem lo_shl (s y : Nat) : lo s (y <<< s) = 0 := by rw [lo_mod, Nat.shiftLeft_eq, Nat.mul_mod_left]
theorem hi_lt {s b x : Nat} (hs : s ≤ b) (h : x < 2 ^ b) : x >>> s < 2 ^ (b - s) := by
  rw [Nat.shiftRight_eq_div_pow]
  refine Nat.div_lt_of_lt_mul ?_
  rw [← Nat.pow_add, show s + (b - s) = b by omega]
  exact h
theorem hi_of_lt {s x : Nat} (h : x < 2 ^ s) : x >>> s = 0 := by rw [Nat.shiftRight_eq_div_pow, Nat.div_eq_of_lt h]
theorem hi_shl (s y : Nat) : (y <<< s) >>> s = y := Nat.shiftLeft_shiftRight ..
theorem lo_hi (s x : Nat) : lo s x ^^^ (x >>> s) <<< s = x := by
  rw [← add_beside (lo_lt s x), lo_mod, Nat.shiftRight_eq_div_pow, Nat.mul_comm]
  exact Nat.mod_add_div x (2 ^ s)
theorem shl_lt {s b y : Nat} (hs : s ≤ b) (h : y < 2 ^ (b - s)) : y <<< s < 2 ^ b := by
  rw [Nat.shiftLeft_eq, show (2 : Nat) ^ b = 2 ^ (b - s) * 2 ^ s by rw [← Nat.pow_add, Nat.sub_add_cancel hs]]
  exact Nat.mul_lt_mul_of_pos_right h (Nat.two_pow_pos s)
theorem zero_of {s x : Nat} (h1 : lo s x = 0) (h2 : x >>> s = 0) : x = 0 := by
  rw [← lo_hi s x, h1, h2, Nat.zero_shiftLeft, Nat.xor_zero]
def AA (s : Nat) (M : List Nat) : List Nat := (M.take s).map (lo s)
def CC (s : Nat) (M : List Nat) : List Nat := (M.take s).map fun x => x >>> s
def DD (s : Nat) (M : List Nat) : List Nat := (M.drop s).map fun x => x >>> s
def evb (s : Nat) (M : List Nat) : Bool := (M.drop s).all fun x => decide (lo s x = 0)
/-- how many slot moves of a split must be uneven -/
def unv (b s : Nat) (M : List Nat) : Nat := if evb s M = true then 0 else if rk (AA s M) = s then 1 else if rk (DD s M) = b - s then 1 else 2
section
variable {b s : Nat} {M : List Nat} (h : M.length = b) (hs : s ≤ b)
include h hs
theorem AA_len : (AA s M).length = s := by unfold AA; rw [List.length_map, List.length_take]; omega
theorem CC_len : (CC s M).length = s := by unfold CC; rw [List.length_map, List.length_take]; omega
theorem DD_len : (DD s M).length = b - s := by unfold DD; rw [List.length_map, List.length_drop]; omega
theorem img_take {x : Nat} (hx : x < 2 ^ s) : img (M.take s) x = img M x := by
  have l : (M.take s).length = s := by rw [List.length_take]; omega
  have := img_app (P := M.take s) (Q := M.drop s) (x := x) (y := 0) (by rw [l]; exact hx)
  rw [List.take_append_drop, Nat.zero_shiftLeft, Nat.xor_zero, (lin_img _).z, Nat.xor_zero] at this
  exact this.symm
theorem img_drop (y : Nat) : img (M.drop s) y = img M (y <<< s) := by
  have l : (M.take s).length = s := by rw [List.length_take]; omega
  have := img_app (P := M.take s) (Q := M.drop s) (x := 0) (y := y) (Nat.two_pow_pos _)
  rw [List.take_append_drop, Nat.zero_xor, (lin_img _).z, Nat.zero_xor, l] at this
  exact this.symm
theorem AA_img {x : Nat} (hx : x < 2 ^ s) : img (AA s M) x = lo s (img M x) := by unfold AA; rw [img_map (lin_lo s), img_take h hs hx]
theorem CC_img {x : Nat} (hx : x < 2 ^ s) : img (CC s M) x = img M x >>> s := by unfold CC; rw [img_map (lin_shr s), img_take h hs hx]
theorem DD_img (y : Nat) : img (DD s M) y = img M (y <<< s) >>> s := by unfold DD; rw [img_map (lin_shr s), img_drop h hs]
theorem ev_iff : evb s M = true ↔ ∀ y, y < 2 ^ (b - s) → lo s (img M (y <<< s)) = 0 := by
  unfold evb
  rw [List.all_eq_true]
  constructor
  · intro e y hy
    rw [← img_drop h hs, ← img_map (lin_lo s)]
    have : Spn ((M.drop s).map (lo s)) (img ((M.drop s).map (lo s)) y) := img_in _ (by rw [List.length_map, List.length_drop, h]; exact hy)
    have z := this.mono (vs := []) fun w hw => by
      obtain ⟨x, hx, rfl⟩ := List.mem_map.mp hw
      rw [of_decide_eq_true (e x hx)]
      exact .zero
    exact z.nil
  · intro e w hw
    obtain ⟨i, hi, rfl⟩ := List.getElem_of_mem hw
    rw [List.length_drop, h] at hi
    have := e (2 ^ i) (Nat.pow_lt_pow_right (by decide) hi)
    rw [← img_drop h hs, img_unit _ (by rw [List.length_drop, h]; exact hi)] at this
    refine decide_eq_true ?_
    rw [List.getD_eq_getElem?_getD, List.getElem?_eq_getElem (by rw [List.length_drop, h]; exact hi)] at this
    exact this
theorem alone_slots : rk (AA s M) = s ↔ ∀ x, x < 2 ^ s → lo s (img M x) = 0 → x = 0 := by
  have l := AA_len h hs
  constructor
  · intro e x hx z
    exact img_inj (by rw [e, l]) (by rw [l]; exact hx) (by rw [AA_img h hs hx]; exact z)
  · intro e
    have := rk_of_inj (A := AA s M) fun x hx z => e x (by rw [← l]; exact hx) (by rw [← AA_img h hs (by rw [← l]; exact hx)]; exact z)
    rw [this, l]
theorem alone_lanes : rk (DD s M) = b - s ↔ ∀ y, y < 2 ^ (b - s) → img M (y <<< s) >>> s = 0 → y = 0 := by
  have l := DD_len h hs
  constructor
  · intro e y hy z
    exact img_inj (by rw [e, l]) (by rw [l]; exact hy) (by rw [DD_img h hs]; exact z)
  · intro e
    have := rk_of_inj (A := DD s M) fun x hx z => e x (by rw [← l]; exact hx) (by rw [← DD_img h hs]; exact z)
    rw [this, l]
end
def KL (b s : Nat) (M : List Nat) : Prop := ∀ x, x < 2 ^ b → img M x >>> s = x >>> s
def KS (b s : Nat) (M : List Nat) : Prop := ∀ x, x < 2 ^ b → lo s (img M x) = lo s x
structure Spl (b s : Nat) (M F X L : List Nat) : Prop where
  f : Mix b F
  k : Mix b X
  l : Mix b L
  kf : KL b s F
  kk : KS b s X
  kl : KL b s L
  all : ∀ x, x < 2 ^ b → img L (img X (img F x)) = img M x
  un : (if evb s F = true then 0 else 1) + (if evb s L = true then 0 else 1) = unv b s M
/-! ### the first way -/
def ahd1 (b s : Nat) (M : List Nat) : List Nat := colsf b fun x => lo s (img M x) ^^^ (x >>> s) <<< s
theorem lin2 {f g : Nat → Nat} (F : Lin f) (G : Lin g) : Lin fun x => f x ^^^ g x := ⟨by rw [F.z, G.z]; rfl, fun a b => by rw [F.x, G.x, xor4]⟩
theorem lin_ahd1 (s : Nat) (M : List Nat) : Lin fun x => lo s (img M x) ^^^ (x >>> s) <<< s := lin2 ((lin_lo s).comp (lin_img M)) ((lin_shl s).comp (lin_shr s))
theorem beside_lo {s a c : Nat} (h : a < 2 ^ s) : lo s (a ^^^ c <<< s) = a := by rw [(lin_lo s).x, lo_of_lt h, lo_shl, Nat.xor_zero]
theorem beside_hi {s a c : Nat} (h : a < 2 ^ s) : (a ^^^ c <<< s) >>> s = c := by rw [(lin_shr s).x, hi_of_lt h, hi_shl, Nat.zero_xor]
theorem beside_lt' {s b a c : Nat} (hs : s ≤ b) (ha : a < 2 ^ s) (hc : c < 2 ^ (b - s)) : a ^^^ c <<< s < 2 ^ b := Nat.xor_lt_two_pow (Nat.lt_of_lt_of_le ha (Nat.pow_le_pow_right (by decide) hs)) (shl_lt hs hc)
theorem units_img {b x : Nat} (h : x < 2 ^ b) : img (units b) x = x := img_units h
theorem kl_units (b s : Nat) : KL b s (units b) := fun x hx => by rw [units_img hx]
section
variable {b s : Nat} {M : List Nat} (h : Mix b M) (hs : s ≤ b)
include h hs
theorem ahd1_mix (ha : rk (AA s M) = s) : Mix b (ahd1 b s M) := by
  refine mix_colsf (lin_ahd1 s M) (fun x hx => beside_lt' hs (lo_lt s _) (hi_lt hs hx)) fun x hx e => ?_
  have e1 : lo s (img M x) = 0 := by have := congrArg (lo s) e; rwa [beside_lo (lo_lt s _), (lin_lo s).z] at this
  have e2 : x >>> s = 0 := by have := congrArg (fun y => y >>> s) e; simp only [beside_hi (lo_lt s _), Nat.zero_shiftRight] at this; exact this
  refine (alone_slots h.len hs).mp ha x ?_ e1
  have := lo_hi s x
  rw [e2, Nat.zero_shiftLeft, Nat.xor_zero] at this
  rw [← this]
  exact lo_lt s x
theorem ahd1_img {x : Nat} (hx : x < 2 ^ b) : img (ahd1 b s M) x = lo s (img M x) ^^^ (x >>> s) <<< s := colsf_img (lin_ahd1 s M) hx
theorem evb_ahd1 : evb s (ahd1 b s M) = evb s M := by
  rw [Bool.eq_iff_iff, ev_iff (show (ahd1 b s M).length = b from colsf_len b _) hs, ev_iff h.len hs]
  constructor
  · intro e y hy
    have := e y hy
    rwa [ahd1_img h hs (shl_lt hs hy), beside_lo (lo_lt s _)] at this
  · intro e y hy
    rw [ahd1_img h hs (shl_lt hs hy), beside_lo (lo_lt s _)]
    exact e y hy
omit h in
theorem evb_units : evb s (units b) = true := by
  have l : (units b).length = b := by simp [units]
  rw [ev_iff l hs]
  intro y hy
  rw [units_img (shl_lt hs hy), lo_shl]
theorem spl_one (ha : rk (AA s M) = s) : Spl b s M (ahd1 b s M) ((inv b (ahd1 b s M)).map (img M)) (units b) := by
  have F := ahd1_mix h hs ha
  have I := inv_mix F
  refine ⟨F, mix_comp h I, mix_units b, fun x hx => ?_, fun x hx => ?_, kl_units b s, fun x hx => ?_, ?_⟩
  · rw [ahd1_img h hs hx, beside_hi (lo_lt s _)]
  · rw [img_comp]
    have e := inv_right F hx
    have l := I.img_lt x
    generalize img (inv b (ahd1 b s M)) x = y at *
    rw [ahd1_img h hs l] at e
    have := congrArg (lo s) e
    rwa [beside_lo (lo_lt s _)] at this
  · rw [img_comp, inv_left F hx, units_img (h.img_lt x)]
  · rw [evb_ahd1 h hs, evb_units hs, if_pos rfl, Nat.add_zero]
    unfold unv
    by_cases e : evb s M = true
    · rw [if_pos e, if_pos e]
    · rw [if_neg e, if_neg e, if_pos ha]
end
/-! ### the second way -/
def ahd2 (b s : Nat) (G : List Nat) : List Nat := colsf b fun x => x ^^^ img G (x >>> s)
def crs (b s : Nat) (N : List Nat) : List Nat := colsf b fun x => lo s x ^^^ (img N x >>> s) <<< s
theorem lin_id : Lin fun x => x := ⟨rfl, fun _ _ => rfl⟩
theorem lin_ahd2 (s : Nat) (G : List Nat) : Lin fun x => x ^^^ img G (x >>> s) := lin2 lin_id ((lin_img G).comp (lin_shr s))
theorem lin_crs (s : Nat) (N : List Nat) : Lin fun x => lo s x ^^^ (img N x >>> s) <<< s := lin2 (lin_lo s) ((lin_shl s).comp ((lin_shr s).comp (lin_img N)))
/-- what is asked of the filling -/
structure Fil (b s : Nat) (M G : List Nat) : Prop where
  len : G.length = b - s
  lt : ∀ g ∈ G, g < 2 ^ s
  all : ∀ y, y < 2 ^ (b - s) → img M (y <<< s) >>> s = img M (img G y) >>> s → y = 0
  z : rk (DD s M) = b - s → ∀ g ∈ G, g = 0
section
variable {b s : Nat} {M G : List Nat} (h : Mix b M) (hs : s ≤ b) (f : Fil b s M G)
theorem ahd2_img {x : Nat} (hx : x < 2 ^ b) : img (ahd2 b s G) x = x ^^^ img G (x >>> s) := colsf_img (lin_ahd2 s G) hx
theorem crs_img {N : List Nat} {x : Nat} (hx : x < 2 ^ b) : img (crs b s N) x = lo s x ^^^ (img N x >>> s) <<< s := colsf_img (lin_crs s N) hx
include f
theorem g_lt (y : Nat) : img G y < 2 ^ s := imf_lt f.lt _ _
theorem ahd2_hi {x : Nat} (hx : x < 2 ^ b) : img (ahd2 b s G) x >>> s = x >>> s := by
  rw [ahd2_img hx, (lin_shr s).x, hi_of_lt (g_lt f _), Nat.xor_zero]
include hs
theorem ahd2_lt {x : Nat} (hx : x < 2 ^ b) : x ^^^ img G (x >>> s) < 2 ^ b := Nat.xor_lt_two_pow hx (Nat.lt_of_lt_of_le (g_lt f _) (Nat.pow_le_pow_right (by decide) hs))
theorem ahd2_mix : Mix b (ahd2 b s G) := by
  refine mix_colsf (lin_ahd2 s G) (fun x hx => ahd2_lt hs f hx) fun x hx e => ?_
  have e2 : x >>> s = 0 := by
    have := congrArg (fun y => y >>> s) e
    simp only [(lin_shr s).x, hi_of_lt (g_lt f _), Nat.xor_zero, Nat.zero_shiftRight] at this
    exact this
  rw [e2, (lin_img G).z, Nat.xor_zero] at e
  exact e
theorem ahd2_twice {x : Nat} (hx : x < 2 ^ b) : img (ahd2 b s G) (img (ahd2 b s G) x) = x := by
  have e : img (ahd2 b s G) x < 2 ^ b := by rw [ahd2_img hx]; exact ahd2_lt hs f hx
  rw [ahd2_img e, ahd2_hi f hx, ahd2_img hx, Nat.xor_assoc, Nat.xor_self, Nat.xor_zero]
include h
/-- the move behind the filling -/
theorem thr_mix : Mix b ((ahd2 b s G).map (img M)) := mix_comp h (ahd2_mix hs f)
theorem thr_img {x : Nat} (hx : x < 2 ^ b) : img ((ahd2 b s G).map (img M)) x = img M (x ^^^ img G (x >>> s)) := by rw [img_comp, ahd2_img hx]
theorem crs_mix : Mix b (crs b s ((ahd2 b s G).map (img M))) := by
  have Tm := thr_mix h hs f
  refine mix_colsf (lin_crs s _) (fun x hx => beside_lt' hs (lo_lt s _) (hi_lt hs (Tm.img_lt x))) fun x hx e => ?_
  have e1 : lo s x = 0 := by have := congrArg (lo s) e; rwa [beside_lo (lo_lt s _), (lin_lo s).z] at this
  have e2 : img ((ahd2 b s G).map (img M)) x >>> s = 0 := by have := congrArg (fun y => y >>> s) e; simp only [beside_hi (lo_lt s _), Nat.zero_shiftRight] at this; exact this
  have ex : (x >>> s) <<< s = x := by have := lo_hi s x; rwa [e1, Nat.zero_xor] at this
  rw [thr_img h hs f hx, (lin_img M).x, (lin_shr s).x] at e2
  have := f.all (x >>> s) (hi_lt hs hx) (by rw [ex]; exact xz e2)
  rw [this, Nat.zero_shiftLeft] at ex
  exact ex.symm
theorem spl_two (hc : rk (AA s M) = s → rk (DD s M) = b - s) : Spl b s M (ahd2 b s G) (crs b s ((ahd2 b s G).map (img M))) ((inv b (crs b s ((ahd2 b s G).map (img M)))).map (img ((ahd2 b s G).map (img M)))) := by
  have Am := ahd2_mix hs f
  have Tm := thr_mix h hs f
  have Km := crs_mix h hs f
  have ti := fun {x : Nat} (hx : x < 2 ^ b) => thr_img h hs f hx
  generalize hT : (ahd2 b s G).map (img M) = T at *
  have I := inv_mix Km
  have Lm := mix_comp Tm I
  have lk : ∀ x, x < 2 ^ b → img ((inv b (crs b s T)).map (img T)) (img (crs b s T) x) = img T x := fun x hx => by rw [img_comp, inv_left Km hx]
  have klL : KL b s ((inv b (crs b s T)).map (img T)) := fun x hx => by
    rw [img_comp]
    have e := inv_right Km hx
    have l := I.img_lt x
    generalize img (inv b (crs b s T)) x = y at *
    rw [crs_img l] at e
    have := congrArg (fun y => y >>> s) e
    simp only [beside_hi (lo_lt s _)] at this
    exact this
  generalize (inv b (crs b s T)).map (img T) = L at *
  refine ⟨Am, Km, Lm, fun x hx => ahd2_hi f hx, fun x hx => ?_, klL, fun x hx => ?_, ?_⟩
  · rw [crs_img hx, beside_lo (lo_lt s _)]
  · rw [lk _ (Am.img_lt x), ← hT, img_comp, ahd2_twice hs f hx]
  · have g0 : evb s (ahd2 b s G) = true ↔ ∀ y, y < 2 ^ (b - s) → img G y = 0 := by
      rw [ev_iff Am.len hs]
      constructor
      · intro e y hy
        have := e y hy
        rwa [ahd2_img (shl_lt hs hy), (lin_lo s).x, lo_shl, Nat.zero_xor, hi_shl, lo_of_lt (g_lt f _)] at this
      · intro e y hy
        rw [ahd2_img (shl_lt hs hy), hi_shl, e y hy, Nat.xor_zero, lo_shl]
    by_cases hd : rk (DD s M) = b - s
    · -- lanes alone: nothing is filled
      have gz := f.z hd
      have gi : ∀ y, y < 2 ^ (b - s) → img G y = 0 := fun y hy => by
        have := (img_in G (z := y) (by rw [f.len]; exact hy)).mono (vs := []) fun w hw => by rw [gz w hw]; exact .zero
        exact this.nil
      have ta : ∀ x, x < 2 ^ b → img T x = img M x := fun x hx => by rw [ti hx, gi _ (hi_lt hs hx), Nat.xor_zero]
      rw [if_pos (g0.mpr gi), Nat.zero_add]
      have el : evb s L = evb s M := by
        rw [Bool.eq_iff_iff, ev_iff Lm.len hs, ev_iff h.len hs]
        have al := (alone_lanes h.len hs).mp hd
        constructor
        · intro e y hy
          have hx := shl_lt hs hy
          have k1 := lk _ hx
          rw [crs_img hx, lo_shl, Nat.zero_xor, ta _ hx] at k1
          rw [← k1]
          exact e _ (hi_lt hs (h.img_lt _))
        · intro e y hy
          -- some lane leads to y
          have sp : Spn (DD s M) y := span_of_rk (b := b - s) (fun x hx => by
            obtain ⟨w, hw, rfl⟩ := List.mem_map.mp hx
            exact hi_lt hs (h.lt w (List.mem_of_mem_drop hw))) (by rw [hd]; exact Nat.le_refl _) hy
          obtain ⟨z, hz, ez⟩ := span_img (cols := DD s M) (Nat.le_refl _) (by rw [List.take_length]; exact sp)
          rw [DD_len h.len hs] at hz
          rw [DD_img h.len hs] at ez
          have hx := shl_lt hs hz
          have k1 := lk _ hx
          rw [crs_img hx, lo_shl, Nat.zero_xor, ta _ hx, ez] at k1
          rw [k1]
          exact e z hz
      rw [el]
      unfold unv
      by_cases ev : evb s M = true
      · rw [if_pos ev, if_pos ev]
      · rw [if_neg ev, if_neg ev]
        by_cases ha : rk (AA s M) = s
        · rw [if_pos ha]
        · rw [if_neg ha, if_pos hd]
    · have ha : ¬ rk (AA s M) = s := fun e => hd (hc e)
      have nev : ¬ evb s M = true := fun ev => hd ((alone_lanes h.len hs).mpr fun y hy e => by
        have e1 := (ev_iff h.len hs).mp ev y hy
        have := h.inj0 (shl_lt hs hy) (zero_of e1 e)
        have e2 := hi_shl s y
        rw [this, Nat.zero_shiftRight] at e2
        exact e2.symm)
      have n1 : ¬ evb s (ahd2 b s G) = true := fun ev => hd ((alone_lanes h.len hs).mpr fun y hy e => f.all y hy (by rw [g0.mp ev y hy, (lin_img M).z, e, Nat.zero_shiftRight]))
      have n2 : ¬ evb s L = true := fun ev => ha ((alone_slots h.len hs).mpr fun x hx e => by
        have hb : x < 2 ^ b := Nat.lt_of_lt_of_le hx (Nat.pow_le_pow_right (by decide) hs)
        have k1 := lk x hb
        rw [crs_img hb, lo_of_lt hx, ti hb, hi_of_lt hx, (lin_img G).z, Nat.xor_zero, (lin_img L).x] at k1
        have k2 := congrArg (lo s) k1
        rw [(lin_lo s).x, (ev_iff Lm.len hs).mp ev _ (hi_lt hs (h.img_lt x)), Nat.xor_zero, e] at k2
        have k3 := klL x hb
        rw [hi_of_lt hx] at k3
        exact Lm.inj0 hb (zero_of k2 k3))
      rw [if_neg n1, if_neg n2]
      unfold unv
      rw [if_neg nev, if_neg ha, if_neg hd]
end
end LaneX
set_option linter.all false
namespace LaneX
/-! ### the filling -/
theorem img_set {G : List Nat} {t v : Nat} (ht : t < G.length) (z : G.getD t 0 = 0) (y : Nat) : img (G.set t v) y = img G y ^^^ (if y.testBit t = true then v else 0) := by
  have l : (G.set t v).length = G.length := List.length_set
  have keep : ∀ x : Nat, x.testBit t = false → img (G.set t v) x = img G x := fun x hx => img_at l fun i hi hb => by
    rw [getD_set' _ _ _ _ ht, if_neg]
    rintro rfl
    rw [hb] at hx
    cases hx
  by_cases e : y.testBit t = true
  · have f : (y ^^^ 2 ^ t).testBit t = false := by rw [Nat.testBit_xor, e, Nat.testBit_two_pow_self]; rfl
    have a : y = (y ^^^ 2 ^ t) ^^^ 2 ^ t := by rw [Nat.xor_assoc, Nat.xor_self, Nat.xor_zero]
    have b1 : img (G.set t v) y = img (G.set t v) (y ^^^ 2 ^ t) ^^^ img (G.set t v) (2 ^ t) := by rw [← (lin_img _).x, ← a]
    have b2 : img G y = img G (y ^^^ 2 ^ t) ^^^ img G (2 ^ t) := by rw [← (lin_img _).x, ← a]
    rw [if_pos e, b1, b2, keep _ f, img_unit _ (by rw [l]; exact ht), img_unit _ ht, getD_set' _ _ _ _ ht, if_pos rfl, z, Nat.xor_zero]
  · rw [if_neg e, Nat.xor_zero]
    exact keep y (by cases h : y.testBit t <;> simp_all)
/-- the top of a row of the kernel -/
def tp (s : Nat) (M : List Nat) (j : Nat) : Nat := blen ((ker (DD s M)).getD j 0) - 1
structure Flg (b s : Nat) (M : List Nat) (n a : Nat) (R G : List Nat) : Prop where
  len : G.length = b - s
  lt : ∀ g ∈ G, g < 2 ^ s
  rw_ : Rws R
  rl : R.length = rk (DD s M) + a
  d : ∀ w ∈ DD s M, Spn R w
  g : ∀ y, y < 2 ^ (b - s) → Spn R (img (CC s M) (img G y))
  i : ∀ y, y < 2 ^ (b - s) → Spn (DD s M) (img (CC s M) (img G y)) → ∀ j, j < a → y.testBit (tp s M j) = false
  o : ∀ y, y < 2 ^ (b - s) → (∀ j, j < a → y.testBit (tp s M j) = false) → img G y = 0
  le : a ≤ (ker (DD s M)).length
  c : a < (ker (DD s M)).length → ∀ k, k < n → Spn R ((CC s M).getD k 0)
section
variable {b s : Nat} {M : List Nat} (h : Mix b M) (hs : s ≤ b)
theorem img_zeros (n y : Nat) : img (List.replicate n 0) y = 0 := by
  have : ∀ w ∈ List.replicate n 0, Spn ([] : List Nat) w := fun w hw => by rw [List.eq_of_mem_replicate hw]; exact .zero
  exact (allin_img this y).nil
include h hs
theorem tp_lt {j : Nat} (hj : j < (ker (DD s M)).length) : tp s M j < b - s := by
  have m : (ker (DD s M)).getD j 0 ∈ ker (DD s M) := getD_mem hj
  have a := ker_blen _ _ m
  rw [DD_len h.len hs] at a
  have z := (ker_rws (DD s M)).nz _ m
  have := blen_pos z
  unfold tp
  omega
theorem tp_ne {i j : Nat} (hi : i < (ker (DD s M)).length) (hj : j < (ker (DD s M)).length) (e : i ≠ j) : tp s M i ≠ tp s M j := fun z => by
  have a := (ker_rws (DD s M)).getD_bit hi hj e
  have m : (ker (DD s M)).getD i 0 ∈ ker (DD s M) := getD_mem hi
  have nz := (ker_rws (DD s M)).nz _ m
  unfold tp at z
  rw [← z] at a
  rw [testBit_top nz] at a
  cases a
theorem flg_start : Flg b s M 0 0 (spn (DD s M)) (List.replicate (b - s) 0) := by
  refine ⟨by simp, fun g hg => by rw [List.eq_of_mem_replicate hg]; exact Nat.two_pow_pos s, spn_rws _, rfl, fun w hw => (spn_span _ _).mpr (.of hw), fun y _ => ?_, fun y _ _ j hj => absurd hj (Nat.not_lt_zero _), fun y _ _ => img_zeros _ _, Nat.zero_le _, fun _ k hk => absurd hk (Nat.not_lt_zero _)⟩
  rw [img_zeros, (lin_img _).z]
  exact .zero
theorem flg_skip {n a : Nat} {R G : List Nat} (f : Flg b s M n a R G) (hn : n < s) (e : a < (ker (DD s M)).length → clr R ((CC s M).getD n 0) = 0) : Flg b s M (n + 1) a R G := by
  refine ⟨f.len, f.lt, f.rw_, f.rl, f.d, f.g, f.i, f.o, f.le, fun ha k hk => ?_⟩
  by_cases z : k < n
  · exact f.c ha k z
  · have : k = n := by omega
    subst this
    exact f.rw_.span.mpr (e ha)
theorem flg_take {n a : Nat} {R G : List Nat} (f : Flg b s M n a R G) (hn : n < s) (ha : a < (ker (DD s M)).length) (e : clr R ((CC s M).getD n 0) ≠ 0) : Flg b s M (n + 1) (a + 1) (grw R ((CC s M).getD n 0)) (G.set (tp s M a) (1 <<< n)) := by
  have tl := tp_lt h hs ha
  have gl : tp s M a < G.length := by rw [f.len]; exact tl
  have ln : (1 <<< n) < 2 ^ s := by rw [two1]; exact Nat.pow_lt_pow_right (by decide) hn
  have z : G.getD (tp s M a) 0 = 0 := by
    rw [← img_unit _ gl]
    refine f.o _ (Nat.pow_lt_pow_right (by decide) tl) fun j hj => ?_
    rw [Nat.testBit_two_pow]
    exact decide_eq_false (tp_ne h hs ha (by omega) (by omega))
  have is := fun y => img_set (v := 1 <<< n) gl z y
  have cu : img (CC s M) (1 <<< n) = (CC s M).getD n 0 := by rw [two1, img_unit _ (by rw [CC_len h.len hs]; exact hn)]
  have ci : ∀ y, img (CC s M) (img (G.set (tp s M a) (1 <<< n)) y) = img (CC s M) (img G y) ^^^ (if y.testBit (tp s M a) = true then (CC s M).getD n 0 else 0) := fun y => by
    rw [is, (lin_img _).x]
    split
    · rw [cu]
    · rw [(lin_img _).z]
  have sub : ∀ w, Spn R w → Spn (grw R ((CC s M).getD n 0)) w := fun w hw => (grw_span _ _).mpr (hw.sub fun x hx => List.mem_append_left _ hx)
  have own : Spn (grw R ((CC s M).getD n 0)) ((CC s M).getD n 0) := (grw_span _ _).mpr (.of (List.mem_append_right _ (List.mem_singleton_self _)))
  refine ⟨by rw [List.length_set, f.len], fun g hg => ?_, grw_rws f.rw_ _, by rw [grw_length, if_neg e, f.rl]; omega, fun w hw => sub w (f.d w hw), fun y hy => ?_, fun y hy hD => ?_, fun y hy hz => ?_, by omega, fun _ k hk => ?_⟩
  · rcases List.mem_or_eq_of_mem_set hg with hg | rfl
    · exact f.lt g hg
    · exact ln
  · rw [ci]
    refine (sub _ (f.g y hy)).xor ?_
    split
    · exact own
    · exact .zero
  · rw [ci] at hD
    have q : y.testBit (tp s M a) = false := by
      cases t : y.testBit (tp s M a) with
      | false => rfl
      | true =>
        rw [t, if_pos rfl] at hD
        have w1 : Spn R (img (CC s M) (img G y) ^^^ (CC s M).getD n 0) := hD.mono f.d
        have w2 := (f.g y hy).xor w1
        rw [← Nat.xor_assoc, Nat.xor_self, Nat.zero_xor] at w2
        exact absurd (f.rw_.span.mp w2) e
    rw [q, if_neg (by decide), Nat.xor_zero] at hD
    intro j hj
    by_cases z : j < a
    · exact f.i y hy hD j z
    · have : j = a := by omega
      rw [this]; exact q
  · rw [is, hz a (Nat.lt_succ_self a), if_neg (by decide), Nat.xor_zero]
    exact f.o y hy fun j hj => hz j (by omega)
  · by_cases z : k < n
    · exact sub _ (f.c ha k z)
    · have : k = n := by omega
      subst this
      exact own
/-- in the end all rows of the kernel have got a slot -/
theorem flg_end {a : Nat} {R G : List Nat} (f : Flg b s M s a R G) : Fil b s M G := by
  have ld := DD_len h.len hs
  have full : b - s ≤ rk (CC s M ++ DD s M) := by
    refine rk_full fun u hu => ?_
    obtain ⟨i, hi, rfl⟩ := List.mem_map.mp hu
    have hi := List.mem_range.mp hi
    have w := h.all (w := (1 <<< i) <<< s) (shl_lt hs (by rw [two1]; exact Nat.pow_lt_pow_right (by decide) hi))
    have w2 := (lin_shr s).spn w
    rw [hi_shl] at w2
    have e : M.map (fun x => x >>> s) = CC s M ++ DD s M := by
      unfold CC DD
      rw [← List.map_append, List.take_append_drop]
    rwa [e] at w2
  have ka := ker_len_eq (DD s M)
  have ae : a = (ker (DD s M)).length := by
    have := f.le
    by_cases z : a < (ker (DD s M)).length
    · have r := rk_le (a := CC s M ++ DD s M) (b := R) fun x hx => by
        rcases List.mem_append.mp hx with hx | hx
        · obtain ⟨k, hk, e⟩ := List.getElem_of_mem hx
          have := f.c z k (by rw [← CC_len h.len hs]; exact hk)
          rw [List.getD_eq_getElem?_getD, List.getElem?_eq_getElem hk] at this
          rw [← e]
          exact this
        · exact f.d x hx
      rw [f.rw_.rk, f.rl] at r
      omega
    · omega
  refine ⟨f.len, f.lt, fun y hy e => ?_, fun hd g hg => ?_⟩
  · have gl : img G y < 2 ^ s := imf_lt f.lt _ _
    have e' : img (DD s M) y = img (CC s M) (img G y) := by rw [DD_img h.len hs, CC_img h.len hs gl]; exact e
    have t := f.i y hy (by rw [← e']; exact img_in _ (by rw [ld]; exact hy))
    have z := f.o y hy t
    rw [z, (lin_img _).z] at e'
    have k : Spn (ker (DD s M)) y := (ker_span _ _).mpr ⟨by rw [ld]; exact hy, e'⟩
    have c0 := (ker_rws (DD s M)).span.mp k
    rw [clr_of_none fun r hr => ?_] at c0
    · exact c0
    · obtain ⟨j, hj, e⟩ := List.getElem_of_mem hr
      have := t j (by omega)
      unfold tp at this
      rw [List.getD_eq_getElem?_getD, List.getElem?_eq_getElem hj] at this
      rw [← e]
      exact this
  · have a0 : a = 0 := by omega
    obtain ⟨j, hj, e⟩ := List.getElem_of_mem hg
    have := f.o (2 ^ j) (Nat.pow_lt_pow_right (by decide) (by rw [← f.len]; exact hj)) fun i hi => absurd hi (by omega)
    rw [img_unit _ hj, List.getD_eq_getElem?_getD, List.getElem?_eq_getElem hj] at this
    rw [← e]
    exact this
end
end LaneX
set_option linter.all false
namespace LaneX
/-! ### what the questions about a move answer -/
def klb (b s : Nat) (M : List Nat) : Bool := (List.range b).all fun i => decide (M.getD i 0 >>> s = (1 <<< i) >>> s)
def ksb (b s : Nat) (M : List Nat) : Bool := (List.range b).all fun i => decide (lo s (M.getD i 0) = lo s (1 <<< i))
theorem unit_hi {s i : Nat} : (1 <<< i) >>> s = if i < s then 0 else 1 <<< (i - s) := by
  by_cases h : i < s
  · rw [if_pos h, two1]
    exact hi_of_lt (Nat.pow_lt_pow_right (by decide) h)
  · rw [if_neg h]
    have e : i = (i - s) + s := by omega
    conv => lhs; rw [e, Nat.shiftLeft_add, hi_shl]
theorem unit_lo {s i : Nat} : lo s (1 <<< i) = if i < s then 1 <<< i else 0 := by
  by_cases h : i < s
  · rw [if_pos h]
    exact lo_of_lt (by rw [two1]; exact Nat.pow_lt_pow_right (by decide) h)
  · rw [if_neg h]
    have e : i = (i - s) + s := by omega
    conv => lhs; rw [e, Nat.shiftLeft_add, lo_shl]
theorem units_len (b : Nat) : (units b).length = b := by simp [units]
theorem units_at {b i : Nat} (h : i < b) : (units b).getD i 0 = 1 <<< i := by
  unfold units
  rw [List.getD_eq_getElem?_getD, List.getElem?_map, List.getElem?_range h]
  rfl
theorem app_at {A B : List Nat} {i : Nat} : (A ++ B).getD i 0 = if i < A.length then A.getD i 0 else B.getD (i - A.length) 0 := by
  by_cases h : i < A.length
  · rw [if_pos h, List.getD_eq_getElem?_getD, List.getElem?_append_left h, List.getD_eq_getElem?_getD]
  · rw [if_neg h, List.getD_eq_getElem?_getD, List.getElem?_append_right (by omega), List.getD_eq_getElem?_getD]
theorem zeros_at (n i : Nat) : (List.replicate n 0).getD i 0 = 0 := by
  rw [List.getD_eq_getElem?_getD, List.getElem?_replicate]
  split <;> rfl
theorem map_at {M : List Nat} {f : Nat → Nat} {i : Nat} (h : i < M.length) : (M.map f).getD i 0 = f (M.getD i 0) := by
  rw [List.getD_eq_getElem?_getD, List.getElem?_map, List.getD_eq_getElem?_getD, List.getElem?_eq_getElem h]
  rfl
theorem dec_list {A B : List Nat} {b : Nat} (ha : A.length = b) (hb : B.length = b) : decide (A = B) = (List.range b).all fun i => decide (A.getD i 0 = B.getD i 0) := by
  rw [Bool.eq_iff_iff, decide_eq_true_iff, List.all_eq_true]
  constructor
  · rintro rfl i _
    exact decide_eq_true rfl
  · intro h
    exact getD_ext (ha.trans hb.symm) fun i hi => of_decide_eq_true (h i (List.mem_range.mpr (by omega)))
theorem all_congr {b : Nat} {p q : Nat → Bool} (h : ∀ i, i < b → p i = q i) : (List.range b).all p = (List.range b).all q := by
  rw [Bool.eq_iff_iff, List.all_eq_true, List.all_eq_true]
  exact ⟨fun z i hi => by rw [← h i (List.mem_range.mp hi)]; exact z i hi, fun z i hi => by rw [h i (List.mem_range.mp hi)]; exact z i hi⟩
section
variable {b s : Nat} {M : List Nat} (h : M.length = b) (hs : s ≤ b)
include h hs
theorem klb_eq : decide (M.map (fun x => x >>> s) = List.replicate s 0 ++ units (b - s)) = klb b s M := by
  rw [dec_list (b := b) (by rw [List.length_map, h]) (by rw [List.length_append, List.length_replicate, units_len]; omega)]
  refine all_congr fun i hi => ?_
  rw [map_at (by omega), app_at, List.length_replicate, zeros_at, unit_hi]
  by_cases z : i < s
  · rw [if_pos z, if_pos z]
  · rw [if_neg z, if_neg z, units_at (by omega)]
theorem ksb_eq : decide (M.map (lo s) = units s ++ List.replicate (b - s) 0) = ksb b s M := by
  rw [dec_list (b := b) (by rw [List.length_map, h]) (by rw [List.length_append, List.length_replicate, units_len]; omega)]
  refine all_congr fun i hi => ?_
  rw [map_at (by omega), app_at, units_len, unit_lo]
  by_cases z : i < s
  · rw [if_pos z, if_pos z, units_at z]
  · rw [if_neg z, if_neg z, zeros_at]
omit hs in
theorem klb_true (k : KL b s M) : klb b s M = true := by
  unfold klb
  rw [List.all_eq_true]
  intro i hi
  have hi := List.mem_range.mp hi
  have := k (2 ^ i) (Nat.pow_lt_pow_right (by decide) hi)
  rw [img_unit _ (by omega)] at this
  exact decide_eq_true (by rw [two1]; exact this)
omit hs in
theorem ksb_true (k : KS b s M) : ksb b s M = true := by
  unfold ksb
  rw [List.all_eq_true]
  intro i hi
  have hi := List.mem_range.mp hi
  have := k (2 ^ i) (Nat.pow_lt_pow_right (by decide) hi)
  rw [img_unit _ (by omega)] at this
  exact decide_eq_true (by rw [two1]; exact this)
end
/-! ### the lists that are built -/
section
variable {b s : Nat} {M : List Nat} (h : M.length = b) (hs : s ≤ b)
include h hs
theorem ahd1_at {i : Nat} (hi : i < b) : (ahd1 b s M).getD i 0 = lo s (M.getD i 0) ^^^ (if i < s then 0 else 1 <<< i) := by
  unfold ahd1
  rw [colsf_at _ hi, two1, img_unit _ (by omega), ← two1, unit_hi]
  by_cases z : i < s
  · rw [if_pos z, if_pos z, Nat.zero_shiftLeft]
  · rw [if_neg z, if_neg z, ← Nat.shiftLeft_add, show i - s + s = i by omega]
omit h in
theorem ahd2_eq {G : List Nat} (hG : G.length = b - s) : units s ++ (List.range (b - s)).map (fun i => 1 <<< (s + i) ^^^ G.getD i 0) = ahd2 b s G := by
  have l : (ahd2 b s G).length = b := colsf_len b _
  refine getD_ext (by rw [List.length_append, units_len, List.length_map, List.length_range, l]; omega) fun i hi => ?_
  rw [List.length_append, units_len, List.length_map, List.length_range] at hi
  have hb : i < b := by omega
  unfold ahd2
  rw [app_at, units_len, colsf_at _ hb, unit_hi]
  by_cases z : i < s
  · rw [if_pos z, if_pos z, units_at z, (lin_img G).z, Nat.xor_zero]
  · rw [if_neg z, if_neg z, two1 (i - s), img_unit _ (by omega), List.getD_eq_getElem?_getD, List.getElem?_map, List.getElem?_range (by omega)]
    show 1 <<< (s + (i - s)) ^^^ _ = _
    rw [show s + (i - s) = i by omega]
/-- after n turns -/
def mid (s : Nat) (N : List Nat) (n : Nat) : List Nat := (List.range N.length).map fun i => (N.getD i 0 >>> s) <<< s ^^^ (if i < n then 1 <<< i else 0)
omit h hs in
theorem mid_zero (N : List Nat) : (N.map fun x => x >>> s).map (fun x => x <<< s) = mid s N 0 := by
  unfold mid
  refine getD_ext (by simp) fun i hi => ?_
  rw [List.length_map, List.length_map] at hi
  rw [map_at (by rw [List.length_map]; exact hi), map_at hi, List.getD_eq_getElem?_getD (l := List.map _ (List.range _)), List.getElem?_map, List.getElem?_range hi]
  show _ = _ ^^^ _
  rw [if_neg (by omega), Nat.xor_zero]
omit h hs in
theorem mid_len (N : List Nat) (n : Nat) : (mid s N n).length = N.length := by simp [mid]
omit h hs in
theorem mid_at {N : List Nat} {n i : Nat} (hi : i < N.length) : (mid s N n).getD i 0 = (N.getD i 0 >>> s) <<< s ^^^ (if i < n then 1 <<< i else 0) := by
  unfold mid
  rw [List.getD_eq_getElem?_getD, List.getElem?_map, List.getElem?_range hi]
  rfl
omit h hs in
theorem mid_succ {N : List Nat} {n : Nat} (hn : n < N.length) : (mid s N n).set n ((mid s N n).getD n 0 ^^^ 1 <<< n) = mid s N (n + 1) := by
  refine getD_ext (by rw [List.length_set, mid_len, mid_len]) fun i hi => ?_
  rw [List.length_set, mid_len] at hi
  rw [getD_set' _ _ _ _ (by rw [mid_len]; exact hn), mid_at (n := n + 1) hi]
  by_cases e : i = n
  · subst e
    rw [if_pos rfl, mid_at hi, if_neg (by omega), Nat.xor_zero, if_pos (by omega)]
  · rw [if_neg e, mid_at hi]
    by_cases z : i < n
    · rw [if_pos z, if_pos (by omega)]
    · rw [if_neg z, if_neg (by omega)]
theorem mid_crs : mid s M s = crs b s M := by
  have l : (crs b s M).length = b := colsf_len b _
  refine getD_ext (by rw [mid_len, l, h]) fun i hi => ?_
  rw [mid_len] at hi
  unfold crs
  rw [mid_at hi, colsf_at _ (by omega), unit_lo, two1, img_unit _ hi, ← two1, Nat.xor_comm]
end
/-! ### moves that are drawn -/
theorem mix_slot {s l : Nat} {A B : List Nat} (hA : Mix s A) (hB : B.length = l) (lt : ∀ x ∈ B, x < 2 ^ s) : Mix (s + l) (A ++ (List.range l).map fun i => 1 <<< (s + i) ^^^ B.getD i 0) := by
  have la := hA.len
  have e : A ++ (List.range l).map (fun i => 1 <<< (s + i) ^^^ B.getD i 0) = colsf (s + l) fun x => (img A (lo s x) ^^^ img B (x >>> s)) ^^^ (x >>> s) <<< s := by
    refine getD_ext (by rw [List.length_append, List.length_map, List.length_range, colsf_len, la]) fun i hi => ?_
    rw [List.length_append, List.length_map, List.length_range, la] at hi
    rw [app_at, colsf_at _ hi, unit_lo, unit_hi, la]
    by_cases z : i < s
    · rw [if_pos z, if_pos z, if_pos z, (lin_img B).z, Nat.zero_shiftLeft, Nat.xor_zero, Nat.xor_zero, two1, img_unit _ (by omega)]
    · rw [if_neg z, if_neg z, if_neg z, (lin_img A).z, Nat.zero_xor, two1, img_unit _ (by omega), List.getD_eq_getElem?_getD, List.getElem?_map, List.getElem?_range (by omega)]
      show 1 <<< (s + (i - s)) ^^^ _ = _
      rw [← two1, ← Nat.shiftLeft_add, show i - s + s = s + (i - s) by omega, Nat.xor_comm]
  rw [e]
  have L : Lin fun x => (img A (lo s x) ^^^ img B (x >>> s)) ^^^ (x >>> s) <<< s := lin2 (lin2 ((lin_img A).comp (lin_lo s)) ((lin_img B).comp (lin_shr s))) ((lin_shl s).comp (lin_shr s))
  have al : ∀ x, img A (lo s x) ^^^ img B (x >>> s) < 2 ^ s := fun x => Nat.xor_lt_two_pow (imf_lt hA.lt _ _) (imf_lt lt _ _)
  refine mix_colsf L (fun x hx => beside_lt' (Nat.le_add_right _ _) (al x) (hi_lt (Nat.le_add_right _ _) hx)) fun x hx z => ?_
  have e2 : x >>> s = 0 := by have := congrArg (fun y => y >>> s) z; simp only [beside_hi (al x), Nat.zero_shiftRight] at this; exact this
  rw [e2, (lin_img B).z, Nat.zero_shiftLeft, Nat.xor_zero, Nat.xor_zero] at z
  exact zero_of (hA.inj0 (lo_lt s x) z) e2
theorem mix_lane {s l : Nat} {A B : List Nat} (hA : Mix l A) (hB : B.length = s) (lt : ∀ x ∈ B, x < 2 ^ l) : Mix (s + l) ((List.range s).map (fun i => 1 <<< i ^^^ B.getD i 0 <<< s) ++ A.map fun x => x <<< s) := by
  have la := hA.len
  have e : (List.range s).map (fun i => 1 <<< i ^^^ B.getD i 0 <<< s) ++ A.map (fun x => x <<< s) = colsf (s + l) fun x => lo s x ^^^ (img B (lo s x) ^^^ img A (x >>> s)) <<< s := by
    refine getD_ext (by rw [List.length_append, List.length_map, List.length_range, colsf_len, List.length_map, la]) fun i hi => ?_
    rw [List.length_append, List.length_map, List.length_range, List.length_map, la] at hi
    rw [app_at, colsf_at _ hi, unit_lo, unit_hi, List.length_map, List.length_range]
    by_cases z : i < s
    · rw [if_pos z, if_pos z, if_pos z, (lin_img A).z, Nat.xor_zero, List.getD_eq_getElem?_getD, List.getElem?_map, List.getElem?_range z]
      show 1 <<< i ^^^ _ = _
      rw [two1, img_unit _ (by omega)]
    · rw [if_neg z, if_neg z, if_neg z, (lin_img B).z, Nat.zero_xor, Nat.zero_xor, map_at (by omega), two1, img_unit _ (by omega)]
  rw [e]
  have L : Lin fun x => lo s x ^^^ (img B (lo s x) ^^^ img A (x >>> s)) <<< s := lin2 (lin_lo s) ((lin_shl s).comp (lin2 ((lin_img B).comp (lin_lo s)) ((lin_img A).comp (lin_shr s))))
  have al : ∀ x, img B (lo s x) ^^^ img A (x >>> s) < 2 ^ l := fun x => Nat.xor_lt_two_pow (imf_lt lt _ _) (imf_lt hA.lt _ _)
  refine mix_colsf L (fun x hx => beside_lt' (Nat.le_add_right _ _) (lo_lt s x) (by rw [Nat.add_sub_cancel_left]; exact al x)) fun x hx z => ?_
  have e1 : lo s x = 0 := by have := congrArg (lo s) z; rwa [beside_lo (lo_lt s x), (lin_lo s).z] at this
  have e2 : img B (lo s x) ^^^ img A (x >>> s) = 0 := by have := congrArg (fun y => y >>> s) z; simp only [beside_hi (lo_lt s x), Nat.zero_shiftRight] at this; exact this
  rw [e1, (lin_img B).z, Nat.zero_xor] at e2
  refine zero_of e1 (hA.inj0 ?_ e2)
  have := hi_lt (Nat.le_add_right s l) hx
  rwa [Nat.add_sub_cancel_left] at this
theorem mix_order {b : Nat} {o : List Nat} (p : o.Perm (List.range b)) : Mix b (o.map fun i => 1 <<< i) := (mix_units b).perm (p.map _)
/-- undoing a move behind another one -/
theorem inv_behind {b : Nat} {G M : List Nat} (hG : Mix b G) (hM : Mix b M) : (M.map (img G)).map (img (inv b G)) = M :=
  ext_cols (by rw [List.length_map, List.length_map, hM.len]) hM.len fun x hx => by rw [img_comp, img_comp, inv_left hG (hM.img_lt x)]
theorem spl_cols {b s : Nat} {M F X L : List Nat} (hM : M.length = b) (h : Spl b s M F X L) : (F.map (img X)).map (img L) = M :=
  ext_cols (by rw [List.length_map, List.length_map, h.f.len]) hM fun x hx => by rw [img_comp, img_comp, h.all x hx]
end LaneX
set_option linter.all false
namespace LaneX
/-! ### odd meetings -/
/-- 1 for an odd number of ones -/
def par (k n : Nat) : Nat := imf (List.replicate k 1) n k
theorem rep_at {k i : Nat} (h : i < k) : (List.replicate k 1).getD i 0 = 1 := by
  rw [List.getD_eq_getElem?_getD, List.getElem?_replicate, if_pos h]
  rfl
theorem par_img (k n : Nat) : par k n = img (List.replicate k 1) n := by
  unfold par img
  rw [List.length_replicate]
theorem par_succ (k n : Nat) : par (k + 1) n = par k n ^^^ (if n.testBit k = true then 1 else 0) := by
  unfold par
  have e : imf (List.replicate (k + 1) 1) n k = imf (List.replicate k 1) n k := imf_cols fun i hi => by rw [rep_at (by omega), rep_at hi]
  rw [imf_succ, e]
  split
  · rw [rep_at (Nat.lt_succ_self k)]
  · rw [Nat.xor_zero]
theorem par_lin (k : Nat) : Lin (par k) := imf_lin _ _
theorem par_01 (n : Nat) : ∀ k, par k n = 0 ∨ par k n = 1
  | 0 => .inl rfl
  | k + 1 => by
    rw [par_succ]
    rcases par_01 n k with h | h <;> rw [h] <;> split <;> simp
theorem par_more {k n : Nat} (h : n < 2 ^ k) : ∀ j, k ≤ j → par j n = par k n
  | 0, hj => by
    have : k = 0 := by omega
    subst this
    rfl
  | j + 1, hj => by
    by_cases e : k = j + 1
    · rw [e]
    · rw [par_succ, par_more h j (by omega), Nat.testBit_lt_two_pow (Nat.lt_of_lt_of_le h (Nat.pow_le_pow_right (by decide) (by omega)))]
      simp
/-- whether a word meets a test oddly -/
def od (w t : Nat) : Bool := decide (par (blen (w &&& t)) (w &&& t) = 1)
theorem od_of {w t k : Nat} (h : w < 2 ^ k) : od w t = decide (par k (w &&& t) = 1) := by
  have l : w &&& t < 2 ^ k := Nat.lt_of_le_of_lt Nat.and_le_left h
  unfold od
  rw [par_more (blen_le.mp (Nat.le_refl _)) k (blen_le.mpr l)]
theorem and_lin (t : Nat) : Lin fun x => x &&& t := ⟨Nat.zero_and t, fun a b => Nat.and_xor_distrib_right⟩
/-- as a sum -/
def pt (k t x : Nat) : Nat := par k (x &&& t)
theorem pt_lin (k t : Nat) : Lin (pt k t) := (par_lin k).comp (and_lin t)
theorem pt_01 (k t x : Nat) : pt k t x = 0 ∨ pt k t x = 1 := par_01 _ _
theorem od_pt {k t x : Nat} (h : x < 2 ^ k) : od x t = decide (pt k t x = 1) := od_of h
/-- an exchange -/
def xch (k w t y : Nat) : Nat := if pt k t y = 1 then y ^^^ w else y
theorem xch_lin (k w t : Nat) : Lin (xch k w t) := by
  have L := pt_lin k t
  refine ⟨by unfold xch; rw [L.z]; simp, fun a b => ?_⟩
  unfold xch
  rw [L.x]
  rcases pt_01 k t a with ha | ha <;> rcases pt_01 k t b with hb | hb <;> rw [ha, hb] <;> simp
  · rw [Nat.xor_assoc]
  · rw [Nat.xor_assoc, Nat.xor_comm b w, Nat.xor_assoc]
  · rw [xor4, Nat.xor_self, Nat.xor_zero]
theorem xch_twice {k w t : Nat} (h : pt k t w = 0) (y : Nat) : xch k w t (xch k w t y) = y := by
  have L := pt_lin k t
  unfold xch
  rcases pt_01 k t y with hy | hy
  · simp [hy]
  · simp [hy, L.x, h, Nat.xor_assoc]
/-- the sums of places and images -/
def dcl (b : Nat) (N : List Nat) : List Nat := colsf b fun x => img N x ^^^ x
def drf (b s : Nat) (N : List Nat) : List Nat := (List.range b).map fun i => (N.getD i 0 ^^^ 1 <<< i) >>> s
theorem dcl_lin (N : List Nat) : Lin fun x => img N x ^^^ x := lin2 (lin_img N) lin_id
theorem drf_len (b s : Nat) (N : List Nat) : (drf b s N).length = b := by simp [drf]
theorem drf_eq {b s : Nat} {N : List Nat} (h : N.length = b) : drf b s N = (dcl b N).map fun x => x >>> s := by
  unfold drf dcl colsf
  rw [List.map_map]
  refine List.map_congr_left fun i hi => ?_
  show _ = (img N (1 <<< i) ^^^ 1 <<< i) >>> s
  rw [two1, img_unit _ (by rw [h]; exact List.mem_range.mp hi)]
theorem drf_img {b s : Nat} {N : List Nat} (h : N.length = b) {x : Nat} (hx : x < 2 ^ b) : img (drf b s N) x = (img N x ^^^ x) >>> s := by
  rw [drf_eq h, img_map (lin_shr s), dcl, colsf_img (dcl_lin N) hx]
theorem shl_rk (s : Nat) (A : List Nat) : rk (A.map fun x => x <<< s) = rk A := by
  have := jn_rk (n := s) (A := []) (B := A) (fun x hx => by cases hx)
  have e : rk ([] : List Nat) = 0 := rfl
  rw [e, Nat.zero_add] at this
  exact this
theorem ks_drift {b s : Nat} {N : List Nat} (k : KS b s N) {x : Nat} (hx : x < 2 ^ b) : ((img N x ^^^ x) >>> s) <<< s = img N x ^^^ x := by
  have := lo_hi s (img N x ^^^ x)
  rwa [(lin_lo s).x, k x hx, Nat.xor_self, Nat.zero_xor] at this
theorem drf_rk {b s : Nat} {N : List Nat} (h : N.length = b) (k : KS b s N) : rk (drf b s N) = rk (dcl b N) := by
  have e : dcl b N = (drf b s N).map fun x => x <<< s := by
    rw [drf_eq h, List.map_map]
    unfold dcl colsf
    rw [List.map_map]
    refine List.map_congr_left fun i hi => ?_
    show _ = ((img N (1 <<< i) ^^^ 1 <<< i) >>> s) <<< s
    rw [ks_drift k (by rw [two1]; exact Nat.pow_lt_pow_right (by decide) (List.mem_range.mp hi))]
  rw [e, shl_rk]
/-- slot moves ahead and behind change nothing -/
theorem drf_spl {b s : Nat} {M F X L : List Nat} (hM : M.length = b) (sp : Spl b s M F X L) : rk (drf b s M) = rk (drf b s X) := by
  have e : drf b s M = F.map (img (drf b s X)) := ext_cols (b := b) (drf_len b s M) (by rw [List.length_map, sp.f.len]) fun x hx => by
    rw [img_comp, drf_img hM hx, drf_img sp.k.len (sp.f.img_lt x), ← sp.all x hx]
    rw [(lin_shr s).x, (lin_shr s).x, sp.kl _ (sp.k.img_lt _), sp.kf x hx]
  rw [e]
  exact rk_eq fun x => sp.f.span (drf_len b s X) x
/-- what one exchange does to a lane move -/
structure Stp (b s : Nat) (N : List Nat) (w t : Nat) : Prop where
  mem : w ∈ dcl b N
  told : ∃ t0, pt b t0 w = 1 ∧ pt b t0 (w ^^^ img (inv b N) w) = 0 ∧ ∀ y, y < 2 ^ b → pt b t y = pt b t0 (img (inv b N) y ^^^ y)
section
variable {b s : Nat} {N : List Nat} {w t : Nat} (h : Mix b N) (hs : s ≤ b) (k : KS b s N) (st : Stp b s N w t)
include h hs k st
theorem stp_w : w < 2 ^ b ∧ (w >>> s) <<< s = w ∧ w ≠ 0 ∧ pt b t w = 0 := by
  obtain ⟨i, hi, e⟩ := List.mem_map.mp st.mem
  have hi : 1 <<< i < 2 ^ b := by rw [two1]; exact Nat.pow_lt_pow_right (by decide) (List.mem_range.mp hi)
  obtain ⟨t0, h1, h2, h3⟩ := st.told
  have wl : w < 2 ^ b := by rw [← e]; exact Nat.xor_lt_two_pow (h.img_lt _) hi
  refine ⟨wl, by rw [← e]; exact ks_drift k hi, fun z => ?_, ?_⟩
  · rw [z, (pt_lin b t0).z] at h1
    cases h1
  · rw [h3 w wl, Nat.xor_comm]
    exact h2
theorem stp_img (x : Nat) : img (N.map (xch b w t)) x = xch b w t (img N x) := img_map (xch_lin b w t) N x
theorem stp_back (x : Nat) : xch b w t (img (N.map (xch b w t)) x) = img N x := by rw [stp_img h hs k st, xch_twice (stp_w h hs k st).2.2.2]
theorem xch_lt {y : Nat} (hy : y < 2 ^ b) : xch b w t y < 2 ^ b := by
  unfold xch
  split
  · exact Nat.xor_lt_two_pow hy (stp_w h hs k st).1
  · exact hy
theorem stp_mix : Mix b (N.map (xch b w t)) := by
  refine mix_of (by rw [List.length_map, h.len]) (fun x hx => ?_) fun x hx e => ?_
  · obtain ⟨y, hy, rfl⟩ := List.mem_map.mp hx
    exact xch_lt h hs k st (h.lt y hy)
  · have := stp_back h hs k st x
    rw [e, (xch_lin b w t).z] at this
    exact h.inj0 hx this.symm
theorem stp_ks : KS b s (N.map (xch b w t)) := fun x hx => by
  rw [stp_img h hs k st]
  unfold xch
  split
  · rw [(lin_lo s).x, k x hx, ← (stp_w h hs k st).2.1, lo_shl, Nat.xor_zero]
  · exact k x hx
theorem stp_rk : rk (dcl b (N.map (xch b w t))) + 1 = rk (dcl b N) := by
  obtain ⟨t0, h1, h2, h3⟩ := st.told
  have L0 := pt_lin b t0
  have e : dcl b (N.map (xch b w t)) = (dcl b N).map (xch b w t0) := by
    unfold dcl colsf
    rw [List.map_map]
    refine List.map_congr_left fun i hi => ?_
    have hi : 1 <<< i < 2 ^ b := by rw [two1]; exact Nat.pow_lt_pow_right (by decide) (List.mem_range.mp hi)
    show img (N.map (xch b w t)) (1 <<< i) ^^^ 1 <<< i = xch b w t0 (img N (1 <<< i) ^^^ 1 <<< i)
    rw [stp_img h hs k st]
    have q := h3 (img N (1 <<< i)) (h.img_lt _)
    rw [inv_left h hi, Nat.xor_comm (1 <<< i)] at q
    unfold xch
    rw [q]
    split
    · rw [Nat.xor_assoc, Nat.xor_assoc, Nat.xor_comm w]
    · rfl
  rw [e]
  have out : ¬ Spn ((dcl b N).map (xch b w t0)) w := fun z => by
    have all : ∀ v, Spn ((dcl b N).map (xch b w t0)) v → pt b t0 v = 0 := fun v hv => by
      obtain ⟨y, _, rfl⟩ := (xch_lin b w t0).back hv
      unfold xch
      rcases pt_01 b t0 y with hy | hy
      · simp [hy]
      · simp [hy, L0.x, h1]
    rw [all w z] at h1
    cases h1
  rw [← rk_snoc_out out]
  refine rk_eq fun x => ?_
  have wS : Spn (dcl b N) w := .of st.mem
  constructor
  · intro q
    refine q.mono fun v hv => ?_
    rcases List.mem_append.mp hv with hv | hv
    · obtain ⟨y, hy, rfl⟩ := List.mem_map.mp hv
      unfold xch
      split
      · exact (Spn.of hy).xor wS
      · exact .of hy
    · rw [List.mem_singleton.mp hv]; exact wS
  · intro q
    refine q.mono fun v hv => ?_
    have a : Spn ((dcl b N).map (xch b w t0) ++ [w]) (xch b w t0 v) := .of (List.mem_append_left _ (List.mem_map.mpr ⟨v, hv, rfl⟩))
    have c : Spn ((dcl b N).map (xch b w t0) ++ [w]) w := .of (List.mem_append_right _ (List.mem_singleton_self _))
    unfold xch at a
    split at a
    · have := a.xor c
      rwa [Nat.xor_assoc, Nat.xor_self, Nat.xor_zero] at this
    · exact a
end
theorem dcl_zero {b : Nat} {N : List Nat} (h : N.length = b) (e : ∀ i, i < b → N.getD i 0 = 1 <<< i) : N = units b :=
  getD_ext (by rw [h, units_len]) fun i hi => by rw [e i (by omega), units_at (by omega)]
theorem rk_units0 (b : Nat) : rk (dcl b (units b)) = 0 := by
  have z : ∀ x ∈ dcl b (units b), Spn ([] : List Nat) x := fun x hx => by
    obtain ⟨i, hi, rfl⟩ := List.mem_map.mp hx
    have hi : 1 <<< i < 2 ^ b := by rw [two1]; exact Nat.pow_lt_pow_right (by decide) (List.mem_range.mp hi)
    show Spn [] (img (units b) (1 <<< i) ^^^ 1 <<< i)
    rw [units_img hi, Nat.xor_self]
    exact .zero
  have := rk_le z
  have e : rk ([] : List Nat) = 0 := rfl
  omega
/-! ### telling -/
def lwbit (n : Nat) : Nat := n - (n &&& (n - 1))
def tell (w u : Nat) : Nat := if w ^^^ (w &&& u) ≠ 0 then lwb (w ^^^ (w &&& u)) else lwb w ^^^ lwb (u ^^^ w)
theorem pt_lwb {k n x : Nat} (h : n ≠ 0) (hk : n < 2 ^ k) : pt k (lwb n) x = if x.testBit (low n) = true then 1 else 0 := by
  have lt : low n < k := by
    have := low_bit h
    by_cases z : low n < k
    · exact z
    · rw [Nat.testBit_lt_two_pow (Nat.lt_of_lt_of_le hk (Nat.pow_le_pow_right (by decide) (by omega)))] at this
      cases this
  unfold pt
  rw [lwb_eq h]
  by_cases e : x.testBit (low n) = true
  · have q : x &&& 2 ^ low n = 2 ^ low n := Nat.eq_of_testBit_eq fun i => by
      rw [Nat.testBit_and, Nat.testBit_two_pow]
      by_cases z : low n = i
      · subst z; simp [e]
      · simp [z]
    rw [if_pos e, q, par_img, img_unit _ (by simpa using lt), rep_at lt]
  · have q : x &&& 2 ^ low n = 0 := Nat.eq_of_testBit_eq fun i => by
      rw [Nat.testBit_and, Nat.testBit_two_pow, Nat.zero_testBit]
      by_cases z : low n = i
      · subst z
        have : x.testBit (low n) = false := by cases h : x.testBit (low n) <;> simp_all
        simp [this]
      · simp [z]
    rw [if_neg e, q, (par_lin k).z]
theorem pt_and (k a c x : Nat) : pt k (a ^^^ c) x = pt k a x ^^^ pt k c x := by
  unfold pt
  rw [Nat.and_xor_distrib_left, (par_lin k).x]
theorem tell_ok {k w u : Nat} (hw : w < 2 ^ k) (hu : u < 2 ^ k) (w0 : w ≠ 0) (ne : u ≠ w) : pt k (tell w u) w = 1 ∧ pt k (tell w u) u = 0 := by
  unfold tell
  by_cases f : w ^^^ (w &&& u) ≠ 0
  · rw [if_pos f]
    have fl : w ^^^ (w &&& u) < 2 ^ k := Nat.xor_lt_two_pow hw (Nat.lt_of_le_of_lt Nat.and_le_left hw)
    have lb := low_bit f
    rw [pt_lwb f fl, pt_lwb f fl]
    generalize low (w ^^^ (w &&& u)) = i at *
    rw [Nat.testBit_xor, Nat.testBit_and] at lb
    cases hw' : w.testBit i <;> cases hu' : u.testBit i <;> simp_all
  · have f0 : w ^^^ (w &&& u) = 0 := Decidable.not_not.mp f
    rw [if_neg f]
    have sub : ∀ i, w.testBit i = true → u.testBit i = true := fun i hi => by
      have := congrArg (fun n => n.testBit i) f0
      simp only [Nat.testBit_xor, Nat.testBit_and, Nat.zero_testBit, hi] at this
      cases h : u.testBit i <;> simp_all
    have r0 : u ^^^ w ≠ 0 := xor_ne ne
    have rl : u ^^^ w < 2 ^ k := Nat.xor_lt_two_pow hu hw
    have b1 := low_bit w0
    have b2 := low_bit r0
    rw [pt_and, pt_and, pt_lwb w0 hw, pt_lwb r0 rl, pt_lwb w0 hw, pt_lwb r0 rl]
    have c1 := sub _ b1
    have c2 : w.testBit (low (u ^^^ w)) = false ∧ u.testBit (low (u ^^^ w)) = true := by
      rw [Nat.testBit_xor] at b2
      have := sub (low (u ^^^ w))
      cases h1 : w.testBit (low (u ^^^ w)) <;> cases h2 : u.testBit (low (u ^^^ w)) <;> simp_all
    rw [b1, c1, c2.1, c2.2]
    decide
/-! ### walking stages -/
def wlk (b s : Nat) (l : List (Nat × Nat)) (y : Nat) : Nat := l.foldl (fun y p => xch b (p.1 <<< s) p.2 y) y
end LaneX
set_option linter.all false
namespace LaneX
/-! ### words with independent drifts, one by one -/
structure Dft (W : List Nat) (i : Nat) (R P : List Nat) : Prop where
  r : Rws R
  rl : R.length = P.length
  all : ∀ j, j < i → Spn R (W.getD j 0)
  sub : ∀ x ∈ P, ∃ j, j < i ∧ x = 1 <<< j
  sp : ∀ w, Spn R w ↔ Spn (P.map (img W)) w
theorem dft_start (W : List Nat) : Dft W 0 [] [] := ⟨Rws.nil, rfl, fun j hj => absurd hj (Nat.not_lt_zero _), (fun x hx => by cases hx), fun w => Iff.rfl⟩
theorem dft_skip {W R P : List Nat} {i : Nat} (h : Dft W i R P) (e : clr R (W.getD i 0) = 0) : Dft W (i + 1) R P := by
  refine ⟨h.r, h.rl, fun j hj => ?_, fun x hx => ?_, h.sp⟩
  · by_cases z : j < i
    · exact h.all j z
    · have : j = i := by omega
      subst this
      exact h.r.span.mpr e
  · obtain ⟨j, hj, e⟩ := h.sub x hx
    exact ⟨j, by omega, e⟩
theorem dft_take {W R P : List Nat} {i : Nat} (h : Dft W i R P) (hi : i < W.length) (e : clr R (W.getD i 0) ≠ 0) : Dft W (i + 1) (grw R (W.getD i 0)) (P ++ [1 <<< i]) := by
  have iu : img W (1 <<< i) = W.getD i 0 := by rw [two1, img_unit _ hi]
  refine ⟨grw_rws h.r _, by rw [grw_length, if_neg e, h.rl, List.length_append]; rfl, fun j hj => ?_, fun x hx => ?_, fun w => ?_⟩
  · refine (grw_span _ _).mpr ?_
    by_cases z : j < i
    · exact (h.all j z).sub fun y hy => List.mem_append_left _ hy
    · have : j = i := by omega
      subst this
      exact .of (List.mem_append_right _ (List.mem_singleton_self _))
  · rcases List.mem_append.mp hx with hx | hx
    · obtain ⟨j, hj, e⟩ := h.sub x hx
      exact ⟨j, by omega, e⟩
    · exact ⟨i, by omega, List.mem_singleton.mp hx⟩
  · rw [grw_span, List.map_append, List.map_cons, List.map_nil, iu]
    exact span_app h.sp
theorem dft_end {W R P : List Nat} (h : Dft W W.length R P) : (∀ x ∈ P, x < 2 ^ W.length) ∧ rk (P.map (img W)) = P.length ∧ P.length = rk W := by
  have e1 : rk (P.map (img W)) = P.length := by rw [← rk_eq h.sp, h.r.rk, h.rl]
  refine ⟨fun x hx => ?_, e1, ?_⟩
  · obtain ⟨j, hj, rfl⟩ := h.sub x hx
    rw [two1]
    exact Nat.pow_lt_pow_right (by decide) hj
  · rw [← e1]
    refine rk_eq fun w => ?_
    rw [← h.sp]
    constructor
    · intro q
      refine ((h.sp w).mp q).mono fun v hv => ?_
      obtain ⟨x, hx, rfl⟩ := List.mem_map.mp hv
      obtain ⟨j, hj, rfl⟩ := h.sub x hx
      exact img_in W (by rw [two1]; exact Nat.pow_lt_pow_right (by decide) hj)
    · intro q
      refine q.mono fun v hv => ?_
      obtain ⟨j, hj, e⟩ := List.getElem_of_mem hv
      have := h.all j hj
      rw [List.getD_eq_getElem?_getD, List.getElem?_eq_getElem hj] at this
      rw [← e]
      exact this
/-! ### the test of a stage -/
theorem pt_unit {b t i : Nat} (hi : i < b) : pt b t (1 <<< i) = if t.testBit i = true then 1 else 0 := by
  unfold pt
  rw [two1]
  by_cases e : t.testBit i = true
  · have q : 2 ^ i &&& t = 2 ^ i := Nat.eq_of_testBit_eq fun j => by
      rw [Nat.testBit_and, Nat.testBit_two_pow]
      by_cases z : i = j
      · subst z; simp [e]
      · simp [z]
    rw [if_pos e, q, par_img, img_unit _ (by simpa using hi), rep_at hi]
  · have q : 2 ^ i &&& t = 0 := Nat.eq_of_testBit_eq fun j => by
      rw [Nat.testBit_and, Nat.testBit_two_pow, Nat.zero_testBit]
      by_cases z : i = j
      · subst z
        have : t.testBit i = false := by cases h : t.testBit i <;> simp_all
        simp [this]
      · simp [z]
    rw [if_neg e, q, (par_lin b).z]
theorem pt_ext {b t : Nat} {f : Nat → Nat} (L : Lin f) (h : ∀ i, i < b → pt b t (1 <<< i) = f (1 <<< i)) {y : Nat} (hy : y < 2 ^ b) : pt b t y = f y := by
  rw [← colsf_img (pt_lin b t) hy, ← colsf_img L hy]
  congr 1
  unfold colsf
  exact List.map_congr_left fun i hi => h i (List.mem_range.mp hi)
/-- after i turns -/
structure Tst (g : Nat → Bool) (i t : Nat) : Prop where
  lt : t < 2 ^ i
  at_ : ∀ j, j < i → t.testBit j = g j
theorem tst_zero (g : Nat → Bool) : Tst g 0 0 := ⟨by decide, fun j hj => absurd hj (Nat.not_lt_zero _)⟩
theorem tst_skip {g : Nat → Bool} {i t : Nat} (h : Tst g i t) (e : g i = false) : Tst g (i + 1) t := by
  refine ⟨Nat.lt_of_lt_of_le h.lt (Nat.pow_le_pow_right (by decide) (Nat.le_succ i)), fun j hj => ?_⟩
  by_cases z : j < i
  · exact h.at_ j z
  · have : j = i := by omega
    subst this
    rw [Nat.testBit_lt_two_pow h.lt, e]
theorem tst_take {g : Nat → Bool} {i t : Nat} (h : Tst g i t) (e : g i = true) : Tst g (i + 1) (t ^^^ 1 <<< i) := by
  refine ⟨Nat.xor_lt_two_pow (Nat.lt_of_lt_of_le h.lt (Nat.pow_le_pow_right (by decide) (Nat.le_succ i))) (by rw [two1]; exact Nat.pow_lt_pow_right (by decide) (Nat.lt_succ_self i)), fun j hj => ?_⟩
  rw [Nat.testBit_xor, two1, Nat.testBit_two_pow]
  by_cases z : j < i
  · rw [h.at_ j z, decide_eq_false (by omega), Bool.xor_false]
  · have : j = i := by omega
    subst this
    rw [Nat.testBit_lt_two_pow h.lt, decide_eq_true rfl, e]
    rfl
theorem stp_of {b s : Nat} {N : List Nat} {i t : Nat} (h : Mix b N) (hi : i < b) (ne : N.getD i 0 ≠ 1 <<< i)
    (ht : Tst (fun j => od (img (inv b N) (1 <<< j) ^^^ 1 <<< j) (tell (N.getD i 0 ^^^ 1 <<< i) ((N.getD i 0 ^^^ 1 <<< i) ^^^ img (inv b N) (N.getD i 0 ^^^ 1 <<< i)))) b t) : Stp b s N (N.getD i 0 ^^^ 1 <<< i) t := by
  have ul : 1 <<< i < 2 ^ b := by rw [two1]; exact Nat.pow_lt_pow_right (by decide) hi
  have gm : N.getD i 0 ∈ N := getD_mem (by rw [h.len]; exact hi)
  have mem : N.getD i 0 ^^^ 1 <<< i ∈ dcl b N := by
    refine List.mem_map.mpr ⟨i, List.mem_range.mpr hi, ?_⟩
    show img N (1 <<< i) ^^^ 1 <<< i = _
    rw [two1, img_unit _ (by rw [h.len]; exact hi)]
  have wl : N.getD i 0 ^^^ 1 <<< i < 2 ^ b := Nat.xor_lt_two_pow (h.lt _ gm) ul
  have w0 : N.getD i 0 ^^^ 1 <<< i ≠ 0 := xor_ne ne
  generalize N.getD i 0 ^^^ 1 <<< i = w at *
  have I := inv_mix h
  have bw : img (inv b N) w ≠ 0 := fun z => w0 (I.inj0 wl z)
  have ul2 : w ^^^ img (inv b N) w < 2 ^ b := Nat.xor_lt_two_pow wl (I.img_lt w)
  have ne2 : w ^^^ img (inv b N) w ≠ w := fun z => by
    have := congrArg (fun y => w ^^^ y) z
    simp only [Nat.xor_self] at this
    rw [← Nat.xor_assoc, Nat.xor_self, Nat.zero_xor] at this
    exact bw this
  obtain ⟨t1, t2⟩ := tell_ok wl ul2 w0 ne2
  refine ⟨mem, tell w (w ^^^ img (inv b N) w), t1, t2, fun y hy => ?_⟩
  refine pt_ext (f := fun y => pt b (tell w (w ^^^ img (inv b N) w)) (img (inv b N) y ^^^ y)) ((pt_lin b _).comp (lin2 (lin_img _) lin_id)) (fun j hj => ?_) hy
  have uj : 1 <<< j < 2 ^ b := by rw [two1]; exact Nat.pow_lt_pow_right (by decide) hj
  rw [pt_unit hj, ht.at_ j hj, od_pt (Nat.xor_lt_two_pow (I.img_lt _) uj)]
  show _ = pt b _ (img (inv b N) (1 <<< j) ^^^ 1 <<< j)
  rcases pt_01 b (tell w (w ^^^ img (inv b N) w)) (img (inv b N) (1 <<< j) ^^^ 1 <<< j) with z | z <;> rw [z] <;> decide
/-! ### stages found -/
/-- valid stages -/
def Stv (b s : Nat) (st : List (Nat × Nat)) : Prop := ∀ p ∈ st, p.1 ≠ 0 ∧ p.1 < 2 ^ (b - s) ∧ p.2 < 2 ^ b ∧ pt b p.2 (p.1 <<< s) = 0
structure Lst (b s : Nat) (X N : List Nat) (st : List (Nat × Nat)) : Prop where
  m : Mix b N
  k : KS b s N
  n : st.length + rk (dcl b N) = rk (dcl b X)
  w : ∀ x, x < 2 ^ b → wlk b s st.reverse (img N x) = img X x
  v : Stv b s st
theorem lst_start {b s : Nat} {X : List Nat} (m : Mix b X) (k : KS b s X) : Lst b s X X [] := ⟨m, k, Nat.zero_add _, fun x _ => rfl, fun p hp => by cases hp⟩
theorem lst_step {b s : Nat} {X N : List Nat} {st : List (Nat × Nat)} {w t : Nat} (hs : s ≤ b) (h : Lst b s X N st) (p : Stp b s N w t) (ht : t < 2 ^ b) : Lst b s X (N.map fun c => if od c t = true then c ^^^ w else c) (st ++ [(w >>> s, t)]) := by
  have e : (N.map fun c => if od c t = true then c ^^^ w else c) = N.map (xch b w t) := List.map_congr_left fun c hc => by
    unfold xch
    rw [od_pt (h.m.lt c hc)]
    by_cases z : pt b t c = 1
    · rw [if_pos (decide_eq_true z), if_pos z]
    · rw [if_neg (by rw [decide_eq_false z]; decide), if_neg z]
  rw [e]
  obtain ⟨wl, wh, w0, pw⟩ := stp_w h.m hs h.k p
  have r := stp_rk h.m hs h.k p
  refine ⟨stp_mix h.m hs h.k p, stp_ks h.m hs h.k p, ?_, fun x hx => ?_, fun q hq => ?_⟩
  · have := h.n
    rw [List.length_append, List.length_singleton]
    omega
  · rw [List.reverse_append]
    show wlk b s st.reverse (xch b ((w >>> s) <<< s) t (img (N.map (xch b w t)) x)) = _
    rw [wh, stp_back h.m hs h.k p]
    exact h.w x hx
  · rcases List.mem_append.mp hq with hq | hq
    · exact h.v q hq
    · rw [List.mem_singleton.mp hq]
      refine ⟨fun z => w0 (by rw [← wh, show w >>> s = 0 from z, Nat.zero_shiftLeft]), hi_lt hs wl, ht, by rw [wh]; exact pw⟩
theorem lst_end {b s : Nat} {X N : List Nat} {st : List (Nat × Nat)} (h : Lst b s X N st) (e : N = units b) : st.length = rk (dcl b X) ∧ (∀ x, x < 2 ^ b → wlk b s st.reverse x = img X x) := by
  subst e
  have n := h.n
  rw [rk_units0, Nat.add_zero] at n
  refine ⟨n, fun x hx => ?_⟩
  have := h.w x hx
  rwa [units_img hx] at this
end LaneX
set_option linter.all false
namespace LaneX
/-! ### drifts of moves one behind another -/
theorem drf_at {b s : Nat} {N : List Nat} {i : Nat} (hi : i < b) : (drf b s N).getD i 0 = (N.getD i 0 ^^^ 1 <<< i) >>> s := by
  unfold drf
  rw [List.getD_eq_getElem?_getD, List.getElem?_map, List.getElem?_range hi]
  rfl
theorem pow_lt {i b : Nat} (h : i < b) : 1 <<< i < 2 ^ b := by rw [two1]; exact Nat.pow_lt_pow_right (by decide) h
theorem drf_unit {b s : Nat} {N : List Nat} {v : Nat} (hv : v ∈ drf b s N) : ∃ i, i < b ∧ v = img (drf b s N) (1 <<< i) := by
  obtain ⟨i, hi, e⟩ := List.getElem_of_mem hv
  have l := drf_len b s N
  refine ⟨i, by omega, ?_⟩
  rw [two1, img_unit _ hi, List.getD_eq_getElem?_getD, List.getElem?_eq_getElem hi, e]
  rfl
theorem drf_behind {b s : Nat} {A B : List Nat} (hA : Mix b A) (hB : Mix b B) : rk (drf b s (B.map (img A))) ≤ rk (drf b s A) + rk (drf b s B) := by
  refine Nat.le_trans (rk_le fun v hv => ?_) (rk_app _ _)
  obtain ⟨i, hi, rfl⟩ := drf_unit hv
  have hx := pow_lt hi
  have lA := drf_len b s A
  have lB := drf_len b s B
  have e : img (drf b s (B.map (img A))) (1 <<< i) = img (drf b s A) (img B (1 <<< i)) ^^^ img (drf b s B) (1 <<< i) := by
    rw [drf_img (mix_comp hA hB).len hx, drf_img hA.len (hB.img_lt _), drf_img hB.len hx, img_comp, ← (lin_shr s).x]
    congr 1
    rw [Nat.xor_assoc, ← Nat.xor_assoc (img B (1 <<< i)), Nat.xor_self, Nat.zero_xor]
  rw [e]
  refine Spn.xor ?_ ?_
  · exact (img_in _ (by rw [lA]; exact hB.img_lt _)).sub fun y hy => List.mem_append_left _ hy
  · exact (img_in _ (by rw [lB]; exact hx)).sub fun y hy => List.mem_append_right _ hy
theorem rk_zero_iff {A : List Nat} : rk A = 0 ↔ ∀ x ∈ A, x = 0 := by
  constructor
  · intro h x hx
    by_cases z : x = 0
    · exact z
    · have o : rk ([] ++ [x]) = rk [] + 1 := rk_snoc_out fun q => z q.nil
      have : rk [x] ≤ rk A := rk_le fun y hy => by rw [List.mem_singleton.mp hy]; exact .of hx
      rw [List.nil_append] at o
      omega
  · intro h
    have : rk A ≤ rk [] := rk_le fun x hx => by rw [h x hx]; exact .zero
    have e : rk ([] : List Nat) = 0 := rfl
    omega
theorem kl_zero {b s : Nat} {M : List Nat} (hM : M.length = b) : (rk (drf b s M) = 0) ↔ KL b s M := by
  rw [rk_zero_iff]
  constructor
  · intro h x hx
    have e := drf_img (s := s) hM hx
    have z : img (drf b s M) x = 0 := (Spn.mono (vs := []) (img_in (drf b s M) (by rw [drf_len]; exact hx)) fun y hy => by rw [h y hy]; exact .zero).nil
    rw [z, (lin_shr s).x] at e
    exact xor_eq_zero e.symm
  · intro k v hv
    obtain ⟨i, hi, rfl⟩ := drf_unit hv
    rw [drf_img hM (pow_lt hi), (lin_shr s).x, k _ (pow_lt hi), Nat.xor_self]
theorem kl_cols {b s : Nat} {M : List Nat} (h : M.length = b) (e : ∀ i, i < b → M.getD i 0 >>> s = (1 <<< i) >>> s) : KL b s M :=
  (kl_zero h).mp (rk_zero_iff.mpr fun v hv => by
    obtain ⟨i, hi, rfl⟩ := List.mem_map.mp hv
    rw [(lin_shr s).x, e i (List.mem_range.mp hi), Nat.xor_self])
theorem klb_kl {b s : Nat} {M : List Nat} (h : M.length = b) (e : klb b s M = true) : KL b s M := by
  unfold klb at e
  rw [List.all_eq_true] at e
  exact kl_cols h fun i hi => of_decide_eq_true (e i (List.mem_range.mpr hi))
theorem zero_klb {b s : Nat} {M : List Nat} (h : M.length = b) : decide (rk (drf b s M) = 0) = klb b s M := by
  cases e : klb b s M
  · refine decide_eq_false fun z => ?_
    rw [klb_true h ((kl_zero h).mp z)] at e
    cases e
  · exact decide_eq_true ((kl_zero h).mpr (klb_kl h e))
theorem kl_slot {s l : Nat} {A B : List Nat} (hA : Mix s A) (hB : B.length = l) (lt : ∀ x ∈ B, x < 2 ^ s) : KL (s + l) s (A ++ (List.range l).map fun i => 1 <<< (s + i) ^^^ B.getD i 0) := by
  have la := hA.len
  refine kl_cols (mix_slot hA hB lt).len fun i hi => ?_
  rw [app_at, la]
  by_cases z : i < s
  · rw [if_pos z, unit_hi, if_pos z]
    refine hi_of_lt ?_
    rw [List.getD_eq_getElem?_getD, List.getElem?_eq_getElem (by omega)]
    exact hA.lt _ (List.getElem_mem _)
  · rw [if_neg z, List.getD_eq_getElem?_getD, List.getElem?_map, List.getElem?_range (by omega)]
    show (1 <<< (s + (i - s)) ^^^ B.getD (i - s) 0) >>> s = _
    rw [show s + (i - s) = i by omega, (lin_shr s).x]
    have : B.getD (i - s) 0 < 2 ^ s := by
      rw [List.getD_eq_getElem?_getD, List.getElem?_eq_getElem (by omega)]
      exact lt _ (List.getElem_mem _)
    rw [hi_of_lt this, Nat.xor_zero]
/-- slot moves behind -/
theorem drf_kl {b s : Nat} {S M : List Nat} (hS : Mix b S) (hM : Mix b M) (k : KL b s S) : drf b s (M.map (img S)) = drf b s M :=
  ext_cols (b := b) (drf_len ..) (drf_len ..) fun x hx => by
    rw [drf_img (mix_comp hS hM).len hx, drf_img hM.len hx, img_comp, (lin_shr s).x, (lin_shr s).x, k _ (hM.img_lt _)]
/-- slot moves ahead -/
theorem drf_ahead {b s : Nat} {S M : List Nat} (hS : Mix b S) (hM : Mix b M) (k : KL b s S) : rk (drf b s (S.map (img M))) = rk (drf b s M) := by
  have e : drf b s (S.map (img M)) = S.map (img (drf b s M)) := ext_cols (b := b) (drf_len ..) (by rw [List.length_map, hS.len]) fun x hx => by
    rw [drf_img (mix_comp hM hS).len hx, img_comp, img_comp, drf_img hM.len (hS.img_lt _), (lin_shr s).x, (lin_shr s).x, k _ hx]
  rw [e]
  exact rk_eq fun x => hS.span (drf_len b s M) x
/-- undone -/
theorem drf_back {b s : Nat} {M U : List Nat} (hM : Mix b M) (hU : U.length = b) (e : ∀ x, x < 2 ^ b → img U (img M x) = x) : rk (drf b s U) = rk (drf b s M) := by
  have q : drf b s M = M.map (img (drf b s U)) := ext_cols (b := b) (drf_len ..) (by rw [List.length_map, hM.len]) fun x hx => by
    rw [drf_img hM.len hx, img_comp, drf_img hU (hM.img_lt _), e x hx, Nat.xor_comm]
  rw [q]
  exact (rk_eq fun x => hM.span (drf_len b s U) x).symm
theorem drf_lanes {b s : Nat} {M : List Nat} (hM : Mix b M) (hs : s ≤ b) : rk (drf b s M) ≤ b - s := rk_le_bits fun v hv => by
  obtain ⟨i, hi, rfl⟩ := drf_unit hv
  rw [drf_img hM.len (pow_lt hi)]
  exact hi_lt hs (Nat.xor_lt_two_pow (hM.img_lt _) (pow_lt hi))
/-! ### a drawn exchange -/
def xcl (b w t : Nat) : List Nat := colsf b (xch b w t)
theorem xcl_at {b w t i : Nat} (h : i < b) : (xcl b w t).getD i 0 = if t.testBit i = true then 1 <<< i ^^^ w else 1 <<< i := by
  unfold xcl
  rw [colsf_at _ h]
  unfold xch
  rw [pt_unit h]
  by_cases z : t.testBit i = true
  · rw [if_pos z, if_pos z, if_pos rfl]
  · rw [if_neg z, if_neg z, if_neg (by decide)]
theorem xcl_mix {b w t : Nat} (hw : w < 2 ^ b) (e : pt b t w = 0) : Mix b (xcl b w t) := by
  refine mix_colsf (xch_lin b w t) (fun x hx => ?_) fun x hx z => ?_
  · unfold xch
    split
    · exact Nat.xor_lt_two_pow hx hw
    · exact hx
  · have := xch_twice e x
    rw [z, (xch_lin b w t).z] at this
    exact this.symm
theorem xcl_rk {b s w t : Nat} : rk (drf b s (xcl b w t)) ≤ 1 := by
  refine Nat.le_trans (rk_le (b := [w >>> s]) fun v hv => ?_) (rk_len _)
  obtain ⟨i, hi, rfl⟩ := List.mem_map.mp hv
  rw [xcl_at (List.mem_range.mp hi)]
  split
  · rw [Nat.xor_comm (1 <<< i) w, Nat.xor_assoc, Nat.xor_self, Nat.xor_zero]
    exact .of (List.mem_singleton_self _)
  · rw [Nat.xor_self, Nat.zero_shiftRight]
    exact .zero
def xtt (w t : Nat) : Nat := if od w t = true then t ^^^ lwb w else t
theorem xtt_ok {b w t : Nat} (hw : w < 2 ^ b) (h0 : w ≠ 0) : pt b (xtt w t) w = 0 := by
  unfold xtt
  rw [od_pt hw]
  rcases pt_01 b t w with z | z
  · rw [z]; simp [z]
  · rw [z, if_pos (by decide), pt_and, pt_lwb h0 hw, low_bit h0, z]
    decide
/-! ### undoing by clearing one bit after the other -/
structure Unp (n : Nat) (C U : List Nat) (B : Nat) : Prop where
  m : Mix n U
  a : ∀ j i, j < B → i < B → (img C (U.getD j 0)).testBit i = decide (i = j)
  z : ∀ u ∈ U.drop B, ∀ i, i < B → (img C u).testBit i = false
theorem unp_start (n : Nat) (C : List Nat) : Unp n C (units n) 0 := ⟨mix_units n, fun j i hj => absurd hj (Nat.not_lt_zero _), fun u hu i hi => absurd hi (Nat.not_lt_zero _)⟩
theorem mem_drop {U : List Nat} {B i : Nat} (h : B ≤ i) (hi : i < U.length) : U.getD i 0 ∈ U.drop B := by
  rw [List.getD_eq_getElem?_getD, List.getElem?_eq_getElem hi]
  refine List.mem_of_getElem? (i := i - B) ?_
  rw [List.getElem?_drop, show B + (i - B) = i by omega, List.getElem?_eq_getElem hi]
  rfl
theorem unp_find {n B : Nat} {C U : List Nat} (hC : Mix n C) (h : Unp n C U B) (hB : B < n) : ∃ u ∈ U.drop B, (img C u).testBit B = true := by
  by_cases q : ∃ u ∈ U.drop B, (img C u).testBit B = true
  · exact q
  exfalso
  have no : ∀ u ∈ U.drop B, (img C u).testBit B = false := fun u hu => by
    cases e : (img C u).testBit B
    · rfl
    · exact absurd ⟨u, hu, e⟩ q
  have mP := mix_comp hC h.m
  have lU := h.m.len
  have lP := mP.len
  have at' : ∀ i, i < n → (U.map (img C)).getD i 0 = img C (U.getD i 0) := fun i hi => map_at (by omega)
  have hx := inv_right mP (pow_lt hB)
  generalize img (inv n (U.map (img C))) (1 <<< B) = x at hx
  have hx : imf (U.map (img C)) x (U.map (img C)).length = 1 <<< B := hx
  rw [lP] at hx
  have low0 : ∀ j, j < B → x.testBit j = false := fun j hj => by
    have e := imf_stay (A := U.map (img C)) (x := x) (t := j) (m := j + 1) (n - (j + 1)) fun i h1 h2 _ => by
      rw [at' i (by omega)]
      by_cases z : i < B
      · rw [h.a i j z hj]
        exact decide_eq_false (by omega)
      · exact h.z _ (mem_drop (by omega) (by omega)) j hj
    rw [show j + 1 + (n - (j + 1)) = n by omega] at e
    have e0 : (imf (U.map (img C)) x j).testBit j = false := imf_bit fun i hi => by
      rw [at' i (by omega), h.a i j (by omega) hj]
      exact decide_eq_false (by omega)
    rw [hx, unit_bit, decide_eq_false (by omega), imf_succ] at e
    cases q : x.testBit j
    · rfl
    · rw [q, if_pos rfl, Nat.testBit_xor, e0, at' j (by omega), h.a j j hj hj] at e
      simp at e
  have e := imf_stay (A := U.map (img C)) (x := x) (t := B) (m := B) (n - B) fun i h1 h2 _ => by
    rw [at' i (by omega)]
    exact no _ (mem_drop h1 (by omega))
  rw [show B + (n - B) = n by omega, hx, unit_bit, imf_none B low0, Nat.zero_testBit] at e
  simp at e
def fxm (C : List Nat) (B m u : Nat) : Nat := if (img C u).testBit B = true then u ^^^ m else u
theorem unp_out {n B : Nat} {C U A R : List Nat} {m : Nat} (h : Unp n C U B) (e : U.drop B = A ++ m :: R) : U.filter (fun u => decide (u ≠ m)) = U.take B ++ (A ++ R) := by
  have e2 : U = U.take B ++ (A ++ m :: R) := by rw [← e, List.take_append_drop]
  have lU := h.m.len
  have ne : ∀ u ∈ U.take B ++ (A ++ R), u ≠ m := fun u hu z => by
    subst z
    have : rk U ≤ rk (U.take B ++ (A ++ R)) := rk_le fun x hx => by
      refine .of ?_
      rw [e2] at hx
      simp only [List.mem_append, List.mem_cons] at hx hu ⊢
      rcases hx with hx | hx | rfl | hx
      · exact .inl hx
      · exact .inr (.inl hx)
      · exact hu
      · exact .inr (.inr hx)
    have l2 := rk_len (U.take B ++ (A ++ R))
    have l3 := congrArg List.length e2
    simp only [List.length_append, List.length_cons] at l2 l3
    have := h.m.rk
    omega
  have all : ∀ l : List Nat, (∀ u ∈ l, u ≠ m) → l.filter (fun u => decide (u ≠ m)) = l := fun l hl => List.filter_eq_self.mpr fun u hu => decide_eq_true (hl u hu)
  have f1 : U.filter (fun u => decide (u ≠ m)) = (U.take B ++ (A ++ m :: R)).filter (fun u => decide (u ≠ m)) := congrArg _ e2
  rw [f1, List.filter_append, List.filter_append, List.filter_cons_of_neg (by simp), ← List.filter_append, ← List.filter_append, all _ ne]
theorem unp_step {n B : Nat} {C U A R : List Nat} {m : Nat} (h : Unp n C U B) (hB : B < n) (e : U.drop B = A ++ m :: R) (hm : (img C m).testBit B = true) :
    Unp n C ((U.take B).map (fxm C B m) ++ m :: (A ++ R).map (fxm C B m)) (B + 1) := by
  have e2 : U = U.take B ++ (A ++ m :: R) := by rw [← e, List.take_append_drop]
  have lU := h.m.len
  have lT : (U.take B).length = B := by rw [List.length_take]; omega
  have l3 := congrArg List.length e2
  simp only [List.length_append, List.length_cons] at l3
  have mD : m ∈ U.drop B := by rw [e]; exact List.mem_append_right _ (List.mem_cons_self ..)
  have mU : m ∈ U := List.mem_of_mem_drop mD
  have sub : ∀ u, u ∈ A ++ R → u ∈ U.drop B := fun u hu => by
    rw [e]
    simp only [List.mem_append, List.mem_cons] at hu ⊢
    rcases hu with hu | hu
    · exact .inl hu
    · exact .inr (.inr hu)
  have m0 : ∀ i, i < B → (img C m).testBit i = false := h.z m mD
  have fb : ∀ u, (img C (fxm C B m u)).testBit B = false := fun u => by
    unfold fxm
    split
    · rename_i q
      rw [(lin_img C).x, Nat.testBit_xor, q, hm]
      rfl
    · rename_i q
      cases z : (img C u).testBit B
      · rfl
      · exact absurd z q
  have fi : ∀ u i, i < B → (img C (fxm C B m u)).testBit i = (img C u).testBit i := fun u i hi => by
    unfold fxm
    split
    · rw [(lin_img C).x, Nat.testBit_xor, m0 i hi, Bool.xor_false]
    · rfl
  refine ⟨⟨?_, ?_, ?_⟩, ?_, ?_⟩
  · simp only [List.length_append, List.length_cons, List.length_map]
    omega
  · intro x hx
    have f : ∀ u ∈ U, fxm C B m u < 2 ^ n := fun u hu => by
      unfold fxm
      split
      · exact Nat.xor_lt_two_pow (h.m.lt u hu) (h.m.lt m mU)
      · exact h.m.lt u hu
    rcases List.mem_append.mp hx with hx | hx
    · obtain ⟨u, hu, rfl⟩ := List.mem_map.mp hx
      exact f u (List.mem_of_mem_take hu)
    · rcases List.mem_cons.mp hx with rfl | hx
      · exact h.m.lt _ mU
      · obtain ⟨u, hu, rfl⟩ := List.mem_map.mp hx
        exact f u (List.mem_of_mem_drop (sub u hu))
  · rw [← h.m.rk]
    have mN : m ∈ (U.take B).map (fxm C B m) ++ m :: (A ++ R).map (fxm C B m) := List.mem_append_right _ (List.mem_cons_self ..)
    have fN : ∀ u, u ∈ U.take B ∨ u ∈ A ++ R → fxm C B m u ∈ (U.take B).map (fxm C B m) ++ m :: (A ++ R).map (fxm C B m) := fun u hu => by
      rcases hu with hu | hu
      · exact List.mem_append_left _ (List.mem_map.mpr ⟨u, hu, rfl⟩)
      · exact List.mem_append_right _ (List.mem_cons_of_mem _ (List.mem_map.mpr ⟨u, hu, rfl⟩))
    have bk : ∀ u, u ∈ U.take B ∨ u ∈ A ++ R → Spn ((U.take B).map (fxm C B m) ++ m :: (A ++ R).map (fxm C B m)) u := fun u hu => by
      have q := Spn.of (fN u hu)
      unfold fxm at q
      generalize hL : List.map (fun u => if (img C u).testBit B = true then u ^^^ m else u) (List.take B U) ++ m :: List.map (fun u => if (img C u).testBit B = true then u ^^^ m else u) (A ++ R) = L at q
      have hL' : (U.take B).map (fxm C B m) ++ m :: (A ++ R).map (fxm C B m) = L := hL
      rw [hL'] at mN ⊢
      split at q
      · have := q.xor (.of mN)
        rwa [Nat.xor_assoc, Nat.xor_self, Nat.xor_zero] at this
      · exact q
    refine rk_eq fun x => ⟨fun q => q.mono fun v hv => ?_, fun q => q.mono fun v hv => ?_⟩
    · have f : ∀ u ∈ U, Spn U (fxm C B m u) := fun u hu => by
        unfold fxm
        split
        · exact (Spn.of hu).xor (.of mU)
        · exact .of hu
      rcases List.mem_append.mp hv with hx | hx
      · obtain ⟨u, hu, rfl⟩ := List.mem_map.mp hx
        exact f u (List.mem_of_mem_take hu)
      · rcases List.mem_cons.mp hx with rfl | hx
        · exact .of mU
        · obtain ⟨u, hu, rfl⟩ := List.mem_map.mp hx
          exact f u (List.mem_of_mem_drop (sub u hu))
    · rw [e2] at hv
      simp only [List.mem_append, List.mem_cons] at hv
      rcases hv with hv | hv | rfl | hv
      · exact bk v (.inl hv)
      · exact bk v (.inr (List.mem_append_left _ hv))
      · exact .of mN
      · exact bk v (.inr (List.mem_append_right _ hv))
  · intro j i hj hi
    rw [app_at, List.length_map, lT]
    by_cases z : j < B
    · rw [if_pos z, map_at (by omega)]
      have g : (U.take B).getD j 0 = U.getD j 0 := by rw [List.getD_eq_getElem?_getD, List.getD_eq_getElem?_getD, List.getElem?_take, if_pos z]
      rw [g]
      by_cases q : i < B
      · rw [fi _ i q, h.a j i z q]
      · have : i = B := by omega
        subst this
        rw [fb]
        exact (decide_eq_false (by omega)).symm
    · have : j = B := by omega
      subst this
      rw [if_neg (by omega), Nat.sub_self]
      show (img C m).testBit i = _
      by_cases q : i < j
      · rw [m0 i q]
        exact (decide_eq_false (by omega)).symm
      · have : i = j := by omega
        subst this
        rw [hm]
        exact (decide_eq_true rfl).symm
  · intro u hu i hi
    have d : ((U.take B).map (fxm C B m) ++ m :: (A ++ R).map (fxm C B m)).drop (B + 1) = (A ++ R).map (fxm C B m) := by
      rw [List.drop_append, List.length_map, lT, List.drop_of_length_le (by rw [List.length_map]; omega), List.nil_append, show B + 1 - B = 1 by omega]
      rfl
    rw [d] at hu
    obtain ⟨v, hv, rfl⟩ := List.mem_map.mp hu
    by_cases q : i < B
    · rw [fi _ i q]
      exact h.z v (sub v hv) i q
    · have : i = B := by omega
      subst this
      exact fb v
theorem unp_end {n : Nat} {C U : List Nat} (hC : Mix n C) (h : Unp n C U n) : ∀ x, x < 2 ^ n → img U (img C x) = x := by
  have lU := h.m.len
  have e : U.map (img C) = units n := getD_ext (by rw [List.length_map, lU, units_len]) fun j hj => by
    rw [List.length_map, lU] at hj
    rw [map_at (by omega), units_at hj]
    refine Nat.eq_of_testBit_eq fun i => ?_
    rw [unit_bit]
    by_cases q : i < n
    · rw [h.a j i hj q]
      by_cases z : i = j
      · subst z; rfl
      · rw [decide_eq_false z, decide_eq_false (fun y => z y.symm)]
    · rw [Nat.testBit_lt_two_pow (Nat.lt_of_lt_of_le (hC.img_lt _) (Nat.pow_le_pow_right (by decide) (by omega))), decide_eq_false (by omega)]
  intro x hx
  refine hC.inj (h.m.img_lt _) hx ?_
  rw [← img_comp, e, units_img (hC.img_lt x)]
theorem unp_units {n : Nat} {C U : List Nat} (hC : Mix n C) (e : ∀ x, x < 2 ^ n → img U (img C x) = x) : C.map (img U) = units n :=
  ext_cols (b := n) (by rw [List.length_map, hC.len]) (units_len n) fun x hx => by rw [img_comp, e x hx, units_img hx]
end LaneX
set_option linter.all false
set_option maxHeartbeats 1000000
namespace LaneX
/-! ### words that complete -/
structure Cpl (P Q X : List Nat) : Prop where
  i : ∀ x ∈ X, Spn Q x
  s : ∀ x, Spn Q x → Spn (P ++ X) x
  n : X.length + rk P = rk Q
theorem cpl_of {P Q : List Nat} (R : Rws P) (h : ∀ x ∈ P, Spn Q x) : Cpl P Q (cmpl P Q) := by
  obtain ⟨h1, h2, h3⟩ := base_of R h
  refine ⟨fun x hx => .of (cmpl_mem _ x hx), fun x hx => (h1 x).mpr hx, ?_⟩
  rw [← h3, List.length_append, R.rk]
  omega
/-- the same, of spaces told by what lies in them -/
def CplP (p q : Nat → Prop) (X : List Nat) : Prop := ∃ P Q, (∀ x, Spn P x ↔ p x) ∧ (∀ x, Spn Q x ↔ q x) ∧ Cpl P Q X
theorem CplP.iff {p q p' q' : Nat → Prop} {X : List Nat} (h : CplP p q X) (hp : ∀ x, p x ↔ p' x) (hq : ∀ x, q x ↔ q' x) : CplP p' q' X := by
  obtain ⟨P, Q, h1, h2, h3⟩ := h
  exact ⟨P, Q, fun x => (h1 x).trans (hp x), fun x => (h2 x).trans (hq x), h3⟩
theorem CplP.mem {p q : Nat → Prop} {X : List Nat} (h : CplP p q X) {x : Nat} (hx : x ∈ X) : q x := by
  obtain ⟨P, Q, h1, h2, h3⟩ := h
  exact (h2 x).mp (h3.i x hx)
theorem CplP.split {p q : Nat → Prop} {X : List Nat} (h : CplP p q X) {x : Nat} (hx : q x) : ∃ y z, p y ∧ Spn X z ∧ x = y ^^^ z := by
  obtain ⟨P, Q, h1, h2, h3⟩ := h
  obtain ⟨y, z, hy, hz, e⟩ := span_split (h3.s x ((h2 x).mpr hx))
  exact ⟨y, z, (h1 y).mp hy, hz, e⟩
theorem CplP.len {p q : Nat → Prop} {X A B : List Nat} (h : CplP p q X) (hA : ∀ x, Spn A x ↔ p x) (hB : ∀ x, Spn B x ↔ q x) : X.length + rk A = rk B := by
  obtain ⟨P, Q, h1, h2, h3⟩ := h
  rw [rk_eq fun x => (hA x).trans (h1 x).symm, rk_eq fun x => (hB x).trans (h2 x).symm]
  exact h3.n
/-! ### meets and sums of rows -/
def mt (b : Nat) (A B : List Nat) : List Nat := spn (mtd b A B)
def sm (A B : List Nat) : List Nat := spn (A ++ B)
def evr (b : Nat) : List Nat := spn (units b)
theorem mt_span {b : Nat} {A B : List Nat} (lt : ∀ x ∈ A, x < 2 ^ b) (x : Nat) : Spn (mt b A B) x ↔ Spn A x ∧ Spn B x := by
  unfold mt
  rw [spn_span, mtd_span lt]
theorem sm_span (A B : List Nat) (x : Nat) : Spn (sm A B) x ↔ Spn (A ++ B) x := spn_span _ x
theorem sm_rws (A B : List Nat) : Rws (sm A B) := spn_rws _
theorem mt_rws (b : Nat) (A B : List Nat) : Rws (mt b A B) := spn_rws _
theorem evr_span (b x : Nat) : Spn (evr b) x ↔ x < 2 ^ b := by
  unfold evr
  rw [spn_span]
  exact ⟨fun h => h.lt (mix_units b).lt, fun h => (mix_units b).all h⟩
theorem spn_ltb {b : Nat} {A : List Nat} (h : ∀ x ∈ A, x < 2 ^ b) : ∀ x ∈ spn A, x < 2 ^ b := fun x hx => ((spn_span A x).mp (.of hx)).lt h
theorem mt_lt {b : Nat} {A B : List Nat} (lt : ∀ x ∈ A, x < 2 ^ b) : ∀ x ∈ mt b A B, x < 2 ^ b := fun x hx => (((mt_span lt x).mp (.of hx)).1).lt lt
theorem sm_lt {b : Nat} {A B : List Nat} (hA : ∀ x ∈ A, x < 2 ^ b) (hB : ∀ x ∈ B, x < 2 ^ b) : ∀ x ∈ sm A B, x < 2 ^ b := spn_ltb fun x hx => (List.mem_append.mp hx).elim (hA x) (hB x)
theorem app_iff {A A' B B' : List Nat} (hA : ∀ x, Spn A x ↔ Spn A' x) (hB : ∀ x, Spn B x ↔ Spn B' x) (x : Nat) : Spn (A ++ B) x ↔ Spn (A' ++ B') x := by
  have go : ∀ {A A' B B' : List Nat}, (∀ x, Spn A x ↔ Spn A' x) → (∀ x, Spn B x ↔ Spn B' x) → Spn (A ++ B) x → Spn (A' ++ B') x := fun hA hB h => by
    obtain ⟨s, q, hs, hq, rfl⟩ := span_split h
    exact (((hA s).mp hs).sub fun y hy => List.mem_append_left _ hy).xor (((hB q).mp hq).sub fun y hy => List.mem_append_right _ hy)
  exact ⟨go hA hB, go (fun x => (hA x).symm) fun x => (hB x).symm⟩
theorem app_spl {A B : List Nat} {x : Nat} : Spn (A ++ B) x ↔ ∃ y z, Spn A y ∧ Spn B z ∧ x = y ^^^ z := by
  constructor
  · intro h
    obtain ⟨s, q, hs, hq, e⟩ := span_split h
    exact ⟨s, q, hs, hq, e⟩
  · rintro ⟨y, z, hy, hz, rfl⟩
    exact (hy.sub fun y hy => List.mem_append_left _ hy).xor (hz.sub fun y hy => List.mem_append_right _ hy)
/-- a space inside one of the same dimension is that one -/
theorem span_of_le {K L : List Nat} (h : ∀ x ∈ K, Spn L x) (e : rk L ≤ rk K) (x : Nat) : Spn L x ↔ Spn K x := by
  constructor
  · intro hx
    by_cases z : Spn K x
    · exact z
    · have o := rk_snoc_out z
      have := rk_le (a := K ++ [x]) (b := L) fun y hy => by
        rcases List.mem_append.mp hy with hy | hy
        · exact h y hy
        · rw [List.mem_singleton.mp hy]; exact hx
      omega
  · intro hx
    exact hx.mono h
theorem meet_rk {b : Nat} {A B : List Nat} (lt : ∀ x ∈ A, x < 2 ^ b) : rk (mt b (spn A) (spn B)) + rk (A ++ B) = rk A + rk B := by
  have h := mtd_len (spn_rws A) (spn_rws B) (spn_ltb lt)
  have e1 : rk (mt b (spn A) (spn B)) = (mtd b (spn A) (spn B)).length := by unfold mt; rw [rk_spn, (mtd_rws b _ _).rk]
  have e2 : rk (spn A ++ spn B) = rk (A ++ B) := rk_eq (app_iff (spn_span A) (spn_span B))
  have e3 : rk A = (spn A).length := by rw [← (spn_rws A).rk, rk_spn]
  have e4 : rk B = (spn B).length := by rw [← (spn_rws B).rk, rk_spn]
  omega
theorem meet_is {b : Nat} {A B K : List Nat} (lt : ∀ x ∈ A, x < 2 ^ b) (hA : ∀ x ∈ K, Spn A x) (hB : ∀ x ∈ K, Spn B x) (e : rk K + rk (A ++ B) = rk A + rk B) (x : Nat) : (Spn A x ∧ Spn B x) ↔ Spn K x := by
  have r := meet_rk (B := B) lt
  have m : ∀ y, Spn (mt b (spn A) (spn B)) y ↔ Spn A y ∧ Spn B y := fun y => by rw [mt_span (spn_ltb lt), spn_span, spn_span]
  rw [← m x]
  exact span_of_le (fun y hy => (m y).mpr ⟨hA y hy, hB y hy⟩) (by omega) x
/-! ### words of one's own -/
def shp (b : Nat) (Rs : List (List Nat)) (ch : List Nat) : Nat → List Nat
  | 0 => evr b
  | i + 1 => if i ∈ ch then mt b (shp b Rs ch i) (Rs.getD i []) else shp b Rs ch i
def otp (Rs : List (List Nat)) (ch : List Nat) : Nat → List Nat
  | 0 => spn []
  | i + 1 => if i ∈ ch then otp Rs ch i else sm (otp Rs ch i) (Rs.getD i [])
def own (b : Nat) (Rs : List (List Nat)) (ch : List Nat) : List Nat := cmpl (mt b (shp b Rs ch Rs.length) (otp Rs ch Rs.length)) (shp b Rs ch Rs.length)
theorem evr_lt (b : Nat) : ∀ x ∈ evr b, x < 2 ^ b := fun x hx => (evr_span b x).mp (.of hx)
theorem shp_lt (b : Nat) (Rs : List (List Nat)) (ch : List Nat) : ∀ i, ∀ x ∈ shp b Rs ch i, x < 2 ^ b
  | 0 => evr_lt b
  | i + 1 => by
    unfold shp
    split
    · exact mt_lt (shp_lt b Rs ch i)
    · exact shp_lt b Rs ch i
theorem shp_span (b : Nat) (Rs : List (List Nat)) (ch : List Nat) (x : Nat) : ∀ i, Spn (shp b Rs ch i) x ↔ x < 2 ^ b ∧ ∀ j, j < i → j ∈ ch → Spn (Rs.getD j []) x
  | 0 => by
    unfold shp
    rw [evr_span]
    exact ⟨fun h => ⟨h, fun j hj => absurd hj (Nat.not_lt_zero j)⟩, fun h => h.1⟩
  | i + 1 => by
    unfold shp
    split
    · rename_i hi
      rw [mt_span (shp_lt b Rs ch i), shp_span b Rs ch x i]
      constructor
      · rintro ⟨⟨h1, h2⟩, h3⟩
        refine ⟨h1, fun j hj hc => ?_⟩
        by_cases z : j < i
        · exact h2 j z hc
        · have : j = i := by omega
          subst this
          exact h3
      · rintro ⟨h1, h2⟩
        exact ⟨⟨h1, fun j hj hc => h2 j (by omega) hc⟩, h2 i (by omega) hi⟩
    · rename_i hi
      rw [shp_span b Rs ch x i]
      constructor
      · rintro ⟨h1, h2⟩
        refine ⟨h1, fun j hj hc => ?_⟩
        by_cases z : j < i
        · exact h2 j z hc
        · have : j = i := by omega
          subst this
          exact absurd hc hi
      · rintro ⟨h1, h2⟩
        exact ⟨h1, fun j hj hc => h2 j (by omega) hc⟩
theorem otp_span (Rs : List (List Nat)) (ch : List Nat) : ∀ i x, Spn (otp Rs ch i) x ↔ Spn (((List.range i).filter fun j => decide (j ∉ ch)).flatMap fun j => Rs.getD j []) x
  | 0, x => spn_span _ x
  | i + 1, x => by
    unfold otp
    rw [List.range_succ, List.filter_append, List.flatMap_append]
    split
    · rename_i hi
      rw [List.filter_cons_of_neg (by simp [hi]), List.filter_nil, List.flatMap_nil, List.append_nil]
      exact otp_span Rs ch i x
    · rename_i hi
      rw [List.filter_cons_of_pos (by simp [hi]), List.filter_nil, List.flatMap_cons, List.flatMap_nil, List.append_nil, sm_span]
      exact app_iff (otp_span Rs ch i) (fun _ => Iff.rfl) x
theorem own_cpl (b : Nat) (Rs : List (List Nat)) (ch : List Nat) : CplP (fun x => Spn (shp b Rs ch Rs.length) x ∧ Spn (otp Rs ch Rs.length) x) (Spn (shp b Rs ch Rs.length)) (own b Rs ch) :=
  ⟨_, _, fun x => mt_span (shp_lt b Rs ch _) x, fun x => Iff.rfl, cpl_of (spn_rws _) fun x hx => ((mt_span (shp_lt b Rs ch _) x).mp (.of hx)).1⟩
/-! ### three spaces -/
structure ThW where
  S : List Nat
  P1 : List Nat
  P2 : List Nat
  P3 : List Nat
  W : List (Nat × Nat)
  N1 : List Nat
  N2 : List Nat
  N3 : List Nat
  O : List Nat
def fpw (b : Nat) (A B C : List Nat) : List Nat := cmpl (sm (mt b A B) (mt b A C)) (mt b A (sm B C))
def fpl (b : Nat) (A B C : List Nat) : List (Nat × Nat) := (fpw b A B C).map fun w => (w, img B (slv (B ++ C) w &&& (1 <<< B.length - 1)))
def thw (b : Nat) (A B C : List Nat) : ThW := ⟨own b [A, B, C] [0, 1, 2], own b [A, B, C] [0, 1], own b [A, B, C] [0, 2], own b [A, B, C] [1, 2], fpl b A B C, own b [A, B, C] [0], own b [A, B, C] [1], own b [A, B, C] [2], own b [A, B, C] []⟩
structure Thr (b : Nat) (A B C : List Nat) (t : ThW) : Prop where
  s : CplP (fun x => x = 0) (fun x => Spn A x ∧ Spn B x ∧ Spn C x) t.S
  p1 : CplP (fun x => Spn A x ∧ Spn B x ∧ Spn C x) (fun x => Spn A x ∧ Spn B x) t.P1
  p2 : CplP (fun x => Spn A x ∧ Spn B x ∧ Spn C x) (fun x => Spn A x ∧ Spn C x) t.P2
  p3 : CplP (fun x => Spn A x ∧ Spn B x ∧ Spn C x) (fun x => Spn B x ∧ Spn C x) t.P3
  w1 : CplP (fun x => ∃ y z, (Spn A y ∧ Spn B y) ∧ (Spn A z ∧ Spn C z) ∧ x = y ^^^ z) (fun x => Spn A x ∧ Spn (B ++ C) x) (t.W.map (·.1))
  w2 : ∀ p ∈ t.W, Spn B p.2 ∧ Spn C (p.1 ^^^ p.2)
  n1 : CplP (fun x => Spn A x ∧ Spn (B ++ C) x) (Spn A) t.N1
  n2 : CplP (fun x => Spn B x ∧ Spn (A ++ C) x) (Spn B) t.N2
  n3 : CplP (fun x => Spn C x ∧ Spn (A ++ B) x) (Spn C) t.N3
  o : CplP (Spn (A ++ B ++ C)) (fun x => x < 2 ^ b) t.O
section
variable {b : Nat} {A B C : List Nat} (hA : ∀ x ∈ A, x < 2 ^ b) (hB : ∀ x ∈ B, x < 2 ^ b) (hC : ∀ x ∈ C, x < 2 ^ b)
include hA hB hC
theorem thr_mk (sf ot ow : List Nat → List Nat) (fw : List Nat) (sf_span : ∀ (ch : List Nat) (x : Nat), Spn (sf ch) x ↔ x < 2 ^ b ∧ ∀ j, j < 3 → j ∈ ch → Spn ([A, B, C].getD j []) x) (otp_span : ∀ (ch : List Nat) (x : Nat), Spn (ot ch) x ↔ Spn (((List.range 3).filter fun j => decide (j ∉ ch)).flatMap fun j => [A, B, C].getD j []) x)
    (o : ∀ ch, CplP (fun x => Spn (sf ch) x ∧ Spn (ot ch) x) (Spn (sf ch)) (ow ch))
    (w1 : CplP (fun x => ∃ y z, (Spn A y ∧ Spn B y) ∧ (Spn A z ∧ Spn C z) ∧ x = y ^^^ z) (fun x => Spn A x ∧ Spn (B ++ C) x) fw) :
    Thr b A B C ⟨ow [0, 1, 2], ow [0, 1], ow [0, 2], ow [1, 2], fw.map fun w => (w, img B (slv (B ++ C) w &&& (1 <<< B.length - 1))), ow [0], ow [1], ow [2], ow []⟩ := by
  have la : ∀ x, Spn A x → x < 2 ^ b := fun x h => h.lt hA
  have lb : ∀ x, Spn B x → x < 2 ^ b := fun x h => h.lt hB
  have lc : ∀ x, Spn C x → x < 2 ^ b := fun x h => h.lt hC
  have sh : ∀ (ch : List Nat) (x : Nat), Spn (sf ch) x ↔ x < 2 ^ b ∧ (0 ∈ ch → Spn A x) ∧ (1 ∈ ch → Spn B x) ∧ (2 ∈ ch → Spn C x) := fun ch x => by
    rw [sf_span]
    refine and_congr_right fun _ => ⟨fun h => ⟨h 0 (by decide), h 1 (by decide), h 2 (by decide)⟩, fun ⟨h0, h1, h2⟩ j hj => ?_⟩
    match j, hj with
    | 0, _ => exact h0
    | 1, _ => exact h1
    | 2, _ => exact h2
  have c012 : ∀ x, Spn (sf [0, 1, 2]) x ↔ (Spn A x ∧ Spn B x ∧ Spn C x) := fun x => by
    rw [sh]; simp; exact fun h _ _ => la x h
  have c01 : ∀ x, Spn (sf [0, 1]) x ↔ (Spn A x ∧ Spn B x) := fun x => by
    rw [sh]; simp; exact fun h _ => la x h
  have c02 : ∀ x, Spn (sf [0, 2]) x ↔ (Spn A x ∧ Spn C x) := fun x => by
    rw [sh]; simp; exact fun h _ => la x h
  have c12 : ∀ x, Spn (sf [1, 2]) x ↔ (Spn B x ∧ Spn C x) := fun x => by
    rw [sh]; simp; exact fun h _ => lb x h
  have c0 : ∀ x, Spn (sf [0]) x ↔ Spn A x := fun x => by
    rw [sh]; simp; exact la x
  have c1 : ∀ x, Spn (sf [1]) x ↔ Spn B x := fun x => by
    rw [sh]; simp; exact lb x
  have c2 : ∀ x, Spn (sf [2]) x ↔ Spn C x := fun x => by
    rw [sh]; simp; exact lc x
  have c : ∀ x, Spn (sf []) x ↔ x < 2 ^ b := fun x => by
    rw [sh]; simp
  have d012 : ∀ x, Spn (ot [0, 1, 2]) x ↔ x = 0 := fun x => by
    rw [otp_span]
    exact ⟨fun h => Spn.nil h, fun h => by rw [h]; exact .zero⟩
  have d01 : ∀ x, Spn (ot [0, 1]) x ↔ Spn C x := fun x => by
    rw [otp_span]
    show Spn (C ++ []) x ↔ _
    rw [List.append_nil]
  have d02 : ∀ x, Spn (ot [0, 2]) x ↔ Spn B x := fun x => by
    rw [otp_span]
    show Spn (B ++ []) x ↔ _
    rw [List.append_nil]
  have d12 : ∀ x, Spn (ot [1, 2]) x ↔ Spn A x := fun x => by
    rw [otp_span]
    show Spn (A ++ []) x ↔ _
    rw [List.append_nil]
  have d0 : ∀ x, Spn (ot [0]) x ↔ Spn (B ++ C) x := fun x => by
    rw [otp_span]
    show Spn (B ++ (C ++ [])) x ↔ _
    rw [List.append_nil]
  have d1 : ∀ x, Spn (ot [1]) x ↔ Spn (A ++ C) x := fun x => by
    rw [otp_span]
    show Spn (A ++ (C ++ [])) x ↔ _
    rw [List.append_nil]
  have d2 : ∀ x, Spn (ot [2]) x ↔ Spn (A ++ B) x := fun x => by
    rw [otp_span]
    show Spn (A ++ (B ++ [])) x ↔ _
    rw [List.append_nil]
  have d : ∀ x, Spn (ot []) x ↔ Spn (A ++ B ++ C) x := fun x => by
    rw [otp_span]
    show Spn (A ++ (B ++ (C ++ []))) x ↔ _
    rw [List.append_nil, List.append_assoc]
  refine ⟨(o [0, 1, 2]).iff (fun x => ?_) c012, (o [0, 1]).iff (fun x => ?_) c01, (o [0, 2]).iff (fun x => ?_) c02, (o [1, 2]).iff (fun x => ?_) c12, ?_, ?_, (o [0]).iff (fun x => ?_) c0, (o [1]).iff (fun x => ?_) c1, (o [2]).iff (fun x => ?_) c2, (o []).iff (fun x => ?_) c⟩
  · exact (and_congr (c012 x) (d012 x)).trans ⟨fun h => h.2, fun h => by rw [h]; exact ⟨⟨.zero, .zero, .zero⟩, rfl⟩⟩
  · exact (and_congr (c01 x) (d01 x)).trans ⟨fun h => ⟨h.1.1, h.1.2, h.2⟩, fun h => ⟨⟨h.1, h.2.1⟩, h.2.2⟩⟩
  · exact (and_congr (c02 x) (d02 x)).trans ⟨fun h => ⟨h.1.1, h.2, h.1.2⟩, fun h => ⟨⟨h.1, h.2.2⟩, h.2.1⟩⟩
  · exact (and_congr (c12 x) (d12 x)).trans ⟨fun h => ⟨h.2, h.1.1, h.1.2⟩, fun h => ⟨h.2, h.1⟩⟩
  · show CplP _ _ ((fw.map fun w => (w, img B (slv (B ++ C) w &&& (1 <<< B.length - 1)))).map (·.1))
    rw [List.map_map]
    have e : fw.map ((fun p : Nat × Nat => p.1) ∘ fun w => (w, img B (slv (B ++ C) w &&& (1 <<< B.length - 1)))) = fw := List.map_id _
    rw [e]
    exact w1
  · intro p hp
    obtain ⟨w, hw, rfl⟩ := List.mem_map.mp hp
    have q := (w1.mem hw).2
    obtain ⟨z1, z2⟩ := slv_ok q
    generalize slv (B ++ C) w = z at *
    have l : lo B.length z = z &&& (1 <<< B.length - 1) := rfl
    show Spn B (img B (z &&& (1 <<< B.length - 1))) ∧ Spn C (w ^^^ img B (z &&& (1 <<< B.length - 1)))
    rw [← l]
    have h1 : Spn B (img B (lo B.length z)) := img_in B (lo_lt _ _)
    refine ⟨h1, ?_⟩
    have e := img_app (P := B) (Q := C) (y := z >>> B.length) (lo_lt B.length z)
    rw [Nat.xor_comm (lo _ _), Nat.xor_comm ((z >>> B.length) <<< B.length), lo_hi, z2] at e
    rw [e, Nat.xor_comm, ← Nat.xor_assoc, Nat.xor_self, Nat.zero_xor]
    rw [List.length_append] at z1
    exact img_in C (by have := hi_lt (Nat.le_add_right B.length C.length) z1; rwa [Nat.add_sub_cancel_left] at this)
  · exact and_congr (c0 x) (d0 x)
  · exact and_congr (c1 x) (d1 x)
  · exact and_congr (c2 x) (d2 x)
  · exact (and_congr (c x) (d x)).trans ⟨fun h => h.2, fun h => ⟨h.lt fun y hy => by
      rcases List.mem_append.mp hy with hy | hy
      · exact (List.mem_append.mp hy).elim (hA y) (hB y)
      · exact hC y hy, h⟩⟩
theorem thr_of : Thr b A B C (thw b A B C) := by
  have nr : ∀ x, Spn (sm (mt b A B) (mt b A C)) x ↔ ∃ y z, (Spn A y ∧ Spn B y) ∧ (Spn A z ∧ Spn C z) ∧ x = y ^^^ z := fun x => by
    rw [sm_span, app_spl]
    constructor
    · rintro ⟨y, z, h1, h2, h3⟩
      exact ⟨y, z, (mt_span hA y).mp h1, (mt_span hA z).mp h2, h3⟩
    · rintro ⟨y, z, h1, h2, h3⟩
      exact ⟨y, z, (mt_span hA y).mpr h1, (mt_span hA z).mpr h2, h3⟩
  have se : ∀ x, Spn (mt b A (sm B C)) x ↔ Spn A x ∧ Spn (B ++ C) x := fun x => by rw [mt_span hA, sm_span]
  have w1 : CplP (fun x => ∃ y z, (Spn A y ∧ Spn B y) ∧ (Spn A z ∧ Spn C z) ∧ x = y ^^^ z) (fun x => Spn A x ∧ Spn (B ++ C) x) (fpw b A B C) :=
    ⟨_, _, nr, se, cpl_of (sm_rws _ _) fun x hx => by
      obtain ⟨y, z, h1, h2, rfl⟩ := (nr x).mp (.of hx)
      exact (se _).mpr ⟨h1.1.xor h2.1, app_spl.mpr ⟨y, z, h1.2, h2.2, rfl⟩⟩⟩
  exact thr_mk hA hB hC (fun ch => shp b [A, B, C] ch 3) (fun ch => otp [A, B, C] ch 3) (fun ch => own b [A, B, C] ch) (fpw b A B C) (fun ch x => shp_span b [A, B, C] ch x 3) (fun ch x => otp_span [A, B, C] ch 3 x) (fun ch => own_cpl b [A, B, C] ch) w1
end
/-! ### the words told are all words -/
def fd1 (t : ThW) : List Nat := t.S ++ t.P1 ++ t.P2 ++ t.W.map (·.1) ++ t.N1
def fd2 (t : ThW) : List Nat := t.S ++ t.P1 ++ t.P3 ++ t.W.map (·.2) ++ t.N2
def fd3 (t : ThW) : List Nat := t.S ++ t.P2 ++ t.P3 ++ t.W.map (fun p => p.1 ^^^ p.2) ++ t.N3
def fall (t : ThW) : List Nat := t.S ++ t.P1 ++ t.P2 ++ t.P3 ++ t.W.flatMap (fun p => [p.1, p.2]) ++ t.N1 ++ t.N2 ++ t.N3 ++ t.O
theorem spn_pick {W : List (Nat × Nat)} (f g : Nat × Nat → Nat) {z : Nat} (h : Spn (W.map f) z) : ∃ y, Spn (W.map g) y ∧ ∃ v, Spn (W.map fun p => f p ^^^ g p) v ∧ z = y ^^^ v := by
  induction h with
  | zero => exact ⟨0, .zero, 0, .zero, rfl⟩
  | add hw _ ih =>
    obtain ⟨y, hy, v, hv, rfl⟩ := ih
    obtain ⟨p, hp, rfl⟩ := List.mem_map.mp hw
    refine ⟨y ^^^ g p, .add (List.mem_map.mpr ⟨p, hp, rfl⟩) hy, v ^^^ (f p ^^^ g p), .add (List.mem_map.mpr ⟨p, hp, rfl⟩) hv, ?_⟩
    rw [xor4, ← Nat.xor_assoc (g p), Nat.xor_comm (g p), Nat.xor_assoc (f p), Nat.xor_self, Nat.xor_zero]
section
variable {b : Nat} {A B C : List Nat} {t : ThW} (h : Thr b A B C t)
include h
theorem thr_abc {x : Nat} (hx : Spn A x ∧ Spn B x ∧ Spn C x) : Spn t.S x := by
  obtain ⟨y, z, rfl, hz, e⟩ := h.s.split hx
  rw [e, Nat.zero_xor]
  exact hz
theorem thr_ab {x : Nat} (hx : Spn A x ∧ Spn B x) : Spn (t.S ++ t.P1) x := by
  obtain ⟨y, z, hy, hz, rfl⟩ := h.p1.split hx
  exact app_spl.mpr ⟨y, z, thr_abc h hy, hz, rfl⟩
theorem thr_ac {x : Nat} (hx : Spn A x ∧ Spn C x) : Spn (t.S ++ t.P2) x := by
  obtain ⟨y, z, hy, hz, rfl⟩ := h.p2.split hx
  exact app_spl.mpr ⟨y, z, thr_abc h hy, hz, rfl⟩
theorem thr_bc {x : Nat} (hx : Spn B x ∧ Spn C x) : Spn (t.S ++ t.P3) x := by
  obtain ⟨y, z, hy, hz, rfl⟩ := h.p3.split hx
  exact app_spl.mpr ⟨y, z, thr_abc h hy, hz, rfl⟩
theorem thr_bW {z : Nat} (hz : Spn (t.W.map (·.2)) z) : Spn B z := hz.mono fun v hv => by
  obtain ⟨p, hp, rfl⟩ := List.mem_map.mp hv
  exact (h.w2 p hp).1
theorem thr_cW {z : Nat} (hz : Spn (t.W.map fun p => p.1 ^^^ p.2) z) : Spn C z := hz.mono fun v hv => by
  obtain ⟨p, hp, rfl⟩ := List.mem_map.mp hv
  exact (h.w2 p hp).2
/-- what lies in the first one and in the sum of the others -/
theorem thr_seen {x : Nat} (hx : Spn A x ∧ Spn (B ++ C) x) : ∃ y z u v, (Spn A y ∧ Spn B y) ∧ (Spn A z ∧ Spn C z) ∧ Spn (t.W.map (·.2)) u ∧ Spn (t.W.map fun p => p.1 ^^^ p.2) v ∧ Spn (t.W.map (·.1)) (u ^^^ v) ∧ x = (y ^^^ z) ^^^ (u ^^^ v) := by
  obtain ⟨n, w, ⟨y, z, hy, hz, rfl⟩, hw, rfl⟩ := h.w1.split hx
  obtain ⟨u, hu, v, hv, rfl⟩ := spn_pick (·.1) (·.2) hw
  exact ⟨y, z, u, v, hy, hz, hu, hv, hw, rfl⟩
theorem thr_a {x : Nat} (hx : Spn A x) : Spn (fd1 t) x := by
  obtain ⟨n, k, hn, hk, rfl⟩ := h.n1.split hx
  obtain ⟨y, z, u, v, hy, hz, hu, hv, hw, rfl⟩ := thr_seen h hn
  unfold fd1
  refine Spn.xor (Spn.xor (Spn.xor ?_ ?_) ?_) ?_
  · exact (thr_ab h hy).sub fun q hq => by simp only [List.mem_append] at hq ⊢; rcases hq with hq | hq <;> simp [hq]
  · exact (thr_ac h hz).sub fun q hq => by simp only [List.mem_append] at hq ⊢; rcases hq with hq | hq <;> simp [hq]
  · exact hw.sub fun q hq => by simp only [List.mem_append]; simp [hq]
  · exact hk.sub fun q hq => by simp only [List.mem_append]; simp [hq]
theorem thr_b {x : Nat} (hx : Spn B x) : Spn (fd2 t) x := by
  obtain ⟨n, k, ⟨hn, hs⟩, hk, rfl⟩ := h.n2.split hx
  obtain ⟨α, γ, hα, hγ, e⟩ := app_spl.mp hs
  have e2 : α = n ^^^ γ := by rw [e, Nat.xor_assoc, Nat.xor_self, Nat.xor_zero]
  obtain ⟨y, z, u, v, hy, hz, hu, hv, hw, e3⟩ := thr_seen h ⟨hα, by rw [e2]; exact app_spl.mpr ⟨n, γ, hn, hγ, rfl⟩⟩
  have m1 : Spn B (n ^^^ y ^^^ u) := (hn.xor hy.2).xor (thr_bW h hu)
  have m2 : n ^^^ y ^^^ u = γ ^^^ z ^^^ v := by
    rw [e, e3]
    apply Nat.eq_of_testBit_eq
    intro i
    simp only [Nat.testBit_xor]
    cases y.testBit i <;> cases z.testBit i <;> cases u.testBit i <;> cases v.testBit i <;> cases γ.testBit i <;> rfl
  have m3 : Spn C (n ^^^ y ^^^ u) := by rw [m2]; exact (hγ.xor hz.2).xor (thr_cW h hv)
  have e4 : n = (n ^^^ y ^^^ u) ^^^ (y ^^^ u) := by
    apply Nat.eq_of_testBit_eq
    intro i
    simp only [Nat.testBit_xor]
    cases n.testBit i <;> cases y.testBit i <;> cases u.testBit i <;> rfl
  rw [e4]
  unfold fd2
  refine Spn.xor (Spn.xor ?_ (Spn.xor ?_ ?_)) ?_
  · exact (thr_bc h ⟨m1, m3⟩).sub fun q hq => by simp only [List.mem_append] at hq ⊢; rcases hq with hq | hq <;> simp [hq]
  · exact (thr_ab h hy).sub fun q hq => by simp only [List.mem_append] at hq ⊢; rcases hq with hq | hq <;> simp [hq]
  · exact hu.sub fun q hq => by simp only [List.mem_append]; simp [hq]
  · exact hk.sub fun q hq => by simp only [List.mem_append]; simp [hq]
theorem thr_c {x : Nat} (hx : Spn C x) : Spn (fd3 t) x := by
  obtain ⟨n, k, ⟨hn, hs⟩, hk, rfl⟩ := h.n3.split hx
  obtain ⟨α, γ, hα, hγ, e⟩ := app_spl.mp hs
  have e2 : α = γ ^^^ n := by rw [e, Nat.xor_comm, Nat.xor_assoc, Nat.xor_self, Nat.xor_zero]
  obtain ⟨y, z, u, v, hy, hz, hu, hv, hw, e3⟩ := thr_seen h ⟨hα, by rw [e2]; exact app_spl.mpr ⟨γ, n, hγ, hn, rfl⟩⟩
  have m1 : Spn C (n ^^^ z ^^^ v) := (hn.xor hz.2).xor (thr_cW h hv)
  have m2 : n ^^^ z ^^^ v = γ ^^^ y ^^^ u := by
    rw [e, e3]
    apply Nat.eq_of_testBit_eq
    intro i
    simp only [Nat.testBit_xor]
    cases y.testBit i <;> cases z.testBit i <;> cases u.testBit i <;> cases v.testBit i <;> cases γ.testBit i <;> rfl
  have m3 : Spn B (n ^^^ z ^^^ v) := by rw [m2]; exact (hγ.xor hy.2).xor (thr_bW h hu)
  have e4 : n = (n ^^^ z ^^^ v) ^^^ (z ^^^ v) := by
    apply Nat.eq_of_testBit_eq
    intro i
    simp only [Nat.testBit_xor]
    cases n.testBit i <;> cases z.testBit i <;> cases v.testBit i <;> rfl
  rw [e4]
  unfold fd3
  refine Spn.xor (Spn.xor ?_ (Spn.xor ?_ ?_)) ?_
  · exact (thr_bc h ⟨m3, m1⟩).sub fun q hq => by simp only [List.mem_append] at hq ⊢; rcases hq with hq | hq <;> simp [hq]
  · exact (thr_ac h hz).sub fun q hq => by simp only [List.mem_append] at hq ⊢; rcases hq with hq | hq <;> simp [hq]
  · exact hv.sub fun q hq => by simp only [List.mem_append]; simp [hq]
  · exact hk.sub fun q hq => by simp only [List.mem_append]; simp [hq]
theorem fd1_all : ∀ x ∈ fd1 t, Spn (fall t) x := fun x hx => by
  unfold fd1 at hx
  unfold fall
  simp only [List.mem_append] at hx
  have m : ∀ y, (y ∈ t.S ∨ y ∈ t.P1 ∨ y ∈ t.P2 ∨ y ∈ t.W.flatMap (fun p => [p.1, p.2]) ∨ y ∈ t.N1) → y ∈ t.S ++ t.P1 ++ t.P2 ++ t.P3 ++ t.W.flatMap (fun p => [p.1, p.2]) ++ t.N1 ++ t.N2 ++ t.N3 ++ t.O := fun y hy => by
    simp only [List.mem_append]
    rcases hy with hy | hy | hy | hy | hy <;> simp only [hy, true_or, or_true]
  refine .of (m x ?_)
  rcases hx with (((hx | hx) | hx) | hx) | hx
  · exact .inl hx
  · exact .inr (.inl hx)
  · exact .inr (.inr (.inl hx))
  · obtain ⟨p, hp, rfl⟩ := List.mem_map.mp hx
    exact .inr (.inr (.inr (.inl (List.mem_flatMap.mpr ⟨p, hp, by simp⟩))))
  · exact .inr (.inr (.inr (.inr hx)))
theorem fd2_all : ∀ x ∈ fd2 t, Spn (fall t) x := fun x hx => by
  unfold fd2 at hx
  unfold fall
  simp only [List.mem_append] at hx
  have m : ∀ y, (y ∈ t.S ∨ y ∈ t.P1 ∨ y ∈ t.P3 ∨ y ∈ t.W.flatMap (fun p => [p.1, p.2]) ∨ y ∈ t.N2) → y ∈ t.S ++ t.P1 ++ t.P2 ++ t.P3 ++ t.W.flatMap (fun p => [p.1, p.2]) ++ t.N1 ++ t.N2 ++ t.N3 ++ t.O := fun y hy => by
    simp only [List.mem_append]
    rcases hy with hy | hy | hy | hy | hy <;> simp only [hy, true_or, or_true]
  refine .of (m x ?_)
  rcases hx with (((hx | hx) | hx) | hx) | hx
  · exact .inl hx
  · exact .inr (.inl hx)
  · exact .inr (.inr (.inl hx))
  · obtain ⟨p, hp, rfl⟩ := List.mem_map.mp hx
    exact .inr (.inr (.inr (.inl (List.mem_flatMap.mpr ⟨p, hp, by simp⟩))))
  · exact .inr (.inr (.inr (.inr hx)))
theorem fd3_all : ∀ x ∈ fd3 t, Spn (fall t) x := fun x hx => by
  unfold fd3 at hx
  unfold fall
  simp only [List.mem_append] at hx
  have m : ∀ y, (y ∈ t.S ∨ y ∈ t.P2 ∨ y ∈ t.P3 ∨ y ∈ t.W.flatMap (fun p => [p.1, p.2]) ∨ y ∈ t.N3) → y ∈ t.S ++ t.P1 ++ t.P2 ++ t.P3 ++ t.W.flatMap (fun p => [p.1, p.2]) ++ t.N1 ++ t.N2 ++ t.N3 ++ t.O := fun y hy => by
    simp only [List.mem_append]
    rcases hy with hy | hy | hy | hy | hy <;> simp only [hy, true_or, or_true]
  rcases hx with (((hx | hx) | hx) | hx) | hx
  · exact .of (m x (.inl hx))
  · exact .of (m x (.inr (.inl hx)))
  · exact .of (m x (.inr (.inr (.inl hx))))
  · obtain ⟨p, hp, rfl⟩ := List.mem_map.mp hx
    exact (Spn.of (m _ (.inr (.inr (.inr (.inl (List.mem_flatMap.mpr ⟨p, hp, by simp⟩))))))).xor (.of (m _ (.inr (.inr (.inr (.inl (List.mem_flatMap.mpr ⟨p, hp, by simp⟩)))))))
  · exact .of (m x (.inr (.inr (.inr (.inr hx)))))
theorem thr_all {x : Nat} (hx : x < 2 ^ b) : Spn (fall t) x := by
  obtain ⟨n, k, hn, hk, rfl⟩ := h.o.split hx
  refine Spn.xor ?_ (hk.sub fun q hq => by unfold fall; simp only [List.mem_append, hq, or_true])
  obtain ⟨y, z, hy, hz, rfl⟩ := app_spl.mp hn
  obtain ⟨u, v, hu, hv, rfl⟩ := app_spl.mp hy
  exact (((thr_a h hu).mono (fd1_all h)).xor ((thr_b h hv).mono (fd2_all h))).xor ((thr_c h hz).mono (fd3_all h))
theorem thr_m1 {x : Nat} (hx : x ∈ fd1 t) : Spn A x := by
  unfold fd1 at hx
  simp only [List.mem_append] at hx
  rcases hx with (((hx | hx) | hx) | hx) | hx
  · exact (h.s.mem hx).1
  · exact (h.p1.mem hx).1
  · exact (h.p2.mem hx).1
  · exact (h.w1.mem hx).1
  · exact h.n1.mem hx
theorem thr_m2 {x : Nat} (hx : x ∈ fd2 t) : Spn B x := by
  unfold fd2 at hx
  simp only [List.mem_append] at hx
  rcases hx with (((hx | hx) | hx) | hx) | hx
  · exact (h.s.mem hx).2.1
  · exact (h.p1.mem hx).2
  · exact (h.p3.mem hx).1
  · exact thr_bW h (.of hx)
  · exact h.n2.mem hx
theorem thr_m3 {x : Nat} (hx : x ∈ fd3 t) : Spn C x := by
  unfold fd3 at hx
  simp only [List.mem_append] at hx
  rcases hx with (((hx | hx) | hx) | hx) | hx
  · exact (h.s.mem hx).2.2
  · exact (h.p2.mem hx).2
  · exact (h.p3.mem hx).2
  · exact thr_cW h (.of hx)
  · exact h.n3.mem hx
end
end LaneX
set_option Elab.async false
namespace LaneX
/-! ### sums, chosen words, the one list of reduced rows -/
def xsm (l : List Nat) : Nat := l.foldl (fun t x => t ^^^ x) 0
theorem xsm_from : ∀ (l : List Nat) (t : Nat), l.foldl (fun t x => t ^^^ x) t = t ^^^ xsm l
  | [], t => (Nat.xor_zero t).symm
  | x :: l, t => by
    show l.foldl _ (t ^^^ x) = t ^^^ l.foldl _ (0 ^^^ x)
    rw [xsm_from l, xsm_from l, Nat.zero_xor, Nat.xor_assoc]
theorem xsm_app (a b : List Nat) : xsm (a ++ b) = xsm a ^^^ xsm b := by
  unfold xsm
  rw [List.foldl_append, xsm_from]
  rfl
theorem xsm_one (x : Nat) : xsm [x] = x := Nat.zero_xor x
theorem xsm_spn {S : List Nat} : ∀ {l : List Nat}, (∀ x ∈ l, Spn S x) → Spn S (xsm l)
  | [], _ => .zero
  | x :: l, h => by
    have e := xsm_app [x] l
    rw [xsm_one] at e
    rw [show x :: l = [x] ++ l from rfl, e]
    exact (h x (.head _)).xor (xsm_spn fun y hy => h y (.tail _ hy))
theorem lin_xsm {φ : Nat → Nat} (L : Lin φ) : ∀ l : List Nat, φ (xsm l) = xsm (l.map φ)
  | [] => L.z
  | x :: l => by
    rw [show x :: l = [x] ++ l from rfl, xsm_app, L.x, lin_xsm L l, List.map_append, xsm_app, xsm_one]
    show _ = xsm [φ x] ^^^ _
    rw [xsm_one]
def chn (l : List Nat) (m : Nat) : List Nat := ((List.range l.length).filter fun i => m.testBit i).map fun i => l.getD i 0
theorem chn_mem {l : List Nat} {m x : Nat} (h : x ∈ chn l m) : ∃ i, i < l.length ∧ m.testBit i = true ∧ l.getD i 0 = x := by
  obtain ⟨i, hi, e⟩ := List.mem_map.mp h
  obtain ⟨h1, h2⟩ := List.mem_filter.mp hi
  exact ⟨i, List.mem_range.mp h1, h2, e⟩
theorem getDm {l : List Nat} {i : Nat} (h : i < l.length) : l.getD i 0 ∈ l := by
  rw [List.getD_eq_getElem?_getD, List.getElem?_eq_getElem h]
  exact List.getElem_mem h
theorem chn_sub {l : List Nat} {m x : Nat} (h : x ∈ chn l m) : x ∈ l := by
  obtain ⟨i, hi, _, rfl⟩ := chn_mem h
  exact getDm hi
theorem chn_len (l : List Nat) (m : Nat) : (chn l m).length ≤ l.length := by
  unfold chn
  rw [List.length_map]
  exact Nat.le_trans (List.length_filter_le _ _) (by simp)
theorem chn_map (f : Nat → Nat) (l : List Nat) (m : Nat) : chn (l.map f) m = (chn l m).map f := by
  unfold chn
  rw [List.map_map, List.length_map]
  refine List.map_congr_left fun i hi => ?_
  have hi := List.mem_range.mp (List.mem_filter.mp hi).1
  show (l.map f).getD i 0 = f (l.getD i 0)
  rw [List.getD_eq_getElem?_getD, List.getD_eq_getElem?_getD, List.getElem?_map, List.getElem?_eq_getElem hi]
  rfl
theorem xsm_chn (l : List Nat) (m : Nat) : xsm (chn l m) = img l m := by
  have key : ∀ n, xsm (((List.range n).filter fun i => m.testBit i).map fun i => l.getD i 0) = imf l m n := by
    intro n
    induction n with
    | zero => rfl
    | succ n ih =>
      rw [List.range_succ, List.filter_append, List.map_append, xsm_app, ih, imf_succ]
      cases e : m.testBit n with
      | true =>
        rw [List.filter_cons_of_pos e, if_pos rfl]
        show _ ^^^ xsm [l.getD n 0] = _
        rw [xsm_one]
      | false =>
        rw [List.filter_cons_of_neg (by rw [e]; decide), if_neg (by decide)]
        exact Nat.xor_zero _
  exact key l.length
theorem Rws.off {R : List Nat} (A : Rws R) {r s : Nat} (hr : r ∈ R) (hs : s ∈ R) (ne : r ≠ s) : r.testBit (blen s - 1) = false := by
  obtain ⟨i, hi, rfl⟩ := List.getElem_of_mem hr
  obtain ⟨j, hj, rfl⟩ := List.getElem_of_mem hs
  have z := A.getD_bit (i := i) (j := j) hi hj fun e => ne (by subst e; rfl)
  rwa [List.getD_eq_getElem?_getD, List.getD_eq_getElem?_getD, List.getElem?_eq_getElem hi, List.getElem?_eq_getElem hj] at z
theorem Rws.same_top {R : List Nat} (A : Rws R) {r s : Nat} (hr : r ∈ R) (hs : s ∈ R) (e : blen r = blen s) : r = s := by
  refine Classical.byContradiction fun ne => ?_
  have z := A.off hr hs ne
  rw [← e, testBit_top (A.nz r hr)] at z
  cases z
theorem rws_zero {R : List Nat} (A : Rws R) {x : Nat} (h : Spn R x) (z : ∀ r ∈ R, x.testBit (blen r - 1) = false) : x = 0 := by
  have := A.span.mp h
  rwa [clr_of_none z] at this
theorem rws_sub {A B : List Nat} (RA : Rws A) (RB : Rws B) (h : ∀ x, Spn A x ↔ Spn B x) : ∀ a ∈ A, a ∈ B := by
  intro a ha
  obtain ⟨b, hb, e⟩ := RB.top_mem ((h a).mp (.of ha)) (RA.nz a ha)
  have z : a ^^^ b = 0 := rws_zero RB (((h a).mp (.of ha)).xor (.of hb)) fun r hr => by
    rw [Nat.testBit_xor]
    by_cases q : r = b
    · subst q
      rw [testBit_top (RB.nz r hr), e, testBit_top (RA.nz a ha)]
      rfl
    · rw [RB.off hb hr fun z => q z.symm]
      obtain ⟨a', ha', e'⟩ := RA.top_mem ((h r).mpr (.of hr)) (RB.nz r hr)
      rw [← e', RA.off ha ha' fun z => q (RB.same_top hr hb (by rw [← e', ← z, e]))]
      rfl
  rw [xor_eq_zero z]
  exact hb
theorem Rws.nd {R : List Nat} (A : Rws R) : R.Nodup := by
  have := A.tops_nodup
  unfold List.Nodup at this ⊢
  rw [List.pairwise_map] at this
  exact this.imp fun h e => h (by rw [e])
theorem srt_lt {l : List Nat} (n : l.Nodup) : (srt l).Pairwise (· < ·) :=
  ((srt_sorted l).and ((srt_perm l).nodup_iff.mpr n)).imp fun ⟨a, b⟩ => Nat.lt_of_le_of_ne a b
theorem lt_ext : ∀ {A B : List Nat}, A.Pairwise (· < ·) → B.Pairwise (· < ·) → (∀ x, x ∈ A ↔ x ∈ B) → A = B
  | [], [], _, _, _ => rfl
  | [], b :: B, _, _, h => by have := (h b).mpr (.head _); cases this
  | a :: A, [], _, _, h => by have := (h a).mp (.head _); cases this
  | a :: A, b :: B, pa, pb, h => by
    obtain ⟨a1, a2⟩ := List.pairwise_cons.mp pa
    obtain ⟨b1, b2⟩ := List.pairwise_cons.mp pb
    have e : a = b := by
      rcases List.mem_cons.mp ((h a).mp (.head _)) with e | e
      · exact e
      · rcases List.mem_cons.mp ((h b).mpr (.head _)) with e' | e'
        · exact e'.symm
        · have := b1 a e
          have := a1 b e'
          omega
    subst e
    rw [lt_ext a2 b2 fun x => ⟨fun hx => ?_, fun hx => ?_⟩]
    · rcases List.mem_cons.mp ((h x).mp (.tail _ hx)) with e | e
      · have := a1 x hx
        omega
      · exact e
    · rcases List.mem_cons.mp ((h x).mpr (.tail _ hx)) with e | e
      · have := b1 x hx
        omega
      · exact e
theorem rws_uniq {A B : List Nat} (RA : Rws A) (RB : Rws B) (h : ∀ x, Spn A x ↔ Spn B x) (sa : A.Pairwise (· < ·)) (sb : B.Pairwise (· < ·)) : A = B :=
  lt_ext sa sb fun x => ⟨rws_sub RA RB h x, rws_sub RB RA (fun y => (h y).symm) x⟩
theorem spn_lts (ws : List Nat) : (spn ws).Pairwise (· < ·) := by
  have key : ∀ (ws rows : List Nat), Rws rows → rows.Pairwise (· < ·) → (ws.foldl grw rows).Pairwise (· < ·) := by
    intro ws
    induction ws with
    | nil => intro rows _ h; exact h
    | cons w ws ih =>
      intro rows R h
      refine ih _ (grw_rws R w) ?_
      rw [grw_eq]
      split
      · exact h
      · rename_i z
        exact srt_lt (R.grow z fun r hr => clr_tops R r hr).nd
  exact key ws [] Rws.nil .nil
theorem ker_lts (cs : List Nat) : (ker cs).Pairwise (· < ·) := (spn_lts _).filter _
/-! ### the law's own elimination -/
def rd1 (R : List Nat) (w : Nat) : List Nat := if clr R w = 0 then R else R.map (chg (clr R w)) ++ [clr R w]
def rdd (ws : List Nat) : List Nat := ws.foldl rd1 []
theorem rd1_rws {R : List Nat} (A : Rws R) (w : Nat) : Rws (rd1 R w) := by
  unfold rd1
  split
  · exact A
  · rename_i h
    exact A.grow h fun r hr => clr_tops A r hr
theorem rd1_span {R : List Nat} (w x : Nat) : Spn (rd1 R w) x ↔ Spn (R ++ [w]) x := by
  rw [← grw_span (rows := R) w x, grw_eq]
  unfold rd1
  split
  · exact Iff.rfl
  · exact ⟨fun h => h.sub fun y hy => (srt_perm _).mem_iff.mpr hy, fun h => h.sub fun y hy => (srt_perm _).mem_iff.mp hy⟩
theorem rdd_snoc (a : List Nat) (w : Nat) : rdd (a ++ [w]) = rd1 (rdd a) w := List.foldl_append ..
theorem rdd_rws (ws : List Nat) : Rws (rdd ws) := snoc_rec (p := fun l => Rws (rdd l)) Rws.nil (fun a x ih => by rw [rdd_snoc]; exact rd1_rws ih x) ws
theorem rdd_span (ws : List Nat) : ∀ x, Spn (rdd ws) x ↔ Spn ws x := snoc_rec (p := fun l => ∀ x, Spn (rdd l) x ↔ Spn l x) (fun x => Iff.rfl) (fun a w ih x => by
  rw [rdd_snoc, rd1_span]
  exact app_iff ih (fun _ => Iff.rfl) x) ws
theorem rdd_eq (ws : List Nat) : srt (rdd ws) = spn ws := by
  have R := rdd_rws ws
  refine rws_uniq (R.perm (srt_perm _).symm) (spn_rws ws) (fun x => ?_) (srt_lt R.nd) (spn_lts ws)
  refine Iff.trans ?_ ((rdd_span ws x).trans (spn_span ws x).symm)
  exact ⟨fun h => h.sub fun y hy => (srt_perm _).mem_iff.mp hy, fun h => h.sub fun y hy => (srt_perm _).mem_iff.mpr hy⟩
/-- rows with tops that rise are independent -/
theorem rk_rise : ∀ {R : List Nat}, (∀ r ∈ R, r ≠ 0) → R.Pairwise (fun a b => blen a < blen b) → rk R = R.length := by
  intro R
  refine snoc_rec (p := fun R => (∀ r ∈ R, r ≠ 0) → R.Pairwise (fun a b => blen a < blen b) → rk R = R.length) (fun _ _ => rfl) (fun a x ih hz hp => ?_) R
  obtain ⟨p1, _, p3⟩ := List.pairwise_append.mp hp
  have i := ih (fun r hr => hz r (List.mem_append_left _ hr)) p1
  have hx := hz x (List.mem_append_right _ (.head _))
  rw [rk_snoc_out fun z => ?_, i, List.length_append]
  · rfl
  have l : x < 2 ^ (blen x - 1) := z.lt fun w hw => blen_le.mp (by have := p3 w hw x (.head _); omega)
  have := blen_le.mpr l
  have := blen_pos hx
  omega
end LaneX
set_option Elab.async false
namespace LaneX
/-! ### maps planted by words at drawn bits -/
structure Pld (ws ps : List Nat) (i : Nat) (C K : List Nat) (n : Nat) : Prop where
  lc : C.length = i
  sn : n ≤ ws.length
  lo : ∀ j, j < n → ps.getD j 0 < i
  hi : ∀ j, n ≤ j → j < ws.length → i ≤ ps.getD j 0
  at_ : ∀ j, j < n → C.getD (ps.getD j 0) 0 = ws.getD j 0
  sp : ∀ c ∈ C, Spn ws c
  ki : ∀ r ∈ K, img C r = 0 ∧ r < 2 ^ i
  kl : K.length + n = i
  kt : ∀ r ∈ K, r ≠ 0 ∧ ∀ b, r.testBit b = true → b = blen r - 1 ∨ b ∈ ps
  kn : ∀ r ∈ K, (blen r - 1) ∉ ps
  kp : K.Pairwise fun r t => blen r < blen t
theorem Pld.nil {ws ps : List Nat} : Pld ws ps 0 [] [] 0 where
  lc := rfl
  sn := Nat.zero_le _
  lo := fun j hj => absurd hj (Nat.not_lt_zero j)
  hi := fun _ _ _ => Nat.zero_le _
  at_ := fun j hj => absurd hj (Nat.not_lt_zero j)
  sp := fun c h => absurd h (List.not_mem_nil)
  ki := fun r h => absurd h (List.not_mem_nil)
  kl := rfl
  kt := fun r h => absurd h (List.not_mem_nil)
  kn := fun r h => absurd h (List.not_mem_nil)
  kp := List.Pairwise.nil
theorem img_snoc_lt {C : List Nat} {c r : Nat} (h : r < 2 ^ C.length) : img (C ++ [c]) r = img C r := by
  have := img_app (P := C) (Q := [c]) (y := 0) h
  rwa [Nat.zero_shiftLeft, Nat.xor_zero, (lin_img [c]).z, Nat.xor_zero] at this
theorem img_snoc_top {C : List Nat} {c r : Nat} (h : r < 2 ^ C.length) : img (C ++ [c]) (r ^^^ 1 <<< C.length) = img C r ^^^ c := by
  have := img_app (P := C) (Q := [c]) (y := 1) h
  rw [this]
  congr 1
  have u := img_unit [c] (i := 0) (by show 0 < 1; decide)
  exact u
theorem getD_app1 {C : List Nat} {c j : Nat} (h : j < C.length) : (C ++ [c]).getD j 0 = C.getD j 0 := by
  rw [List.getD_eq_getElem?_getD, List.getD_eq_getElem?_getD, List.getElem?_append_left h]
theorem getD_app2 {C : List Nat} {c : Nat} : (C ++ [c]).getD C.length 0 = c := by
  rw [List.getD_eq_getElem?_getD, List.getElem?_append_right (Nat.le_refl _), Nat.sub_self]
  rfl
section
variable {ws ps : List Nat} {i n : Nat} {C K : List Nat}
/-- the bit is a drawn one -/
theorem Pld.at_piv (h : Pld ws ps i C K n) (lp : ps.length = ws.length) (sp : ps.Pairwise (· < ·)) (hi : i ∈ ps) : n < ws.length ∧ ps.getD n 0 = i := by
  obtain ⟨j, hj, e⟩ := List.getElem_of_mem hi
  have e' : ps.getD j 0 = i := by rw [List.getD_eq_getElem?_getD, List.getElem?_eq_getElem hj]; exact e
  have nj : n ≤ j := by
    refine Nat.le_of_not_lt fun z => ?_
    have := h.lo j z
    omega
  have nl : n < ws.length := by omega
  refine ⟨nl, ?_⟩
  rcases Nat.eq_or_lt_of_le nj with q | q
  · rw [q]; exact e'
  · have a := h.hi n (Nat.le_refl _) nl
    have p := List.pairwise_iff_getElem.mp sp n j (by omega) hj q
    have e2 : ps.getD n 0 = ps[n]'(by omega) := by rw [List.getD_eq_getElem?_getD, List.getElem?_eq_getElem (by omega)]; rfl
    omega
theorem Pld.piv (h : Pld ws ps i C K n) (lp : ps.length = ws.length) (sp : ps.Pairwise (· < ·)) (hi : i ∈ ps) : Pld ws ps (i + 1) (C ++ [ws.getD n 0]) K (n + 1) := by
  obtain ⟨nl, e⟩ := h.at_piv lp sp hi
  refine ⟨by rw [List.length_append, h.lc]; rfl, nl, fun j hj => ?_, fun j hj hl => ?_, fun j hj => ?_, fun c hc => ?_, fun r hr => ?_, by have := h.kl; omega, h.kt, h.kn, h.kp⟩
  · rcases Nat.eq_or_lt_of_le (Nat.le_of_lt_succ hj) with q | q
    · rw [q, e]; exact Nat.lt_succ_self _
    · have := h.lo j q
      omega
  · have p := List.pairwise_iff_getElem.mp sp n j (by omega) (by omega) (by omega)
    have e2 : ps.getD n 0 = ps[n]'(by omega) := by rw [List.getD_eq_getElem?_getD, List.getElem?_eq_getElem (by omega)]; rfl
    have e3 : ps.getD j 0 = ps[j]'(by omega) := by rw [List.getD_eq_getElem?_getD, List.getElem?_eq_getElem (by omega)]; rfl
    omega
  · rcases Nat.eq_or_lt_of_le (Nat.le_of_lt_succ hj) with q | q
    · rw [q, e, ← h.lc, getD_app2]
    · rw [getD_app1 (by have := h.lo j q; have := h.lc; omega)]
      exact h.at_ j q
  · rcases List.mem_append.mp hc with hc | hc
    · exact h.sp c hc
    · rw [List.mem_singleton.mp hc]
      exact .of (getDm nl)
  · obtain ⟨a, b⟩ := h.ki r hr
    exact ⟨by rw [img_snoc_lt (by rw [h.lc]; exact b)]; exact a, Nat.lt_of_lt_of_le b (Nat.pow_le_pow_right (by decide) (Nat.le_succ _))⟩
theorem units_lt {l : List Nat} {i : Nat} (h : ∀ p ∈ l, p < i) : xsm (l.map fun p => 1 <<< p) < 2 ^ i := by
  refine (xsm_spn (S := l.map fun p => 1 <<< p) fun x hx => .of hx).lt fun w hw => ?_
  obtain ⟨p, hp, rfl⟩ := List.mem_map.mp hw
  rw [Nat.one_shiftLeft]
  exact Nat.pow_lt_pow_right (by decide) (h p hp)
theorem units_bits : ∀ {l : List Nat} {b : Nat}, (xsm (l.map fun p => 1 <<< p)).testBit b = true → b ∈ l
  | [], b, h => by
    have h : (0 : Nat).testBit b = true := h
    simp at h
  | p :: l, b, h => by
    rw [List.map_cons, show (1 <<< p) :: l.map (fun p => 1 <<< p) = [1 <<< p] ++ l.map (fun p => 1 <<< p) from rfl, xsm_app, xsm_one, Nat.testBit_xor, Nat.one_shiftLeft, Nat.testBit_two_pow] at h
    by_cases e : p = b
    · subst e; exact .head _
    · rw [decide_eq_false e, Bool.false_xor] at h
      exact .tail _ (units_bits h)
theorem Pld.non (h : Pld ws ps i C K n) (lp : ps.length = ws.length) (hi : i ∉ ps) (m : Nat) : Pld ws ps (i + 1) (C ++ [xsm (chn (ws.take n) m)]) (K ++ [(1 <<< i) + xsm ((chn (ps.take n) m).map fun p => 1 <<< p)]) n := by
  have mem : ∀ p ∈ ps.take n, p < i := fun p hp => by
    obtain ⟨j, hj, e⟩ := List.getElem_of_mem hp
    have jl : j < n ∧ j < ps.length := by rw [List.length_take] at hj; omega
    have := h.lo j jl.1
    rw [List.getElem_take] at e
    rw [List.getD_eq_getElem?_getD, List.getElem?_eq_getElem jl.2] at this
    have t : ps[j]'jl.2 < i := this
    omega
  have yl := units_lt (l := chn (ps.take n) m) (i := i) fun p hp => mem p (chn_sub hp)
  have yb := @units_bits (chn (ps.take n) m)
  have ey : img C (xsm ((chn (ps.take n) m).map fun p => 1 <<< p)) = xsm (chn (ws.take n) m) := by
    rw [lin_xsm (lin_img C), ← chn_map, ← chn_map]
    congr 2
    rw [List.map_map]
    apply List.ext_getElem
    · rw [List.length_map, List.length_take, List.length_take, lp]
    · intro j h1 h2
      have jn : j < n ∧ j < ws.length := by rw [List.length_take] at h2; omega
      rw [List.getElem_map, List.getElem_take, List.getElem_take]
      have e := h.at_ j jn.1
      have e2 : ps.getD j 0 = ps[j]'(by omega) := by rw [List.getD_eq_getElem?_getD, List.getElem?_eq_getElem (by omega)]; rfl
      have e3 : ws.getD j 0 = ws[j]'jn.2 := by rw [List.getD_eq_getElem?_getD, List.getElem?_eq_getElem jn.2]; rfl
      have lt := h.lo j jn.1
      rw [e2, e3] at e
      rw [e2] at lt
      show img C (1 <<< ps[j]) = _
      rw [Nat.one_shiftLeft, img_unit C (by rw [h.lc]; exact lt), e]
  generalize hy : xsm ((chn (ps.take n) m).map fun p => 1 <<< p) = y at *
  have er : (1 <<< i) + y = y ^^^ 1 <<< i := by
    rw [Nat.one_shiftLeft, Nat.xor_comm]
    have := Nat.two_pow_add_eq_or_of_lt yl 1
    rw [Nat.mul_one] at this
    rw [this]
    refine Nat.eq_of_testBit_eq fun j => ?_
    rw [Nat.testBit_or, Nat.testBit_xor, Nat.testBit_two_pow]
    by_cases q : i = j
    · subst q
      rw [Nat.testBit_lt_two_pow yl, decide_eq_true rfl]
      rfl
    · rw [decide_eq_false q, Bool.false_or, Bool.false_xor]
  have bl : blen ((1 <<< i) + y) = i + 1 := by
    rw [Nat.one_shiftLeft]
    have a : blen (2 ^ i + y) ≤ i + 1 := blen_le.mpr (by rw [Nat.pow_succ]; omega)
    have b : ¬ blen (2 ^ i + y) ≤ i := fun z => by have := blen_le.mp z; omega
    omega
  refine ⟨by rw [List.length_append, h.lc]; rfl, h.sn, fun j hj => Nat.lt_succ_of_lt (h.lo j hj), fun j hj hl => ?_, fun j hj => ?_, fun c hc => ?_, fun r hr => ?_, by rw [List.length_append]; have := h.kl; simp only [List.length_singleton]; omega, fun r hr => ?_, fun r hr => ?_, ?_⟩
  · have a := h.hi j hj hl
    have e2 : ps.getD j 0 = ps[j]'(by omega) := by rw [List.getD_eq_getElem?_getD, List.getElem?_eq_getElem (by omega)]; rfl
    have ne : ps.getD j 0 ≠ i := fun z => hi (by rw [← z, e2]; exact List.getElem_mem _)
    omega
  · rw [getD_app1 (by have := h.lo j hj; have := h.lc; omega)]
    exact h.at_ j hj
  · rcases List.mem_append.mp hc with hc | hc
    · exact h.sp c hc
    · rw [List.mem_singleton.mp hc]
      exact xsm_spn fun x hx => .of (List.mem_of_mem_take (chn_sub hx))
  · rcases List.mem_append.mp hr with hr | hr
    · obtain ⟨a, b⟩ := h.ki r hr
      exact ⟨by rw [img_snoc_lt (by rw [h.lc]; exact b)]; exact a, Nat.lt_of_lt_of_le b (Nat.pow_le_pow_right (by decide) (Nat.le_succ _))⟩
    · rw [List.mem_singleton.mp hr]
      refine ⟨?_, by rw [Nat.one_shiftLeft, Nat.pow_succ]; omega⟩
      rw [er]
      have := img_snoc_top (C := C) (c := xsm (chn (ws.take n) m)) (r := y) (by rw [h.lc]; exact yl)
      rw [h.lc] at this
      rw [this, ey, Nat.xor_self]
  · rcases List.mem_append.mp hr with hr | hr
    · exact h.kt r hr
    · rw [List.mem_singleton.mp hr]
      refine ⟨fun z => ?_, fun b hb => ?_⟩
      · rw [Nat.one_shiftLeft] at z
        have := Nat.two_pow_pos i
        omega
      · rw [bl, Nat.add_sub_cancel]
        rw [er, Nat.testBit_xor, Nat.one_shiftLeft, Nat.testBit_two_pow] at hb
        by_cases q : i = b
        · exact .inl q.symm
        · rw [decide_eq_false q, Bool.xor_false] at hb
          exact .inr (List.mem_of_mem_take (chn_sub (yb hb)))
  · rcases List.mem_append.mp hr with hr | hr
    · exact h.kn r hr
    · rw [List.mem_singleton.mp hr, bl, Nat.add_sub_cancel]
      exact hi
  · refine List.pairwise_append.mpr ⟨h.kp, by simp, fun a ha b hb => ?_⟩
    rw [List.mem_singleton.mp hb, bl]
    have := blen_le.mpr (h.ki a ha).2
    omega
/-- all bits are through -/
theorem Pld.done (h : Pld ws ps i C K n) (lp : ps.length = ws.length) (hp : ∀ p ∈ ps, p < i) (ind : rk ws = ws.length) : K = ker C ∧ ∀ x, Spn C x ↔ Spn ws x := by
  have en : n = ws.length := by
    refine Nat.le_antisymm h.sn (Nat.le_of_not_lt fun z => ?_)
    have a := h.hi n (Nat.le_refl _) z
    have b := hp (ps.getD n 0) (getDm (by omega))
    omega
  have sp : ∀ x, Spn C x ↔ Spn ws x := fun x => ⟨fun q => q.mono h.sp, fun q => q.mono fun w hw => by
    obtain ⟨j, hj, e⟩ := List.getElem_of_mem hw
    have e2 := h.at_ j (by omega)
    have e3 : ws.getD j 0 = w := by rw [List.getD_eq_getElem?_getD, List.getElem?_eq_getElem hj]; exact e
    rw [← e3, ← e2]
    exact .of (getDm (by have := h.lo j (by omega); have := h.lc; omega))⟩
  have R : Rws K := ⟨fun r hr => (h.kt r hr).1, h.kp.imp_of_mem fun {a b} ha hb l => by
    have pa := blen_pos (h.kt a ha).1
    constructor
    · cases e : a.testBit (blen b - 1) with
      | false => rfl
      | true =>
        rcases (h.kt a ha).2 _ e with q | q
        · omega
        · exact absurd q (h.kn b hb)
    · cases e : b.testBit (blen a - 1) with
      | false => rfl
      | true =>
        rcases (h.kt b hb).2 _ e with q | q
        · omega
        · exact absurd q (h.kn a ha)⟩
  have kl := ker_len_eq C
  rw [rk_eq sp, ind, h.lc] at kl
  have kl2 := h.kl
  refine ⟨rws_uniq R (ker_rws C) (fun x => ?_) (h.kp.imp fun {a b} l => ?_) (ker_lts C), sp⟩
  · refine (span_of_le (K := K) (L := ker C) (fun r hr => ?_) ?_ x).symm
    · rw [ker_span, h.lc]
      exact ⟨(h.ki r hr).2, (h.ki r hr).1⟩
    · rw [R.rk, (ker_rws C).rk]
      omega
  · have a1 := lt_blen a
    have b1 : ¬ b < 2 ^ (blen b - 1) := fun z => by
      have := blen_le.mpr z
      omega
    have : 2 ^ blen a ≤ 2 ^ (blen b - 1) := Nat.pow_le_pow_right (by decide) (by omega)
    omega
end
/-! ### a quotient -/
theorem quo {B Q : List Nat} {g : Nat} (lt : ∀ x ∈ B, x < 2 ^ g) (on : g ≤ rk B) (lq : Q.length = g) : ((List.range g).map fun i => img (B.map (img Q)) (slv B (1 <<< i))) = Q := by
  apply List.ext_getElem
  · rw [List.length_map, List.length_range, lq]
  · intro i h1 h2
    rw [List.getElem_map, List.getElem_range, img_map (lin_img Q)]
    have hi : i < g := by omega
    have u : (1 <<< i) < 2 ^ g := by rw [Nat.one_shiftLeft]; exact Nat.pow_lt_pow_right (by decide) hi
    rw [(slv_ok (in_full lt on u)).2, Nat.one_shiftLeft, img_unit Q (by omega), List.getD_eq_getElem?_getD, List.getElem?_eq_getElem h2]
    rfl
/-! ### columns changed at the tops of rows -/
theorem img_put {A : List Nat} {t v x : Nat} (ht : t < A.length) : img (A.set t (A.getD t 0 ^^^ v)) x = img A x ^^^ (if x.testBit t = true then v else 0) := by
  have l : (A.set t (A.getD t 0 ^^^ v)).length = A.length := List.length_set
  have key : ∀ n, n ≤ A.length → imf (A.set t (A.getD t 0 ^^^ v)) x n = imf A x n ^^^ (if t < n ∧ x.testBit t = true then v else 0) := by
    intro n
    induction n with
    | zero => intro _; simp [imf]
    | succ n ih =>
      intro hn
      have ih := ih (by omega)
      rw [imf_succ, imf_succ, ih]
      by_cases q : t = n
      · subst q
        rw [if_neg (show ¬ (t < t ∧ x.testBit t = true) from fun z => Nat.lt_irrefl _ z.1), Nat.xor_zero]
        have e : (A.set t (A.getD t 0 ^^^ v)).getD t 0 = A.getD t 0 ^^^ v := by
          rw [List.getD_eq_getElem?_getD, List.getElem?_set_self ht]
          rfl
        rw [e]
        cases b : x.testBit t with
        | true => rw [if_pos rfl, if_pos rfl, if_pos ⟨Nat.lt_succ_self _, rfl⟩, Nat.xor_assoc]
        | false => rw [if_neg (by decide), if_neg (by decide), if_neg (fun z => by cases z.2), Nat.xor_zero]
      · have e : (A.set t (A.getD t 0 ^^^ v)).getD n 0 = A.getD n 0 := by
          rw [List.getD_eq_getElem?_getD, List.getElem?_set_ne q, List.getD_eq_getElem?_getD]
        rw [e]
        have c : (t < n + 1 ∧ x.testBit t = true) ↔ (t < n ∧ x.testBit t = true) := by
          constructor
          · rintro ⟨a, b⟩; exact ⟨by omega, b⟩
          · rintro ⟨a, b⟩; exact ⟨by omega, b⟩
        simp only [c]
        split
        · rw [Nat.xor_assoc, Nat.xor_assoc, Nat.xor_comm (A.getD n 0)]
        · rfl
  unfold img
  rw [l, key _ (Nat.le_refl _)]
  simp only [ht, true_and]
/-- what the columns are behind the first of these rows -/
structure Spo (K A : List Nat) (far : Nat) (done : List Nat) (A' : List Nat) : Prop where
  l : A'.length = A.length
  lt : ∀ x ∈ A', x < 2 ^ far
  hit : ∀ r ∈ K, r ∈ done → img A' r ≠ 0
  non : ∀ r ∈ K, r ∉ done → img A' r = 0
theorem Spo.nil {K A : List Nat} {far : Nat} (h : ∀ r ∈ K, img A r = 0) (lt : ∀ x ∈ A, x < 2 ^ far) : Spo K A far [] A := ⟨rfl, lt, fun _ _ z => (by cases z), fun r hr _ => h r hr⟩
theorem Spo.step {K A A' done : List Nat} {far r d : Nat} (h : Spo K A far done A') (R : Rws K) (hr : r ∈ K) (nd : r ∉ done) (hl : blen r ≤ A.length) (hd : d < far) : Spo K A far (done ++ [r]) (A'.set (blen r - 1) (A'.getD (blen r - 1) 0 ^^^ 1 <<< d)) := by
  have rp := blen_pos (R.nz r hr)
  have lt' : blen r - 1 < A'.length := by rw [h.l]; omega
  have u : (1 <<< d) < 2 ^ far := by rw [Nat.one_shiftLeft]; exact Nat.pow_lt_pow_right (by decide) hd
  have u0 : (1 <<< d) ≠ 0 := by rw [Nat.one_shiftLeft]; exact Nat.ne_of_gt (Nat.two_pow_pos d)
  refine ⟨by rw [List.length_set, h.l], fun x hx => ?_, fun s hs hm => ?_, fun s hs hm => ?_⟩
  · rcases List.mem_or_eq_of_mem_set hx with hx | hx
    · exact h.lt x hx
    · rw [hx]
      exact Nat.xor_lt_two_pow (h.lt _ (getDm lt')) u
  · rw [img_put lt']
    by_cases q : s = r
    · subst q
      rw [testBit_top (R.nz s hs), if_pos rfl, h.non s hs nd, Nat.zero_xor]
      exact u0
    · rw [R.off hs hr q, if_neg (by decide), Nat.xor_zero]
      rcases List.mem_append.mp hm with hm | hm
      · exact h.hit s hs hm
      · exact absurd (List.mem_singleton.mp hm) q
  · rw [img_put lt']
    have q : s ≠ r := fun e => hm (List.mem_append_right _ (by rw [e]; exact .head _))
    rw [R.off hs hr q, if_neg (by decide), Nat.xor_zero]
    exact h.non s hs fun z => hm (List.mem_append_left _ z)
theorem chn_nd {K : List Nat} (n : K.Nodup) (m : Nat) : (chn K m).Nodup := by
  unfold chn List.Nodup
  rw [List.pairwise_map]
  refine ((List.nodup_range (n := K.length)).filter _).imp_of_mem fun {i j} hi hj ne e => ne ?_
  have hi := List.mem_range.mp (List.mem_filter.mp hi).1
  have hj := List.mem_range.mp (List.mem_filter.mp hj).1
  rw [List.getD_eq_getElem?_getD, List.getD_eq_getElem?_getD, List.getElem?_eq_getElem hi, List.getElem?_eq_getElem hj] at e
  exact (List.getElem_inj n).mp e
/-- the first row that is hit -/
theorem first_hit {K A A' : List Nat} {far m k : Nat} (n : K.Nodup) (h : Spo K A far (chn K m) A') (hk : k < K.length) (pre : ∀ i, i < k → img A' (K.getD i 0) = 0) (ne : img A' (K.getD k 0) ≠ 0) : (chn K m)[0]? = some (K.getD k 0) := by
  have bit : ∀ i, i < K.length → (m.testBit i = true ↔ img A' (K.getD i 0) ≠ 0) := fun i hi => by
    constructor
    · intro b
      exact h.hit _ (getDm hi) (List.mem_map.mpr ⟨i, List.mem_filter.mpr ⟨List.mem_range.mpr hi, b⟩, rfl⟩)
    · intro z
      refine Classical.byContradiction fun b => z (h.non _ (getDm hi) fun q => b ?_)
      obtain ⟨j, hj, bj, e⟩ := chn_mem q
      rw [List.getD_eq_getElem?_getD, List.getD_eq_getElem?_getD, List.getElem?_eq_getElem hi, List.getElem?_eq_getElem hj] at e
      have := (List.getElem_inj n).mp e
      rwa [← this]
  have e : ((List.range K.length).filter fun i => m.testBit i)[0]? = some k := by
    have s : List.range K.length = List.range k ++ (List.range (K.length - k)).map (k + ·) := by
      rw [← List.range_add]
      congr 1
      omega
    rw [s, List.filter_append]
    have e1 : (List.range k).filter (fun i => m.testBit i) = [] := List.filter_eq_nil_iff.mpr fun i hi b => by
      have hi := List.mem_range.mp hi
      exact (bit i (by omega)).mp b (pre i hi)
    obtain ⟨d, hd⟩ : ∃ d, K.length - k = d + 1 := ⟨K.length - k - 1, by omega⟩
    rw [e1, List.nil_append, hd, List.range_succ_eq_map, List.map_cons, Nat.add_zero, List.filter_cons_of_pos ((bit k hk).mpr ne)]
    rfl
  unfold chn
  rw [List.getElem?_map, e]
  rfl
theorem chn_hit {K : List Nat} {m d : Nat} (hd : d < K.length) (b : m.testBit d = true) : 0 < (chn K m).length := by
  unfold chn
  rw [List.length_map]
  exact List.length_pos_of_mem (List.mem_filter.mpr ⟨List.mem_range.mpr hd, b⟩)
end LaneX
set_option linter.all false
set_option maxRecDepth 100000
set_option maxHeartbeats 4000000
namespace LaneX
/-! ### the least sources of a planted map -/
structure Piv (ws ps C : List Nat) : Prop where
  lp : ps.length = ws.length
  lt : ∀ p ∈ ps, p < C.length
  at_ : ∀ j, j < ws.length → C.getD (ps.getD j 0) 0 = ws.getD j 0
  top : ∀ r ∈ ker C, blen r - 1 ∉ ps
theorem Pld.to_piv {ws ps C K : List Nat} {i n : Nat} (h : Pld ws ps i C K n) (lp : ps.length = ws.length) (hp : ∀ p ∈ ps, p < i) (ind : rk ws = ws.length) : Piv ws ps C := by
  obtain ⟨e, _⟩ := h.done lp hp ind
  have en : n = ws.length := by
    refine Nat.le_antisymm h.sn (Nat.le_of_not_lt fun z => ?_)
    have a := h.hi n (Nat.le_refl _) z
    have b := hp (ps.getD n 0) (getDm (by omega))
    omega
  exact ⟨lp, fun p hp' => by rw [h.lc]; exact hp p hp', fun j hj => h.at_ j (by omega), fun r hr => h.kn r (by rw [e]; exact hr)⟩
theorem slv_bit {C : List Nat} {g r : Nat} (hr : r ∈ ker C) : (slv C g).testBit (blen r - 1) = false := by
  have hm : r ∈ prd C := (List.mem_filter.mp hr).1
  exact clr_tops (spn_rws _) r hm
theorem slv_uniq {C : List Nat} {g x : Nat} (lt : x < 2 ^ C.length) (im : img C x = g) (no : ∀ r ∈ ker C, x.testBit (blen r - 1) = false) : slv C g = x := by
  have sp : Spn C g := by rw [← im]; exact img_in C lt
  obtain ⟨a, b⟩ := slv_ok sp
  have z : slv C g ^^^ x = 0 := rws_zero (ker_rws C) ((ker_span C _).mpr ⟨Nat.xor_lt_two_pow a lt, by rw [(lin_img C).x, b, im, Nat.xor_self]⟩) (fun r hr => by rw [Nat.testBit_xor, slv_bit hr, no r hr]; rfl)
  exact xor_eq_zero z
theorem Piv.cols {ws ps C : List Nat} (h : Piv ws ps C) : (ps.map fun p => 1 <<< p).map (img C) = ws := by
  refine getD_ext (by rw [List.length_map, List.length_map, h.lp]) fun i hi => ?_
  rw [List.length_map, List.length_map] at hi
  have e : ((ps.map fun p => 1 <<< p).map (img C)).getD i 0 = img C (1 <<< ps.getD i 0) := by
    rw [List.getD_eq_getElem?_getD, List.getElem?_map, List.getElem?_map, List.getElem?_eq_getElem hi, List.getD_eq_getElem?_getD, List.getElem?_eq_getElem hi]
    rfl
  rw [e, Nat.one_shiftLeft, img_unit C (h.lt _ (getDm hi)), h.at_ i (by rw [← h.lp]; exact hi)]
theorem Piv.solve {ws ps C : List Nat} (h : Piv ws ps C) (m : Nat) : slv C (xsm (chn ws m)) = xsm (chn (ps.map fun p => 1 <<< p) m) := by
  have hm : ∀ p ∈ chn ps m, p ∈ ps := fun p hp => chn_sub hp
  refine slv_uniq ?_ ?_ fun r hr => ?_
  · rw [chn_map]
    exact units_lt fun p hp => h.lt p (hm p hp)
  · rw [xsm_chn, xsm_chn, ← img_map (lin_img C), h.cols]
  · rw [chn_map]
    cases e : (xsm ((chn ps m).map fun p => 1 <<< p)).testBit (blen r - 1) with
    | false => rfl
    | true => exact absurd (hm _ (units_bits e)) (h.top r hr)
theorem chn_lt {l : List Nat} {m k : Nat} (h : ∀ x ∈ l, x < 2 ^ k) : xsm (chn l m) < 2 ^ k := by
  rw [xsm_chn]
  exact imf_lt h _ _
theorem chn_in {l : List Nat} (m : Nat) : Spn l (xsm (chn l m)) := xsm_spn fun x hx => .of (chn_sub hx)
theorem slv_sp {cs : List Nat} {g : Nat} : (slv cs g < 2 ^ cs.length) ↔ Spn cs g := ⟨fun h => by
  refine Classical.byContradiction fun z => ?_
  have := slv_none z
  omega, fun h => (slv_ok h).1⟩
theorem inv_inv {b : Nat} {M : List Nat} (h : Mix b M) : inv b (inv b M) = M := ext_cols (b := b) (inv_mix (inv_mix h)).len h.len fun x hx => by
  have hN := inv_mix h
  have e1 := inv_right hN hx
  have e2 := inv_right h ((inv_mix hN).img_lt x)
  rw [e1] at e2
  exact e2.symm
theorem cols_inv {b : Nat} {M : List Nat} (h : Mix b M) : M.map (img (inv b M)) = units b := by
  have lM := h.len
  refine getD_ext (by rw [List.length_map, lM]; simp [units]) fun i hi => ?_
  rw [List.length_map] at hi
  have e : (M.map (img (inv b M))).getD i 0 = img (inv b M) (M.getD i 0) := by
    rw [List.getD_eq_getElem?_getD, List.getElem?_map, List.getElem?_eq_getElem hi, List.getD_eq_getElem?_getD, List.getElem?_eq_getElem hi]
    rfl
  have e2 : (units b).getD i 0 = 2 ^ i := by
    unfold units
    rw [map_range_getD _ (by omega), Nat.one_shiftLeft]
  rw [e, e2, ← img_unit M hi]
  exact inv_left h (Nat.pow_lt_pow_right (by decide) (by omega))
theorem mis_uniq {R : List Nat} {i j : Nat} (a : Mis R i) (b : Mis R j) : i = j := by
  rcases Nat.lt_trichotomy i j with z | z | z
  · obtain ⟨r, hr, e⟩ := b.1 i z
    exact absurd e (a.2 r hr)
  · exact z
  · obtain ⟨r, hr, e⟩ := a.1 j z
    exact absurd e (b.2 r hr)
end LaneX
set_option Elab.async false
set_option linter.all false
namespace LaneX
/-! ### renaming and holding alike (k13) -/
theorem spn_ext {A B : List Nat} (h : ∀ x, Spn A x ↔ Spn B x) : spn A = spn B :=
  rws_uniq (spn_rws A) (spn_rws B) (fun x => by rw [spn_span, spn_span, h]) (spn_lts A) (spn_lts B)
theorem spn_inj {A B : List Nat} (h : spn A = spn B) (x : Nat) : Spn A x ↔ Spn B x := by rw [← spn_span A, ← spn_span B, h]
section
variable {b : Nat} {A M : List Nat} (h : Mix b M) (lt : ∀ x ∈ A, x < 2 ^ b)
include h lt
theorem ker_mix : ker (A.map (img M)) = ker A :=
  rws_uniq (ker_rws _) (ker_rws _) (fun x => by
    rw [ker_span, ker_span, List.length_map, img_map (lin_img M)]
    exact ⟨fun ⟨a, e⟩ => ⟨a, h.inj0 (imf_lt lt _ _) e⟩, fun ⟨a, e⟩ => ⟨a, by rw [e, (lin_img M).z]⟩⟩) (ker_lts _) (ker_lts _)
theorem rk_mix : rk (A.map (img M)) = rk A := by
  have h1 := ker_len_eq A
  have h2 := ker_len_eq (A.map (img M))
  rw [ker_mix h lt, List.length_map] at h2
  omega
end
theorem mix_ker {b : Nat} {M : List Nat} (lt : ∀ x ∈ M, x < 2 ^ b) (len : M.length = b) (k : ker M = []) : Mix b M := mix_of len lt fun x hx e => by
  have := (ker_span M x).mpr ⟨by rw [len]; exact hx, e⟩
  rw [k] at this
  exact this.nil
theorem ker_none {b : Nat} {M : List Nat} (h : Mix b M) : ker M = [] := by
  have := ker_len_eq M
  rw [h.rk, h.len] at this
  exact List.length_eq_zero_iff.mp (by omega)
/-! one column changed -/
theorem imf_bent (A : List Nat) {t : Nat} (ht : t < A.length) (u x : Nat) : ∀ n, imf (A.set t (A.getD t 0 ^^^ u)) x n = imf A x n ^^^ (if t < n ∧ x.testBit t = true then u else 0)
  | 0 => by simp [imf]
  | n + 1 => by
    rw [imf_succ, imf_succ, imf_bent A ht u x n]
    have hg : (A.set t (A.getD t 0 ^^^ u)).getD n 0 = if n = t then A.getD t 0 ^^^ u else A.getD n 0 := by
      by_cases e : n = t
      · subst e
        rw [if_pos rfl, List.getD_eq_getElem?_getD, List.getElem?_set_self ht]
        rfl
      · rw [if_neg e, List.getD_eq_getElem?_getD, List.getElem?_set_ne (fun z => e z.symm), ← List.getD_eq_getElem?_getD]
    rw [hg]
    by_cases e : n = t
    · subst e
      by_cases b : x.testBit n = true
      · rw [if_pos b, if_pos b, if_pos rfl, if_neg (fun z => absurd z.1 (Nat.lt_irrefl _)), if_pos ⟨Nat.lt_succ_self _, b⟩, Nat.xor_zero, Nat.xor_assoc]
      · rw [if_neg b, if_neg b, if_neg (fun z => b z.2), if_neg (fun z => b z.2)]
    · rw [if_neg e]
      have e2 : (t < n ∧ x.testBit t = true) ↔ (t < n + 1 ∧ x.testBit t = true) := ⟨fun z => ⟨by omega, z.2⟩, fun z => ⟨by omega, z.2⟩⟩
      by_cases b : x.testBit n = true
      · rw [if_pos b, if_pos b]
        by_cases c : t < n ∧ x.testBit t = true
        · rw [if_pos c, if_pos (e2.mp c), Nat.xor_assoc, Nat.xor_comm u, ← Nat.xor_assoc]
        · rw [if_neg c, if_neg (fun z => c (e2.mpr z)), Nat.xor_zero, Nat.xor_zero]
      · rw [if_neg b, if_neg b]
        by_cases c : t < n ∧ x.testBit t = true
        · rw [if_pos c, if_pos (e2.mp c)]
        · rw [if_neg c, if_neg (fun z => c (e2.mpr z))]
def bnt (A : List Nat) (t u : Nat) : List Nat := A.set t (A.getD t 0 ^^^ u)
theorem bnt_len (A : List Nat) (t u : Nat) : (bnt A t u).length = A.length := List.length_set
section
variable {A : List Nat} {r : Nat} (hr : r ∈ ker A)
include hr
theorem ker_in : r < 2 ^ A.length ∧ img A r = 0 ∧ r ≠ 0 := by
  obtain ⟨h1, h2⟩ := (ker_span A r).mp (.of hr)
  exact ⟨h1, h2, (ker_rws A).nz r hr⟩
theorem ker_top : blen r - 1 < A.length := by
  obtain ⟨h1, _, h3⟩ := ker_in hr
  have := blen_le.mpr h1
  have := blen_pos h3
  omega
theorem bnt_ker {u : Nat} (hu : u ≠ 0) : ker (bnt A (blen r - 1) u) ≠ ker A := fun z => by
  obtain ⟨h1, h2, h3⟩ := ker_in hr
  have h4 : Spn (ker (bnt A (blen r - 1) u)) r := by rw [z]; exact .of hr
  have h5 := ((ker_span _ r).mp h4).2
  unfold img bnt at h5
  rw [List.length_set, imf_bent A (ker_top hr) u r, if_pos ⟨ker_top hr, testBit_top h3⟩] at h5
  have h2 : imf A r A.length = 0 := h2
  rw [h2, Nat.zero_xor] at h5
  exact hu h5
theorem bnt_old (u : Nat) {x : Nat} (h : x ∈ A) : Spn (bnt A (blen r - 1) u) x := by
  obtain ⟨h1, h2, h3⟩ := ker_in hr
  have ht := ker_top hr
  obtain ⟨k, hk, rfl⟩ := List.mem_iff_getElem.mp h
  by_cases e : k = blen r - 1
  · have lt : r ^^^ 2 ^ (blen r - 1) < 2 ^ (blen r - 1) := by
      have rb : r < 2 ^ (blen r - 1 + 1) := by
        have := blen_pos h3
        rw [Nat.sub_add_cancel this]
        exact blen_le.mp (Nat.le_refl _)
      rcases bit_split rb with q | q
      · have := testBit_top h3
        rw [not_bit_of_lt q] at this
        cases this
      · exact q.1
    have im : img A (r ^^^ 2 ^ (blen r - 1)) = A[k] := by
      rw [(lin_img A).x, h2, Nat.zero_xor, img_unit A ht, List.getD_eq_getElem?_getD, ← e, List.getElem?_eq_getElem hk]
      rfl
    have sp := img_span (cols := A) (Nat.le_of_lt ht) lt
    rw [im] at sp
    refine sp.sub fun w hw => ?_
    have e2 : (bnt A (blen r - 1) u).take (blen r - 1) = A.take (blen r - 1) := List.take_set_of_le (Nat.le_refl _)
    rw [← e2] at hw
    exact List.mem_of_mem_take hw
  · refine .of (List.mem_iff_getElem?.mpr ⟨k, ?_⟩)
    unfold bnt
    rw [List.getElem?_set_ne (fun z => e z.symm), List.getElem?_eq_getElem hk]
theorem bnt_rk (u : Nat) : rk A ≤ rk (bnt A (blen r - 1) u) := rk_le fun x hx => bnt_old hr u hx
theorem bnt_more {b : Nat} (lt : ∀ x ∈ A, x < 2 ^ b) (hb : b ≤ rk A) : b + 1 ≤ rk (bnt A (blen r - 1) (1 <<< b)) := by
  refine rk_full fun u hu => ?_
  obtain ⟨i, hi, rfl⟩ := List.mem_map.mp hu
  have hi := List.mem_range.mp hi
  have old : ∀ {x}, Spn A x → Spn (bnt A (blen r - 1) (1 <<< b)) x := fun h => h.mono fun w hw => bnt_old hr _ hw
  by_cases e : i = b
  · subst e
    have h1 : Spn (bnt A (blen r - 1) (1 <<< i)) (A.getD (blen r - 1) 0 ^^^ 1 <<< i) := .of (List.mem_iff_getElem?.mpr ⟨blen r - 1, List.getElem?_set_self (ker_top hr)⟩)
    have h2 := old (.of (getD_mem (ker_top hr)))
    have := h2.xor h1
    rwa [← Nat.xor_assoc, Nat.xor_self, Nat.zero_xor] at this
  · exact old (in_full lt hb (by rw [Nat.one_shiftLeft]; exact Nat.pow_lt_pow_right (by decide) (by omega)))
end
/-! ### a word outside -/
theorem lone_out {ss : List Nat} {j : Nat} (m : Mis (spn ss) j) : ¬ Spn ss (1 <<< j) := fun z => by
  rw [Nat.one_shiftLeft] at z
  exact m.at_ (spn_rws ss) ((spn_span ss _).mpr z)
theorem lone_lt {ss : List Nat} {b j : Nat} (m : Mis (spn ss) j) (h : (spn ss).length < b) : 1 <<< j < 2 ^ b := by
  have := mis_le m.1
  rw [Nat.one_shiftLeft]
  exact Nat.pow_lt_pow_right (by decide) (by omega)
theorem lone_snoc {ss fs : List Nat} {j : Nat} (m : Mis (spn ss) j) (h : ∀ x, Spn fs x ↔ Spn ss x) : spn ss ≠ spn (fs ++ [1 <<< j]) := fun z => by
  have := (spn_inj z (1 <<< j)).mpr (.of (List.mem_append_right _ (List.mem_singleton.mpr rfl)))
  exact lone_out m this
theorem lone_spun {ss : List Nat} {j r : Nat} {R : List Nat} (m : Mis (spn ss) j) (e : spn ss = r :: R) : spn ss ≠ spn ((r ^^^ 1 <<< j) :: R) := fun z => by
  have h1 := (spn_inj z (r ^^^ 1 <<< j)).mpr (.of (List.mem_cons_self))
  have h2 : Spn ss r := (spn_span ss r).mp (.of (by rw [e]; exact List.mem_cons_self))
  have h3 := h2.xor h1
  rw [← Nat.xor_assoc, Nat.xor_self, Nat.zero_xor] at h3
  exact lone_out m h3
theorem lone_bent {ss : List Nat} {j x : Nat} (m : Mis (spn ss) j) (h : Spn ss x) : ¬ Spn ss (x ^^^ 1 <<< j) := fun z => by
  have h3 := h.xor z
  rw [← Nat.xor_assoc, Nat.xor_self, Nat.zero_xor] at h3
  exact lone_out m h3
end LaneX
namespace LaneX
/-- rows, the first one with a word more -/
def spu (R : List Nat) (u : Nat) : List Nat := (List.range R.length).map fun i => if i = 0 then R.getD i 0 ^^^ u else R.getD i 0
theorem spu_cons (r : Nat) (R : List Nat) (u : Nat) : spu (r :: R) u = (r ^^^ u) :: R := by
  unfold spu
  refine List.ext_getElem (by simp) fun i h1 h2 => ?_
  rw [List.getElem_map, List.getElem_range]
  cases i with
  | zero => simp
  | succ n =>
    rw [if_neg (by omega), List.getD_eq_getElem?_getD, List.getElem?_eq_getElem (by simpa using h2)]
    rfl
theorem spu_lt {R : List Nat} {u b : Nat} (lt : ∀ x ∈ R, x < 2 ^ b) (hu : u < 2 ^ b) : ∀ x ∈ spu R u, x < 2 ^ b := fun x hx => by
  obtain ⟨i, hi, rfl⟩ := List.mem_map.mp hx
  have := lt _ (getD_mem (List.mem_range.mp hi))
  split
  · exact Nat.xor_lt_two_pow this hu
  · exact this
theorem spu_len (R : List Nat) (u : Nat) : (spu R u).length = R.length := by simp [spu]
/-- one word changed, as the law writes it -/
def bn3 (M : List Nat) (t u : Nat) : List Nat := M.take t ++ [M.getD t 0 ^^^ u] ++ M.drop (t + 1)
theorem bn3_eq {M : List Nat} {t : Nat} (ht : t < M.length) (u : Nat) : bn3 M t u = bnt M t u := by
  unfold bn3 bnt
  rw [List.set_eq_take_append_cons_drop, if_pos ht, List.append_assoc]
  rfl
theorem bnt_get {M : List Nat} {t : Nat} (ht : t < M.length) (u : Nat) : (bnt M t u).getD t 0 = M.getD t 0 ^^^ u := by
  unfold bnt
  rw [List.getD_eq_getElem?_getD, List.getElem?_set_self ht]
  rfl
theorem bnt_lt {M : List Nat} {t u b : Nat} (ht : t < M.length) (lt : ∀ x ∈ M, x < 2 ^ b) (hu : u < 2 ^ b) : ∀ x ∈ bnt M t u, x < 2 ^ b := fun x hx => by
  rcases List.mem_or_eq_of_mem_set hx with hx | rfl
  · exact lt x hx
  · exact Nat.xor_lt_two_pow (lt _ (getD_mem ht)) hu
/-- lanes moved within the slot space -/
structure Mvd (ss ls M : List Nat) : Prop where
  l : M.length = ls.length
  s : ∀ i, i < ls.length → Spn ss (ls.getD i 0 ^^^ M.getD i 0)
theorem Mvd.in1 {ss ls M : List Nat} (h : Mvd ss ls M) {x : Nat} (hx : x ∈ ls) : Spn (ss ++ M) x := by
  obtain ⟨i, hi, rfl⟩ := List.mem_iff_getElem.mp hx
  have h1 := (h.s i hi).sub (vs := ss ++ M) fun w hw => List.mem_append_left _ hw
  have h2 : Spn (ss ++ M) (M.getD i 0) := .of (List.mem_append_right _ (getD_mem (by rw [h.l]; exact hi)))
  have h3 := h1.xor h2
  rw [Nat.xor_assoc, Nat.xor_self, Nat.xor_zero, List.getD_eq_getElem?_getD, List.getElem?_eq_getElem hi] at h3
  exact h3
theorem Mvd.lt {ss ls M : List Nat} {b : Nat} (h : Mvd ss ls M) (hs : ∀ x ∈ ss, x < 2 ^ b) (hl : ∀ x ∈ ls, x < 2 ^ b) : ∀ x ∈ M, x < 2 ^ b := fun x hx => by
  obtain ⟨i, hi, rfl⟩ := List.mem_iff_getElem.mp hx
  have hi' : i < ls.length := by rw [← h.l]; exact hi
  have h1 := (h.s i hi').lt hs
  have h2 := Nat.xor_lt_two_pow h1 (hl _ (getD_mem hi'))
  rw [Nat.xor_comm (ls.getD i 0), Nat.xor_assoc, Nat.xor_self, Nat.xor_zero, List.getD_eq_getElem?_getD, List.getElem?_eq_getElem hi] at h2
  exact h2
theorem Mvd.rk {ss ls M F : List Nat} (h : Mvd ss ls M) (f : ∀ x, Spn F x ↔ Spn ss x) : LaneX.rk (ss ++ ls) ≤ LaneX.rk (F ++ M) := rk_le fun x hx => by
  have e : ∀ {y}, Spn (ss ++ M) y → Spn (F ++ M) y := fun z => z.mono fun w hw => by
    rcases List.mem_append.mp hw with hw | hw
    · exact ((f w).mpr (.of hw)).sub fun v hv => List.mem_append_left _ hv
    · exact .of (List.mem_append_right _ hw)
  rcases List.mem_append.mp hx with hx | hx
  · exact e (.of (List.mem_append_left _ hx))
  · exact e (h.in1 hx)
end LaneX
set_option Elab.async false
set_option linter.all false
namespace LaneX
/-! ### banks of a store, and what meets in them (k39) -/
theorem bent_img {A : List Nat} {t : Nat} (ht : t < A.length) (u x : Nat) : img (bnt A t u) x = img A x ^^^ (if x.testBit t = true then u else 0) := by
  have e : img (bnt A t u) x = imf (A.set t (A.getD t 0 ^^^ u)) x A.length := by
    show imf (bnt A t u) x (bnt A t u).length = _
    rw [bnt_len]; rfl
  rw [e, imf_bent A ht u x]
  by_cases h : x.testBit t = true
  · rw [if_pos ⟨ht, h⟩, if_pos h]; rfl
  · rw [if_neg (fun z => h z.2), if_neg h]; rfl
theorem bent_mix {b : Nat} {C : List Nat} (h : Mix b C) {i j : Nat} (hi : i < b) (hj : j < b) : Mix b (C.set i (C.getD i 0 ^^^ (if i ≠ j then C.getD j 0 else 0))) := by
  have il : i < C.length := by rw [h.len]; exact hi
  have jl : j < C.length := by rw [h.len]; exact hj
  have gl : ∀ k, k < C.length → C.getD k 0 < 2 ^ b := fun k hk => by
    rw [List.getD_eq_getElem?_getD, List.getElem?_eq_getElem hk]
    exact h.lt _ (List.getElem_mem hk)
  by_cases e : i = j
  · rw [if_neg (fun z => z e), Nat.xor_zero]
    have : C.set i (C.getD i 0) = C := by
      rw [List.getD_eq_getElem?_getD, List.getElem?_eq_getElem il]
      exact List.set_getElem_self il
    rw [this]; exact h
  · rw [if_pos e]
    refine mix_of (by rw [List.length_set, h.len]) (fun x hx => ?_) fun x hx z => ?_
    · rcases List.mem_or_eq_of_mem_set hx with q | q
      · exact h.lt x q
      · rw [q]; exact Nat.xor_lt_two_pow (gl i il) (gl j jl)
    · have z : img (bnt C i (C.getD j 0)) x = 0 := z
      rw [bent_img il] at z
      by_cases t : x.testBit i = true
      · rw [if_pos t, ← img_unit C jl, ← (lin_img C).x] at z
        have z := h.inj0 (Nat.xor_lt_two_pow hx (Nat.pow_lt_pow_right (by decide) hj)) z
        have := congrArg (fun n => Nat.testBit n i) z
        simp only [Nat.testBit_xor, t, Nat.zero_testBit] at this
        rw [Nat.testBit_two_pow_of_ne (fun q => e q.symm)] at this
        cases this
      · rw [if_neg t, Nat.xor_zero] at z
        exact h.inj0 hx z
/-- one column put over another, or 0 -/
theorem lame_ker {b : Nat} {C : List Nat} (h : C.length = b) {i j : Nat} (hi : i < b) (hj : j < b) : ∃ x, 0 < x ∧ x < 2 ^ b ∧ img (C.set i (if i ≠ j then C.getD j 0 else 0)) x = 0 := by
  have il : i < C.length := by rw [h]; exact hi
  have jl : j < C.length := by rw [h]; exact hj
  have eq : ∀ v, C.set i v = bnt C i (C.getD i 0 ^^^ v) := fun v => by unfold bnt; rw [xor_cancel]
  rw [eq]
  have p1 : 2 ^ i < 2 ^ b := Nat.pow_lt_pow_right (by decide) hi
  have p2 : 2 ^ j < 2 ^ b := Nat.pow_lt_pow_right (by decide) hj
  by_cases e : i = j
  · refine ⟨2 ^ i, Nat.two_pow_pos i, p1, ?_⟩
    subst e
    rw [if_neg (fun z => z rfl), Nat.xor_zero, bent_img il, if_pos (Nat.testBit_two_pow_self), img_unit C il, Nat.xor_self]
  · refine ⟨2 ^ i ^^^ 2 ^ j, Nat.pos_of_ne_zero fun z => ?_, Nat.xor_lt_two_pow p1 p2, ?_⟩
    · exact e ((Nat.pow_right_inj (by decide)).mp (xz z))
    · have t : (2 ^ i ^^^ 2 ^ j).testBit i = true := by rw [Nat.testBit_xor, Nat.testBit_two_pow_self, Nat.testBit_two_pow_of_ne (fun q => e q.symm)]; rfl
      rw [bent_img il, if_pos t, if_pos e, (lin_img C).x, img_unit C il, img_unit C jl, Nat.xor_self]
/-- the first row of the kernel is the least word that goes to 0 -/
theorem ker_first {C : List Nat} {r : Nat} {R : List Nat} (e : ker C = r :: R) : 0 < r ∧ r < 2 ^ C.length ∧ img C r = 0 ∧ ∀ x, 0 < x → x < 2 ^ C.length → img C x = 0 → r ≤ x := by
  have rr := ker_rws C
  have lts := ker_lts C
  have mr : r ∈ ker C := by rw [e]; exact List.mem_cons_self
  have sr := (ker_span C r).mp (.of mr)
  have least : ∀ y ∈ ker C, r ≤ y := fun y hy => by
    rw [e] at hy lts
    rcases List.mem_cons.mp hy with q | q
    · exact Nat.le_of_eq q.symm
    · exact Nat.le_of_lt ((List.pairwise_cons.mp lts).1 y q)
  have bl : ∀ {a c : Nat}, a ≤ c → blen a ≤ blen c := fun {a c} h => blen_le.mpr (Nat.lt_of_le_of_lt h (lt_blen c))
  have top : ∀ x, x ≠ 0 → Spn (ker C) x → blen r ≤ blen x := fun x nz hx => by
    obtain ⟨y, hy, q⟩ := rr.top_mem hx nz
    rw [← q]; exact bl (least y hy)
  refine ⟨Nat.pos_of_ne_zero (rr.nz r mr), sr.1, sr.2, fun x h0 hx hz => ?_⟩
  have sx := (ker_span C x).mpr ⟨hx, hz⟩
  have nz : x ≠ 0 := Nat.pos_iff_ne_zero.mp h0
  have b1 := top x nz sx
  rcases Nat.lt_or_ge x r with q | q
  · have b2 := bl (Nat.le_of_lt q)
    have eb : blen r = blen x := by omega
    have ne : x ^^^ r ≠ 0 := fun z => by have := xz z; omega
    have b3 := top _ ne (sx.xor (.of mr))
    have hb : 0 < blen r := blen_pos (rr.nz r mr)
    have small : blen (x ^^^ r) ≤ blen r - 1 := by
      refine blen_le.mpr (lt_of_bits fun j hj => ?_)
      rw [Nat.testBit_xor]
      by_cases z : j = blen r - 1
      · subst z
        have t1 := testBit_top (rr.nz r mr)
        have t2 := testBit_top nz
        rw [← eb] at t2
        rw [t1, t2]; rfl
      · rw [testBit_ge (by omega), testBit_ge (by omega)]; rfl
    omega
  · exact q
theorem ker_some {C : List Nat} {x : Nat} (h0 : 0 < x) (hx : x < 2 ^ C.length) (hz : img C x = 0) : ∃ r R, ker C = r :: R := by
  cases e : ker C with
  | nil =>
    have := (ker_span C x).mpr ⟨hx, hz⟩
    rw [e] at this
    have := this.nil
    omega
  | cons r R => exact ⟨r, R, rfl⟩
/-! #### words by what they go to -/
theorem lin_and (m : Nat) : Lin (fun x => x &&& m) := ⟨by simp, fun a c => Nat.and_xor_distrib_right⟩
def msk (k : Nat) (C : List Nat) : List Nat := C.map fun x => x &&& ((1 <<< k) - 1)
theorem msk_len (k : Nat) (C : List Nat) : (msk k C).length = C.length := by simp [msk]
theorem msk_img (k : Nat) (C : List Nat) (x : Nat) : img (msk k C) x = img C x &&& ((1 <<< k) - 1) := img_map (lin_and _) C x
theorem and_lt (x k : Nat) : x &&& ((1 <<< k) - 1) < 2 ^ k := by
  rw [Nat.one_shiftLeft]
  have := Nat.and_le_right (n := x) (m := 2 ^ k - 1)
  have := Nat.two_pow_pos k
  omega
theorem msk_lt {k : Nat} {C : List Nat} : ∀ x ∈ msk k C, x < 2 ^ k := fun x hx => by
  obtain ⟨y, _, rfl⟩ := List.mem_map.mp hx
  exact and_lt y k
/-- the words of a coset with the same image -/
theorem fib_len {b : Nat} {T M keys : List Nat} {s x0 : Nat} (nd : keys.Nodup) (mem : ∀ x, x ∈ keys ↔ Spn T (x ^^^ s)) (lt : ∀ x ∈ T, x < 2 ^ b) (hM : M.length = b) (h0 : x0 ∈ keys) :
    (keys.filter fun x => decide (img M x = img M x0)).length = 2 ^ (mtd b (spn T) (spn (ker M))).length := by
  rw [← sev_len]
  have e : (sev (mtd b (spn T) (spn (ker M)))).length = ((sev (mtd b (spn T) (spn (ker M)))).map fun x => x ^^^ x0).length := by simp
  rw [e]
  refine len_of_mem (nd.filter _) (nodup_xor (sev_nodup (mtd_rws _ _ _).ind) x0) fun x => ?_
  have key : ∀ y, Spn (mtd b (spn T) (spn (ker M))) y ↔ Spn T y ∧ img M y = 0 := fun y => by
    rw [mtd_span (spn_lt lt), spn_span, spn_span, ker_span, hM]
    exact ⟨fun z => ⟨z.1, z.2.2⟩, fun z => ⟨z.1, z.1.lt lt, z.2⟩⟩
  have m0 := (mem x0).mp h0
  rw [List.mem_filter, List.mem_map, mem]
  constructor
  · rintro ⟨h1, h2⟩
    have h2 := of_decide_eq_true h2
    refine ⟨x ^^^ x0, (sev_mem _ _).mpr ((key _).mpr ⟨?_, ?_⟩), xor_cancel_right _ _⟩
    · have z := h1.xor m0
      rw [xor4, Nat.xor_self, Nat.xor_zero] at z
      exact z
    · rw [(lin_img M).x, h2, Nat.xor_self]
  · rintro ⟨y, hy, rfl⟩
    have z := (key y).mp ((sev_mem _ _).mp hy)
    refine ⟨?_, decide_eq_true ?_⟩
    · have q := z.1.xor m0
      rwa [← Nat.xor_assoc] at q
    · rw [(lin_img M).x, z.2, Nat.zero_xor]
/-- how many bits of a space lie in bank 0 -/
def met' (b k : Nat) (C T : List Nat) : Nat := (spn (mtd b (spn T) (spn (ker (msk k C))))).length
theorem met_len (b k : Nat) (C T : List Nat) : met' b k C T = (mtd b (spn T) (spn (ker (msk k C)))).length := spn_id (mtd_rws _ _ _)
theorem met_count {b k : Nat} {C W : List Nat} (hC : C.length = b) (lt : ∀ x ∈ W, x < 2 ^ b) : ((sev (bas W)).filter fun x => decide (img C x &&& ((1 <<< k) - 1) = 0)).length = 2 ^ met' b k C W := by
  rw [met_len, ← fib_len (b := b) (T := W) (M := msk k C) (keys := sev (bas W)) (s := 0) (x0 := 0) (sev_nodup (bas_lws W).ind) (fun x => by rw [sev_mem, bas_span, Nat.xor_zero]) lt (by rw [msk_len, hC]) ((sev_mem _ _).mpr .zero)]
  congr 2
  funext x
  rw [msk_img, (lin_img _).z]
/-! #### the near entries -/
def nr (b w : Nat) (C : List Nat) : List Nat := (List.range (1 <<< b)).filter fun x => decide (img C x < 1 <<< w)
theorem nr_mem {b w : Nat} {C : List Nat} (h : Mix b C) (hw : w ≤ b) (x : Nat) : x ∈ nr b w C ↔ Spn ((inv b C).take w) x := by
  unfold nr
  have mi := inv_mix h
  rw [List.mem_filter, List.mem_range, Nat.one_shiftLeft, Nat.one_shiftLeft]
  constructor
  · rintro ⟨h1, h2⟩
    have h2 := of_decide_eq_true h2
    have e := img_span (cols := inv b C) (n := w) (by rw [mi.len]; exact hw) h2
    rwa [inv_left h h1] at e
  · intro q
    obtain ⟨y, hy, rfl⟩ := span_img (by rw [mi.len]; exact hw) q
    have yb : y < 2 ^ b := Nat.lt_of_lt_of_le hy (Nat.pow_le_pow_right (by decide) hw)
    exact ⟨imf_lt mi.lt _ _, decide_eq_true (by rw [inv_right h yb]; exact hy)⟩
theorem nr_span {b w : Nat} {C : List Nat} (h : Mix b C) (hw : w ≤ b) (x : Nat) : Spn (nr b w C) x ↔ Spn ((inv b C).take w) x :=
  ⟨fun q => q.mono fun y hy => (nr_mem h hw y).mp hy, fun q => q.mono fun y hy => .of ((nr_mem h hw y).mpr (.of hy))⟩
theorem nr_zero {b w : Nat} {C : List Nat} (h : Mix b C) (hw : w ≤ b) : 0 ∈ nr b w C := (nr_mem h hw 0).mpr .zero
theorem nr_len (b w : Nat) (C : List Nat) : (nr b w C).length ≤ 1 <<< b := Nat.le_trans (List.length_filter_le _ _) (by rw [List.length_range]; exact Nat.le_refl _)
def ftn (w : Nat) (ss V : List Nat) : Bool := (V.take w).all fun x => decide (clr (spn ss) x = 0)
theorem ftn_iff {b w : Nat} {C : List Nat} (h : Mix b C) (hw : w ≤ b) (ss : List Nat) : ((nr b w C).all fun x => decide (lft (bas ss) x = 0)) = ftn w ss (inv b C) := by
  unfold ftn
  rw [Bool.eq_iff_iff, List.all_eq_true, List.all_eq_true]
  constructor
  · intro q x hx
    have z := of_decide_eq_true (q x ((nr_mem h hw x).mpr (.of hx)))
    rw [lft_bas] at z
    exact decide_eq_true (clr_spn_zero.mpr z)
  · intro q x hx
    refine decide_eq_true (lft_bas.mpr (((nr_mem h hw x).mp hx).mono fun y hy => ?_))
    exact clr_spn_zero.mp (of_decide_eq_true (q y hy))
theorem tch_rk {b w lo : Nat} {C ls : List Nat} (h : Mix b C) (hw : w ≤ b) : rk (ls.take lo ++ (inv b C).take w) = rk (ls.take lo ++ nr b w C) := rk_eq fun x => span_app2 (fun _ => Iff.rfl) fun z => (nr_span h hw z).symm
/-! #### counting -/
def cnt (f : Nat → Nat) (p : List Nat) (v : Nat) : Nat := (p.filter fun x => decide (f x = v)).length
theorem cnt_nil (f : Nat → Nat) (v : Nat) : cnt f [] v = 0 := rfl
theorem cnt_snoc (f : Nat → Nat) (p : List Nat) (x v : Nat) : cnt f (p ++ [x]) v = if f x = v then cnt f p v + 1 else cnt f p v := by
  unfold cnt
  rw [List.filter_append, List.length_append]
  by_cases h : f x = v
  · rw [if_pos h, List.filter_cons_of_pos (by simpa using h)]; rfl
  · rw [if_neg h, List.filter_cons_of_neg (by simpa using h)]; rfl
theorem cnt_pos {f : Nat → Nat} {p : List Nat} {v : Nat} : 0 < cnt f p v ↔ ∃ x ∈ p, f x = v := by
  unfold cnt
  rw [List.length_pos_iff_exists_mem]
  constructor
  · rintro ⟨x, hx⟩
    have := List.mem_filter.mp hx
    exact ⟨x, this.1, of_decide_eq_true this.2⟩
  · rintro ⟨x, h1, h2⟩
    exact ⟨x, List.mem_filter.mpr ⟨h1, decide_eq_true h2⟩⟩
/-- all banks of a coset hold equally many of it -/
theorem cnt_fib {b k : Nat} {C T keys : List Nat} {s v : Nat} (nd : keys.Nodup) (mem : ∀ x, x ∈ keys ↔ Spn T (x ^^^ s)) (lt : ∀ x ∈ T, x < 2 ^ b) (hC : C.length = b)
    (hv : 0 < cnt (fun x => img C x &&& ((1 <<< k) - 1)) keys v) : cnt (fun x => img C x &&& ((1 <<< k) - 1)) keys v = 2 ^ met' b k C T := by
  obtain ⟨x0, h0, rfl⟩ := cnt_pos.mp hv
  rw [met_len, ← fib_len (b := b) (M := msk k C) nd mem lt (by rw [msk_len, hC]) h0]
  unfold cnt
  congr 2
  funext x
  rw [msk_img, msk_img]
theorem met_nr {b k w lo : Nat} {C ls : List Nat} (h : Mix b C) (hw : w ≤ b) : met' b k C (ls.take lo ++ (inv b C).take w) = met' b k C (ls.take lo ++ nr b w C) := by
  unfold met'
  rw [spn_ext (A := ls.take lo ++ (inv b C).take w) (B := ls.take lo ++ nr b w C) fun x => span_app2 (fun _ => Iff.rfl) fun z => (nr_span h hw z).symm]
/-- the entries of a phase -/
theorem phase_in {b w lo : Nat} {C ls : List Nat} (h : Mix b C) (hw : w ≤ b) (hlo : lo ≤ ls.length) (s x : Nat) : (∃ l, l < 2 ^ lo ∧ ∃ y ∈ nr b w C, x = s ^^^ img ls l ^^^ y) ↔ Spn (ls.take lo ++ nr b w C) (x ^^^ s) := by
  constructor
  · rintro ⟨l, hl, y, hy, rfl⟩
    have a := (img_span hlo hl).sub (vs := ls.take lo ++ nr b w C) fun z hz => List.mem_append_left _ hz
    have c : Spn (ls.take lo ++ nr b w C) y := .of (List.mem_append_right _ hy)
    have d := a.xor c
    have e : s ^^^ img ls l ^^^ y ^^^ s = img ls l ^^^ y := by
      rw [Nat.xor_comm _ s, Nat.xor_assoc s, ← Nat.xor_assoc, Nat.xor_self, Nat.zero_xor]
    rwa [e]
  · intro q
    obtain ⟨a, c, h1, h2, e⟩ := span_split q
    obtain ⟨l, hl, rfl⟩ := span_img hlo h1
    refine ⟨l, hl, c, (nr_mem h hw c).mpr ((nr_span h hw c).mp h2), ?_⟩
    rw [Nat.xor_assoc, ← e, Nat.xor_comm x, xor_cancel]
end LaneX
set_option Elab.async false
set_option linter.all false
set_option maxRecDepth 100000
set_option maxHeartbeats 4000000
namespace LaneX
open PySem PySem.Spec PyProof.Rows L2
/-! ### the checks, for any value -/
/-- what is raised: the value -/
def Rsd (CB : Addr) (y : V) (H : Hp) (E : XK) : Prop := ∀ H' d, Same H H' → H d = none → H' d = some (.xd [("value", y)]) → E (.ref CB) (some d) H'
theorem Rsd.go {CB : Addr} {y : V} {H H1 : Hp} {E : XK} (h : Rsd CB y H E) (s : Same H H1) : Rsd CB y H1 E := fun H' d s' hd ed => h H' d (s.trans s') (s.free hd) ed
def sp_is_wholeA : Sp := fun vs H Q _ => ∃ y, vs = [y] ∧ ((∃ n : Nat, y = vN n ∧ Q (.bl true) H) ∨ ((∃ t, OddW H y t) ∧ Q (.bl false) H))
def sp_need_wholeX (CB : Addr) : Sp := fun vs H Q E => ∃ y, vs = [y] ∧ ((∃ n : Nat, y = vN n ∧ Q .non H) ∨ ((∃ t, OddW H y t) ∧ Rsd CB y H E))
def sp_need_wordX (CB : Addr) : Sp := fun vs H Q E => ∃ (y : V) (b : Nat), vs = [y, vN b] ∧ ((∃ n : Nat, y = vN n ∧ blen n ≤ b ∧ Q .non H) ∨ (BadW H b y ∧ Rsd CB y H E))
def sp_need_itemsX (CB : Addr) : Sp := fun vs H Q E => ∃ y, vs = [y] ∧ ((∃ (a : Addr) (xs : List V), y = .ref a ∧ Tq H a xs ∧ ∀ H', Same H H' → Q .non H') ∨ ((∃ t, NoSeq H y t) ∧ Rsd CB y H E))
def sp_need_wordsX (CB : Addr) : Sp := fun vs H Q E => ∃ (y : V) (b : Nat), vs = [y, vN b] ∧ ((∃ (a : Addr) (ns : List Nat), y = .ref a ∧ Tq H a (ns.map vN) ∧ (∀ n ∈ ns, blen n ≤ b) ∧ ∀ H' p, Same H H' → H p = none → H' p = some (.lst (ns.map vN)) → Q (.ref p) H') ∨
  ((∃ t, NoSeq H y t) ∧ Rsd CB y H E) ∨ (∃ (a : Addr) (xs : List V) (i : Nat) (v : V), y = .ref a ∧ Tq H a xs ∧ xs[i]? = some v ∧ (∀ j, j < i → ∃ n : Nat, xs[j]? = some (vN n) ∧ blen n ≤ b) ∧ BadW H b v ∧ Rsd CB v H E))
section
variable {P : Program} {w : World} {K : PySem.W.Frag} {mg : Str → Option Value} {base : Heap} {f : Addr} {fd : FuncData} {CB : Addr} (T : Bt mg)
include T
theorem ok_is_whole_A (F : FnP K "is_whole" "is_whole" s_is_whole f fd) : FnOk P w K mg base CX0 1 f fd ["value"] sp_is_wholeA := by
  have nd := sc_is_whole.nd
  refine fnok F sc_is_whole (fun vs H Q E h => ?_) (fun cdv A outer s H vs Q E hr h => ?_)
  · obtain ⟨y, rfl, _⟩ := h
    rfl
  · obtain ⟨y, rfl, alt⟩ := h
    refine ⟨_, (pss_one (ps_ret (pe_and (pe_callB call_isi (by rfl) T.isinstance (by decide +kernel) (pa_cons (pv 0) (pa_cons (pe_bltn (v := .ty "int") (by rfl) T.int (by decide +kernel) rfl) pa_nil))) (pe_and (pe_not (pe_callB call_isi (by rfl) T.isinstance (by decide +kernel) (pa_cons (pv 0) (pa_cons (pe_bltn (v := .ty "bool") (by rfl) T.bool (by decide +kernel) rfl) pa_nil)))) (pe_one (pe_cmpR op_ge (pv 0) pe_int (nomark _))))))), ?_⟩
    rcases alt with ⟨n, rfl, k⟩ | ⟨⟨t, o⟩, k⟩
    · refine ⟨_, rfl, _, _, _, _, _, rfl, .ty _, .base (.int _), kit_ty (r := true) (by decide +kernel), _, rfl, iteT ?_⟩
      refine ⟨_, rfl, _, _, _, _, _, rfl, .ty _, .base (.int _), kit_ty (r := false) (by decide +kernel), _, rfl, _, rfl, iteT ?_⟩
      refine ⟨_, rfl, _, _, rfl, rfl, ?_⟩
      have e : decide ((0 : Int) ≤ (n : Int)) = true := decide_eq_true (by omega)
      show Q (.bl (decide ((0 : Int) ≤ (n : Int)))) H
      rw [e]
      exact k
    · refine ⟨_, rfl, _, _, _, _, _, rfl, .ty _, o.ty, o.int_, _, rfl, ?_⟩
      by_cases e1 : t = "int" ∨ t = "bool"
      · rw [decide_eq_true e1]
        refine iteT ⟨_, rfl, _, _, _, _, _, rfl, .ty _, o.ty, o.bool_, _, rfl, ?_⟩
        by_cases e2 : t = "bool"
        · rw [decide_eq_true e2]
          exact ⟨_, rfl, iteF k⟩
        · rw [decide_eq_false e2]
          refine ⟨_, rfl, iteT ?_⟩
          have e3 : t = "int" := e1.elim id fun z => absurd z e2
          cases o with
          | neg i hi =>
            refine ⟨_, rfl, _, _, rfl, rfl, ?_⟩
            have e : decide ((0 : Int) ≤ i) = false := decide_eq_false (by omega)
            show Q (.bl (decide ((0 : Int) ≤ i))) H
            rw [e]
            exact k
          | non => exact absurd e3 (by decide)
          | bl b => exact absurd rfl e2
          | str x => exact absurd e3 (by decide)
          | lst e => exact absurd e3 (by decide)
          | tup e => exact absurd e3 (by decide)
          | dk e => exact absurd e3 (by decide)
      · rw [decide_eq_false e1]
        exact iteF k
theorem ok_need_whole_X (F : FnP K "need_whole" "need_whole" s_need_whole f fd) (D_is_wholeA : Dn P w K mg base 1 "is_whole" ["value"] sp_is_wholeA) (XB : Xi P K mg CB "value" "value") (glB : mg "BadValue" = some (.ref CB)) : FnOk P w K mg base (L2.CX P w) 3 f fd ["value"] (sp_need_wholeX CB) := by
  have nd := sc_need_whole.nd
  refine fnokX F sc_need_whole (fun vs H Q E h => ?_) (fun cdv A outer s H vs Q E hr h => ?_)
  · obtain ⟨y, rfl, _⟩ := h
    rfl
  · obtain ⟨y, rfl, alt⟩ := h
    refine ⟨_, (pss_one (ps_if (pt_not (pt_val (pe_d D_is_wholeA hr (pa_cons (pv 0) pa_nil))))
      (pss_one (ps_raise rfl (takes_of rfl rfl rfl rfl) (pmk_xi XB glB hr (pa_cons (pv 0) pa_nil))))
      pss_nil)), ?_⟩
    rcases alt with ⟨n, rfl, k⟩ | ⟨o, kB⟩
    · exact ⟨_, rfl, _, rfl, .inl ⟨n, rfl, _, rfl, iteF k⟩⟩
    · exact ⟨_, rfl, _, rfl, .inr ⟨o, _, rfl, iteT ⟨_, rfl, xi_mk fun d hd => kB _ d (same_new0 hd) hd upd_same⟩⟩⟩
theorem ok_need_word_X (F : FnP K "need_word" "need_word" s_need_word f fd) (D_is_wholeA : Dn P w K mg base 1 "is_whole" ["value"] sp_is_wholeA) (XB : Xi P K mg CB "value" "value") (glB : mg "BadValue" = some (.ref CB)) : FnOk P w K mg base (L2.CX P w) 3 f fd ["value", "bits"] (sp_need_wordX CB) := by
  have nd := sc_need_word.nd
  refine fnokX F sc_need_word (fun vs H Q E h => ?_) (fun cdv A outer s H vs Q E hr h => ?_)
  · obtain ⟨y, b, rfl, _⟩ := h
    rfl
  · obtain ⟨y, b, rfl, alt⟩ := h
    refine ⟨_, (pss_one (ps_if (PW.pt (pw_or (pt_not (pt_val (pe_d D_is_wholeA hr (pa_cons (pv 0) pa_nil)))) (pw_or1 (pt_cmpR op_gt (pe_bits (pv 0)) (pv 1) (nomark _)))))
      (pss_one (ps_raise rfl (takes_of rfl rfl rfl rfl) (pmk_xi XB glB hr (pa_cons (pv 0) pa_nil))))
      pss_nil)), ?_⟩
    rcases alt with ⟨n, rfl, hb, k⟩ | ⟨o | ⟨n, rfl, hb⟩, kB⟩
    · refine ⟨_, rfl, _, rfl, .inl ⟨n, rfl, _, rfl, iteF ?_⟩⟩
      refine ⟨_, rfl, _, rfl, _, rfl, _, _, rfl, rfl, _, rfl, ?_⟩
      rw [blen_bits]
      have e : decide ((b : Int) < (blen n : Int)) = false := decide_eq_false (by omega)
      rw [e]
      exact iteF k
    · exact ⟨_, rfl, _, rfl, .inr ⟨o, _, rfl, iteT ⟨_, rfl, xi_mk fun d hd => kB _ d (same_new0 hd) hd upd_same⟩⟩⟩
    · refine ⟨_, rfl, _, rfl, .inl ⟨n, rfl, _, rfl, iteF ?_⟩⟩
      refine ⟨_, rfl, _, rfl, _, rfl, _, _, rfl, rfl, _, rfl, ?_⟩
      rw [blen_bits]
      have e : decide ((b : Int) < (blen n : Int)) = true := decide_eq_true (by omega)
      rw [e]
      exact iteT ⟨_, rfl, xi_mk fun d hd => kB _ d (same_new0 hd) hd upd_same⟩
theorem ok_need_items_X (F : FnP K "need_items" "need_items" s_need_items f fd) (XB : Xi P K mg CB "value" "value") (glB : mg "BadValue" = some (.ref CB)) : FnOk P w K mg base (L2.CX P w) 3 f fd ["value"] (sp_need_itemsX CB) := by
  have nd := sc_need_items.nd
  refine fnokX F sc_need_items (fun vs H Q E h => ?_) (fun cdv A outer s H vs Q E hr h => ?_)
  · obtain ⟨y, rfl, _⟩ := h
    rfl
  · obtain ⟨y, rfl, alt⟩ := h
    refine ⟨_, (pss_one (ps_if (pt_not (pt_val (pe_callB call_isiT (by rfl) T.isinstance (by decide +kernel) (pa_cons (pv 0) (pa_cons (pe_tup (pa_cons (pe_bltn (v := .ty "list") (by rfl) T.list (by decide +kernel) rfl) (pa_cons (pe_bltn (v := .ty "tuple") (by rfl) T.tuple (by decide +kernel) rfl) pa_nil))) pa_nil)))))
      (pss_one (ps_raise rfl (takes_of rfl rfl rfl rfl) (pmk_xi XB glB hr (pa_cons (pv 0) pa_nil))))
      pss_nil)), ?_⟩
    refine ⟨_, rfl, (by show 2 ≤ sizeLine; decide), fun p hp => ?_⟩
    have s1 := same_new0 (o := .tup [.ty "list", .ty "tuple"]) hp
    rcases alt with ⟨a, xs, rfl, hS, k⟩ | ⟨⟨t, o⟩, kB⟩
    · obtain ⟨t, ht, hk⟩ := (same_tq s1 hS).ty
      refine ⟨_, _, _, _, _, _, rfl, upd_same, .cons (.ty _) (.cons (.ty _) .nil), ht, hk, _, rfl, iteF ?_⟩
      exact k _ s1
    · refine ⟨_, _, _, _, _, _, rfl, upd_same, .cons (.ty _) (.cons (.ty _) .nil), (o.same s1).ty, o.any, _, rfl, iteT ?_⟩
      exact ⟨_, rfl, xi_mk fun d hd => kB _ d (same_new s1 hd) (s1.free hd) upd_same⟩
theorem ok_need_words_X (F : FnP K "need_words" "need_words" s_need_words f fd) (D_need_itemsX : Dx P w K mg base 3 "need_items" ["value"] (sp_need_itemsX CB)) (D_need_wordX : Dx P w K mg base 3 "need_word" ["value", "bits"] (sp_need_wordX CB)) : FnOk P w K mg base (L2.CX P w) 4 f fd ["values", "bits"] (sp_need_wordsX CB) := by
  have nd := sc_need_words.nd
  refine fnokX F sc_need_words (fun vs H Q E h => ?_) (fun cdv A outer s H vs Q E hr h => ?_)
  · obtain ⟨y, b, rfl, _⟩ := h
    rfl
  · obtain ⟨y, b, rfl, alt⟩ := h
    refine ⟨_, (pss_cons (ps_expr (pe_dxS D_need_itemsX (takes_of rfl rfl rfl rfl) hr (pa_cons (pv 0) pa_nil)))
      (pss_cons (ps_for (passes_of rfl) rfl (pi_seq (pv 0)) (pg_name (i := 2) nd rfl (Or.inl rfl))
        (pss_one (ps_expr (pe_dxS D_need_wordX (takes_of rfl rfl rfl rfl) hr (pa_cons (pv 2) (pa_cons (pv 1) pa_nil))))))
      (pss_one (ps_ret (pe_callTy call_listQ (by rfl) T.list (by decide +kernel) (pa_cons (pv 0) pa_nil)))))), ?_⟩
    rcases alt with ⟨a, ns, rfl, hS, hb, k⟩ | ⟨o, kB⟩ | ⟨a, xs, i, v, rfl, hS, hv, good, bad, kB⟩
    · refine ⟨_, rfl, _, rfl, .inl ⟨a, _, rfl, hS, fun H1 s1 => ?_⟩⟩
      refine ⟨_, rfl, for_seq (K := K) (same_tq s1 hS).sq (fun i σ H2 => ∃ v, σ = [some (.ref a), some (vN b), v] ∧ H2 = H1) ⟨none, rfl, rfl⟩ (fun i σ H2 hp => by obtain ⟨_, _, rfl⟩ := hp; exact Kp.refl _) ?_ ?_⟩
      · rintro i x σ H2 hx ⟨v, rfl, rfl⟩
        obtain ⟨n, hn, rfl⟩ := map_get hx
        exact ⟨_, rfl, _, rfl, _, b, rfl, .inl ⟨n, rfl, hb n (List.mem_of_getElem? hn), _, rfl, rfl⟩⟩
      · rintro σ H2 ⟨v, rfl, rfl⟩
        refine ⟨_, rfl, a, _, rfl, (same_tq s1 hS), fun l hl => ?_⟩
        exact k _ _ (same_new s1 hl) (same_free s1 hl) upd_same
    · exact ⟨_, rfl, _, rfl, .inr ⟨o, kB⟩⟩
    · refine ⟨_, rfl, _, rfl, .inl ⟨a, _, rfl, hS, fun H1 s1 => ?_⟩⟩
      have hi := (List.getElem?_eq_some_iff.mp hv).1
      refine ⟨_, rfl, for_seq (K := K) (same_tq s1 hS).sq (fun j σ H2 => ∃ v, j ≤ i ∧ σ = [some (.ref a), some (vN b), v] ∧ H2 = H1) ⟨none, Nat.zero_le _, rfl, rfl⟩ (fun i σ H2 hp => by obtain ⟨_, _, _, rfl⟩ := hp; exact Kp.refl _) ?_ ?_⟩
      · rintro j x σ H2 hx ⟨u, hj, rfl, rfl⟩
        by_cases e : j = i
        · subst e
          rw [hv] at hx
          cases hx
          exact ⟨_, rfl, _, rfl, _, b, rfl, .inr ⟨bad.same s1, kB.go s1⟩⟩
        · obtain ⟨n, hn, hb⟩ := good j (by omega)
          rw [hn] at hx
          cases hx
          exact ⟨_, rfl, _, rfl, _, b, rfl, .inl ⟨n, rfl, hb, _, by omega, rfl, rfl⟩⟩
      · rintro σ H2 ⟨u, hj, rfl, rfl⟩
        omega
end
end LaneX
set_option Elab.async false
set_option linter.all false
set_option maxRecDepth 100000
set_option maxHeartbeats 4000000
namespace LaneX
open PySem PySem.Spec PyProof.Rows L2
def sp_words_for : Sp := fun vs H Q _ => ∃ (p lc : Addr) (N b m st : Nat), vs = [.ref p, vN b, vN m, vN st] ∧ Pn H p lc N ∧ b ≤ 1000 ∧ m ≤ 1000 ∧ N + 3000000 ≤ TOP ∧
  ∀ (H' : Hp) (q : Addr) (ws : List Nat), ws.length = m → (∀ x ∈ ws, x < 2 ^ b) → H q = none → H' q = some (.lst (ws.map vN)) → Pn H' p lc (N + 3000000) → Kp H H' → Q (.ref q) H'
def sp_spread_words : Sp := fun vs H Q _ => ∃ (p lc : Addr) (N b m n : Nat), vs = [.ref p, vN b, vN m, vN n] ∧ Pn H p lc N ∧ b ≤ 200 ∧ m ≤ 200 ∧ n ≤ 200 ∧ N + 7000000 ≤ TOP ∧
  ∀ (H' : Hp) (q a c : Addr) (ss ls : List Nat), ss.length ≤ 600 → ls.length ≤ 600 → (∀ x ∈ ss, x < 2 ^ b) → (∀ x ∈ ls, x < 2 ^ b) → b ≤ rk (ss ++ ls) → H' q = some (.tup [.ref a, .ref c]) → H' a = some (.lst (ss.map vN)) → H' c = some (.lst (ls.map vN)) → Pn H' p lc (N + 7000000) → Kp H H' → Q (.ref q) H'
theorem dec_eqn {a b : Nat} : decide (V.int (a : Int) = V.int (b : Int)) = decide (a = b) := dec_nat
section
variable {P : Program} {w : World} {K : PySem.W.Frag} {mg : Str → Option Value} {base : Heap} {f : Addr} {fd : FuncData} {CS : Addr} (T : Bt mg) (TS : SpaceT K mg CS)
include T
theorem ok_words_for (F : FnP K "_law_words_for" "_law_words_for" s_words_forL f fd) (D_drawL : Dn P w K mg base 1 "_law_draw" ["_law_pen", "_law_span"] sp_draw) (D_pickL : Dn P w K mg base 2 "_law_pick" ["_law_pen", "_law_some"] sp_pick) (D_wordL : Dn P w K mg base 2 "_law_word" ["_law_pen", "_law_bits"] sp_word) :
    FnOk P w K mg base CX0 3 f fd ["_law_pen", "_law_bits", "_law_many", "_law_style"] sp_words_for := by
  have nd := sc_words_forL.nd
  refine fnok F sc_words_forL (fun vs H Q E h => ?_) (fun cdv A outer s H vs Q E hr h => ?_)
  · obtain ⟨p, lc, N, b, m, st, rfl, _⟩ := h
    rfl
  · obtain ⟨p, lc, N, b, m, st, rfl, hp, hb, hm, hN, k⟩ := h
    refine ⟨_, (pss_cons (ps_set (i := 4) nd rfl (Or.inl rfl) (pe_lst pa_nil))
  (pss_cons (ps_for PassesOwn.never rfl (pi_range1 (by rfl) T.range (pa_cons (pv 2) pa_nil)) (pg_name (i := 5) nd rfl (Or.inl rfl))
    (pss_one (ps_if (PW.pt (pw_and (pt_cmpR op_eq (pv 3) pe_int (nomark _)) (pw_and1 (pt_cmpR op_gt (pv 1) pe_int (nomark _)))))
      (pss_one (ps_expr (pe_bm PySem.F.plainAttrs_list PySem.F.slot_list_append PySem.F.type_list_append mt_append (pv 4) (pa_cons (pe_op on_shl pe_int (pe_d D_drawL hr (pa_cons (pv 0) (pa_cons (pv 1) pa_nil)))) pa_nil))))
      (pss_one (ps_if (PW.pt (pw_and (pt_cmpR op_eq (pv 3) pe_int (nomark _)) (pw_and (pt_cmpR (op_neE hr.units) (pv 4) (pe_lst pa_nil) (nomark _)) (pw_and1 (pt_cmpR op_eq (pe_d D_drawL hr (pa_cons (pv 0) (pa_cons pe_int pa_nil))) pe_int (nomark _))))))
        (pss_one (ps_expr (pe_bm PySem.F.plainAttrs_list PySem.F.slot_list_append PySem.F.type_list_append mt_append (pv 4) (pa_cons (pe_d D_pickL hr (pa_cons (pv 0) (pa_cons (pe_op op_cat (pv 4) (pe_lst (pa_cons pe_int pa_nil))) pa_nil))) pa_nil))))
        (pss_one (ps_expr (pe_bm PySem.F.plainAttrs_list PySem.F.slot_list_append PySem.F.type_list_append mt_append (pv 4) (pa_cons (pe_d D_wordL hr (pa_cons (pv 0) (pa_cons (pv 1) pa_nil))) pa_nil)))))))))
  (pss_one (ps_ret (pv 4))))), ?_⟩
    have hN' : N + 3000000 ≤ 1099511627776 := hN
    refine ⟨(by decide), fun l0 hl0 => ?_⟩
    have ne0 := hp.ne hl0
    refine ⟨_, rfl, _, rfl, (by omega), (by omega), for_range (n := m) (fun i σ H2 => ∃ v ws, σ = [some (.ref p), some (vN b), some (vN m), some (vN st), some (.ref l0), v] ∧ Pn H2 p lc (N + i * 2000) ∧ Kp H H2 ∧ H2 l0 = some (.lst (ws.map vN)) ∧ ws.length = i ∧ ∀ x ∈ ws, x < 2 ^ b)
      ⟨none, [], rfl, (hp.put ne0).mono (by omega), Kp.of (same_new0 hl0), upd_same, rfl, fun x hx => by cases hx⟩ ?_ ?_⟩
    · rintro i σ H2 hi ⟨v, ws, rfl, hp2, kp2, h2, hlen, hws⟩
      -- what is appended
      have fin : ∀ {H3 : Hp} {x : Nat}, x < 2 ^ b → Pn H3 p lc (N + (i + 1) * 2000) → Kp H H3 → H3 l0 = some (.lst (ws.map vN)) → (ws.map vN).length < sizeLine ∧ ∃ (v : Option V) (ws' : List Nat), [some (V.ref p), some (vN b), some (vN m), some (vN st), some (.ref l0), some (V.int (0 + (i : Int)))] = [some (.ref p), some (vN b), some (vN m), some (vN st), some (.ref l0), v] ∧ Pn (upd H3 l0 (.lst (ws.map vN ++ [vN x]))) p lc (N + (i + 1) * 2000) ∧ Kp H (upd H3 l0 (.lst (ws.map vN ++ [vN x]))) ∧ upd H3 l0 (.lst (ws.map vN ++ [vN x])) l0 = some (.lst (ws'.map vN)) ∧ ws'.length = i + 1 ∧ ∀ x ∈ ws', x < 2 ^ b := fun {H3 x} hx hp3 kp3 h3 => by
        refine ⟨by rw [List.length_map, hlen]; exact size6 (by omega), _, ws ++ [x], rfl, hp3.put ne0, kp_put kp3 hl0, by rw [upd_same, List.map_append]; rfl, by rw [List.length_append, hlen]; rfl, fun y hy => ?_⟩
        rcases List.mem_append.mp hy with hy | hy
        · exact hws y hy
        · rcases List.mem_singleton.mp hy with rfl; exact hx
      have word : ∀ {H3 : Hp}, Pn H3 p lc (N + i * 2000 + 10) → Kp H H3 → H3 l0 = some (.lst (ws.map vN)) → True := fun _ _ _ => trivial
      refine ⟨_, rfl, rfl, _, rfl, br (fun e => ?_) (fun e => ?_)⟩
      · refine ⟨_, rfl, _, _, rfl, rfl, _, rfl, br (fun e2 => ?_) (fun e2 => ?_)⟩
        · have hb0 : 0 < b := by have := of_decide_eq_true e2; omega
          refine ⟨_, rfl, .inl ⟨rfl, _, SqL.of h2⟩, _, rfl, _, rfl, p, lc, N + i * 2000, b, rfl, hp2, hb0, (by omega), (by show N + i * 2000 + 1 ≤ 1099511627776; omega), fun H3 r hr3 hp3 kp3 => ?_⟩
          obtain ⟨z1, z2⟩ := fin (H3 := H3) (x := 1 <<< r) (by rw [Nat.one_shiftLeft]; exact Nat.pow_lt_pow_right (by decide) hr3) (hp3.mono (by omega)) (kp2.trans kp3) (kp3 _ _ h2 rfl)
          exact ⟨1, r, rfl, rfl, shl_ok1 (by rw [blen_one]; decide) (by omega), l0, _, _, rfl, rfl, kp3 _ _ h2 rfl, z1, z2⟩
        · refine ⟨_, rfl, rfl, _, rfl, br (fun e3 => ?_) (fun e3 => ?_)⟩
          · refine ⟨_, rfl, (by decide), fun q hq => ?_⟩
            refine ⟨l0, q, ws, rfl, rfl, upd_new hq h2, upd_same, _, rfl, br (fun e4 => ?_) (fun e4 => ?_)⟩
            · have hp2' : Pn (upd H2 q (.lst [])) p lc (N + i * 2000) := hp2.put (hp2.ne hq)
              refine ⟨_, rfl, p, lc, N + i * 2000, 3, rfl, hp2', (by decide), (by decide), (by show N + i * 2000 + 1 ≤ 1099511627776; omega), fun H3 r hr3 hp3 kp3 => ?_⟩
              have kp3' : Kp H H3 := (kp_new kp2 hq).trans kp3
              have g3 : H3 l0 = some (.lst (ws.map vN)) := kp3 _ _ (upd_new hq h2) rfl
              refine ⟨rfl, _, rfl, br (fun e5 => ?_) (fun e5 => ?_)⟩
              · refine ⟨_, rfl, .inl ⟨rfl, _, SqL.of g3⟩, _, rfl, _, rfl, (by decide), fun q1 hq1 => ?_⟩
                refine ⟨l0, q1, _, _, rfl, rfl, upd_new hq1 g3, upd_same, (by rw [List.length_map, hlen]; show i + 1 ≤ _; rw [sizeLine_eq]; omega), fun q2 hq2 => ?_⟩
                have hp4 : Pn (upd (upd H3 q1 (.lst [.int 0])) q2 (.lst (ws.map vN ++ [.int 0]))) p lc (N + i * 2000 + 1) := (hp3.put (hp3.ne hq1)).put ((hp3.put (hp3.ne hq1)).ne hq2)
                refine ⟨p, lc, q2, N + i * 2000 + 1, _, rfl, hp4, .inl upd_same, (by simp), (by simp; omega), (by show N + i * 2000 + 1 + 1 ≤ 1099511627776; omega), fun H5 v5 hv5 hp5 kp5 => ?_⟩
                obtain ⟨x, rfl, hx⟩ : ∃ x, v5 = vN x ∧ x < 2 ^ b := by
                  rcases List.mem_append.mp hv5 with hv | hv
                  · obtain ⟨x, hx, rfl⟩ := List.mem_map.mp hv
                    exact ⟨x, rfl, hws x hx⟩
                  · rcases List.mem_singleton.mp hv with rfl
                    exact ⟨0, rfl, Nat.two_pow_pos b⟩
                have g5 : H5 l0 = some (.lst (ws.map vN)) := kp5 _ _ (upd_new hq2 (upd_new hq1 g3)) rfl
                obtain ⟨z1, z2⟩ := fin (H3 := H5) (x := x) hx (hp5.mono (by omega)) ((kp_new (kp_new kp3' hq1) hq2).trans kp5) g5
                exact ⟨l0, _, _, rfl, rfl, g5, z1, z2⟩
              · refine ⟨_, rfl, .inl ⟨rfl, _, SqL.of g3⟩, _, rfl, _, rfl, p, lc, N + i * 2000 + 1, b, rfl, hp3, hb, (by show N + i * 2000 + 1 + 1000 ≤ 1099511627776; omega), fun H4 x hx hp4 kp4 => ?_⟩
                obtain ⟨z1, z2⟩ := fin (H3 := H4) (x := x) hx (hp4.mono (by omega)) (kp3'.trans kp4) (kp4 _ _ g3 rfl)
                exact ⟨l0, _, _, rfl, rfl, kp4 _ _ g3 rfl, z1, z2⟩
            · have hp2' : Pn (upd H2 q (.lst [])) p lc (N + i * 2000) := hp2.put (hp2.ne hq)
              have g2 : upd H2 q (.lst []) l0 = some (.lst (ws.map vN)) := upd_new hq h2
              refine ⟨_, rfl, .inl ⟨rfl, _, SqL.of g2⟩, _, rfl, _, rfl, p, lc, N + i * 2000, b, rfl, hp2', hb, (by show N + i * 2000 + 1000 ≤ 1099511627776; omega), fun H4 x hx hp4 kp4 => ?_⟩
              obtain ⟨z1, z2⟩ := fin (H3 := H4) (x := x) hx (hp4.mono (by omega)) ((kp_new kp2 hq).trans kp4) (kp4 _ _ g2 rfl)
              exact ⟨l0, _, _, rfl, rfl, kp4 _ _ g2 rfl, z1, z2⟩
          · refine ⟨_, rfl, .inl ⟨rfl, _, SqL.of h2⟩, _, rfl, _, rfl, p, lc, N + i * 2000, b, rfl, hp2, hb, (by show N + i * 2000 + 1000 ≤ 1099511627776; omega), fun H4 x hx hp4 kp4 => ?_⟩
            obtain ⟨z1, z2⟩ := fin (H3 := H4) (x := x) hx (hp4.mono (by omega)) (kp2.trans kp4) (kp4 _ _ h2 rfl)
            exact ⟨l0, _, _, rfl, rfl, kp4 _ _ h2 rfl, z1, z2⟩
      · refine ⟨_, rfl, rfl, _, rfl, br (fun e3 => ?_) (fun e3 => ?_)⟩
        · refine ⟨_, rfl, (by decide), fun q hq => ?_⟩
          refine ⟨l0, q, ws, rfl, rfl, upd_new hq h2, upd_same, _, rfl, br (fun e4 => ?_) (fun e4 => ?_)⟩
          · have hp2' : Pn (upd H2 q (.lst [])) p lc (N + i * 2000) := hp2.put (hp2.ne hq)
            refine ⟨_, rfl, p, lc, N + i * 2000, 3, rfl, hp2', (by decide), (by decide), (by show N + i * 2000 + 1 ≤ 1099511627776; omega), fun H3 r hr3 hp3 kp3 => ?_⟩
            have kp3' : Kp H H3 := (kp_new kp2 hq).trans kp3
            have g3 : H3 l0 = some (.lst (ws.map vN)) := kp3 _ _ (upd_new hq h2) rfl
            refine ⟨rfl, _, rfl, br (fun e5 => ?_) (fun e5 => ?_)⟩
            · refine ⟨_, rfl, .inl ⟨rfl, _, SqL.of g3⟩, _, rfl, _, rfl, (by decide), fun q1 hq1 => ?_⟩
              refine ⟨l0, q1, _, _, rfl, rfl, upd_new hq1 g3, upd_same, (by rw [List.length_map, hlen]; show i + 1 ≤ _; rw [sizeLine_eq]; omega), fun q2 hq2 => ?_⟩
              have hp4 : Pn (upd (upd H3 q1 (.lst [.int 0])) q2 (.lst (ws.map vN ++ [.int 0]))) p lc (N + i * 2000 + 1) := (hp3.put (hp3.ne hq1)).put ((hp3.put (hp3.ne hq1)).ne hq2)
              refine ⟨p, lc, q2, N + i * 2000 + 1, _, rfl, hp4, .inl upd_same, (by simp), (by simp; omega), (by show N + i * 2000 + 1 + 1 ≤ 1099511627776; omega), fun H5 v5 hv5 hp5 kp5 => ?_⟩
              obtain ⟨x, rfl, hx⟩ : ∃ x, v5 = vN x ∧ x < 2 ^ b := by
                rcases List.mem_append.mp hv5 with hv | hv
                · obtain ⟨x, hx, rfl⟩ := List.mem_map.mp hv
                  exact ⟨x, rfl, hws x hx⟩
                · rcases List.mem_singleton.mp hv with rfl
                  exact ⟨0, rfl, Nat.two_pow_pos b⟩
              have g5 : H5 l0 = some (.lst (ws.map vN)) := kp5 _ _ (upd_new hq2 (upd_new hq1 g3)) rfl
              obtain ⟨z1, z2⟩ := fin (H3 := H5) (x := x) hx (hp5.mono (by omega)) ((kp_new (kp_new kp3' hq1) hq2).trans kp5) g5
              exact ⟨l0, _, _, rfl, rfl, g5, z1, z2⟩
            · refine ⟨_, rfl, .inl ⟨rfl, _, SqL.of g3⟩, _, rfl, _, rfl, p, lc, N + i * 2000 + 1, b, rfl, hp3, hb, (by show N + i * 2000 + 1 + 1000 ≤ 1099511627776; omega), fun H4 x hx hp4 kp4 => ?_⟩
              obtain ⟨z1, z2⟩ := fin (H3 := H4) (x := x) hx (hp4.mono (by omega)) (kp3'.trans kp4) (kp4 _ _ g3 rfl)
              exact ⟨l0, _, _, rfl, rfl, kp4 _ _ g3 rfl, z1, z2⟩
          · have hp2' : Pn (upd H2 q (.lst [])) p lc (N + i * 2000) := hp2.put (hp2.ne hq)
            have g2 : upd H2 q (.lst []) l0 = some (.lst (ws.map vN)) := upd_new hq h2
            refine ⟨_, rfl, .inl ⟨rfl, _, SqL.of g2⟩, _, rfl, _, rfl, p, lc, N + i * 2000, b, rfl, hp2', hb, (by show N + i * 2000 + 1000 ≤ 1099511627776; omega), fun H4 x hx hp4 kp4 => ?_⟩
            obtain ⟨z1, z2⟩ := fin (H3 := H4) (x := x) hx (hp4.mono (by omega)) ((kp_new kp2 hq).trans kp4) (kp4 _ _ g2 rfl)
            exact ⟨l0, _, _, rfl, rfl, kp4 _ _ g2 rfl, z1, z2⟩
        · refine ⟨_, rfl, .inl ⟨rfl, _, SqL.of h2⟩, _, rfl, _, rfl, p, lc, N + i * 2000, b, rfl, hp2, hb, (by show N + i * 2000 + 1000 ≤ 1099511627776; omega), fun H4 x hx hp4 kp4 => ?_⟩
          obtain ⟨z1, z2⟩ := fin (H3 := H4) (x := x) hx (hp4.mono (by omega)) (kp2.trans kp4) (kp4 _ _ h2 rfl)
          exact ⟨l0, _, _, rfl, rfl, kp4 _ _ h2 rfl, z1, z2⟩
    · rintro σ H2 ⟨v, ws, rfl, hp2, kp2, h2, hlen, hws⟩
      exact ⟨_, rfl, k _ _ ws hlen hws hl0 h2 (hp2.mono (by omega)) kp2⟩
end
end LaneX
set_option Elab.async false
set_option linter.all false
set_option maxRecDepth 100000
set_option maxHeartbeats 4000000
namespace LaneX
open PySem PySem.Spec PyProof.Rows L2
section
variable {P : Program} {w : World} {K : PySem.W.Frag} {mg : Str → Option Value} {base : Heap} {f : Addr} {fd : FuncData} {CS : Addr} (T : Bt mg) (TS : SpaceT K mg CS)
include T
theorem ok_spread_words (F : FnP K "_law_spread_words" "_law_spread_words" s_spread_wordsL f fd) (D_drawL : Dn P w K mg base 1 "_law_draw" ["_law_pen", "_law_span"] sp_draw) (D_words_forL : Dn P w K mg base 3 "_law_words_for" ["_law_pen", "_law_bits", "_law_many", "_law_style"] sp_words_for)
    (D_basisL : Dn P w K mg base 2 "_law_basis" ["_law_words"] sp_basis) (D_mixedL : Dn P w K mg base 2 "_law_mixed" ["_law_pen", "_law_some"] sp_mixed) (D_leftL : Dn P w K mg base 1 "_law_left" ["_law_rows", "_law_word_here"] sp_left) :
    FnOk P w K mg base CX0 4 f fd ["_law_pen", "_law_bits", "_law_slots", "_law_lanes"] sp_spread_words := by
  have nd := sc_spread_wordsL.nd
  refine fnok F sc_spread_wordsL (fun vs H Q E h => ?_) (fun cdv A outer s H vs Q E hr h => ?_)
  · obtain ⟨p, lc, N, b, m, n, rfl, _⟩ := h
    rfl
  · obtain ⟨p, lc, N, b, m, n, rfl, hp, hb, hm, hn, hN, k⟩ := h
    refine ⟨_, (pss_cons (ps_set (i := 4) nd rfl (Or.inl rfl) (pe_d D_drawL hr (pa_cons (pv 0) (pa_cons pe_int pa_nil))))
  (pss_cons (ps_par (i := 5) (j := 6) (by rfl) nd rfl rfl (by decide) rfl rfl (pa_cons (pe_d D_words_forL hr (pa_cons (pv 0) (pa_cons (pv 1) (pa_cons (pv 2) (pa_cons (pv 4) pa_nil))))) (pa_cons (pe_d D_words_forL hr (pa_cons (pv 0) (pa_cons (pv 1) (pa_cons (pv 3) (pa_cons (pv 4) pa_nil))))) pa_nil)) (by rfl))
  (pss_cons (ps_set (i := 7) nd rfl (Or.inl rfl) (pe_d D_basisL hr (pa_cons (pe_op op_cat (pv 5) (pv 6)) pa_nil)))
  (pss_cons (ps_for PassesOwn.never rfl (pi_seq (pe_d D_mixedL hr (pa_cons (pv 0) (pa_cons (pe_lc (own := [("_law_bit", 10)]) (g := gName 10) (by rfl) nd (pi_range1 (by rfl) T.range (pa_cons (pv 1) pa_nil)) (blkOk_by (own := [("_law_bit", 10)]) (N := ["_law_pen", "_law_bits", "_law_slots", "_law_lanes", "_law_style", "_law_some", "_law_others", "_law_rows", "_law_word_here", "_law_left_here", "_law_bit"]) (sc := defScope s_spread_wordsL) (by decide +kernel)) (fun _ _ _ _ _ => (pg_name (i := 10) nd rfl (Or.inl rfl))) (fun _ _ _ _ _ => pts_nil) (fun _ _ _ _ _ => (pe_op on_shl pe_int (pv 10)))) pa_nil)))) (pg_name (i := 8) nd rfl (Or.inl rfl))
    (pss_cons (ps_set (i := 9) nd rfl (Or.inl rfl) (pe_d D_leftL hr (pa_cons (pv 7) (pa_cons (pv 8) pa_nil))))
    (pss_one (ps_if (pt_cmpR op_ne (pv 9) pe_int (nomark _))
      (pss_cons (ps_expr (pe_bm PySem.F.plainAttrs_list PySem.F.slot_list_append PySem.F.type_list_append mt_append (pv 7) (pa_cons (pv 9) pa_nil)))
      (pss_one (ps_if (pt_cmpR op_eq (pe_d D_drawL hr (pa_cons (pv 0) (pa_cons pe_int pa_nil))) pe_int (nomark _))
        (pss_one (ps_expr (pe_bm PySem.F.plainAttrs_list PySem.F.slot_list_append PySem.F.type_list_append mt_append (pv 5) (pa_cons (pv 8) pa_nil))))
        (pss_one (ps_expr (pe_bm PySem.F.plainAttrs_list PySem.F.slot_list_append PySem.F.type_list_append mt_append (pv 6) (pa_cons (pv 8) pa_nil)))))))
      pss_nil))))
  (pss_one (ps_ret (pe_tup (pa_cons (pe_d D_mixedL hr (pa_cons (pv 0) (pa_cons (pv 5) pa_nil))) (pa_cons (pe_d D_mixedL hr (pa_cons (pv 0) (pa_cons (pv 6) pa_nil))) pa_nil))))))))), ?_⟩
    have hN' : N + 7000000 ≤ 1099511627776 := hN
    refine ⟨_, rfl, p, lc, N, 3, rfl, hp, (by decide), (by decide), (by show N + 1 ≤ 1099511627776; omega), fun H1 st hst hp1 kp1 => ?_⟩
    refine ⟨_, rfl, _, rfl, _, rfl, _, rfl, p, lc, N + 1, b, m, st, rfl, hp1, (by omega), (by omega), (by show N + 1 + 3000000 ≤ 1099511627776; omega), fun H2 a ws hws hwb ha h2 hp2 kp2 => ?_⟩
    refine ⟨_, rfl, _, rfl, _, rfl, _, rfl, p, lc, N + 1 + 3000000, b, n, st, rfl, hp2, (by omega), (by omega), (by show N + 1 + 3000000 + 3000000 ≤ 1099511627776; omega), fun H3 c us hus hub hc h3 hp3 kp3 => ⟨_, _, rfl, ?_⟩⟩
    have h2' := kp3 _ _ h2 rfl
    have kp13 : Kp H H3 := (kp1.trans kp2).trans kp3
    have ha0 : H a = none := kp1.free _ ha
    have hc0 : H c = none := kp1.free _ (kp2.free _ hc)
    have nac : a ≠ c := ne_of_none h2 hc
    refine ⟨_, rfl, _, rfl, a, c, _, _, rfl, rfl, h2', h3, (by rw [List.length_map, List.length_map, sizeLine_eq]; omega), fun d hd => ?_⟩
    have s4 : Same H3 (upd H3 d (.lst (ws.map vN ++ us.map vN))) := same_new0 hd
    refine ⟨d, ws ++ us, rfl, .inl (by rw [upd_same, List.map_append]), (by rw [List.length_append]; omega), fun H5 e s5 he h5 => ?_⟩
    have s45 := s4.trans s5
    have he3 : H3 e = none := same_free s4 he
    have he0 : H e = none := kp13.free _ he3
    have h5a := s45 _ _ h2'
    have h5c := s45 _ _ h3
    have hp5 := hp3.same s45
    have kp5 := kp13.trans (Kp.of s45)
    -- the units, mixed
    refine ⟨_, rfl, _, rfl, _, rfl, (by omega), (by omega), lc_pureR (n := b) (fun _ => true) (fun i => vN (1 <<< i)) (by omega) (fun i H' hi s => ?_) (fun D H6 hD s6 h6 => ?_)⟩
    · intro Z Nx z1 z2
      exact ⟨rfl, _, rfl, 1, _, rfl, rfl, shl_ok1 (by rw [blen_one]; decide) (by omega), z1 rfl _ (Same.refl _)⟩
    rw [filt_true] at h6
    have ul : (units b).length = b := by simp [units]
    have h6' : H6 D = some (.lst ((units b).map vN)) := by rw [h6]; simp [units]
    refine ⟨p, lc, D, N + 1 + 3000000 + 3000000, units b, rfl, hp5.same s6, .inl h6', by omega, (by show N + 1 + 3000000 + 3000000 + 1000 ≤ 1099511627776; omega), fun H7 g vs hperm hg h7 hp7 kp7 => ?_⟩
    have kp67 : Kp H H7 := (kp5.trans (Kp.of s6)).trans kp7
    have h7a := kp7 _ _ (s6 _ _ h5a) rfl
    have h7c := kp7 _ _ (s6 _ _ h5c) rfl
    have h7e := kp7 _ _ (s6 _ _ h5) rfl
    have nae : a ≠ e := ne_of_none h2' he3
    have nce : c ≠ e := ne_of_none h3 he3
    have hg6 : H6 g = none := hg
    have nga : g ≠ a := (ne_of_none (s6 _ _ h5a) hg6).symm
    have ngc : g ≠ c := (ne_of_none (s6 _ _ h5c) hg6).symm
    have nge : g ≠ e := (ne_of_none (s6 _ _ h5) hg6).symm
    have pa := hp.ne ha0
    have pc := hp.ne hc0
    have pe := hp.ne he0
    have lv : vs.length = b := by rw [hperm.length_eq, ul]
    have vlt : ∀ x ∈ vs, x < 2 ^ b := fun x hx => by
      obtain ⟨i, hi, rfl⟩ := List.mem_map.mp (hperm.mem_iff.mp hx)
      rw [Nat.one_shiftLeft]
      exact Nat.pow_lt_pow_right (by decide) (List.mem_range.mp hi)
    refine for_sq2 (K := K) (Tq.l h7) (fun i σ H2 => ∃ v8 v9 so ot rs, σ = [some (.ref p), some (vN b), some (vN m), some (vN n), some (vN st), some (.ref a), some (.ref c), some (.ref e), v8, v9, none] ∧ Pn H2 p lc (N + 6001001 + i) ∧ Kp H H2 ∧ H2 g = some (.lst (vs.map vN)) ∧ H2 a = some (.lst (so.map vN)) ∧ H2 c = some (.lst (ot.map vN)) ∧ H2 e = some (.lst (rs.map vN)) ∧
      Lws rs ∧ (∀ x, Spn rs x ↔ Spn (so ++ ot) x) ∧ (∀ u ∈ vs.take i, Spn (so ++ ot) u) ∧ (∀ x ∈ so, x < 2 ^ b) ∧ (∀ x ∈ ot, x < 2 ^ b) ∧ so.length ≤ 200 + i ∧ ot.length ≤ 200 + i ∧ rs.length ≤ 400 + i)
      ⟨none, none, ws, us, bas (ws ++ us), rfl, hp7.mono (by omega), kp67, h7, h7a, h7c, h7e, bas_lws _, bas_span _, fun u hu => (by cases hu), hwb, hub, by omega, by omega, Nat.le_trans (bas_len_le _) (by rw [List.length_append]; omega)⟩ (fun i σ H2 hp o ho => ?_) ?_ ?_
    · obtain ⟨_, _, _, _, _, _, _, _, z, _⟩ := hp
      rw [h7] at ho
      cases ho
      exact z
    · rintro i y σ H2 hy ⟨v8, v9, so, ot, rs, rfl, q1, q2, q3, q4, q5, q6, q7, q8, q9, q10, q11, q12, q13, q14⟩
      obtain ⟨u, hu, rfl⟩ := map_get hy
      have hib : i < b := by
        have := (List.getElem?_eq_some_iff.mp hu).1
        omega
      have ult := vlt u (List.mem_of_getElem? hu)
      refine ⟨_, rfl, _, rfl, e, rs, u, rfl, .inl q6, q7.nz, ?_⟩
      refine ⟨_, rfl, rfl, _, rfl, ?_⟩
      rw [dec_ne0]
      refine br (fun z => ?_) (fun z => ?_)
      · have z0 : lft rs u ≠ 0 := by simpa using z
        have bs : bstep rs u = rs ++ [lft rs u] := by unfold bstep; rw [if_neg z0]
        have L2' : Lws (rs ++ [lft rs u]) := by rw [← bs]; exact q7.step u
        have S2' : ∀ x, Spn (rs ++ [lft rs u]) x ↔ Spn (rs ++ [u]) x := fun x => by rw [← bs]; exact bstep_span rs u x
        refine ⟨_, rfl, .inl ⟨rfl, _, SqL.of q6⟩, _, rfl, e, _, _, rfl, rfl, q6, (by rw [List.length_map]; exact size6 (by omega)), ?_⟩
        have r1 : Pn (upd H2 e (.lst (rs.map vN ++ [vN (lft rs u)]))) p lc (N + 6001001 + i) := q1.put pe
        refine ⟨_, rfl, p, lc, N + 6001001 + i, 2, rfl, r1, (by decide), (by decide), (by show N + 6001001 + i + 1 ≤ 1099511627776; omega), fun H8 r hr8 hp8 kp8 => ?_⟩
        have k8 : Kp H H8 := (kp_put q2 he0).trans kp8
        have t3 : H8 g = some (.lst (vs.map vN)) := kp8 _ _ (upd_put q3 nge) rfl
        have t4 : H8 a = some (.lst (so.map vN)) := kp8 _ _ (upd_put q4 nae) rfl
        have t5 : H8 c = some (.lst (ot.map vN)) := kp8 _ _ (upd_put q5 nce) rfl
        have t6 : H8 e = some (.lst ((rs ++ [lft rs u]).map vN)) := kp8 _ _ (by rw [upd_same, List.map_append]; rfl) rfl
        refine ⟨rfl, _, rfl, br (fun _ => ?_) (fun _ => ?_)⟩
        · refine ⟨_, rfl, .inl ⟨rfl, _, SqL.of t4⟩, _, rfl, a, _, _, rfl, rfl, t4, (by rw [List.length_map]; exact size6 (by omega)), ?_⟩
          have sp2 : ∀ x, Spn (rs ++ [lft rs u]) x ↔ Spn (so ++ [u] ++ ot) x := fun x => by
            rw [S2' x, span_app q8]
            have : (so ++ ot ++ [u]).Perm (so ++ [u] ++ ot) := by
              rw [List.append_assoc, List.append_assoc]
              exact List.perm_append_comm.append_left so
            exact ⟨fun h => h.sub fun w hw => this.mem_iff.mp hw, fun h => h.sub fun w hw => this.mem_iff.mpr hw⟩
          refine ⟨_, _, so ++ [u], ot, rs ++ [lft rs u], rfl, (hp8.put pa).mono (by omega), kp_put k8 ha0, upd_put t3 nga, by rw [upd_same, List.map_append]; rfl, upd_put t5 nac.symm, upd_put t6 nae.symm, L2', sp2, ?_, ?_, q11, by simp; omega, by omega, by simp; omega⟩
          · intro x hx
            rw [take_succ hu] at hx
            rcases List.mem_append.mp hx with hx | hx
            · exact (q9 x hx).sub fun w hw => by simp at hw ⊢; rcases hw with h | h <;> simp [h]
            · rcases List.mem_singleton.mp hx with rfl
              exact .of (by simp)
          · intro x hx
            rcases List.mem_append.mp hx with hx | hx
            · exact q10 x hx
            · rcases List.mem_singleton.mp hx with rfl; exact ult
        · refine ⟨_, rfl, .inl ⟨rfl, _, SqL.of t5⟩, _, rfl, c, _, _, rfl, rfl, t5, (by rw [List.length_map]; exact size6 (by omega)), ?_⟩
          have sp2 : ∀ x, Spn (rs ++ [lft rs u]) x ↔ Spn (so ++ (ot ++ [u])) x := fun x => by
            rw [S2' x, span_app q8, List.append_assoc]
          refine ⟨_, _, so, ot ++ [u], rs ++ [lft rs u], rfl, (hp8.put pc).mono (by omega), kp_put k8 hc0, upd_put t3 ngc, upd_put t4 nac, by rw [upd_same, List.map_append]; rfl, upd_put t6 nce.symm, L2', sp2, ?_, q10, ?_, by omega, by simp; omega, by simp; omega⟩
          · intro x hx
            rw [take_succ hu] at hx
            rcases List.mem_append.mp hx with hx | hx
            · exact (q9 x hx).sub fun w hw => by simp at hw ⊢; rcases hw with h | h <;> simp [h]
            · rcases List.mem_singleton.mp hx with rfl
              exact .of (by simp)
          · intro x hx
            rcases List.mem_append.mp hx with hx | hx
            · exact q11 x hx
            · rcases List.mem_singleton.mp hx with rfl; exact ult
      · have z0 : lft rs u = 0 := by simpa using z
        refine ⟨_, _, so, ot, rs, rfl, q1.mono (by omega), q2, q3, q4, q5, q6, q7, q8, ?_, q10, q11, by omega, by omega, by omega⟩
        intro x hx
        rw [take_succ hu] at hx
        rcases List.mem_append.mp hx with hx | hx
        · exact q9 x hx
        · rcases List.mem_singleton.mp hx with rfl
          exact (q8 _).mp (q7.span.mpr z0)
    · rintro σ H2 ⟨v8, v9, so, ot, rs, rfl, q1, q2, q3, q4, q5, q6, q7, q8, q9, q10, q11, q12, q13, q14⟩
      rw [List.length_map, lv] at q1 q12 q13
      rw [List.length_map, List.take_length] at q9
      refine ⟨_, rfl, _, rfl, p, lc, a, N + 6001001 + b, so, rfl, q1, .inl q4, (by omega), (by show N + 6001001 + b + 1000 ≤ 1099511627776; omega), fun H9 x9 s9 pm9 hx9 h9 hp9 kp9 => ?_⟩
      refine ⟨_, rfl, _, rfl, p, lc, c, N + 6001001 + b + 1000, ot, rfl, hp9, .inl (kp9 _ _ q5 rfl), (by omega), (by show N + 6001001 + b + 1000 + 1000 ≤ 1099511627776; omega), fun Hx y9 t9 pn9 hy9 hh9 hpx kpx => ?_⟩
      refine ⟨(by show 2 ≤ sizeLine; decide), fun q hq => ?_⟩
      refine k _ q x9 y9 s9 t9 (by rw [pm9.length_eq]; omega) (by rw [pn9.length_eq]; omega) (fun x hx => q10 x (pm9.mem_iff.mp hx)) (fun x hx => q11 x (pn9.mem_iff.mp hx)) ?_ upd_same (upd_new hq (kpx _ _ h9 rfl)) (upd_new hq hh9) ((hpx.put (hpx.ne hq)).mono (by omega)) (kp_new ((q2.trans kp9).trans kpx) hq)
      rw [rk_perm (pm9.append pn9)]
      exact rk_full fun u hu => q9 u (hperm.mem_iff.mpr hu)
end
end LaneX
set_option Elab.async false
set_option linter.all false
set_option maxRecDepth 100000
set_option maxHeartbeats 4000000
namespace LaneX
open PySem PySem.Spec PyProof.Rows L2
/-! ### the bits of a word -/
theorem lwb_le {n : Nat} : lwb n ≤ n := Nat.sub_le _ _
theorem lt_of_bit : ∀ (i : Nat) {n m : Nat}, n.testBit i = false → m.testBit i = true → (∀ j, i < j → n.testBit j = m.testBit j) → n < m
  | 0, n, m, h1, h2, h => by
    have e : n / 2 = m / 2 := Nat.eq_of_testBit_eq fun j => by
      have := h (j + 1) (Nat.succ_pos j)
      rwa [Nat.testBit_succ, Nat.testBit_succ] at this
    rw [Nat.testBit_zero] at h1 h2
    have := of_decide_eq_false h1
    have := of_decide_eq_true h2
    omega
  | i + 1, n, m, h1, h2, h => by
    rw [Nat.testBit_succ] at h1 h2
    have := lt_of_bit i h1 h2 fun j hj => by
      have := h (j + 1) (by omega)
      rwa [Nat.testBit_succ, Nat.testBit_succ] at this
    omega
theorem xor_lwb_lt {n : Nat} (h : n ≠ 0) : n ^^^ lwb n < n := by
  have hb := low_bit h
  rw [lwb_eq h]
  refine lt_of_bit (low n) ?_ hb fun j hj => ?_
  · rw [Nat.testBit_xor, hb, Nat.testBit_two_pow_self]; rfl
  · rw [Nat.testBit_xor, Nat.testBit_two_pow, decide_eq_false (by omega), Bool.xor_false]
def ons (n : Nat) : List Nat := if h : n = 0 then [] else low n :: ons (n ^^^ lwb n)
termination_by n
decreasing_by exact xor_lwb_lt h
theorem ons_zero : ons 0 = [] := by unfold ons; rfl
theorem ons_pos {n : Nat} (h : n ≠ 0) : ons n = low n :: ons (n ^^^ lwb n) := by
  conv => lhs; unfold ons
  rw [dif_neg h]
theorem low_lt {n k : Nat} (h : n ≠ 0) (hk : n < 2 ^ k) : low n < k := by
  refine Classical.byContradiction fun z => ?_
  have := low_bit h
  rw [Nat.testBit_lt_two_pow (Nat.lt_of_lt_of_le hk (Nat.pow_le_pow_right (by decide) (by omega)))] at this
  cases this
theorem lwb_lt {n k : Nat} (h : n ≠ 0) (hk : n < 2 ^ k) : n ^^^ lwb n < 2 ^ k := Nat.lt_trans (xor_lwb_lt h) hk
theorem ons_lt {k : Nat} : ∀ {n : Nat}, n < 2 ^ k → ∀ i ∈ ons n, i < k := by
  intro n
  induction n using Nat.strongRecOn with
  | _ n ih =>
    intro hk i hi
    by_cases h : n = 0
    · subst h; rw [ons_zero] at hi; cases hi
    · rw [ons_pos h] at hi
      rcases List.mem_cons.mp hi with rfl | hi
      · exact low_lt h hk
      · exact ih _ (xor_lwb_lt h) (lwb_lt h hk) i hi
theorem ons_len {k : Nat} : ∀ {n : Nat}, n < 2 ^ k → (ons n).length ≤ n := by
  intro n
  induction n using Nat.strongRecOn with
  | _ n ih =>
    intro hk
    by_cases h : n = 0
    · subst h; rw [ons_zero]; exact Nat.le_refl _
    · rw [ons_pos h]
      have := ih _ (xor_lwb_lt h) (lwb_lt h hk)
      have := xor_lwb_lt h
      simp only [List.length_cons]
      omega
theorem low_le_low {n i : Nat} (h : n.testBit i = true) : low n ≤ i := by
  induction n using Nat.strongRecOn generalizing i with
  | _ n ih =>
    have hn : n ≠ 0 := fun e => by rw [e] at h; simp at h
    unfold low
    rw [dif_neg hn]
    split
    · exact Nat.zero_le _
    · rename_i ho
      cases i with
      | zero => rw [Nat.testBit_zero] at h; exact absurd (of_decide_eq_true h) ho
      | succ i =>
        rw [Nat.testBit_succ] at h
        have := ih (n / 2) (by omega) h
        omega
theorem ons_sorted : ∀ {n : Nat}, (ons n).Pairwise (· < ·) := by
  intro n
  induction n using Nat.strongRecOn with
  | _ n ih =>
    by_cases h : n = 0
    · subst h; rw [ons_zero]; exact .nil
    · rw [ons_pos h]
      refine List.pairwise_cons.mpr ⟨fun i hi => ?_, ih _ (xor_lwb_lt h)⟩
      have bit : ∀ {m j : Nat}, j ∈ ons m → m.testBit j = true := by
        intro m
        induction m using Nat.strongRecOn with
        | _ m ihm =>
          intro j hj
          by_cases hm : m = 0
          · subst hm; rw [ons_zero] at hj; cases hj
          · rw [ons_pos hm] at hj
            rcases List.mem_cons.mp hj with rfl | hj
            · exact low_bit hm
            · have := ihm _ (xor_lwb_lt hm) hj
              rw [Nat.testBit_xor, lwb_eq hm, Nat.testBit_two_pow] at this
              by_cases e : low m = j
              · subst e; exact low_bit hm
              · simpa [e] using this
      have b := bit hi
      rw [Nat.testBit_xor, lwb_eq h, Nat.testBit_two_pow] at b
      by_cases e : low n = i
      · subst e
        rw [low_bit h] at b
        simp at b
      · have b2 : n.testBit i = true := by simpa [e] using b
        have := low_le_low b2
        omega
theorem pw_len : ∀ {l : List Nat} {b k : Nat}, l.Pairwise (· < ·) → (∀ i ∈ l, b ≤ i ∧ i < k) → l.length ≤ k - b
  | [], _, _, _, _ => Nat.zero_le _
  | x :: l, b, k, hp, h => by
    have hp' := List.pairwise_cons.mp hp
    have hx := h x (.head _)
    have := pw_len (b := x + 1) (k := k) hp'.2 fun i hi => ⟨hp'.1 i hi, (h i (.tail _ hi)).2⟩
    simp only [List.length_cons]
    omega
theorem ons_len2 {n k : Nat} (h : n < 2 ^ k) : (ons n).length ≤ k := by
  have := pw_len (b := 0) (k := k) (ons_sorted (n := n)) fun i hi => ⟨Nat.zero_le _, ons_lt h i hi⟩
  omega
/-- what image_of sums -/
def ims (cols : List Nat) (l : List Nat) : Nat := l.foldl (fun t i => t ^^^ cols.getD i 0) 0
theorem ims_from (cols : List Nat) : ∀ (l : List Nat) (t : Nat), l.foldl (fun t i => t ^^^ cols.getD i 0) t = t ^^^ ims cols l
  | [], t => by show t = t ^^^ 0; rw [Nat.xor_zero]
  | i :: l, t => by
    show l.foldl _ (t ^^^ cols.getD i 0) = t ^^^ (l.foldl _ (0 ^^^ cols.getD i 0))
    rw [ims_from cols l, ims_from cols l, Nat.zero_xor, Nat.xor_assoc]
theorem ims_ons (cols : List Nat) : ∀ {n : Nat}, n < 2 ^ cols.length → ims cols (ons n) = img cols n := by
  intro n
  induction n using Nat.strongRecOn with
  | _ n ih =>
    intro hk
    by_cases h : n = 0
    · subst h; rw [ons_zero, (lin_img cols).z]; rfl
    · rw [ons_pos h]
      have e := ih _ (xor_lwb_lt h) (lwb_lt h hk)
      show (ons (n ^^^ lwb n)).foldl _ (0 ^^^ cols.getD (low n) 0) = _
      rw [ims_from, e, Nat.zero_xor, (lin_img cols).x, lwb_eq h, img_unit cols (low_lt h hk), Nat.xor_comm (img cols n), xor_cancel]
def sp_ones : Sp := fun vs H Q _ => ∃ n k : Nat, vs = [vN n] ∧ n < 2 ^ k ∧ k ≤ 1000000 ∧ ∀ H' q, Same H H' → H q = none → H' q = some (.tup ((ons n).map vN)) → Q (.ref q) H'
def sp_image_of : Sp := fun vs H Q _ => ∃ (a : Addr) (cs : List Nat) (n : Nat), vs = [.ref a, vN n] ∧ Tq H a (cs.map vN) ∧ cs.length ≤ 1000000 ∧ n < 2 ^ cs.length ∧ ∀ H', Same H H' → Q (vN (img cs n)) H'
def sp_solved : Sp := fun vs H Q _ => ∃ (a : Addr) (ss : List Nat) (b g : Nat), vs = [.ref a, vN ss.length, vN g] ∧ Tq H a ((prd ss).map vN) ∧ ss.length ≤ 400000 ∧ g < 2 ^ b ∧ b ≤ 400000 ∧ Spn ss g ∧ Q (vN (slv ss g)) H
def sp_write_count (CR : Addr) : Sp := fun vs H Q _ => ∃ (p : Addr) (b : Nat) (ss ls : List Nat), vs = [.ref p] ∧ SpreadAt CR H p b ss ls ∧ b ≤ 400000 ∧ Q (vN (1 <<< (b - ls.length))) H
section
variable {P : Program} {w : World} {K : PySem.W.Frag} {mg : Str → Option Value} {base : Heap} {f : Addr} {fd : FuncData} {CS CR : Addr} (T : Bt mg) (TR : SpreadT K mg CR)
include T
theorem ok_ones (F : FnP K "ones" "ones" s_ones f fd) (D_need_whole : Dn P w K mg base 2 "need_whole" ["value"] sp_need_whole) : FnOk P w K mg base CX0 3 f fd ["word"] sp_ones := by
  have nd := sc_ones.nd
  refine fnok F sc_ones (fun vs H Q E h => ?_) (fun cdv A outer s H vs Q E hr h => ?_)
  · obtain ⟨n, k, rfl, _⟩ := h
    rfl
  · obtain ⟨n, k, rfl, hn, hk, q⟩ := h
    refine ⟨_, (pss_cons (ps_expr (pe_d D_need_whole hr (pa_cons (pv 0) pa_nil)))
  (pss_cons (ps_set (i := 1) nd rfl (Or.inl rfl) (pe_lst pa_nil))
  (pss_cons (ps_set (i := 2) nd rfl (Or.inl rfl) (pv 0))
  (pss_cons (ps_while PassesOwn.never (pt_cmpR op_gt (pv 2) pe_int (nomark _))
    (pss_cons (ps_set (i := 3) nd rfl (Or.inl rfl) (pe_op on_low (pv 2) (pe_un un_neg (pv 2))))
    (pss_cons (ps_expr (pe_bm PySem.F.plainAttrs_list PySem.F.slot_list_append PySem.F.type_list_append mt_append (pv 1) (pa_cons (pe_op on_sub (pe_bits (pv 3)) pe_int) pa_nil)))
    (pss_one (ps_set (i := 2) nd rfl (Or.inl rfl) (pe_op on_xor (pv 2) (pv 3)))))))
  (pss_one (ps_ret (pe_callTy call_tupleQ (by rfl) T.tuple (by decide +kernel) (pa_cons (pv 1) pa_nil)))))))), ?_⟩
    refine ⟨_, rfl, n, rfl, (by decide), fun l hl => ⟨_, rfl, ?_⟩⟩
    refine ⟨fun m σ H2 => ∃ v3 ds, σ = [some (vN n), some (.ref l), some (vN m), v3] ∧ Same H H2 ∧ H2 l = some (.lst (ds.map vN)) ∧ ds ++ ons m = ons n ∧ m < 2 ^ k, ⟨n, none, [], rfl, same_new0 hl, upd_same, rfl, hn⟩, ?_⟩
    rintro m σ H2 ⟨v3, ds, rfl, s2, h2, e, hm⟩
    have ld : ds.length ≤ k := by
      have := ons_len2 hn
      rw [← e, List.length_append] at this
      omega
    refine ⟨_, rfl, _, _, rfl, rfl, _, rfl, br (fun z => ?_) (fun z => ?_)⟩
    · have z0 : m ≠ 0 := by have := of_decide_eq_true z; omega
      refine ⟨fun σ' H' => ∃ v3 ds, σ' = [some (vN n), some (.ref l), some (vN (m ^^^ lwb m)), v3] ∧ Same H H' ∧ H' l = some (.lst (ds.map vN)) ∧ ds ++ ons (m ^^^ lwb m) = ons n ∧ (m ^^^ lwb m) < 2 ^ k, fun σ' H' hN => ⟨_, xor_lwb_lt z0, hN⟩, ?_⟩
      refine ⟨_, rfl, _, rfl, _, rfl, m, rfl, rfl, ?_⟩
      have bl : blen (lwb m) = low m + 1 := by rw [lwb_eq z0, ← Nat.one_shiftLeft]; exact blen_unit _
      refine ⟨_, rfl, .inl ⟨rfl, _, SqL.of h2⟩, _, rfl, lwb m, rfl, Builtin.Int.intBits (lwb m : Int), 1, rfl, rfl, (by rw [blen_bits]; omega), l, _, _, rfl, rfl, h2, (by rw [List.length_map, sizeLine_eq]; omega), ?_⟩
      refine ⟨_, rfl, _, rfl, m, lwb m, rfl, rfl, _, ds ++ [low m], rfl, same_put s2 hl, ?_, ?_, lwb_lt z0 hm⟩
      · rw [upd_same, List.map_append, blen_bits, bl, Nat.add_sub_cancel]; rfl
      · rw [List.append_assoc, ← e, ons_pos z0]; rfl
    · have z0 : m = 0 := by
        have := of_decide_eq_false z
        omega
      subst z0
      rw [ons_zero, List.append_nil] at e
      subst e
      exact ⟨_, rfl, l, _, rfl, h2, fun q' hq' => q _ _ (same_new s2 hq') (same_free s2 hq') upd_same⟩
theorem ok_image_of (F : FnP K "image_of" "image_of" s_image_of f fd) (D_ones : Dn P w K mg base 3 "ones" ["word"] sp_ones) : FnOk P w K mg base CX0 4 f fd ["columns", "word"] sp_image_of := by
  have nd := sc_image_of.nd
  refine fnok F sc_image_of (fun vs H Q E h => ?_) (fun cdv A outer s H vs Q E hr h => ?_)
  · obtain ⟨a, cs, n, rfl, _⟩ := h
    rfl
  · obtain ⟨a, cs, n, rfl, hS, hl, hn, k⟩ := h
    refine ⟨_, (pss_cons (ps_set (i := 2) nd rfl (Or.inl rfl) pe_int)
  (pss_cons (ps_for PassesOwn.never rfl (pi_seq (pe_d D_ones hr (pa_cons (pv 1) pa_nil))) (pg_name (i := 3) nd rfl (Or.inl rfl))
    (pss_one (ps_set (i := 2) nd rfl (Or.inl rfl) (pe_op on_xor (pv 2) (pe_ix ix_q (pv 0) (pv 3) (fun _ _ => rfl))))))
  (pss_one (ps_ret (pv 2))))), ?_⟩
    refine ⟨_, rfl, n, cs.length, rfl, hn, hl, fun H1 q s1 hq h1 => ?_⟩
    refine for_sq2 (K := K) (.inr h1) (fun i σ H2 => ∃ v3, σ = [some (.ref a), some (vN n), some (vN (ims cs ((ons n).take i))), v3] ∧ H2 = H1) ⟨none, rfl, rfl⟩ (fun i σ H2 hp o ho => by obtain ⟨_, _, rfl⟩ := hp; exact ho) ?_ ?_
    · rintro i y σ H2 hy ⟨v3, rfl, rfl⟩
      obtain ⟨d, hd, rfl⟩ := map_get hy
      have dl := ons_lt hn d (List.mem_of_getElem? hd)
      have hg : (cs.map vN)[d]? = some (vN (cs.getD d 0)) := by
        rw [List.getElem?_map, List.getElem?_eq_getElem dl, List.getD_eq_getElem?_getD, List.getElem?_eq_getElem dl]
        rfl
      refine ⟨_, rfl, _, rfl, _, rfl, a, _, d, _, rfl, rfl, same_tq s1 hS, hg, _, _, rfl, rfl, some (vN d), ?_, rfl⟩
      rw [take_succ hd]
      unfold ims
      rw [List.foldl_append]
      rfl
    · rintro σ H2 ⟨v3, rfl, rfl⟩
      rw [List.length_map, List.take_length, ims_ons cs hn]
      exact ⟨_, rfl, k _ s1⟩
theorem ok_solved (F : FnP K "solved" "solved" s_solved f fd) (D_cleared : Dn P w K mg base 1 "cleared" ["rows", "word"] sp_cleared) : FnOk P w K mg base CX0 2 f fd ["pairs", "source", "word"] sp_solved := by
  have nd := sc_solved.nd
  refine fnok F sc_solved (fun vs H Q E h => ?_) (fun cdv A outer s H vs Q E hr h => ?_)
  · obtain ⟨a, ss, b, g, rfl, _⟩ := h
    rfl
  · obtain ⟨a, ss, b, g, rfl, hS, hl, hg, hb, hs, k⟩ := h
    refine ⟨_, (pss_cons (ps_set (i := 3) nd rfl (Or.inl rfl) (pe_d D_cleared hr (pa_cons (pv 0) (pa_cons (pe_op on_shl (pv 2) (pv 1)) pa_nil))))
  (pss_cons (ps_if (pt_cmpR op_gt (pe_bits (pv 3)) (pv 1) (nomark _))
    (pss_one (ps_ret pe_non))
    pss_nil)
  (pss_one (ps_ret (pv 3))))), ?_⟩
    have R := spn_rws (prs ss)
    have bg : blen g ≤ b := blen_le.mpr hg
    obtain ⟨o1, o2⟩ := slv_ok hs
    have o3 : blen (slv ss g) ≤ ss.length := blen_le.mpr o1
    refine ⟨_, rfl, _, rfl, _, rfl, g, ss.length, rfl, rfl, shl_ok1 (by omega) (by omega), a, prd ss, g <<< ss.length, rfl, hS, R.nz, ?_⟩
    refine ⟨_, rfl, slv ss g, rfl, _, rfl, _, _, rfl, rfl, _, rfl, br (fun z => ?_) (fun _ => ⟨_, rfl, k⟩)⟩
    have e9 : slv ss g = clr (prd ss) (g <<< ss.length) := rfl
    rw [blen_bits] at z
    have := of_decide_eq_true z
    omega
end
end LaneX
set_option Elab.async false
set_option linter.all false
set_option maxRecDepth 100000
set_option maxHeartbeats 4000000
namespace LaneX
open PySem PySem.Spec PyProof.Rows L2
theorem pe_fldK {X : Cx} {K : PySem.W.Frag} {e : Expr} {ta : TE} {f : Str} {pos : Pos} (he : PE X e ta) (hb : attributeBase e f X.env (eval e X.env) = eval e X.env) (hK : X.K = K := by rfl) : PE X (.Attribute e f pos) (tFld K ta f) := by
  subst hK
  exact pe_fld he hb
/-! ### maps -/
structure MapT (K : PySem.W.Frag) (mg : Str → Option Value) (C : Addr) : Prop extends ObjT K C where
  gl : mg "Map" = some (.ref C)
  ng : NoAttr K C "goal"
  nc : NoAttr K C "columns"
  ns : NoAttr K C "source"
def mpf (b : Nat) (t : Addr) (d : Nat) : List (Str × V) := [("goal", vN b), ("columns", .ref t), ("source", vN d)]
def MapAt (C : Addr) (H : Hp) (p : Addr) (b : Nat) (cs : List Nat) : Prop := ∃ dx t, H p = some (.ins C dx (mpf b t cs.length)) ∧ H t = some (.tup (cs.map vN))
theorem MapAt.same {C : Addr} {H H' : Hp} {p : Addr} {b : Nat} {cs : List Nat} (h : MapAt C H p b cs) (s : Same H H') : MapAt C H' p b cs := by
  obtain ⟨dx, t, h1, h2⟩ := h
  exact ⟨dx, t, s _ _ h1, s _ _ h2⟩
def sp_Map (C : Addr) : Sp := fun vs H Q _ => ∃ (p dx : Addr) (b : Nat) (a : Addr) (cs : List Nat), vs = [.ref p, vN b, .ref a] ∧ H p = some (.ins C dx []) ∧ Tq H a (cs.map vN) ∧ (∀ x ∈ cs, blen x ≤ b) ∧
  ∀ H', MapAt C H' p b cs → (∀ c o, H c = some o → c ≠ p → H' c = some o) → Q .non H'
def sp_kernel (CS CM : Addr) : Sp := fun vs H Q _ => ∃ (p : Addr) (b : Nat) (cs : List Nat), vs = [.ref p] ∧ MapAt CM H p b cs ∧ b ≤ 1000000 ∧ (∀ x ∈ cs, blen x ≤ b) ∧ cs.length ≤ 1000000 ∧ spNewSpace CS cs.length (spn (ker cs)) H Q
def sp_placing (CM CR : Addr) : Sp := fun vs H Q _ => ∃ (p : Addr) (b : Nat) (ss ls : List Nat), vs = [.ref p] ∧ SpreadAt CR H p b ss ls ∧ WfR b ss ls ∧ ∀ H' q, Same H H' → H q = none → MapAt CM H' q b (ss ++ ls) → Q (.ref q) H'
def sp_copies (CS CR : Addr) : Sp := fun vs H Q _ => ∃ (p : Addr) (b : Nat) (ss ls : List Nat), vs = [.ref p] ∧ SpreadAt CR H p b ss ls ∧ WfR b ss ls ∧ spNewSpace CS (ss ++ ls).length (spn (ker (ss ++ ls))) H Q
theorem mk_Map {C : Addr} {H1 : Hp} {b : Nat} {a : Addr} {cs : List Nat} {Q : VK} {E : XK} (hS : Tq H1 a (cs.map vN)) (hb : ∀ x ∈ cs, blen x ≤ b) (k : ∀ H' p, Same H1 H' → H1 p = none → MapAt C H' p b cs → Q (.ref p) H') :
    ∀ x dx, H1 x = none → H1 dx = none → dx ≠ x → sp_Map C (.ref x :: ([vN b, .ref a] ++ [])) (upd (upd H1 dx (.own x)) x (.ins C dx [])) (fun v H2 => v = .non ∧ Q (.ref x) H2) E := by
  intro x dx nx ndx ne
  have nx' : upd H1 dx (.own x) x = none := (upd_ne ne.symm).trans nx
  refine ⟨x, dx, b, a, cs, rfl, upd_same, (hS.new ndx).new nx', hb, fun H' hA kp => ⟨rfl, k _ _ (made_same nx ndx kp) nx hA⟩⟩
section
variable {P : Program} {w : World} {K : PySem.W.Frag} {mg : Str → Option Value} {base : Heap} {f : Addr} {fd : FuncData} {CS CR CM : Addr} (T : Bt mg) (TS : SpaceT K mg CS) (TR : SpreadT K mg CR) (TM : MapT K mg CM)
include T
include TM in
theorem ok_Map (F : FnP K "__init__" "Map.__init__" s_Map_init f fd) (D_need_whole : Dn P w K mg base 2 "need_whole" ["value"] sp_need_whole) (D_need_words : Dn P w K mg base 3 "need_words" ["values", "bits"] sp_need_words) :
    FnOk P w K mg base CX0 4 f fd ["self", "goal", "columns"] (sp_Map CM) := by
  have nd := sc_Map_init.nd
  refine fnok F sc_Map_init (fun vs H Q E h => ?_) (fun cdv A outer s H vs Q E hr h => ?_)
  · obtain ⟨p, dx, b, a, cs, rfl, _⟩ := h
    rfl
  · obtain ⟨p, dx, b, a, cs, rfl, hp, hS, hb, k⟩ := h
    refine ⟨_, (pss_cons (ps_expr (pe_d D_need_whole hr (pa_cons (pv 1) pa_nil)))
  (pss_cons (ps_fld (pv 0) (pv 1) rfl)
  (pss_cons (ps_fld (pv 0) (pe_callTy call_tupleQ (by rfl) T.tuple (by decide +kernel) (pa_cons (pe_d D_need_words hr (pa_cons (pv 2) (pa_cons (pv 1) pa_nil))) pa_nil)) rfl)
  (pss_one (ps_fld (pv 0) (pe_callB call_lenQ (by rfl) T.len PySem.boot_len (pa_cons (pe_fld (pv 0) rfl) pa_nil)) rfl))))), ?_⟩
    have nap : a ≠ p := by
      rcases hS with h | h
      · exact ne_of h hp (by intro z; cases z)
      · exact ne_of h hp (by intro z; cases z)
    have hS1 : Tq (upd H p (.ins CM dx (putF "goal" (vN b) []))) a (cs.map vN) := hS.elim (fun h => .inl (upd_put h nap)) fun h => .inr (upd_put h nap)
    refine ⟨_, rfl, b, rfl, _, rfl, _, rfl, p, CM, dx, [], rfl, hp, TM.cl, TM.ng, (by decide), ?_⟩
    refine ⟨_, rfl, _, rfl, a, cs, b, rfl, hS1, hb, fun H1 q1 s1 hq1 h1 => ?_⟩
    refine ⟨q1, _, rfl, h1, fun t ht => ?_⟩
    have hpt : p ≠ t := ne_of_none (s1 _ _ upd_same) ht
    have hp3 : upd H1 t (.tup (cs.map vN)) p = some (.ins CM dx (putF "goal" (vN b) [])) := upd_put (s1 _ _ upd_same) hpt
    refine ⟨_, rfl, p, CM, dx, _, rfl, hp3, TM.cl, TM.nc, (by show 1 < 1000; decide), ?_⟩
    refine ⟨_, rfl, p, CM, dx, _, .ref t, rfl, upd_same, TM.cl, TM.nc, rfl, t, _, rfl, .inr (upd_put upd_same hpt.symm), ?_⟩
    refine ⟨_, rfl, p, CM, dx, _, rfl, upd_same, TM.cl, TM.ns, (by show 2 < 1000; decide), ?_⟩
    refine k _ ⟨dx, t, ?_, upd_put (upd_put upd_same hpt.symm) hpt.symm⟩ fun c o hc hcp => ?_
    · rw [upd_same, List.length_map]
      rfl
    · have e1 : upd H p (.ins CM dx (putF "goal" (vN b) [])) c = some o := upd_put hc hcp
      have e2 := s1 _ _ e1
      exact upd_put (upd_put (upd_put e2 (ne_of_none e2 ht)) hcp) hcp
omit T in
include TM in
theorem ok_kernel (F : FnP K "kernel" "Map.kernel" s_Map_kernel f fd) (D_kernel_rows : Dn P w K mg base 5 "kernel_rows" ["columns"] sp_kernel_rows) (K_Space : Kn P w K mg base 4 CS "Space" ["self", "bits", "words"] (sp_Space CS)) : FnOk P w K mg base CX0 6 f fd ["self"] (sp_kernel CS CM) := by
  have nd := sc_Map_kernel.nd
  refine fnok F sc_Map_kernel (fun vs H Q E h => ?_) (fun cdv A outer s H vs Q E hr h => ?_)
  · obtain ⟨p, b, cs, rfl, _⟩ := h
    rfl
  · obtain ⟨p, b, cs, rfl, ⟨dx, t, h1, h2⟩, hb, hw, hl, k⟩ := h
    refine ⟨_, (pss_one (ps_ret (pe_k K_Space hr (pa_cons (pe_fld (pv 0) rfl) (pa_cons (pe_d D_kernel_rows hr (pa_cons (pe_fld (pv 0) rfl) pa_nil)) pa_nil))))), ?_⟩
    refine ⟨_, rfl, p, CM, dx, _, vN cs.length, rfl, h1, TM.cl, TM.ns, rfl, ?_⟩
    refine ⟨_, rfl, p, CM, dx, _, .ref t, rfl, h1, TM.cl, TM.nc, rfl, t, cs, rfl, .inr h2, hl, fun c hc => Nat.le_trans (hw c hc) hb, fun H1 q1 s1 hq1 g1 => ?_⟩
    refine mk_Space (.inl g1) (ker_blen cs) (Nat.le_trans (ker_len cs) hl) (fun H' p s2 hp hA => k _ _ (s1.trans s2) (same_free s1 hp) hA)
end
def tps (rows : List Nat) : List Nat := rows.map fun r => blen r - 1
def sp_tops_of : Sp := fun vs H Q _ => ∃ (a : Addr) (rows : List Nat), vs = [.ref a] ∧ Tq H a (rows.map vN) ∧ (∀ r ∈ rows, r ≠ 0) ∧ rows.length ≤ 1000000 ∧ ∀ H' q, Same H H' → H q = none → H' q = some (.lst ((tps rows).map vN)) → Q (.ref q) H'
def sp_missing : Sp := fun vs H Q _ => ∃ (a : Addr) (rows : List Nat), vs = [.ref a] ∧ Tq H a (rows.map vN) ∧ (∀ r ∈ rows, r ≠ 0) ∧ rows.length ≤ 1000000 ∧ ∀ H' j, Same H H' → Mis rows j → Q (vN (1 <<< j)) H'
theorem ne_self (v : V) : (!decide (v = v)) = false := by simp
theorem all_trues {α : Type} (l : List α) : (l.map fun _ => true).all id = true := by
  rw [List.all_map, List.all_eq_true]
  exact fun _ _ => rfl
theorem getD_get {l : List Nat} {i : Nat} (h : i < l.length) : (l.map vN)[i]? = some (vN (l.getD i 0)) := by rw [List.getElem?_map, List.getD_eq_getElem?_getD, List.getElem?_eq_getElem h]; rfl
theorem rws_pow {R : List Nat} (h : Rws R) {j : Nat} (m : Mis R j) : ¬ Spn R (1 <<< j) := by
  rw [Nat.one_shiftLeft]
  exact m.at_ h
theorem mis_lt {R : List Nat} {j k : Nat} (m : Mis R j) (h : R.length < k) : 1 <<< j < 2 ^ k := by
  rw [Nat.one_shiftLeft]
  exact Nat.pow_lt_pow_right (by decide) (Nat.lt_of_le_of_lt (mis_le m.1) h)
theorem clr_iff {R : List Nat} (h : Rws R) {x : Nat} : (clr R x ≠ 0) ↔ ¬ Spn R x := by rw [h.span]
section
variable {P : Program} {w : World} {K : PySem.W.Frag} {mg : Str → Option Value} {base : Heap} {f : Addr} {fd : FuncData} {CS CR CM : Addr} (T : Bt mg)
theorem ok_tops_of (F : FnP K "tops_of" "tops_of" s_tops_of f fd) : FnOk P w K mg base CX0 1 f fd ["rows"] sp_tops_of := by
  have nd := sc_tops_of.nd
  refine fnok F sc_tops_of (fun vs H Q E h => ?_) (fun cdv A outer s H vs Q E hr h => ?_)
  · obtain ⟨a, rows, rfl, _⟩ := h
    rfl
  · obtain ⟨a, rows, rfl, hS, nz, hl, k⟩ := h
    refine ⟨_, (pss_one (ps_ret (pe_lc (own := [("row", 1)]) (g := gName 1) (by rfl) nd (pi_seq (pv 0)) (blkOk_by (own := [("row", 1)]) (N := ["rows", "row"]) (sc := defScope s_tops_of) (by decide +kernel)) (fun _ _ _ _ _ => (pg_name (i := 1) nd rfl (Or.inl rfl))) (fun _ _ _ _ _ => pts_nil) (fun _ _ _ _ _ => (pe_op on_sub (pe_bits (pv 1)) pe_int))))), ?_⟩
    refine ⟨_, rfl, lc_pure rows vN (fun _ => true) (fun r => vN (blen r - 1)) hS hl (fun r H' hr' s => ?_) (fun D H' hD s h' => ?_)⟩
    · intro Z Nx z1 z2
      refine ⟨rfl, _, rfl, r, rfl, blen r, 1, ?_, rfl, blen_pos (nz r hr'), z1 rfl _ (Same.refl _)⟩
      rw [← blen_bits]
    · rw [filt_true] at h'
      exact k _ _ s hD (by rw [h']; simp [tps])
include T
theorem ok_missing (F : FnP K "missing" "missing" s_missing f fd) (D_tops_of : Dn P w K mg base 1 "tops_of" ["rows"] sp_tops_of) : FnOk P w K mg base CX0 2 f fd ["rows"] sp_missing := by
  have nd := sc_missing.nd
  refine fnok F sc_missing (fun vs H Q E h => ?_) (fun cdv A outer s H vs Q E hr h => ?_)
  · obtain ⟨a, rows, rfl, _⟩ := h
    rfl
  · obtain ⟨a, rows, rfl, hS, nz, hl, k⟩ := h
    refine ⟨_, (pss_cons (ps_set (i := 1) nd rfl (Or.inl rfl) (pe_d D_tops_of hr (pa_cons (pv 0) pa_nil)))
  (pss_cons (ps_set (i := 2) nd rfl (Or.inl rfl) pe_int)
  (pss_cons (ps_while PassesOwn.never (pt_cmpR on_in (pv 2) (pv 1) (by rfl))
    (pss_one (ps_aug (i := 2) nd rfl (.inl rfl) pe_int iop_addN)))
  (pss_one (ps_ret (pe_op on_shl pe_int (pv 2))))))), ?_⟩
    refine ⟨_, rfl, a, rows, rfl, hS, nz, hl, fun H1 q s1 hq h1 => ?_⟩
    refine ⟨fun m σ H2 => ∃ j, m = rows.length + 1 - j ∧ σ = [some (.ref a), some (.ref q), some (vN j)] ∧ H2 = H1 ∧ ∀ i, i < j → ∃ r ∈ rows, blen r - 1 = i, ⟨_, 0, rfl, rfl, rfl, fun i hi => absurd hi (Nat.not_lt_zero _)⟩, ?_⟩
    rintro m σ H2 ⟨j, rfl, rfl, rfl, hj⟩
    have jl := mis_le hj
    refine ⟨_, rfl, _, rfl, j, q, _, rfl, rfl, .inl h1, _, rfl, ?_⟩
    refine br (fun e => ?_) (fun e => ?_)
    · have e := of_decide_eq_true e
      refine ⟨fun σ' H' => ∃ j', j' = j + 1 ∧ σ' = [some (.ref a), some (.ref q), some (vN j')] ∧ H' = H2 ∧ ∀ i, i < j' → ∃ r ∈ rows, blen r - 1 = i, fun σ' H' hN => ?_, ?_⟩
      · obtain ⟨j', rfl, h2, h3, h4⟩ := hN
        exact ⟨_, by omega, j + 1, rfl, h2, h3, h4⟩
      · refine ⟨_, rfl, j, 1, rfl, rfl, _, rfl, rfl, rfl, fun i hi => ?_⟩
        by_cases z : i < j
        · exact hj i z
        · have : i = j := by omega
          subst this
          obtain ⟨r, hr', e'⟩ := List.mem_map.mp e
          exact ⟨r, hr', e'⟩
    · have e := of_decide_eq_false e
      refine ⟨_, rfl, 1, j, rfl, rfl, shl_ok1 (by rw [blen_one]; decide) (by omega), k _ _ s1 ⟨hj, fun r hr' z => e (List.mem_map.mpr ⟨r, hr', z⟩)⟩⟩

end
end LaneX
set_option Elab.async false
set_option linter.all false
set_option maxRecDepth 100000
set_option maxHeartbeats 4000000
namespace LaneX
open PySem PySem.Spec PyProof.Rows L2
def spNewMap (C : Addr) (b : Nat) (cs : List Nat) (H : Hp) (Q : VK) : Prop := ∀ H' p, Same H H' → H p = none → MapAt C H' p b cs → Q (.ref p) H'
def sp_mcall (C : Addr) : Sp := fun vs H Q _ => ∃ (p : Addr) (b x : Nat) (cs : List Nat), vs = [.ref p, vN x] ∧ MapAt C H p b cs ∧ cs.length ≤ 100000 ∧ x < 2 ^ cs.length ∧ ∀ H', Same H H' → Q (vN (img cs x)) H'
def sp_solvedO : Sp := fun vs H Q _ => ∃ (a : Addr) (ss : List Nat) (b g : Nat), vs = [.ref a, vN ss.length, vN g] ∧ Tq H a ((prd ss).map vN) ∧ ss.length ≤ 400000 ∧ g < 2 ^ b ∧ b ≤ 400000 ∧ (Spn ss g → Q (vN (slv ss g)) H) ∧ (¬ Spn ss g → Q .non H)
def sp_needX (CM CN : Addr) : Sp := fun vs H Q E => ∃ (q : Addr) (g : Nat) (B : List Nat), vs = [.ref q] ∧ MapAt CM H q g B ∧ (∀ x ∈ B, x < 2 ^ g) ∧ g ≤ 1000 ∧ B.length ≤ 1000 ∧
  (rk B < g → ∀ H' d j, Same H H' → H d = none → H' d = some (.xd [("word", vN (1 <<< j))]) → Mis (spn B) j → E (.ref CN) (some d) H') ∧ (g ≤ rk B → ∀ H', Same H H' → Q .non H')
def sp_mapeq2 (CM : Addr) : Sp := fun vs H Q _ => ∃ (p q : Addr) (b c : Nat) (A B : List Nat), vs = [.ref p, .ref q] ∧ MapAt CM H p b A ∧ MapAt CM H q c B ∧ ∀ H', Same H H' → Q (.bl (decide (b = c ∧ A = B))) H'
def sp_oneX (CM C1 : Addr) : Sp := fun vs H Q E => ∃ (q : Addr) (g : Nat) (B : List Nat), vs = [.ref q] ∧ MapAt CM H q g B ∧ (∀ x ∈ B, x < 2 ^ g) ∧ g ≤ 1000 ∧ B.length ≤ 1000 ∧
  (∀ r R, ker B = r :: R → ∀ H' d, Same H H' → H d = none → H' d = some (.xd [("word", vN r)]) → E (.ref C1) (some d) H') ∧ (ker B = [] → ∀ H', Same H H' → Q .non H')
def sp_invX (CM C1 CN : Addr) : Sp := fun vs H Q E => ∃ (q : Addr) (g : Nat) (B : List Nat), vs = [.ref q] ∧ MapAt CM H q g B ∧ (∀ x ∈ B, x < 2 ^ g) ∧ g ≤ 1000 ∧ B.length ≤ 1000 ∧
  (∀ r R, ker B = r :: R → ∀ H' d, Same H H' → H d = none → H' d = some (.xd [("word", vN r)]) → E (.ref C1) (some d) H') ∧
  (ker B = [] → rk B < g → ∀ H' d j, Same H H' → H d = none → H' d = some (.xd [("word", vN (1 <<< j))]) → Mis (spn B) j → E (.ref CN) (some d) H') ∧ (Mix g B → spNewMap CM g (inv g B) H Q)
theorem MapAt.kp {C : Addr} {H H' : Hp} {p : Addr} {b : Nat} {cs : List Nat} (h : MapAt C H p b cs) (s : Kp H H') : MapAt C H' p b cs := by
  obtain ⟨dx, t, h1, h2⟩ := h
  exact ⟨dx, t, s _ _ h1 rfl, s _ _ h2 rfl⟩
theorem mix_blen {b : Nat} {M : List Nat} (h : Mix b M) : ∀ x ∈ M, blen x ≤ b := fun x hx => blen_le.mpr (h.lt x hx)
theorem mix_one {g : Nat} {B : List Nat} (hB : ∀ x ∈ B, x < 2 ^ g) (k0 : ker B = []) (on : g ≤ rk B) : Mix g B := by
  have e := ker_len_eq B
  rw [k0] at e
  have l := rk_le_bits hB
  have e : rk B = B.length := by simpa using e
  exact ⟨by omega, hB, by omega⟩
section
variable {P : Program} {w : World} {K : PySem.W.Frag} {mg : Str → Option Value} {base : Heap} {f : Addr} {fd : FuncData} {CS CR CM CB C1 CN CL : Addr} (T : Bt mg) (TS : SpaceT K mg CS) (TM : MapT K mg CM)
include T
theorem ok_solvedO (F : FnP K "solved" "solved" s_solved f fd) (D_cleared : Dn P w K mg base 1 "cleared" ["rows", "word"] sp_cleared) : FnOk P w K mg base CX0 2 f fd ["pairs", "source", "word"] sp_solvedO := by
  have nd := sc_solved.nd
  refine fnok F sc_solved (fun vs H Q E h => ?_) (fun cdv A outer s H vs Q E hr h => ?_)
  · obtain ⟨a, ss, b, g, rfl, _⟩ := h
    rfl
  · obtain ⟨a, ss, b, g, rfl, hS, hl, hg, hb, k, kn⟩ := h
    refine ⟨_, (pss_cons (ps_set (i := 3) nd rfl (Or.inl rfl) (pe_d D_cleared hr (pa_cons (pv 0) (pa_cons (pe_op on_shl (pv 2) (pv 1)) pa_nil))))
  (pss_cons (ps_if (pt_cmpR op_gt (pe_bits (pv 3)) (pv 1) (nomark _))
    (pss_one (ps_ret pe_non))
    pss_nil)
  (pss_one (ps_ret (pv 3))))), ?_⟩
    have R := spn_rws (prs ss)
    have bg : blen g ≤ b := blen_le.mpr hg
    have e9 : slv ss g = clr (prd ss) (g <<< ss.length) := rfl
    refine ⟨_, rfl, _, rfl, _, rfl, g, ss.length, rfl, rfl, shl_ok1 (by omega) (by omega), a, prd ss, g <<< ss.length, rfl, hS, R.nz, ?_⟩
    refine ⟨_, rfl, slv ss g, rfl, _, rfl, _, _, rfl, rfl, _, rfl, br (fun z => ?_) (fun z => ⟨_, rfl, ?_⟩)⟩
    · rw [blen_bits] at z
      have z := of_decide_eq_true z
      refine kn fun y => ?_
      have := blen_le.mpr (slv_ok y).1
      omega
    · rw [blen_bits] at z
      have z := of_decide_eq_false z
      refine k (Classical.byContradiction fun y => ?_)
      have a1 := slv_none y
      have a2 := blen_le.mp (show blen (slv ss g) ≤ ss.length by omega)
      omega
include TM
theorem ok_mcall (F : FnP K "__call__" "Map.__call__" s_Map_call f fd) (D_need_word : Dn P w K mg base 2 "need_word" ["value", "bits"] sp_need_word) (D_image_of : Dn P w K mg base 4 "image_of" ["columns", "word"] sp_image_of) : FnOk P w K mg base CX0 5 f fd ["self", "word"] (sp_mcall CM) := by
  have nd := sc_Map_call.nd
  refine fnok F sc_Map_call (fun vs H Q E h => ?_) (fun cdv A outer s H vs Q E hr h => ?_)
  · obtain ⟨p, b, x, cs, rfl, _⟩ := h
    rfl
  · obtain ⟨p, b, x, cs, rfl, ⟨dx, t, h1, h2⟩, hl, hx, k⟩ := h
    refine ⟨_, (pss_cons (ps_expr (pe_d D_need_word hr (pa_cons (pv 1) (pa_cons (pe_fld (pv 0) rfl) pa_nil))))
  (pss_one (ps_ret (pe_d D_image_of hr (pa_cons (pe_fld (pv 0) rfl) (pa_cons (pv 1) pa_nil)))))), ?_⟩
    refine ⟨_, rfl, _, rfl, p, CM, dx, _, vN cs.length, rfl, h1, TM.cl, TM.ns, rfl, x, cs.length, rfl, blen_le.mpr hx, ?_⟩
    exact ⟨_, rfl, p, CM, dx, _, .ref t, rfl, h1, TM.cl, TM.nc, rfl, _, rfl, t, cs, x, rfl, .inr h2, (by omega), hx, k⟩
theorem ok_needX (F : FnP K "need_onto" "need_onto" s_need_onto f fd) (D_spanned : Dn P w K mg base 3 "spanned" ["words"] sp_spanned) (D_missing : Dn P w K mg base 2 "missing" ["rows"] sp_missing) (XN : Xi P K mg CN "word" "word") (glN : mg "NotOnto" = some (.ref CN)) : FnOk P w K mg base (L2.CX P w) 4 f fd ["change"] (sp_needX CM CN) := by
  have nd := sc_need_onto.nd
  refine fnokX F sc_need_onto (fun vs H Q E h => ?_) (fun cdv A outer s H vs Q E hr h => ?_)
  · obtain ⟨q, g, B, rfl, _⟩ := h
    rfl
  · obtain ⟨q, g, B, rfl, ⟨dx, t, h1, h2⟩, hB, hg, hl, kN, kQ⟩ := h
    refine ⟨_, (pss_cons (ps_set (i := 1) nd rfl (Or.inl rfl) (pe_d D_spanned hr (pa_cons (pe_fld (pv 0) rfl) pa_nil)))
  (pss_one (ps_if (pt_cmpR op_lt (pe_callB call_lenQ (by rfl) T.len PySem.boot_len (pa_cons (pv 1) pa_nil)) (pe_fld (pv 0) rfl) (nomark _))
    (pss_one (ps_raise rfl (takes_of rfl rfl rfl rfl) (pmk_xi XN glN hr (pa_cons (pe_d D_missing hr (pa_cons (pv 1) pa_nil)) pa_nil))))
    pss_nil))), ?_⟩
    refine ⟨_, rfl, q, CM, dx, _, .ref t, rfl, h1, TM.cl, TM.nc, rfl, t, B, rfl, .inr h2, (by omega), fun H1 r s1 hr1 e1 => ?_⟩
    refine ⟨_, rfl, r, _, rfl, .inl e1, _, rfl, q, CM, dx, _, vN g, rfl, s1 _ _ h1, TM.cl, TM.ng, rfl, _, _, rfl, rfl, _, rfl, br (fun z => ?_) (fun z => ?_)⟩
    · have z := of_decide_eq_true z
      rw [List.length_map] at z
      have z : rk B < g := by show (spn B).length < g; omega
      have sl := spn_len B
      refine ⟨_, rfl, r, spn B, rfl, .inl e1, (spn_rws B).nz, (by omega), fun H2 j s2 mj => xi_mk fun d hd => ?_⟩
      have s12 := s1.trans s2
      exact kN z _ d j (same_new s12 hd) (s12.free hd) upd_same mj
    · have z := of_decide_eq_false z
      rw [List.length_map] at z
      exact kQ (by show g ≤ (spn B).length; omega) _ s1
theorem ok_mapeq2 (F : FnP K "__eq__" "Map.__eq__" s_Map_eq f fd) : FnOk P w K mg base CX0 1 f fd ["self", "other"] (sp_mapeq2 CM) := by
  have nd := sc_Map_eq.nd
  refine fnok F sc_Map_eq (fun vs H Q E h => ?_) (fun cdv A0 outer s H vs Q E hr h => ?_)
  · obtain ⟨p, q, b, c, A, B, rfl, _⟩ := h
    rfl
  · obtain ⟨p, q, b, c, rs, os, rfl, ⟨dx, t, h1, h2⟩, ⟨dy, u, g1, g2⟩, k⟩ := h
    refine ⟨_, (pss_one (ps_ret (pe_and (pe_callB call_isi (by rfl) T.isinstance (by decide +kernel) (pa_cons (pv 1) (pa_cons (pe_glob (v := .ref CM) (by rfl) TM.gl rfl) pa_nil))) (pe_and (pe_cmpR op_eq (pe_fld (pv 0) rfl) (pe_fld (pv 1) rfl) (nomark _)) (pe_one (pe_cmpR (op_eqT hr.units) (pe_fld (pv 0) rfl) (pe_fld (pv 1) rfl) (nomark _))))))), ?_⟩
    refine ⟨_, rfl, _, _, _, _, _, rfl, .own _, TM.ty g1, TM.me, _, rfl, iteT ?_⟩
    refine ⟨_, rfl, p, CM, dx, _, vN b, rfl, h1, TM.cl, TM.ng, rfl, _, rfl, q, CM, dy, _, vN c, rfl, g1, TM.cl, TM.ng, rfl, rfl, _, rfl, ?_⟩
    have z := k _ (Same.refl _)
    rw [dec_nat]
    by_cases e : b = c
    · rw [decide_eq_true e]
      refine iteT ⟨_, rfl, p, CM, dx, _, .ref t, rfl, h1, TM.cl, TM.nc, rfl, _, rfl, q, CM, dy, _, .ref u, rfl, g1, TM.cl, TM.nc, rfl, t, u, rs, os, rfl, rfl, h2, g2, ?_⟩
      rw [show decide (b = c ∧ rs = os) = decide (rs = os) by simp [e]] at z
      exact z
    · rw [decide_eq_false e]
      rw [show decide (b = c ∧ rs = os) = false by simp [e]] at z
      exact iteF z
theorem ok_oneX (F : FnP K "need_one_to_one" "need_one_to_one" s_need_one_to_one f fd) (D_kernel_rows : Dn P w K mg base 5 "kernel_rows" ["columns"] sp_kernel_rows) (X1 : Xi P K mg C1 "word" "word") (gl1 : mg "NotOneToOne" = some (.ref C1)) : FnOk P w K mg base (L2.CX P w) 6 f fd ["change"] (sp_oneX CM C1) := by
  have nd := sc_need_one_to_one.nd
  refine fnokX F sc_need_one_to_one (fun vs H Q E h => ?_) (fun cdv A outer s H vs Q E hr h => ?_)
  · obtain ⟨p, b, M, rfl, _⟩ := h
    rfl
  · obtain ⟨p, b, M, rfl, ⟨dx, t, h1, h2⟩, hB, hb, lB, kE, k⟩ := h
    refine ⟨_, (pss_cons (ps_set (i := 1) nd rfl (Or.inl rfl) (pe_d D_kernel_rows hr (pa_cons (pe_fld (pv 0) rfl) pa_nil)))
  (pss_one (ps_if (pt_cmpR (op_neE hr.units) (pv 1) (pe_lst pa_nil) (nomark _))
    (pss_one (ps_raise rfl (takes_of rfl rfl rfl rfl) (pmk_xi X1 gl1 hr (pa_cons (pe_ix ix_q (pv 1) pe_int (fun _ _ => rfl)) pa_nil))))
    pss_nil))), ?_⟩
    refine ⟨_, rfl, p, CM, dx, _, .ref t, rfl, h1, TM.cl, TM.nc, rfl, t, M, rfl, .inr h2, (by omega), fun c hc => Nat.le_trans (blen_le.mpr (hB c hc)) (by omega), fun H1 q s1 hq e1 => ?_⟩
    refine ⟨_, rfl, (by decide), fun z hz => ⟨q, z, ker M, rfl, rfl, upd_new hz e1, upd_same, _, rfl, ?_⟩⟩
    have s2 := same_new s1 (o := .lst []) hz
    cases e : ker M with
    | nil => exact iteF (k e _ s2)
    | cons r R =>
      refine iteT ⟨_, rfl, q, _, 0, vN r, rfl, rfl, .inl (upd_new hz e1), by rw [e]; rfl, xi_mk fun d hd => ?_⟩
      exact kE r R e _ d (same_new s2 hd) (s2.free hd) upd_same
theorem ok_invX (F : FnP K "__invert__" "Map.__invert__" s_Map_invert f fd) (D_need_one : Dx P w K mg base 6 "need_one_to_one" ["change"] (sp_oneX CM C1)) (D_need_onto : Dx P w K mg base 4 "need_onto" ["change"] (sp_needX CM CN)) (D_paired : Dn P w K mg base 4 "paired" ["columns"] sp_paired) (D_solvedO : Dn P w K mg base 2 "solved" ["pairs", "source", "word"] sp_solvedO) (K_Map : Kn P w K mg base 4 CM "Map" ["self", "goal", "columns"] (sp_Map CM)) : FnOk P w K mg base (L2.CX P w) 7 f fd ["self"] (sp_invX CM C1 CN) := by
  have nd := sc_Map_invert.nd
  refine fnokX F sc_Map_invert (fun vs H Q E h => ?_) (fun cdv A outer s H vs Q E hr h => ?_)
  · obtain ⟨p, b, M, rfl, _⟩ := h
    rfl
  · obtain ⟨p, b, M, rfl, hp, hB, hb, lB, kE, kN, k⟩ := h
    refine ⟨_, (pss_cons (ps_expr (pe_dxS D_need_one (takes_of rfl rfl rfl rfl) hr (pa_cons (pv 0) pa_nil)))
  (pss_cons (ps_expr (pe_dxS D_need_onto (takes_of rfl rfl rfl rfl) hr (pa_cons (pv 0) pa_nil)))
  (pss_cons (ps_set (i := 1) nd rfl (Or.inr rfl) (pe_d D_paired hr (pa_cons (pe_fld (pv 0) rfl) pa_nil)))
  (pss_one (ps_ret (pe_k K_Map hr (pa_cons (pe_fld (pv 0) rfl) (pa_cons (pe_lc (own := [("bit", 2)]) (g := gName 2) (by rfl) nd (pi_range1 (by rfl) T.range (pa_cons (pe_fld (pv 0) rfl) pa_nil)) (blkOk_by (own := [("bit", 2)]) (N := ["self", "pairs", "bit"]) (sc := defScope s_Map_invert) (by decide +kernel)) (fun _ _ _ _ _ => (pg_name (i := 2) nd rfl (Or.inl rfl))) (fun _ _ _ _ _ => pts_nil) (fun _ _ _ _ _ => (pe_d D_solvedO hr (pa_cons (pv 1) (pa_cons (pe_fldK (K := K) (pv 0) rfl) (pa_cons (pe_op on_shl pe_int (pv 2)) pa_nil)))))) pa_nil)))))))), ?_⟩
    refine ⟨_, rfl, p, b, M, rfl, hp, hB, hb, lB, kE, fun k0 H1 s1 => ?_⟩
    refine ⟨_, rfl, p, b, M, rfl, hp.same s1, hB, hb, lB, fun lt H' d j s hd ed mj => kN k0 lt H' d j (s1.trans s) (s1.free hd) ed mj, fun on H2 s2 => ?_⟩
    have mM := mix_one hB k0 on
    have lM := mM.len
    have bl := mix_blen mM
    obtain ⟨dx, t, h1, h2⟩ := (hp.same s1).same s2
    refine ⟨_, rfl, p, CM, dx, _, .ref t, rfl, h1, TM.cl, TM.nc, rfl, t, M, rfl, .inr h2, (by omega), fun c hc => Nat.le_trans (bl c hc) (by omega), fun H3 q s3 hq e3 => ?_⟩
    refine ⟨_, rfl, p, CM, dx, _, vN M.length, rfl, s3 _ _ h1, TM.cl, TM.ns, rfl, ?_⟩
    refine ⟨_, rfl, p, CM, dx, _, vN b, rfl, s3 _ _ h1, TM.cl, TM.ng, rfl, b, rfl, (by omega), (by omega), lc_pureR (n := b) (fun _ => true) (fun i => vN (slv M (1 <<< i))) (by omega) (fun i H' hi s => ?_) (fun D H4 hD s4 e4 => ?_)⟩
    · intro Z Nx z1 z2
      have ul : (1 <<< i) < 2 ^ b := by rw [Nat.one_shiftLeft]; exact Nat.pow_lt_pow_right (by decide) hi
      refine ⟨rfl, _, rfl, _, rfl, p, CM, dx, _, vN M.length, rfl, s _ _ (s3 _ _ h1), TM.cl, TM.ns, rfl, _, rfl, 1, i, rfl, rfl, shl_ok1 (by rw [blen_one]; decide) (by omega), ?_⟩
      exact ⟨q, M, b, 1 <<< i, rfl, .inl (s _ _ e3), (by omega), ul, (by omega), fun _ => z1 rfl _ (Same.refl _), fun z => absurd (mM.all ul) z⟩
    · rw [filt_true] at e4
      have s04 := ((s1.trans s2).trans s3).trans s4
      rw [lM]
      exact mk_Map (cs := inv b M) (.inl (by rw [e4]; unfold inv; rw [List.map_map]; rfl)) (mix_blen (inv_mix mM)) (fun H' p s5 hp hA => k mM _ _ (s04.trans s5) (same_free s04 hp) hA)
end
end LaneX
set_option Elab.async false
set_option linter.all false
set_option maxRecDepth 100000
set_option maxHeartbeats 4000000
namespace LaneX
open PySem PySem.Spec PyProof.Rows L2
/-! ### stores -/
structure StoreT (K : PySem.W.Frag) (mg : Str → Option Value) (C : Addr) : Prop extends ObjT K C where
  gl : mg "Store" = some (.ref C)
  nc : NoAttr K C "change"
  nb : NoAttr K C "banks"
  no : NoAttr K C "own_back"
def stf (m : Addr) (k : Nat) (i : Addr) : List (Str × V) := [("change", .ref m), ("banks", vN k), ("own_back", .ref i)]
structure StoreAt (CW CM : Addr) (H : Hp) (p : Addr) (b : Nat) (C : List Nat) (k : Nat) : Prop where
  at_ : ∃ dx m i, H p = some (.ins CW dx (stf m k i)) ∧ MapAt CM H m b C ∧ MapAt CM H i b (inv b C)
  mx : Mix b C
  kb : k ≤ b
  bb : b ≤ 1000
theorem StoreAt.same {CW CM : Addr} {H H' : Hp} {p : Addr} {b k : Nat} {C : List Nat} (h : StoreAt CW CM H p b C k) (s : Same H H') : StoreAt CW CM H' p b C k := by
  obtain ⟨dx, m, i, h1, h2, h3⟩ := h.at_
  exact ⟨⟨dx, m, i, s _ _ h1, h2.same s, h3.same s⟩, h.mx, h.kb, h.bb⟩
theorem StoreAt.kp {CW CM : Addr} {H H' : Hp} {p : Addr} {b k : Nat} {C : List Nat} (h : StoreAt CW CM H p b C k) (s : Kp H H') : StoreAt CW CM H' p b C k := by
  obtain ⟨dx, m, i, h1, h2, h3⟩ := h.at_
  exact ⟨⟨dx, m, i, s _ _ h1 rfl, h2.kp s, h3.kp s⟩, h.mx, h.kb, h.bb⟩
def sp_StoreX (CW CM C1 : Addr) : Sp := fun vs H Q E => ∃ (p dx m : Addr) (b k : Nat) (C : List Nat), vs = [.ref p, .ref m, vN k] ∧ H p = some (.ins CW dx []) ∧ MapAt CM H m b C ∧ C.length = b ∧ (∀ x ∈ C, x < 2 ^ b) ∧ b ≤ 1000 ∧ k ≤ b ∧
  (∀ r R, ker C = r :: R → ∀ H' d, (∀ c o, H c = some o → c ≠ p → H' c = some o) → H d = none → H' d = some (.xd [("word", vN r)]) → E (.ref C1) (some d) H') ∧
  (Mix b C → ∀ H', StoreAt CW CM H' p b C k → (∀ c o, H c = some o → c ≠ p → H' c = some o) → Q .non H')
def sp_Store (CW CM : Addr) : Sp := fun vs H Q _ => ∃ (p dx m : Addr) (b k : Nat) (C : List Nat), vs = [.ref p, .ref m, vN k] ∧ H p = some (.ins CW dx []) ∧ MapAt CM H m b C ∧ Mix b C ∧ b ≤ 1000 ∧ k ≤ b ∧
  ∀ H', StoreAt CW CM H' p b C k → (∀ c o, H c = some o → c ≠ p → H' c = some o) → Q .non H'
theorem store_quiet {CW CM C1 : Addr} (vs : List V) (H : Hp) (Q : VK) (E : XK) (h : sp_Store CW CM vs H Q E) : sp_StoreX CW CM C1 vs H Q E0 := by
  obtain ⟨p, dx, m, b, k, C, rfl, hp, hm, mx, hb, hk, q⟩ := h
  exact ⟨p, dx, m, b, k, C, rfl, hp, hm, mx.len, mx.lt, hb, hk, fun r R e => absurd e (by rw [ker_none mx]; intro z; cases z), fun _ => q⟩
theorem mk_Store {CW CM : Addr} {H1 : Hp} {m : Addr} {b k : Nat} {C : List Nat} {Q : VK} {E : XK} (hm : MapAt CM H1 m b C) (mx : Mix b C) (hb : b ≤ 1000) (hk : k ≤ b) (q : ∀ H' p, Same H1 H' → H1 p = none → StoreAt CW CM H' p b C k → Q (.ref p) H') :
    ∀ x dx, H1 x = none → H1 dx = none → dx ≠ x → sp_Store CW CM (.ref x :: ([.ref m, vN k] ++ [])) (upd (upd H1 dx (.own x)) x (.ins CW dx [])) (fun v H2 => v = .non ∧ Q (.ref x) H2) E := by
  intro x dx nx ndx ne
  have nx' : upd H1 dx (.own x) x = none := (upd_ne ne.symm).trans nx
  have s0 : Same H1 (upd (upd H1 dx (.own x)) x (.ins CW dx [])) := (same_new0 ndx).trans (same_new0 nx')
  exact ⟨x, dx, m, b, k, C, rfl, upd_same, hm.same s0, mx, hb, hk, fun H' hA kp => ⟨rfl, q _ _ (made_same nx ndx kp) nx hA⟩⟩
theorem mk_StoreX {CW CM C1 : Addr} {H1 : Hp} {m : Addr} {b k : Nat} {C : List Nat} {r : Nat} {R : List Nat} {Q : VK} {E : XK} (hm : MapAt CM H1 m b C) (len : C.length = b) (lt : ∀ x ∈ C, x < 2 ^ b) (hb : b ≤ 1000) (hk : k ≤ b) (e : ker C = r :: R) (q : ∀ H' d, Same H1 H' → H1 d = none → H' d = some (.xd [("word", vN r)]) → E (.ref C1) (some d) H') :
    ∀ x dx, H1 x = none → H1 dx = none → dx ≠ x → sp_StoreX CW CM C1 (.ref x :: ([.ref m, vN k] ++ [])) (upd (upd H1 dx (.own x)) x (.ins CW dx [])) (fun v H2 => v = .non ∧ Q (.ref x) H2) E := by
  intro x dx nx ndx ne
  have nx' : upd H1 dx (.own x) x = none := (upd_ne ne.symm).trans nx
  have s0 : Same H1 (upd (upd H1 dx (.own x)) x (.ins CW dx [])) := (same_new0 ndx).trans (same_new0 nx')
  refine ⟨x, dx, m, b, k, C, rfl, upd_same, hm.same s0, len, lt, hb, hk, fun r' R' e' H' d kp hd ed => ?_, fun mx => absurd e (by rw [ker_none mx]; intro z; cases z)⟩
  rw [e] at e'
  cases e'
  exact q _ d (made_same nx ndx kp) (s0.free hd) ed
/-- what a store and a spread ask -/
def spStW (CW CM CR : Addr) (f : Nat → List Nat → Nat → List Nat → List Nat → Nat → Hp → VK → XK → Prop) : Sp := fun vs H Q E => ∃ (p q : Addr) (b : Nat) (C : List Nat) (k : Nat) (ss ls : List Nat) (w : Nat), vs = [.ref p, .ref q, vN w] ∧ StoreAt CW CM H p b C k ∧ SpreadAt CR H q b ss ls ∧ WfR b ss ls ∧ w ≤ k ∧ ls.length ≤ 1000 ∧ ss.length ≤ 1000 ∧ f b C k ss ls w H Q E
def lwl (ls : List Nat) (w : Nat) : Nat := ls.length - min w ls.length
def tchW (b : Nat) (C ls : List Nat) (w : Nat) : List Nat := ls.take (lwl ls w) ++ (inv b C).take w
def sp_bank (CW CM : Addr) : Sp := fun vs H Q _ => ∃ (p : Addr) (b : Nat) (C : List Nat) (k e : Nat), vs = [.ref p, vN e] ∧ StoreAt CW CM H p b C k ∧ e < 2 ^ b ∧ ∀ H', Same H H' → Q (vN (img C e &&& ((1 <<< k) - 1))) H'
def sp_bank_map (CW CM : Addr) : Sp := fun vs H Q _ => ∃ (p : Addr) (b : Nat) (C : List Nat) (k : Nat), vs = [.ref p] ∧ StoreAt CW CM H p b C k ∧ spNewMap CM k (msk k C) H Q
def sp_meeting (CW CM CS : Addr) : Sp := fun vs H Q _ => ∃ (p q : Addr) (b : Nat) (C : List Nat) (k : Nat) (W : List Nat), vs = [.ref p, .ref q] ∧ StoreAt CW CM H p b C k ∧ SpaceAt CS H q b (spn W) ∧ (∀ x ∈ W, x < 2 ^ b) ∧ ∀ H', Same H H' → Q (vN (met' b k C W)) H'
def sp_need_width (CW CM CR : Addr) : Sp := spStW CW CM CR fun _ _ _ _ _ _ H Q _ => Q .non H
def sp_fits (CW CM CR : Addr) : Sp := spStW CW CM CR fun b C _ ss _ w H Q _ => ∀ H', Same H H' → Q (.bl (ftn w ss (inv b C))) H'
def spUnf (CU : Addr) (w : Nat) (H : Hp) (E : XK) : Prop := ∀ H' d, Same H H' → H d = none → H' d = some (.xd [("width", vN w)]) → E (.ref CU) (some d) H'
def sp_touchedX (CW CM CR CS CU : Addr) : Sp := spStW CW CM CR fun b C _ ss ls w H Q E => (ftn w ss (inv b C) = true → spNewSpace CS b (spn (tchW b C ls w)) H Q) ∧ (ftn w ss (inv b C) = false → spUnf CU w H E)
def sp_beatsX (CW CM CR CU : Addr) : Sp := spStW CW CM CR fun b C k ss ls w H Q E => (ftn w ss (inv b C) = true → ∀ H', Same H H' → Q (vN (1 <<< (min w ls.length + met' b k C (tchW b C ls w)))) H') ∧ (ftn w ss (inv b C) = false → spUnf CU w H E)
def sp_touched (CW CM CR CS : Addr) : Sp := spStW CW CM CR fun b C _ ss ls w H Q _ => ftn w ss (inv b C) = true ∧ spNewSpace CS b (spn (tchW b C ls w)) H Q
def sp_beats (CW CM CR : Addr) : Sp := spStW CW CM CR fun b C k ss ls w H Q _ => ftn w ss (inv b C) = true ∧ ∀ H', Same H H' → Q (vN (1 <<< (min w ls.length + met' b k C (tchW b C ls w)))) H'
def sp_phase (CR : Addr) : Sp := fun vs H Q _ => ∃ (q : Addr) (b : Nat) (ss ls : List Nat) (w : Nat), vs = [.ref q, vN w] ∧ SpreadAt CR H q b ss ls ∧ Q (vN (min w ls.length)) H
theorem touched_quiet {CW CM CR CS CU : Addr} (vs : List V) (H : Hp) (Q : VK) (E : XK) (h : sp_touched CW CM CR CS vs H Q E) : sp_touchedX CW CM CR CS CU vs H Q E0 := by
  obtain ⟨p, q, b, C, k, ss, ls, w, rfl, h1, h2, h3, h4, h5, h6, e, z⟩ := h
  exact ⟨p, q, b, C, k, ss, ls, w, rfl, h1, h2, h3, h4, h5, h6, fun _ => z, fun n => absurd e (by rw [n]; decide)⟩
theorem beats_quiet {CW CM CR CU : Addr} (vs : List V) (H : Hp) (Q : VK) (E : XK) (h : sp_beats CW CM CR vs H Q E) : sp_beatsX CW CM CR CU vs H Q E0 := by
  obtain ⟨p, q, b, C, k, ss, ls, w, rfl, h1, h2, h3, h4, h5, h6, e, z⟩ := h
  exact ⟨p, q, b, C, k, ss, ls, w, rfl, h1, h2, h3, h4, h5, h6, fun _ => z, fun n => absurd e (by rw [n]; decide)⟩
theorem tch_lt {b w : Nat} {C ls : List Nat} (h : Mix b C) (hl : ∀ x ∈ ls, x < 2 ^ b) : ∀ x ∈ tchW b C ls w, x < 2 ^ b := fun x hx => by
  rcases List.mem_append.mp hx with z | z
  · exact hl x (List.mem_of_mem_take z)
  · exact (inv_mix h).lt x (List.mem_of_mem_take z)
theorem shl1 {k : Nat} (h : k ≤ 1000) : 1 ≤ 1 <<< k := by rw [Nat.one_shiftLeft]; exact Nat.two_pow_pos k
theorem itf {c : Bool} {A B : Prop} (h : c = false) (b : B) : if c = true then A else B := by rw [h]; exact b
theorem itt {c : Bool} {A B : Prop} (h : c = true) (a : A) : if c = true then A else B := by rw [h]; exact a
theorem ftn_all (w : Nat) (ss V : List Nat) : ((V.take w).map fun x => decide (vN (clr (spn ss) x) = L2.V.int 0)).all id = ftn w ss V := by
  unfold ftn
  rw [List.all_map]
  congr 1
  funext x
  show decide (vN (clr (spn ss) x) = L2.V.int ((0 : Nat) : Int)) = _
  rw [show decide (vN (clr (spn ss) x) = L2.V.int ((0 : Nat) : Int)) = decide (clr (spn ss) x = 0) from dec_nat]
theorem sla {K : PySem.W.Frag} {H : Hp} {a : Addr} {xs : List V} {lo hi : Option Int} {Q : VK} (h : H a = some (.tup xs)) (k : ∀ H' q, Same H H' → H' q = some (.tup (cutV xs lo hi)) → Q (.ref q) H') : rSlA K (.ref a) lo hi H Q := by
  refine ⟨a, xs, rfl, SqT.of h, fun e => k H a (Same.refl _) ?_, fun _ p hp => k _ p (same_new0 hp) upd_same⟩
  unfold cutV
  rw [e.1, e.2, h]
  simp
theorem cut_take (xs : List Nat) {k : Nat} (h : k ≤ xs.length) : cutV (xs.map vN) none (some (k : Int)) = (xs.take k).map vN := by
  unfold cutV
  rw [HT.sIx_nat, HT.sIx_none, List.length_map, Nat.min_eq_left h, List.map_take]
  rfl
section
variable {P : Program} {w : World} {K : PySem.W.Frag} {mg : Str → Option Value} {base : Heap} {f : Addr} {fd : FuncData} {CS CR CM CW CB C1 CN CU CL : Addr} (T : Bt mg) (TS : SpaceT K mg CS) (TR : SpreadT K mg CR) (TW : StoreT K mg CW) (TM : MapT K mg CM)
include T
include TM TW in
theorem ok_StoreX (F : FnP K "__init__" "Store.__init__" s_Store_init f fd) (D_need_whole : Dn P w K mg base 2 "need_whole" ["value"] sp_need_whole) (M_Map_invert : Mx P w K mg base 7 CM "__invert__" ["self"] (sp_invX CM C1 CN)) : FnOk P w K mg base (L2.CX P w) 8 f fd ["self", "change", "banks"] (sp_StoreX CW CM C1) := by
  have nd := sc_Store_init.nd
  refine fnokX F sc_Store_init (fun vs H Q E h => ?_) (fun cdv A outer s H vs Q E hr h => ?_)
  · obtain ⟨p, dx, m, b, k, C, rfl, _⟩ := h
    rfl
  · obtain ⟨p, dx, m, b, k, C, rfl, hp, hm, len, lt, hb, hk, kE, kQ⟩ := h
    refine ⟨_, (pss_cons (ps_if (PW.pt (pw_or (pt_not (pt_val (pe_callB call_isi (by rfl) T.isinstance (by decide +kernel) (pa_cons (pv 1) (pa_cons (pe_glob (v := .ref CM) (by rfl) TM.gl rfl) pa_nil))))) (pw_or1 (pt_cmpR op_ne (pe_fld (pv 1) rfl) (pe_fld (pv 1) rfl) (nomark _)))))
    (pss_one ps_never)
    pss_nil)
  (pss_cons (ps_expr (pe_d D_need_whole hr (pa_cons (pv 2) pa_nil)))
  (pss_cons (ps_if (pt_cmpR op_gt (pv 2) (pe_fld (pv 1) rfl) (nomark _))
    (pss_one ps_never)
    pss_nil)
  (pss_cons (ps_fld (pv 0) (pv 1) rfl)
  (pss_cons (ps_fld (pv 0) (pv 2) rfl)
  (pss_one (ps_fld (pv 0) (pe_invX M_Map_invert (takes_of rfl rfl rfl rfl) hr (pv 1)) rfl))))))), ?_⟩
    have hm0 := hm
    obtain ⟨dm, t, h1, h2⟩ := hm
    have nmp : m ≠ p := fun z => by
      rw [z, hp] at h1
      injection h1 with h1
      injection h1 with _ _ h1
      cases h1
    have ntp : t ≠ p := ne_of h2 hp (by intro z; cases z)
    refine ⟨_, rfl, _, _, _, _, _, rfl, .own _, TM.ty h1, TM.me, _, rfl, iteF ?_⟩
    refine ⟨_, rfl, m, CM, dm, _, vN C.length, rfl, h1, TM.cl, TM.ns, rfl, _, rfl, m, CM, dm, _, vN b, rfl, h1, TM.cl, TM.ng, rfl, rfl, _, rfl, ?_⟩
    rw [len, show (!decide (vN b = vN b)) = false by simp]
    refine iteF ⟨_, rfl, k, rfl, ?_⟩
    refine ⟨_, rfl, _, rfl, m, CM, dm, _, vN b, rfl, h1, TM.cl, TM.ng, rfl, _, _, rfl, rfl, _, rfl, itf (decide_eq_false (by omega)) ?_⟩
    refine ⟨_, rfl, _, rfl, p, CW, dx, [], rfl, hp, TW.cl, TW.nc, (by decide), ?_⟩
    refine ⟨_, rfl, _, rfl, p, CW, dx, _, rfl, upd_same, TW.cl, TW.nb, (by show 1 < 1000; decide), ?_⟩
    have keep : ∀ {o1 o2 : HO} c o, H c = some o → c ≠ p → upd (upd H p o1) p o2 c = some o := fun c o hc n => upd_put (upd_put hc n) n
    have hm2 : ∀ {o1 o2 : HO}, MapAt CM (upd (upd H p o1) p o2) m b C := ⟨dm, t, keep _ _ h1 nmp, keep _ _ h2 ntp⟩
    have fr : ∀ {o1 o2 : HO} {d : Addr}, upd (upd H p o1) p o2 d = none → H d = none := fun {o1 o2 d} hd => by
      by_cases e : d = p
      · rw [e, upd_same] at hd; cases hd
      · rwa [upd_ne e, upd_ne e] at hd
    refine ⟨_, rfl, m, dm, _, rfl, keep _ _ h1 nmp, m, b, C, rfl, hm2, lt, hb, (by omega), fun r R e H' d s hd ed => ?_, fun z on => ?_, fun mx H1 i s1 hi hA => ?_⟩
    · exact kE r R e _ d (fun c o hc n => s _ _ (keep c o hc n)) (fr hd) ed
    · intro H' d j s hd ed mj
      have l := rk_le_bits lt
      have q := ker_len_eq C
      rw [z] at q
      have q : rk C = C.length := by simpa using q
      omega
    · have hpi : p ≠ i := ne_of_none (upd_same (H := upd H p (.ins CW dx (putF "change" (.ref m) [])))) hi
      refine ⟨_, rfl, p, CW, dx, _, rfl, s1 _ _ upd_same, TW.cl, TW.no, (by show 2 < 1000; decide), ?_⟩
      obtain ⟨di, ti, g1, g2⟩ := id hA
      have nip : i ≠ p := hpi.symm
      have nti : ti ≠ p := ne_of g2 (s1 _ _ upd_same) (by intro z; cases z)
      refine kQ mx _ ⟨⟨dx, m, i, upd_same, ⟨dm, t, upd_put (s1 _ _ (keep _ _ h1 nmp)) nmp, upd_put (s1 _ _ (keep _ _ h2 ntp)) ntp⟩, ⟨di, ti, upd_put g1 nip, upd_put g2 nti⟩⟩, mx, hk, hb⟩ fun c o hc n => upd_put (s1 _ _ (keep c o hc n)) n
include TM TW in
theorem ok_bank (F : FnP K "bank" "Store.bank" s_Store_bank f fd) (D_need_word : Dn P w K mg base 2 "need_word" ["value", "bits"] sp_need_word) (M_Map_call : Mn P w K mg base 5 CM "__call__" ["self", "word"] (sp_mcall CM)) (hcfM : callFn K CM = true) : FnOk P w K mg base CX0 6 f fd ["self", "entry"] (sp_bank CW CM) := by
  have nd := sc_Store_bank.nd
  refine fnok F sc_Store_bank (fun vs H Q E h => ?_) (fun cdv A outer s H vs Q E hr h => ?_)
  · obtain ⟨p, b, C, k, e, rfl, _⟩ := h
    rfl
  · obtain ⟨p, b, C, k, e, rfl, hs, he, kQ⟩ := h
    have mx := hs.mx
    have len := mx.len
    have bb := hs.bb
    have kb := hs.kb
    obtain ⟨dx, m, i, hp, hm, hi⟩ := hs.at_
    have hm0 := hm
    obtain ⟨dm, t, h1, h2⟩ := hm
    refine ⟨_, (pss_cons (ps_expr (pe_d D_need_word hr (pa_cons (pv 1) (pa_cons (pe_fld (pe_fld (pv 0) rfl) rfl) pa_nil))))
  (pss_one (ps_ret (pe_op on_and (pe_of (pv 0) TW.cl TW.nc M_Map_call hcfM hr (pa_cons (pv 1) pa_nil)) (pe_op on_sub (pe_op on_shl pe_int (pe_fld (pv 0) rfl)) pe_int))))), ?_⟩
    refine ⟨_, rfl, _, rfl, p, CW, dx, _, .ref m, rfl, hp, TW.cl, TW.nc, rfl, m, CM, dm, _, vN C.length, rfl, h1, TM.cl, TM.ns, rfl, e, C.length, rfl, blen_le.mpr (by rw [len]; exact he), ?_⟩
    refine ⟨_, rfl, p, dx, m, _, rfl, hp, rfl, _, rfl, ⟨_, _, h1⟩, m, b, e, C, rfl, hm0, (by omega), (by rw [len]; exact he), fun H1 s1 => ?_⟩
    refine ⟨_, rfl, p, CW, dx, _, vN k, rfl, s1 _ _ hp, TW.cl, TW.nb, rfl, 1, k, rfl, rfl, shl_ok1 (by rw [blen_one]; decide) (by omega), 1 <<< k, 1, rfl, rfl, shl1 (by omega), _, _, rfl, rfl, kQ _ s1⟩
include TM TW in
theorem ok_bank_map (F : FnP K "bank_map" "Store.bank_map" s_Store_bank_map f fd) (K_Map : Kn P w K mg base 4 CM "Map" ["self", "goal", "columns"] (sp_Map CM)) : FnOk P w K mg base CX0 6 f fd ["self"] (sp_bank_map CW CM) := by
  have nd := sc_Store_bank_map.nd
  refine fnok F sc_Store_bank_map (fun vs H Q E h => ?_) (fun cdv A outer s H vs Q E hr h => ?_)
  · obtain ⟨p, b, C, k, rfl, _⟩ := h
    rfl
  · obtain ⟨p, b, C, k, rfl, hs, kQ⟩ := h
    have mx := hs.mx
    have len := mx.len
    have bb := hs.bb
    have kb := hs.kb
    obtain ⟨dx, m, i, hp, hm, hi⟩ := hs.at_
    obtain ⟨dm, t, h1, h2⟩ := hm
    refine ⟨_, (pss_one (ps_ret (pe_k K_Map hr (pa_cons (pe_fld (pv 0) rfl) (pa_cons (pe_lc (own := [("column", 1)]) (g := gName 1) (by rfl) nd (pi_seq (pe_fld (pe_fld (pv 0) rfl) rfl)) (blkOk_by (own := [("column", 1)]) (N := ["self", "column"]) (sc := defScope s_Store_bank_map) (by decide +kernel)) (fun _ _ _ _ _ => (pg_name (i := 1) nd rfl (Or.inl rfl))) (fun _ _ _ _ _ => pts_nil) (fun _ _ _ _ _ => (pe_op on_and (pv 1) (pe_op on_sub (pe_op on_shl pe_int (pe_fldK (K := K) (pv 0) rfl)) pe_int)))) pa_nil))))), ?_⟩
    refine ⟨_, rfl, p, CW, dx, _, vN k, rfl, hp, TW.cl, TW.nb, rfl, _, rfl, p, CW, dx, _, .ref m, rfl, hp, TW.cl, TW.nc, rfl, m, CM, dm, _, .ref t, rfl, h1, TM.cl, TM.nc, rfl, lc_pure C vN (fun _ => true) (fun x => vN (x &&& ((1 <<< k) - 1))) (.inr h2) (by omega) (fun x H' _ s => ?_) (fun q H1 hq s1 e1 => ?_)⟩
    · intro Z Nx z1 z2
      exact ⟨rfl, _, rfl, _, rfl, p, CW, dx, _, vN k, rfl, s _ _ hp, TW.cl, TW.nb, rfl, 1, k, rfl, rfl, shl_ok1 (by rw [blen_one]; decide) (by omega), 1 <<< k, 1, rfl, rfl, shl1 (by omega), _, _, rfl, rfl, z1 rfl _ (Same.refl _)⟩
    · rw [filt_true] at e1
      exact mk_Map (cs := msk k C) (.inl (by rw [e1]; unfold msk; rw [List.map_map]; rfl)) (fun x hx => blen_le.mpr (msk_lt x hx)) (fun H' p' s2 hp' hA => kQ _ _ (s1.trans s2) (same_free s1 hp') hA)
include TS TM TW in
theorem ok_meeting (F : FnP K "meeting" "Store.meeting" s_Store_meeting f fd) (D_need_space : Dn P w K mg base 1 "need_space" ["value", "bits"] (sp_need_space CS)) (M_Store_bank_map : Mn P w K mg base 6 CW "bank_map" ["self"] (sp_bank_map CW CM)) (M_Map_kernel : Mn P w K mg base 6 CM "kernel" ["self"] (sp_kernel CS CM)) (M_Space_and : Mn P w K mg base 6 CS "__and__" ["self", "other"] (sp_and CS)) (hsf : PySem.W.selfFirst K CS = true) : FnOk P w K mg base CX0 7 f fd ["self", "space"] (sp_meeting CW CM CS) := by
  have nd := sc_Store_meeting.nd
  refine fnok F sc_Store_meeting (fun vs H Q E h => ?_) (fun cdv A outer s H vs Q E hr h => ?_)
  · obtain ⟨p, q, b, C, k, W, rfl, _⟩ := h
    rfl
  · obtain ⟨p, q, b, C, k, W, rfl, hs, hq, lt, kQ⟩ := h
    have mx := hs.mx
    have bb := hs.bb
    have kb := hs.kb
    obtain rfl := mx.len
    have hs0 := hs
    obtain ⟨dx, m, i, hp, hm, hi⟩ := hs.at_
    obtain ⟨dm, t, h1, h2⟩ := hm
    refine ⟨_, (pss_cons (ps_expr (pe_d D_need_space hr (pa_cons (pv 1) (pa_cons (pe_fld (pe_fld (pv 0) rfl) rfl) pa_nil))))
  (pss_one (ps_ret (pe_fld (pe_op (op_own (by rfl) M_Space_and hsf hr) (pv 1) (pe_m0 (pe_m0 (pv 0) M_Store_bank_map hr) M_Map_kernel hr)) rfl)))), ?_⟩
    refine ⟨_, rfl, _, rfl, p, CW, dx, _, .ref m, rfl, hp, TW.cl, TW.nc, rfl, m, CM, dm, _, vN C.length, rfl, h1, TM.cl, TM.ns, rfl, q, _, _, rfl, hq, ?_⟩
    refine ⟨_, rfl, _, rfl, p, dx, _, rfl, hp, rfl, p, _, C, k, rfl, hs0, fun H1 r1 s1 hr1 a1 => ?_⟩
    have a1' := a1
    obtain ⟨d1, t1, e1, e2⟩ := a1
    refine ⟨r1, d1, _, rfl, e1, rfl, r1, k, msk k C, rfl, a1', (by omega), (fun x hx => blen_le.mpr (msk_lt x hx)), (by rw [msk_len]; omega), fun H2 r2 s2 hr2 a2 => ?_⟩
    have s12 := s1.trans s2
    have hq2 := hq.same s12
    have a2' := a2
    rw [msk_len] at a2'
    have hq2' := hq2
    obtain ⟨d2, t2, f1, f2⟩ := a2
    obtain ⟨d3, t3, g1, g2⟩ := hq2
    refine ⟨q, r2, d3, d2, _, _, rfl, rfl, g1, f1, q, r2, _, _, _, rfl, hq2', a2', WfS.of (by omega) (fun x hx => blen_le.mpr (lt x hx)), WfS.of (by omega) (fun x hx => by have z := ker_blen _ x hx; rw [msk_len] at z; exact z), fun H3 r3 s3 hr3 a3 => ?_⟩
    obtain ⟨d4, t4, i1, i2⟩ := a3
    exact ⟨r3, CS, d4, _, vN (met' C.length k C W), rfl, i1, TS.cl, TS.nd, rfl, kQ _ (s12.trans s3)⟩
include TM TW TR in
theorem ok_need_width (F : FnP K "need_width" "Store.need_width" s_Store_need_width f fd) (D_any_spread : Dn P w K mg base 1 "any_spread" ["value"] (sp_any_spread CR)) (D_is_whole : Dn P w K mg base 1 "is_whole" ["value"] sp_is_whole) : FnOk P w K mg base CX0 2 f fd ["self", "spread", "width"] (sp_need_width CW CM CR) := by
  have nd := sc_Store_need_width.nd
  refine fnok F sc_Store_need_width (fun vs H Q E h => ?_) (fun cdv A outer s H vs Q E hr h => ?_)
  · obtain ⟨p, q, b, C, k, ss, ls, w, rfl, _⟩ := h
    rfl
  · obtain ⟨p, q, b, C, k, ss, ls, w, rfl, hs, hq, wf, hw, hl, hl2, kQ⟩ := h
    have mx := hs.mx
    have len := mx.len
    obtain ⟨dx, m, i, hp, hm, hi⟩ := hs.at_
    obtain ⟨dm, t, h1, h2⟩ := hm
    have hq0 := hq
    obtain ⟨dq, sq, lq, g1, g2, g3⟩ := hq
    refine ⟨_, (pss_cons (ps_expr (pe_d D_any_spread hr (pa_cons (pv 1) pa_nil)))
  (pss_cons (ps_if (pt_cmpR op_ne (pe_fld (pv 1) rfl) (pe_fld (pe_fld (pv 0) rfl) rfl) (nomark _))
    (pss_one ps_never)
    pss_nil)
  (pss_one (ps_if (PW.pt (pw_or (pt_not (pt_val (pe_d D_is_whole hr (pa_cons (pv 2) pa_nil)))) (pw_or1 (pt_cmpR op_gt (pv 2) (pe_fld (pv 0) rfl) (nomark _)))))
    (pss_one ps_never)
    pss_nil)))), ?_⟩
    refine ⟨_, rfl, q, b, ss, ls, rfl, hq0, _, rfl, q, CR, dq, _, vN b, rfl, g1, TR.cl, TR.nb, rfl, _, rfl, p, CW, dx, _, .ref m, rfl, hp, TW.cl, TW.nc, rfl, m, CM, dm, _, vN C.length, rfl, h1, TM.cl, TM.ns, rfl, rfl, _, rfl, ?_⟩
    rw [len, show (!decide (vN b = vN b)) = false by simp]
    refine iteF ⟨_, rfl, w, rfl, _, rfl, iteF ?_⟩
    refine ⟨_, rfl, _, rfl, p, CW, dx, _, vN k, rfl, hp, TW.cl, TW.nb, rfl, _, _, rfl, rfl, _, rfl, itf (decide_eq_false (by omega)) kQ⟩
include TR in
theorem ok_phase_bits (F : FnP K "phase_bits" "phase_bits" s_phase_bits f fd) : FnOk P w K mg base CX0 1 f fd ["spread", "width"] (sp_phase CR) := by
  have nd := sc_phase_bits.nd
  refine fnok F sc_phase_bits (fun vs H Q E h => ?_) (fun cdv A outer s H vs Q E hr h => ?_)
  · obtain ⟨q, b, ss, ls, w, rfl, _⟩ := h
    rfl
  · obtain ⟨q, b, ss, ls, w, rfl, ⟨dq, sq, lq, g1, g2, g3⟩, kQ⟩ := h
    refine ⟨_, (pss_one (ps_ret (pe_callB (call_min2 rfl) (by rfl) T.min (by decide +kernel) (pa_cons (pe_callTy call_intQ (by rfl) T.int (by decide +kernel) (pa_cons (pv 1) pa_nil)) (pa_cons (pe_callB call_lenQ (by rfl) T.len PySem.boot_len (pa_cons (pe_fld (pv 0) rfl) pa_nil)) pa_nil))))), ?_⟩
    refine ⟨_, rfl, w, rfl, _, rfl, q, CR, dq, _, .ref lq, rfl, g1, TR.cl, TR.nl, rfl, lq, _, rfl, .inr g3, _, _, rfl, ?_⟩
    rw [List.length_map]
    have e : (if ((ls.length : Nat) : Int) < (w : Int) then ((ls.length : Nat) : Int) else (w : Int)) = ((min w ls.length : Nat) : Int) := by split <;> omega
    rw [e]
    exact kQ
include TM TW TR in
theorem ok_fits (F : FnP K "fits" "Store.fits" s_Store_fits f fd) (M_Store_need_width : Mn P w K mg base 2 CW "need_width" ["self", "spread", "width"] (sp_need_width CW CM CR)) (D_spanned : Dn P w K mg base 3 "spanned" ["words"] sp_spanned) (D_cleared : Dn P w K mg base 1 "cleared" ["rows", "word"] sp_cleared) : FnOk P w K mg base CX0 4 f fd ["self", "spread", "width"] (sp_fits CW CM CR) := by
  have nd := sc_Store_fits.nd
  refine fnok F sc_Store_fits (fun vs H Q E h => ?_) (fun cdv A outer s H vs Q E hr h => ?_)
  · obtain ⟨p, q, b, C, k, ss, ls, w, rfl, _⟩ := h
    rfl
  · obtain ⟨p, q, b, C, k, ss, ls, w, rfl, hs, hq, wf, hw, hl, hl2, kQ⟩ := h
    have hs0 := hs
    have mx := hs.mx
    have bb := hs.bb
    have kb := hs.kb
    obtain ⟨dx, m, i, hp, hm, hi⟩ := hs.at_
    obtain ⟨di, t, h1, h2⟩ := hi
    have hq0 := hq
    obtain ⟨dq, sq, lq, g1, g2, g3⟩ := hq
    refine ⟨_, (pss_cons (ps_expr (pe_m (pv 0) M_Store_need_width hr (pa_cons (pv 1) (pa_cons (pv 2) pa_nil))))
  (pss_cons (ps_set (i := 3) nd rfl (Or.inr rfl) (pe_d D_spanned hr (pa_cons (pe_fld (pv 1) rfl) pa_nil)))
  (pss_one (ps_ret (pe_callB (cr_all rfl) (by rfl) T.all (by decide +kernel) (pa_cons (pe_lc (own := [("word", 4)]) (g := gName 4) (by rfl) nd (pi_seq (pe_slice sl_tupA (pe_fld (pe_fld (pv 0) rfl) rfl) po_none (po_some (pv 2)))) (blkOk_by (own := [("word", 4)]) (N := ["self", "spread", "width", "rows", "word"]) (sc := defScope s_Store_fits) (by decide +kernel)) (fun _ _ _ _ _ => (pg_name (i := 4) nd rfl (Or.inl rfl))) (fun _ _ _ _ _ => pts_nil) (fun _ _ _ _ _ => (pe_cmpR op_eq (pe_d D_cleared hr (pa_cons (pv 3) (pa_cons (pv 4) pa_nil))) pe_int (nomark _)))) pa_nil)))))), ?_⟩
    refine ⟨_, rfl, p, dx, _, rfl, hp, rfl, _, rfl, _, rfl, p, q, b, C, k, ss, ls, w, rfl, hs0, hq0, wf, hw, hl, hl2, ?_⟩
    refine ⟨_, rfl, q, CR, dq, _, .ref sq, rfl, g1, TR.cl, TR.ns, rfl, sq, ss, rfl, .inr g2, (by omega), fun H1 r1 s1 hr1 e1 => ?_⟩
    refine ⟨_, rfl, p, CW, dx, _, .ref i, rfl, s1 _ _ hp, TW.cl, TW.no, rfl, i, CM, di, _, .ref t, rfl, s1 _ _ h1, TM.cl, TM.nc, rfl, ?_⟩
    delta tNoPart
    refine ⟨_, rfl, _, rfl, ?_⟩
    refine sla (s1 _ _ h2) fun H2 q2 s2 e2 => ?_
    rw [cut_take _ (by rw [(inv_mix mx).len]; omega)] at e2
    refine lc_pure ((inv b C).take w) vN (fun _ => true) (fun x => .bl (decide (vN (clr (spn ss) x) = .int 0))) (.inr e2) (by rw [List.length_take]; omega) (fun x H' hx s => ?_) (fun D H4 hD s4 e4 => ?_)
    · intro Z Nx z1 z2
      exact ⟨rfl, _, rfl, _, rfl, r1, spn ss, x, rfl, .inl (s _ _ (s2 _ _ e1)), (spn_rws ss).nz, rfl, z1 rfl _ (Same.refl _)⟩
    rw [filt_true] at e4
    refine ⟨D, ((inv b C).take w).map (fun x => decide (vN (clr (spn ss) x) = V.int 0)), rfl, SqL.of (by rw [e4]; simp only [List.map_map]; rfl), ?_⟩
    rw [ftn_all]
    exact kQ _ ((s1.trans s2).trans s4)
include TS TM TW TR in
theorem ok_touchedX (F : FnP K "touched" "Store.touched" s_Store_touched f fd) (M_Store_fits : Mn P w K mg base 4 CW "fits" ["self", "spread", "width"] (sp_fits CW CM CR)) (D_phase_bits : Dn P w K mg base 1 "phase_bits" ["spread", "width"] (sp_phase CR)) (XU : Xi P K mg CU "width" "width") (glU : mg "Unfit" = some (.ref CU)) (K_Space : Kn P w K mg base 4 CS "Space" ["self", "bits", "words"] (sp_Space CS)) : FnOk P w K mg base (L2.CX P w) 6 f fd ["self", "spread", "width"] (sp_touchedX CW CM CR CS CU) := by
  have nd := sc_Store_touched.nd
  refine fnokX F sc_Store_touched (fun vs H Q E h => ?_) (fun cdv A outer s H vs Q E hr h => ?_)
  · obtain ⟨p, q, b, C, k, ss, ls, w, rfl, _⟩ := h
    rfl
  · obtain ⟨p, q, b, C, k, ss, ls, w, rfl, hs, hq, wf, hw, hl, hl2, kQ, kE⟩ := h
    have hs0 := hs
    have mx := hs.mx
    have bb := hs.bb
    have kb := hs.kb
    obtain ⟨dx, m, i, hp, hm, hi⟩ := hs.at_
    obtain ⟨di, t, h1, h2⟩ := hi
    have hq0 := hq
    obtain ⟨dq, sq, lq, g1, g2, g3⟩ := hq
    refine ⟨_, (pss_cons (ps_if (pt_not (pt_val (pe_m (pv 0) M_Store_fits hr (pa_cons (pv 1) (pa_cons (pv 2) pa_nil)))))
    (pss_one (ps_raise rfl (takes_of rfl rfl rfl rfl) (pmk_xi XU glU hr (pa_cons (pv 2) pa_nil))))
    pss_nil)
  (pss_cons (ps_set (i := 3) nd rfl (Or.inl rfl) (pe_op on_sub (pe_callB call_lenQ (by rfl) T.len PySem.boot_len (pa_cons (pe_fld (pv 1) rfl) pa_nil)) (pe_d D_phase_bits hr (pa_cons (pv 1) (pa_cons (pv 2) pa_nil)))))
  (pss_one (ps_ret (pe_k K_Space hr (pa_cons (pe_fld (pv 1) rfl) (pa_cons (pe_op op_cat (pe_callTy call_listQ (by rfl) T.list (by decide +kernel) (pa_cons (pe_slice sl_tupA (pe_fld (pv 1) rfl) po_none (po_some (pv 3))) pa_nil)) (pe_callTy call_listQ (by rfl) T.list (by decide +kernel) (pa_cons (pe_slice sl_tupA (pe_fld (pe_fld (pv 0) rfl) rfl) po_none (po_some (pv 2))) pa_nil))) pa_nil))))))), ?_⟩
    refine ⟨_, rfl, p, dx, _, rfl, hp, rfl, _, rfl, _, rfl, p, q, b, C, k, ss, ls, w, rfl, hs0, hq0, wf, hw, hl, hl2, fun H1 s1 => ⟨_, rfl, ?_⟩⟩
    cases e : ftn w ss (inv b C) with
    | false => exact itt rfl ⟨_, rfl, xi_mk fun d hd => kE e _ d (same_new s1 hd) (s1.free hd) upd_same⟩
    | true =>
      refine itf rfl ?_
      refine ⟨_, rfl, q, CR, dq, _, .ref lq, rfl, s1 _ _ g1, TR.cl, TR.nl, rfl, lq, _, rfl, .inr (s1 _ _ g3), _, rfl, _, rfl, q, b, ss, ls, w, rfl, hq0.same s1, _, _, by rw [List.length_map], rfl, (by omega), ?_⟩
      have e9 : ls.length - min w ls.length = lwl ls w := rfl
      rw [e9]
      refine ⟨_, rfl, q, CR, dq, _, vN b, rfl, s1 _ _ g1, TR.cl, TR.nb, rfl, _, rfl, q, CR, dq, _, .ref lq, rfl, s1 _ _ g1, TR.cl, TR.nl, rfl, ?_⟩
      delta tNoPart
      refine ⟨_, rfl, _, rfl, ?_⟩
      refine sla (s1 _ _ g3) fun H2 q2 s2 e2 => ?_
      rw [cut_take _ (by unfold lwl; omega)] at e2
      refine ⟨q2, _, rfl, .inr e2, fun l1 hl1 => ?_⟩
      have s3 := s2.trans (same_new0 (o := .lst ((ls.take (lwl ls w)).map vN)) hl1)
      have e3 : upd H2 l1 (.lst ((ls.take (lwl ls w)).map vN)) l1 = some (.lst ((ls.take (lwl ls w)).map vN)) := upd_same
      generalize upd H2 l1 _ = H3 at *
      have s13 := s1.trans s3
      refine ⟨_, rfl, p, CW, dx, _, .ref i, rfl, s13 _ _ hp, TW.cl, TW.no, rfl, i, CM, di, _, .ref t, rfl, s13 _ _ h1, TM.cl, TM.nc, rfl, _, rfl, _, rfl, ?_⟩
      refine sla (s13 _ _ h2) fun H4 q4 s4 e4 => ?_
      rw [cut_take _ (by rw [(inv_mix mx).len]; omega)] at e4
      refine ⟨q4, _, rfl, .inr e4, fun l2 hl2 => ?_⟩
      refine ⟨l1, l2, _, _, rfl, rfl, upd_new hl2 (s4 _ _ e3), upd_same, (by rw [List.length_map, List.length_map, List.length_take, List.length_take, sizeLine_eq]; omega), fun l3 hl3 => ?_⟩
      have lt := tch_lt (w := w) mx (fun x hx => blen_le.mp (wf.l x hx))
      refine mk_Space (ws := tchW b C ls w) (.inl (by rw [upd_same]; unfold tchW; rw [List.map_append])) (fun x hx => blen_le.mpr (lt x hx)) (by unfold tchW; rw [List.length_append, List.length_take, List.length_take]; omega) (fun H' p' s5 hp' hA => ?_)
      have s6 := (((s13.trans s4).trans (same_new0 hl2)).trans (same_new0 hl3)).trans s5
      exact kQ e _ _ s6 (same_free ((((s13.trans s4).trans (same_new0 hl2)).trans (same_new0 hl3))) hp') hA
include TR TM TW in
theorem ok_beatsX (F : FnP K "beats" "Store.beats" s_Store_beats f fd) (M_Store_touched : Mx P w K mg base 6 CW "touched" ["self", "spread", "width"] (sp_touchedX CW CM CR CS CU)) (M_Store_meeting : Mn P w K mg base 7 CW "meeting" ["self", "space"] (sp_meeting CW CM CS)) (D_phase_bits : Dn P w K mg base 1 "phase_bits" ["spread", "width"] (sp_phase CR)) : FnOk P w K mg base (L2.CX P w) 8 f fd ["self", "spread", "width"] (sp_beatsX CW CM CR CU) := by
  have nd := sc_Store_beats.nd
  refine fnokX F sc_Store_beats (fun vs H Q E h => ?_) (fun cdv A outer s H vs Q E hr h => ?_)
  · obtain ⟨p, q, b, C, k, ss, ls, w, rfl, _⟩ := h
    rfl
  · obtain ⟨p, q, b, C, k, ss, ls, w, rfl, hs, hq, wf, hw, hl, hl2, kQ, kE⟩ := h
    have hs0 := hs
    have mx := hs.mx
    have bb := hs.bb
    have kb := hs.kb
    obtain ⟨dx, m, i, hp, hm, hi⟩ := hs.at_
    refine ⟨_, (pss_cons (ps_set (i := 3) nd rfl (Or.inl rfl) (pe_m (pv 0) M_Store_meeting hr (pa_cons (pe_mxS (pv 0) M_Store_touched (takes_of rfl rfl rfl rfl) hr (pa_cons (pv 1) (pa_cons (pv 2) pa_nil))) pa_nil)))
  (pss_one (ps_ret (pe_op on_shl pe_int (pe_op on_add (pe_d D_phase_bits hr (pa_cons (pv 1) (pa_cons (pv 2) pa_nil))) (pv 3)))))), ?_⟩
    refine ⟨_, rfl, p, dx, _, rfl, hp, rfl, _, rfl, p, dx, _, rfl, hp, rfl, _, rfl, _, rfl, p, q, b, C, k, ss, ls, w, rfl, hs0, hq, wf, hw, hl, hl2, fun e H1 q1 s1 hq1 a1 => ?_, kE⟩
    refine ⟨p, q1, b, C, k, tchW b C ls w, rfl, hs0.same s1, a1, tch_lt mx (fun x hx => blen_le.mp (wf.l x hx)), fun H2 s2 => ?_⟩
    have s12 := s1.trans s2
    refine ⟨_, rfl, _, rfl, q, b, ss, ls, w, rfl, hq.same s12, _, rfl, _, _, rfl, rfl, 1, _, rfl, rfl, shl_ok1 (by rw [blen_one]; decide) ?_, kQ e _ s12⟩
    have z : met' b k C (tchW b C ls w) ≤ b := by
      rw [met_len]
      exact (mtd_rws _ _ _).len_le (mtd_blen _ _ _)
    omega
end
end LaneX
set_option Elab.async false
set_option linter.all false
set_option maxRecDepth 100000
set_option maxHeartbeats 4000000
namespace LaneX
open PySem PySem.Spec PyProof.Rows L2
theorem sc_refusedE : FnScope ["_law_call", "e"] ["_law_call"] (defScope s_refusedL) := ⟨rfl, rfl, rfl, by decide +kernel, rfl, by decide +kernel, by decide +kernel⟩
/-- an error with a field, as an except clause sees it -/
structure ErrT (K : PySem.W.Frag) (mg : Str → Option Value) (C CL : Addr) (xc fld : Str) : Prop where
  gl : mg xc = some (.ref C)
  ec : ExcC K C
  up : PySem.W.kitOne K (.ref C) (.ref CL) = some true
  xf : XfC K C
  nof : PySem.W.findIn K (.ref C) fld = some none
  self : PySem.W.exmOne K (.ref C) (.ref C) = some true
/-- what becomes of an error that the lambda lets out -/
def wRef (K : PySem.W.Frag) (C1 CU : Addr) (Q : VK) : XK := fun cls d H' => ∃ b, PySem.W.exmOne K cls (.ref C1) = some b ∧ (b = true → cls = .ref C1 ∧ ∃ (dd : Addr) (v : V), d = some dd ∧ H' dd = some (.xd [("word", v)]) ∧ ∀ q1, H' q1 = none → Q (.ref q1) (upd H' q1 (.lst [.str "one", v]))) ∧
  (b = false → ∃ b', PySem.W.exmOne K cls (.ref CU) = some b' ∧ (b' = true → cls = .ref CU ∧ ∃ (dd : Addr) (v : V), d = some dd ∧ H' dd = some (.xd [("width", v)]) ∧ ∀ q1, H' q1 = none → Q (.ref q1) (upd H' q1 (.lst [.str "unfit", v]))) ∧ (b' = false → False))
def TRef (K : PySem.W.Frag) (C1 CU : Addr) : (XK → Hp → VK → Prop) → Hp → VK → Prop := fun tl H Q => ∀ post, tl (wRef K C1 CU Q) H post
theorem two_of {σ : L2.St} {N : List Str} (h : σ.length = N.length) (e : N.length = 2) : ∃ y0 y1, σ = [y0, y1] := by
  match σ, h with
  | [a, b], _ => exact ⟨a, b, rfl⟩
  | [], h => rw [e] at h; cases h
  | [_], h => rw [e] at h; cases h
  | _ :: _ :: _ :: _, h => rw [e] at h; simp at h
theorem ref_gives {X : Cx} {C1 CU CL g : Addr} {cdg : Value} {q : Str} (T : Bt X.mg) (E1 : ErrT X.K X.mg C1 CL "NotOneToOne" "word") (EU : ErrT X.K X.mg CU CL "Unfit" "width") (glL : X.mg "LaneError" = some (.ref CL)) :
    LamX.GivesTo X ["_law_call", "e"] "_law_refused" (defScope s_refusedL) g cdg (defBody s_refusedL) "_law_call" q (TRef X.K C1 CU) := by
  intro f c' s H Q tl act hc h
  have nd := sc_refusedE.nd
  refine ⟨_, (pss_cons (ps_try_all (l := [(.ref C1, 1, _), (.ref CU, 1, _)]) (tb := fun W D σ H => ∃ Ech : XK, (∀ cls d σ' H', Ech cls d H' → W cls d σ' H') ∧ σ[0]? = some (some (.ref f)) ∧ H c' = some (LamX.CodeO c' q) ∧ tl Ech H (fun _ H' => D.nx σ H')) (Wout := fun _ _ _ _ => False) rfl rfl nd (fun _ _ x => by obtain ⟨_, _, _, _, _, _, _, _, _, _, _, _, _, _, _, _, z⟩ := x; exact z.elim)
      (fun W pn xe tk _ => ?_)
      (.cons ⟨rfl, by decide, Or.inl E1.gl⟩ rfl rfl (fun a oe cls d pn hz hf => pss_one (ps_ret (pe_ifExp (pt_val (by exact (pe_callB (call_isXD E1.ec hz hf) (by rfl) T.isinstance (by decide +kernel) (pa_cons (pv 1) (pa_cons (pe_glob (v := .ref CL) (by rfl) glL rfl) pa_nil))))) (by exact (pe_lst (pa_cons pe_str (pa_cons (pe_xf E1.xf E1.nof hz hf (pv 1)) pa_nil)))) (by exact (pe_lst pa_nil)))))
      (.cons ⟨rfl, by decide, Or.inl EU.gl⟩ rfl rfl (fun a oe cls d pn hz hf => pss_one (ps_ret (pe_ifExp (pt_val (by exact (pe_callB (call_isXD EU.ec hz hf) (by rfl) T.isinstance (by decide +kernel) (pa_cons (pv 1) (pa_cons (pe_glob (v := .ref CL) (by rfl) glL rfl) pa_nil))))) (by exact (pe_lst (pa_cons pe_str (pa_cons (pe_xf EU.xf EU.nof hz hf (pv 1)) pa_nil)))) (by exact (pe_lst pa_nil))))) .nil)))
  (pss_one (ps_ret pe_non))), ?_⟩
  · refine ⟨fun pins s' σ H' D I h' => ?_⟩
    obtain ⟨Ech, hW, h1, h2, h3⟩ := h'
    exact (pss_one (ps_expr (act W pn xe Ech _ _ tk hW))).run pins s' σ H' D I ⟨h1, h2, h3⟩
  · refine ⟨wRef X.K C1 CU Q, fun cls d σ' H' hw => ?_, rfl, hc, h _⟩
    obtain ⟨b, e1, e2, e3⟩ := hw
    refine ⟨b, e1, fun hb a ha hl => ?_, fun hb => ?_⟩
    · obtain ⟨y0, y1, rfl⟩ := two_of hl rfl
      obtain ⟨rfl, dd, v, rfl, hd, kq⟩ := e2 hb
      exact ⟨_, rfl, rfl, dd, _, rfl, hd, .ref CL, _, true, rfl, fun u hu => hu, E1.up, _, rfl, iteT ⟨_, rfl, rfl, rfl, dd, _, v, rfl, hd, rfl, (by show 2 ≤ sizeLine; decide), fun q1 hq1 => kq q1 hq1⟩⟩
    · obtain ⟨b', e4, e5, e6⟩ := e3 hb
      refine ⟨b', e4, fun hb' a ha hl => ?_, fun hb' => e6 hb'⟩
      obtain ⟨y0, y1, rfl⟩ := two_of hl rfl
      obtain ⟨rfl, dd, v, rfl, hd, kq⟩ := e5 hb'
      exact ⟨_, rfl, rfl, dd, _, rfl, hd, .ref CL, _, true, rfl, fun u hu => hu, EU.up, _, rfl, iteT ⟨_, rfl, rfl, rfl, dd, _, v, rfl, hd, rfl, (by show 2 ≤ sizeLine; decide), fun q1 hq1 => kq q1 hq1⟩⟩
/-- the def that calls a lambda -/
structure RefD (K : PySem.W.Frag) (mg : Str → Option Value) : Prop where
  ex : ∃ (f : Addr) (fd : FuncData), mg "_law_refused" = some (.ref f) ∧ PySem.W.keepIn K (.ref f) = true ∧ Binds K fd ["_law_call"] [] ∧ FnP K "_law_refused" "_law_refused" s_refusedL f fd
section
variable {X : Cx}
theorem pe_ref {C1 CU CL c PT : Addr} {T : List (Addr × Str)} {k : Nat} {params : Arguments} {body : Expr} {scope : Scope} {t : XK → TE} {p lpos pos : Pos} (R : RefD X.K X.mg) (Tb : Bt X.mg) (E1 : ErrT X.K X.mg C1 CL "NotOneToOne" "word") (EU : ErrT X.K X.mg CU CL "Unfit" "width") (glL : X.mg "LaneError" = some (.ref CL))
    (TB : LamX.TabB X.base X.mg c PT) (hcode : X.env.code = .ref c) (hmT : (PT, X.env.qual ++ "<lambda>") ∈ T) (hu : ∀ p ∈ T, p.1 = PT → p.2 = X.env.qual ++ "<lambda>") (hr : Room (k + 2) X.A) (L : LamX.LamS X.env.scope scope) (hdef : defaultsOf params X.env = ([], []))
    (hbind : ∀ (q : Str) (cl : List (Str × Addr)) (pm cv ctv : Value), bindArgs (PySem.W.kla_fn "<lambda>" q params body scope cl pm cv ctv) ⟨[], []⟩ = pure [])
    (hbody : ∀ (A : Around) (outer : List Env) (s : Shared) (H : Hp) (E : XK) (f c' : Addr), Room k (A.deeper (LamX.lamEnv X scope s.heap.objs.size f c')) → PE (LamX.lamCx X A outer s H E scope f c') body (t E)) (hg : Gl X "_law_refused" := by rfl) :
    PE X (.Call (.Name "_law_refused" p) [.Lambda params body scope lpos] [] pos) (LamX.tLam T (TRef X.K C1 CU) t) := by
  obtain ⟨g, fd, hm, hk, hb, F⟩ := R.ex
  obtain ⟨oc, od, dV, kV, doc, pm, an, cdv, ct, osl, rfl, lk, hcd, _, _⟩ := F.ex
  exact LamX.pe_lamcall hg hm hk lk hcd hb sc_refusedE rfl (.inl rfl) (ref_gives Tb E1 EU glL) TB hcode hmT hu hr L hdef hbind hbody
end
theorem tabs_same {T : List (Addr × Str)} {H H' : Hp} (t : LamX.Tabs T H) (s : Same H H') : LamX.Tabs T H' := t.ext fun b o h => s b o h
theorem tabs_kp {T : List (Addr × Str)} {H H' : Hp} (t : LamX.Tabs T H) (s : Kp H H') : LamX.Tabs T H' := fun p hp => by
  obtain ⟨ps, h1, h2, h3⟩ := t p hp
  refine ⟨ps, s _ _ h1 rfl, h2, fun pos cv hc => ?_⟩
  obtain ⟨c, e1, e2⟩ := h3 pos cv hc
  exact ⟨c, e1, s _ _ e2 rfl⟩
theorem SpaceAt.ext {C : Addr} {H H' : Hp} {p : Addr} {b : Nat} {rows : List Nat} (h : SpaceAt C H p b rows) (z : LamX.ExtN H H') : SpaceAt C H' p b rows := by
  obtain ⟨dx, t, h1, h2⟩ := h
  exact ⟨dx, t, z _ _ h1 (fun ps q => by cases q), z _ _ h2 (fun ps q => by cases q)⟩
theorem MapAt.ext {C : Addr} {H H' : Hp} {p : Addr} {b : Nat} {cs : List Nat} (h : MapAt C H p b cs) (z : LamX.ExtN H H') : MapAt C H' p b cs := by
  obtain ⟨dx, t, h1, h2⟩ := h
  exact ⟨dx, t, z _ _ h1 (fun ps q => by cases q), z _ _ h2 (fun ps q => by cases q)⟩
theorem StoreAt.ext {CW CM : Addr} {H H' : Hp} {p : Addr} {b k : Nat} {C : List Nat} (h : StoreAt CW CM H p b C k) (z : LamX.ExtN H H') : StoreAt CW CM H' p b C k := by
  obtain ⟨dx, m, i, h1, h2, h3⟩ := h.at_
  exact ⟨⟨dx, m, i, z _ _ h1 (fun ps q => by cases q), h2.ext z, h3.ext z⟩, h.mx, h.kb, h.bb⟩
theorem SpreadAt.ext {C : Addr} {H H' : Hp} {p : Addr} {b : Nat} {ss ls : List Nat} (h : SpreadAt C H p b ss ls) (z : LamX.ExtN H H') : SpreadAt C H' p b ss ls := by
  obtain ⟨dx, a, l, h1, h2, h3⟩ := h
  exact ⟨dx, a, l, z _ _ h1 (fun ps q => by cases q), z _ _ h2 (fun ps q => by cases q), z _ _ h3 (fun ps q => by cases q)⟩
theorem eqv_two (s : Str) (i : Nat) : PyData.eqv (.list [.str s, .int (i : Int)]) (.list [.str s, .int (i : Int)]) = true := by
  simp [PyData.eqv, PyData.eqvAll]
theorem shaped_two (s : Str) (i : Nat) (hs : PyData.strOk s = true) : SeqAt.shaped (.list [.str s, .int (i : Int)]) = true := by
  simp [SeqAt.shaped, PyData.canLay0, PyData.canLayAll0, PyData.depth, PyData.depthAll, hs]
theorem ne_two {K : PySem.W.Frag} {H : Hp} {a b : Addr} {s : Str} {i : Nat} {Q : VK} (ha : H a = some (.lst [.str s, vN i])) (hb : H b = some (.lst [.str s, vN i])) (hs : PyData.strOk s = true) (k : Q (.bl false) H) : rNeD K (.ref a) (.ref b) H Q := by
  refine ⟨.list [.str s, .int (i : Int)], .list [.str s, .int (i : Int)], .lst (SqL.of ha) (.cons (.str _) (.cons (.int _) .nil)), .lst (SqL.of hb) (.cons (.str _) (.cons (.int _) .nil)), shaped_two s i hs, shaped_two s i hs, ?_⟩
  rw [eqv_two]
  exact k
end LaneX
set_option Elab.async false
set_option linter.all false
set_option maxRecDepth 100000
set_option maxHeartbeats 4000000
namespace LaneX
open PySem PySem.Spec PyProof.Rows L2
/-! ### x == x of an instance without an own __eq__ -/
section
variable {X : Cx}
def rEqJ (C : Addr) : R2 := fun x y H Q => ∃ (a dx : Addr) (fs : List (Str × V)), x = .ref a ∧ y = .ref a ∧ H a = some (.ins C dx fs) ∧ Q (.bl true) H
theorem op_eqJ {j : Nat} {C : Addr} (heq : PySem.W.findIn X.K (.ref C) "__eq__" = some (some (.builtin "object.__eq__"))) (hm : PySem.W.mroIn X.K C (.type "object") = some true) (hr : Room j X.A) : OpR X (compareOp .Eq) (rEqJ C) := by
  intro pins s σ H x y v u Q I rx ry h
  obtain ⟨a, dx, fs, rfl, rfl, ha, q⟩ := h
  cases (show v = Value.ref a from rx)
  cases (show u = Value.ref a from ry)
  obtain ⟨mA, O, _⟩ := ins_get I.hok ha
  obtain ⟨od, J, _⟩ := O.look
  have KX := I.kIn
  have one : wpAny (model X.prog X.w) X.A (tryCompare (.ref a) "__eq__" (.ref a)) (fun r s' => r = some (.bool true) ∧ s' = s) X.xe s := by
    unfold tryCompare
    refine wpAny_bind (HN.ifBound_objEq KX J heq (wpAny_call (codeAny_call_builtin F.cmp_object.eq.plain F.cmpEntry_eq (PySem.W.check_slot F.cmpKind_eq F.cmpSplit_eq (J.type.andThen (PySem.W.looks_mroIn KX hm)) (F.cmpArgs_eq _ _) ?_))))
    exact objEq_entry_same (wpAny_pure ⟨rfl, rfl⟩)
  show wpAny (model X.prog X.w) X.A (richCompare .Eq (.ref a) (.ref a)) (EP X pins σ Q) X.xe s
  simp only [richCompare, cmpInfo_Eq, oneThing_ref]
  refine wpAny_holding (wpAny_bind (wpAny_cRoomFor hr.units0 ?_))
  refine wpAny_bind (J.type.here (wpAny_bind (J.type.here ?_)))
  rw [if_neg (by simp)]
  refine wpAny_bind (wpAny_pure ?_)
  simp only [Bool.false_eq_true, if_false, Bool.not_false, if_true]
  refine wpAny_bind (wpAny_mono one (fun r s1 z => ?_) fun _ _ e => e)
  obtain ⟨z1, z2⟩ := z
  subst z1
  subst z2
  exact wpAny_pure ⟨.bl true, H, I, rfl, q⟩
end
end LaneX
set_option Elab.async false
set_option linter.all false
set_option maxRecDepth 100000
set_option maxHeartbeats 4000000
namespace LaneX
open PySem PySem.Spec PyProof.Rows L2
def sp_truth : Sp := fun vs H Q _ => ∃ c : Bool, vs = [.bl c, .bl c] ∧ Q (.bl true) H
def sp_listed : Sp := fun vs H Q _ => ∃ (a : Addr) (ws : List Nat), vs = [.ref a] ∧ Tq H a (ws.map vN) ∧ ws.length ≤ 12 ∧ ∀ H' q, Same H H' → H q = none → H' q = some (.lst ((sev ws).map vN)) → Q (.ref q) H'
def sp_columns : Sp := fun vs H Q _ => ∃ (p lc : Addr) (N b : Nat), vs = [.ref p, vN b] ∧ Pn H p lc N ∧ b ≤ 1000 ∧ N + 100000 ≤ TOP ∧ ∀ (H' : Hp) (q : Addr) (C : List Nat), Mix b C → H q = none → H' q = some (.lst (C.map vN)) → Pn H' p lc (N + 100000) → Kp H H' → Q (.ref q) H'
theorem ix_okN {n i : Nat} (h : i < n) : ixN n (i : Int) = some i := by
  unfold ixN
  rw [if_pos (by omega), if_pos (by omega)]
  simp
section
variable {P : Program} {w : World} {K : PySem.W.Frag} {mg : Str → Option Value} {base : Heap} {f : Addr} {fd : FuncData} (T : Bt mg)
theorem ok_truth (F : FnP K "_law_truth" "_law_truth" s_truthL f fd) : FnOk P w K mg base CX0 1 f fd ["_law_value", "_law_due"] sp_truth := by
  have nd := sc_truthL.nd
  refine fnok F sc_truthL (fun vs H Q E h => ?_) (fun cdv A outer s H vs Q E hr h => ?_)
  · obtain ⟨c, rfl, _⟩ := h
    rfl
  · obtain ⟨c, rfl, k⟩ := h
    refine ⟨_, (pss_one (ps_ret (pe_ifExp (pt_val (pv 1)) (pe_cmpR op_is_bl (pv 0) pe_bl (nomark _)) (pe_cmpR op_is_bl (pv 0) pe_bl (nomark _))))), ?_⟩
    refine ⟨_, rfl, _, rfl, br (fun z => ?_) (fun z => ?_)⟩
    · refine ⟨_, rfl, c, true, rfl, rfl, ?_⟩
      rw [z]
      exact k
    · refine ⟨_, rfl, c, false, rfl, rfl, ?_⟩
      rw [z]
      exact k
include T
theorem ok_listed (F : FnP K "_law_listed" "_law_listed" s_listedL f fd) : FnOk P w K mg base CX0 1 f fd ["_law_words"] sp_listed := by
  have nd := sc_listedL.nd
  refine fnok F sc_listedL (fun vs H Q E h => ?_) (fun cdv A outer s H vs Q E hr h => ?_)
  · obtain ⟨a, ws, rfl, _⟩ := h
    rfl
  · obtain ⟨a, ws, rfl, hS, hl, k⟩ := h
    refine ⟨_, (pss_cons (ps_set (i := 1) nd rfl (Or.inl rfl) (pe_lst (pa_cons pe_int pa_nil)))
  (pss_cons (ps_for PassesOwn.never rfl (pi_seq (pv 0)) (pg_name (i := 2) nd rfl (Or.inr rfl))
    (pss_one (ps_set (i := 1) nd rfl (Or.inl rfl) (pe_op op_cat (pv 1) (pe_lc (own := [("_law_one", 3)]) (g := gName 3) (by rfl) nd (pi_seq (pv 1)) (blkOk_by (own := [("_law_one", 3)]) (N := ["_law_words", "_law_found", "_law_word_here", "_law_one"]) (sc := defScope s_listedL) (by decide +kernel)) (fun _ _ _ _ _ => (pg_name (i := 3) nd rfl (Or.inl rfl))) (fun _ _ _ _ _ => pts_nil) (fun _ _ _ _ _ => (pe_op on_xor (pv 3) (pv 2))))))))
  (pss_one (ps_ret (pv 1))))), ?_⟩
    refine ⟨(by show 1 ≤ sizeLine; decide), fun l0 hl0 => ?_⟩
    have s0 : Same H (upd H l0 (.lst [.int 0])) := same_new0 hl0
    have an : a ≠ l0 := by
      rcases hS with h | h
      · exact ne_of_none h hl0
      · exact ne_of_none h hl0
    refine ⟨_, rfl, for_sq2 (K := K) (same_tq s0 hS) (fun i σ H2 => ∃ q v, σ = [some (.ref a), some (.ref q), v, none] ∧ Same H H2 ∧ H q = none ∧ H2 q = some (.lst ((sev (ws.take i)).map vN))) ⟨l0, none, rfl, s0, hl0, upd_same⟩ (fun i σ H2 hp o ho => ?_) ?_ ?_⟩
    · obtain ⟨_, _, _, s2, _⟩ := hp
      rw [upd_ne an] at ho
      exact s2 _ _ ho
    · rintro i y σ H2 hy ⟨q, v, rfl, s2, hq0, h2⟩
      obtain ⟨r, hr', rfl⟩ := map_get hy
      have lt : (ws.take i).length ≤ 12 := by rw [List.length_take]; omega
      have sl : (sev (ws.take i)).length ≤ 4096 := by
        rw [sev_len]
        exact Nat.le_trans (Nat.pow_le_pow_right (by decide) lt) (by decide)
      refine ⟨_, rfl, _, rfl, lc_pure (sev (ws.take i)) vN (fun _ => true) (fun x => vN (x ^^^ r)) (.inl h2) (by omega) (fun x H' hx s => ?_) (fun D H3 hD s3 e3 => ?_)⟩
      · intro Z Nx z1 z2
        exact ⟨rfl, _, rfl, _, rfl, x, r, rfl, rfl, z1 rfl _ (Same.refl _)⟩
      rw [filt_true] at e3
      refine ⟨q, D, _, _, rfl, rfl, s3 _ _ h2, e3, (by rw [List.length_map, List.length_map, sizeLine_eq]; omega), fun u hu => ?_⟩
      refine ⟨u, _, rfl, same_new (s2.trans s3) hu, (s2.trans s3).free hu, ?_⟩
      rw [upd_same, take_succ hr', sev_snoc, List.map_append, List.map_map]
      rfl
    · rintro σ H2 ⟨q, v, rfl, s2, hq0, h2⟩
      rw [List.length_map, List.take_length] at h2
      exact ⟨_, rfl, k _ _ s2 hq0 h2⟩
theorem ok_columns (F : FnP K "_law_columns" "_law_columns" s_columnsL f fd) (D_drawL : Dn P w K mg base 1 "_law_draw" ["_law_pen", "_law_span"] sp_draw) (D_mixedL : Dn P w K mg base 2 "_law_mixed" ["_law_pen", "_law_some"] sp_mixed) : FnOk P w K mg base CX0 3 f fd ["_law_pen", "_law_bits"] sp_columns := by
  have nd := sc_columnsL.nd
  refine fnok F sc_columnsL (fun vs H Q E h => ?_) (fun cdv A outer s H vs Q E hr h => ?_)
  · obtain ⟨p, lc, N, b, rfl, _⟩ := h
    rfl
  · obtain ⟨p, lc, N, b, rfl, hp, hb, hN, k⟩ := h
    have hN' : N + 100000 ≤ 1099511627776 := hN
    refine ⟨_, (pss_cons (ps_set (i := 2) nd rfl (Or.inl rfl) (pe_d D_mixedL hr (pa_cons (pv 0) (pa_cons (pe_lc (own := [("_law_bit", 6)]) (g := gName 6) (by rfl) nd (pi_range1 (by rfl) T.range (pa_cons (pv 1) pa_nil)) (blkOk_by (own := [("_law_bit", 6)]) (N := ["_law_pen", "_law_bits", "_law_found", "_law_k", "_law_one", "_law_other", "_law_bit"]) (sc := defScope s_columnsL) (by decide +kernel)) (fun _ _ _ _ _ => (pg_name (i := 6) nd rfl (Or.inl rfl))) (fun _ _ _ _ _ => pts_nil) (fun _ _ _ _ _ => (pe_op on_shl pe_int (pv 6)))) pa_nil))))
  (pss_cons (ps_for PassesOwn.never rfl (pi_range1 (by rfl) T.range (pa_cons (pe_d D_drawL hr (pa_cons (pv 0) (pa_cons (pe_op on_add (pe_op on_mul pe_int (pv 1)) pe_int) pa_nil))) pa_nil)) (pg_name (i := 3) nd rfl (Or.inl rfl))
    (pss_cons (ps_par (i := 4) (j := 5) (by rfl) nd rfl rfl (by decide) rfl rfl (pa_cons (pe_d D_drawL hr (pa_cons (pv 0) (pa_cons (pv 1) pa_nil))) (pa_cons (pe_d D_drawL hr (pa_cons (pv 0) (pa_cons (pv 1) pa_nil))) pa_nil)) (by rfl))
    (pss_one (ps_asg (pe_op on_xor (pe_ix ix_q (pv 2) (pv 4) (fun _ _ => rfl)) (pe_ifExp (pt_cmpR op_ne (pv 4) (pv 5) (nomark _)) (pe_ix ix_q (pv 2) (pv 5) (fun _ _ => rfl)) pe_int)) (pg_sub (pv 2) (pv 4) set_list)))))
  (pss_one (ps_ret (pv 2))))), ?_⟩
    refine ⟨_, rfl, _, rfl, _, rfl, (by omega), (by omega), lc_pureR (n := b) (fun _ => true) (fun i => vN (1 <<< i)) (by omega) (fun i H' hi s => ?_) (fun D H1 hD s1 h1 => ?_)⟩
    · intro Z Nx z1 z2
      exact ⟨rfl, _, rfl, 1, _, rfl, rfl, shl_ok1 (by rw [blen_one]; decide) (by omega), z1 rfl _ (Same.refl _)⟩
    rw [filt_true] at h1
    have ul : (units b).length = b := by simp [units]
    have h1' : H1 D = some (.lst ((units b).map vN)) := by rw [h1]; simp [units]
    refine ⟨p, lc, D, N, units b, rfl, hp.same s1, .inl h1', by omega, (by show N + 1000 ≤ 1099511627776; omega), fun H2 q C0 hperm hq e2 hp2 kp2 => ?_⟩
    have kp02 : Kp H H2 := (Kp.of s1).trans kp2
    have hq0 : H q = none := same_free s1 hq
    have nep := hp.ne hq0
    refine ⟨_, rfl, _, rfl, 3, b, rfl, rfl, (by decide), _, _, rfl, rfl, p, lc, N + 1000, 3 * b + 1, rfl, hp2, (by omega), (by omega), (by show N + 1000 + 1 ≤ 1099511627776; omega), fun H3 r hr3 hp3 kp3 => ?_⟩
    refine ⟨_, rfl, (by omega), (by omega), for_range (n := r) (fun i σ Hi => ∃ v3 v4 v5 C, σ = [some (.ref p), some (vN b), some (.ref q), v3, v4, v5, none] ∧ Mix b C ∧ Hi q = some (.lst (C.map vN)) ∧ Pn Hi p lc (N + 1001 + 2 * i) ∧ Kp H Hi) ⟨none, none, none, C0, rfl, (mix_units b).perm hperm, kp3 _ _ e2 rfl, hp3, kp02.trans kp3⟩ ?_ ?_⟩
    · rintro i σ Hi hi ⟨v3, v4, v5, C, rfl, mC, eC, hpi, kpi⟩
      have b1 : 0 < b := by omega
      refine ⟨_, rfl, _, rfl, p, lc, _, b, rfl, hpi, b1, (by omega), (by show N + 1001 + 2 * i + 1 ≤ 1099511627776; omega), fun H4 x hx hp4 kp4 => ?_⟩
      refine ⟨_, rfl, _, rfl, p, lc, _, b, rfl, hp4, b1, (by omega), (by show N + 1001 + 2 * i + 1 + 1 ≤ 1099511627776; omega), fun H5 y hy hp5 kp5 => ⟨_, _, rfl, ?_⟩⟩
      have eC5 := kp5 _ _ (kp4 _ _ eC rfl) rfl
      have lC := mC.len
      have xl : x < C.length := by omega
      have yl : y < C.length := by omega
      refine ⟨_, rfl, _, rfl, q, C.map vN, x, vN (C.getD x 0), rfl, rfl, .inl eC5, getD_get xl, ?_⟩
      have fin : ∀ u, u = (if x ≠ y then C.getD y 0 else 0) → ∃ v3 v4 v5 C', [some (V.ref p), some (vN b), some (.ref q), some (.int (0 + (i : Int))), some (vN x), some (vN y), none] = [some (V.ref p), some (vN b), some (.ref q), v3, v4, v5, none] ∧ Mix b C' ∧ upd H5 q (.lst ((C.map vN).set x (vN (C.getD x 0 ^^^ u)))) q = some (.lst (C'.map vN)) ∧ Pn (upd H5 q (.lst ((C.map vN).set x (vN (C.getD x 0 ^^^ u))))) p lc (N + 1001 + 2 * (i + 1)) ∧ Kp H (upd H5 q (.lst ((C.map vN).set x (vN (C.getD x 0 ^^^ u))))) := fun u hu => by
        refine ⟨_, _, _, C.set x (C.getD x 0 ^^^ u), rfl, by rw [hu]; exact bent_mix mC (by omega) (by omega), by rw [upd_same, List.map_set], (hp5.put nep).mono (by omega), kp_put ((kpi.trans kp4).trans kp5) hq0⟩
      refine ⟨_, rfl, _, rfl, rfl, _, rfl, br (fun z => ?_) (fun z => ?_)⟩
      · have ne : x ≠ y := fun e => by rw [e] at z; simp at z
        refine ⟨_, rfl, _, rfl, q, C.map vN, y, vN (C.getD y 0), rfl, rfl, .inl eC5, getD_get yl, _, _, rfl, rfl, _, rfl, _, rfl, q, C.map vN, _, x, rfl, rfl, eC5, (by rw [List.length_map]; exact ix_okN xl), fin _ (by rw [if_pos ne])⟩
      · have ne : ¬ x ≠ y := fun e => by
          have z := z
          rw [dec_nat, decide_eq_false e] at z
          cases z
        refine ⟨_, 0, rfl, rfl, _, rfl, _, rfl, q, C.map vN, _, x, rfl, rfl, eC5, (by rw [List.length_map]; exact ix_okN xl), fin _ (by rw [if_neg ne])⟩
    · rintro σ Hi ⟨v3, v4, v5, C, rfl, mC, eC, hpi, kpi⟩
      exact ⟨_, rfl, k _ _ C mC hq0 eC (hpi.mono (by omega)) kpi⟩
end
end LaneX
set_option Elab.async false
set_option linter.all false
set_option maxRecDepth 100000
set_option maxHeartbeats 4000000
namespace LaneX
open PySem PySem.Spec PyProof.Rows L2
def sp_banks (CW CM : Addr) : Sp := fun vs H Q _ => ∃ (p lc st c : Addr) (N b : Nat) (C : List Nat) (k : Nat), vs = [.ref p, .ref st, .ref c, vN k] ∧ Pn H p lc N ∧ StoreAt CW CM H st b C k ∧ Tq H c (C.map vN) ∧ b ≤ 6 ∧ N + 10000 ≤ TOP ∧ ∀ H', Pn H' p lc (N + 10000) → Kp H H' → Q (.bl true) H'
theorem small6 {b : Nat} (h : b ≤ 6) : 1 <<< b ≤ 64 := by
  rw [Nat.one_shiftLeft]
  exact Nat.le_trans (Nat.pow_le_pow_right (by decide) h) (by decide)
theorem rng_lo (n : Nat) : (-2 ^ 62 : Int) ≤ ((n : Nat) : Int) := Int.le_trans (by decide) (Int.natCast_nonneg n)
theorem rng_hi {n : Nat} (h : n ≤ 64) : ((n : Nat) : Int) < 2 ^ 62 := Int.lt_of_le_of_lt (Int.ofNat_le.mpr h) (by decide)
/-! the same makers, for what is told in any form -/
theorem mk_MapP {C : Addr} {H1 : Hp} {b : Nat} {a : Addr} {cs : List Nat} {R : Addr → Hp → Prop} {E : XK} (hS : Tq H1 a (cs.map vN)) (hb : ∀ x ∈ cs, blen x ≤ b) (k : ∀ H' p, Same H1 H' → H1 p = none → MapAt C H' p b cs → R p H') :
    ∀ x dx, H1 x = none → H1 dx = none → dx ≠ x → sp_Map C (.ref x :: ([vN b, .ref a] ++ [])) (upd (upd H1 dx (.own x)) x (.ins C dx [])) (fun v H2 => v = .non ∧ R x H2) E := by
  intro x dx nx ndx ne
  have nx' : upd H1 dx (.own x) x = none := (upd_ne ne.symm).trans nx
  refine ⟨x, dx, b, a, cs, rfl, upd_same, (hS.new ndx).new nx', hb, fun H' hA kp => ⟨rfl, k _ _ (made_same nx ndx kp) nx hA⟩⟩
theorem mk_SpaceP {C : Addr} {H1 : Hp} {b : Nat} {a : Addr} {ws : List Nat} {R : Addr → Hp → Prop} {E : XK} (hS : Tq H1 a (ws.map vN)) (hb : ∀ x ∈ ws, blen x ≤ b) (hl : ws.length ≤ 1000000) (k : ∀ H' p, Same H1 H' → H1 p = none → SpaceAt C H' p b (spn ws) → R p H') :
    ∀ x dx, H1 x = none → H1 dx = none → dx ≠ x → sp_Space C (.ref x :: ([vN b, .ref a] ++ [])) (upd (upd H1 dx (.own x)) x (.ins C dx [])) (fun v H2 => v = .non ∧ R x H2) E := by
  intro x dx nx ndx ne
  have nx' : upd H1 dx (.own x) x = none := (upd_ne ne.symm).trans nx
  refine ⟨x, dx, b, a, ws, rfl, upd_same, (hS.new ndx).new nx', hb, hl, fun H' hA kp => ⟨rfl, k _ _ (made_same nx ndx kp) nx hA⟩⟩
theorem mk_StoreP {CW CM : Addr} {H1 : Hp} {m : Addr} {b k : Nat} {C : List Nat} {R : Addr → Hp → Prop} {E : XK} (hm : MapAt CM H1 m b C) (mx : Mix b C) (hb : b ≤ 1000) (hk : k ≤ b) (q : ∀ H' p, Same H1 H' → H1 p = none → StoreAt CW CM H' p b C k → R p H') :
    ∀ x dx, H1 x = none → H1 dx = none → dx ≠ x → sp_Store CW CM (.ref x :: ([.ref m, vN k] ++ [])) (upd (upd H1 dx (.own x)) x (.ins CW dx [])) (fun v H2 => v = .non ∧ R x H2) E := by
  intro x dx nx ndx ne
  have nx' : upd H1 dx (.own x) x = none := (upd_ne ne.symm).trans nx
  have s0 : Same H1 (upd (upd H1 dx (.own x)) x (.ins CW dx [])) := (same_new0 ndx).trans (same_new0 nx')
  exact ⟨x, dx, m, b, k, C, rfl, upd_same, hm.same s0, mx, hb, hk, fun H' hA kp => ⟨rfl, q _ _ (made_same nx ndx kp) nx hA⟩⟩
theorem mk_SpreadP {C : Addr} {H1 : Hp} {b : Nat} {a c : Addr} {ss ls : List Nat} {R : Addr → Hp → Prop} {E : XK} (hS : Tq H1 a (ss.map vN)) (hL : Tq H1 c (ls.map vN)) (wf : WfR b ss ls) (hk : b ≤ rk (ss ++ ls)) (k : ∀ H' p, Same H1 H' → H1 p = none → SpreadAt C H' p b ss ls → R p H') :
    ∀ x dx, H1 x = none → H1 dx = none → dx ≠ x → sp_Spread C (.ref x :: ([vN b, .ref a, .ref c] ++ [])) (upd (upd H1 dx (.own x)) x (.ins C dx [])) (fun v H2 => v = .non ∧ R x H2) E := by
  intro x dx nx ndx ne
  have nx' : upd H1 dx (.own x) x = none := (upd_ne ne.symm).trans nx
  refine ⟨x, dx, b, a, c, ss, ls, rfl, upd_same, (hS.new ndx).new nx', (hL.new ndx).new nx', wf.s, wf.l, wf.sl, wf.ll, hk, fun H' hA kp => ⟨rfl, k _ _ (made_same nx ndx kp) nx hA⟩⟩
section
variable {P : Program} {w : World} {K : PySem.W.Frag} {mg : Str → Option Value} {base : Heap} {f : Addr} {fd : FuncData} {CS CR CM CW CB C1 CN CU CL : Addr} (T : Bt mg) (TS : SpaceT K mg CS) (TW : StoreT K mg CW) (TM : MapT K mg CM)
include T TS TM TW
theorem ok_banks (F : FnP K "_law_banks_right" "_law_banks_right" s_banks_rightL f fd) (M_Store_bank : Mn P w K mg base 6 CW "bank" ["self", "entry"] (sp_bank CW CM)) (M_Store_bank_map : Mn P w K mg base 6 CW "bank_map" ["self"] (sp_bank_map CW CM)) (M_Store_meeting : Mn P w K mg base 7 CW "meeting" ["self", "space"] (sp_meeting CW CM CS)) (M_Map_eq : Mn P w K mg base 1 CM "__eq__" ["self", "other"] (sp_mapeq2 CM)) (K_Map : Kn P w K mg base 4 CM "Map" ["self", "goal", "columns"] (sp_Map CM)) (K_Space : Kn P w K mg base 4 CS "Space" ["self", "bits", "words"] (sp_Space CS)) (K_StoreX : Kx P w K mg base 8 CW "Store" ["self", "change", "banks"] (sp_StoreX CW CM C1))
    (D_imageL : Dn P w K mg base 1 "_law_image" ["_law_columns_here", "_law_word_here"] sp_image) (D_drawL : Dn P w K mg base 1 "_law_draw" ["_law_pen", "_law_span"] sp_draw) (D_wordL : Dn P w K mg base 2 "_law_word" ["_law_pen", "_law_bits"] sp_word) (D_basisL : Dn P w K mg base 2 "_law_basis" ["_law_words"] sp_basis) (D_listedL : Dn P w K mg base 1 "_law_listed" ["_law_words"] sp_listed)
    (hneM : PySem.W.findIn K (.ref CM) "__ne__" = some (some (.builtin "object.__ne__"))) (heqW : PySem.W.findIn K (.ref CW) "__eq__" = some (some (.builtin "object.__eq__"))) : FnOk P w K mg base CX0 10 f fd ["_law_pen", "_law_store", "_law_columns_here", "_law_banks"] (sp_banks CW CM) := by
  have nd := sc_banks_rightL.nd
  refine fnok F sc_banks_rightL (fun vs H Q E h => ?_) (fun cdv A outer s H vs Q E hr h => ?_)
  · obtain ⟨p, lc, st, c, N, b, C, k, rfl, _⟩ := h
    rfl
  · obtain ⟨p, lc, st, c, N, b, C, k, rfl, hp, hs, hS, hb6, hN, kQ⟩ := h
    have hN' : N + 10000 ≤ 1099511627776 := hN
    have mx := hs.mx
    have kb := hs.kb
    have bb := hs.bb
    obtain rfl := mx.len
    have sm := small6 hb6
    refine ⟨_, (pss_cons (ps_set (i := 4) nd rfl (Or.inr rfl) (pe_callB call_lenQ (by rfl) T.len PySem.boot_len (pa_cons (pv 2) pa_nil)))
  (pss_cons (ps_set (i := 5) nd rfl (Or.inr rfl) (pe_op on_sub (pe_op on_shl pe_int (pv 3)) pe_int))
  (pss_cons (ps_if (pt_cmpR (op_neN hr.units) (pe_lc (own := [("_law_entry", 8)]) (g := gName 8) (by rfl) nd (pi_range1 (by rfl) T.range (pa_cons (pe_op on_shl pe_int (pv 4)) pa_nil)) (blkOk_by (own := [("_law_entry", 8)]) (N := ["_law_pen", "_law_store", "_law_columns_here", "_law_banks", "_law_bits", "_law_mask", "_law_words", "_law_seen", "_law_entry", "_law_column", "_law_k", "_law_word_here"]) (sc := defScope s_banks_rightL) (by decide +kernel)) (fun _ _ _ _ _ => (pg_name (i := 8) nd rfl (Or.inl rfl))) (fun _ _ _ _ _ => pts_nil) (fun _ _ _ _ _ => (pe_m (pv 1) M_Store_bank hr (pa_cons (pv 8) pa_nil)))) (pe_lc (own := [("_law_entry", 8)]) (g := gName 8) (by rfl) nd (pi_range1 (by rfl) T.range (pa_cons (pe_op on_shl pe_int (pv 4)) pa_nil)) (blkOk_by (own := [("_law_entry", 8)]) (N := ["_law_pen", "_law_store", "_law_columns_here", "_law_banks", "_law_bits", "_law_mask", "_law_words", "_law_seen", "_law_entry", "_law_column", "_law_k", "_law_word_here"]) (sc := defScope s_banks_rightL) (by decide +kernel)) (fun _ _ _ _ _ => (pg_name (i := 8) nd rfl (Or.inl rfl))) (fun _ _ _ _ _ => pts_nil) (fun _ _ _ _ _ => (pe_op on_and (pe_d D_imageL hr (pa_cons (pv 2) (pa_cons (pv 8) pa_nil))) (pv 5)))) (nomark _))
    (pss_one (ps_ret pe_bl))
    pss_nil)
  (pss_cons (ps_if (PW.pt (pw_or (pt_cmpR (op_neO M_Map_eq hneM TM.hm hr) (pe_m0 (pv 1) M_Store_bank_map hr) (pe_k K_Map hr (pa_cons (pv 3) (pa_cons (pe_lc (own := [("_law_column", 9)]) (g := gName 9) (by rfl) nd (pi_seq (pv 2)) (blkOk_by (own := [("_law_column", 9)]) (N := ["_law_pen", "_law_store", "_law_columns_here", "_law_banks", "_law_bits", "_law_mask", "_law_words", "_law_seen", "_law_entry", "_law_column", "_law_k", "_law_word_here"]) (sc := defScope s_banks_rightL) (by decide +kernel)) (fun _ _ _ _ _ => (pg_name (i := 9) nd rfl (Or.inl rfl))) (fun _ _ _ _ _ => pts_nil) (fun _ _ _ _ _ => (pe_op on_and (pv 9) (pv 5)))) pa_nil))) (nomark _)) (pw_or1 (pt_cmpR op_ne (pe_fld (pv 1) rfl) (pv 3) (nomark _)))))
    (pss_one (ps_ret pe_bl))
    pss_nil)
  (pss_cons (ps_setLc (i := 6) (own := [("_law_k", 10)]) (g := gName 10) (by rfl) nd rfl rfl (sw_true rfl rfl rfl (by decide +kernel)) (pi_range1 (by rfl) T.range (pa_cons (pe_d D_drawL hr (pa_cons (pv 0) (pa_cons pe_int pa_nil))) pa_nil)) (blkOk_by (own := [("_law_k", 10)]) (N := ["_law_pen", "_law_store", "_law_columns_here", "_law_banks", "_law_bits", "_law_mask", "_law_words", "_law_seen", "_law_entry", "_law_column", "_law_k", "_law_word_here"]) (sc := defScope s_banks_rightL) (by decide +kernel)) (fun _ _ _ _ _ => (pg_name (i := 10) nd rfl (Or.inl rfl))) (fun _ _ _ _ _ => pts_nil) (fun _ _ _ _ _ => (pe_d D_wordL hr (pa_cons (pv 0) (pa_cons (pv 4) pa_nil)))))
  (pss_cons (ps_setLc (i := 7) (own := [("_law_word_here", 11)]) (g := gName 11) (by rfl) nd rfl rfl (sw_true rfl rfl rfl (by decide +kernel)) (pi_seq (pe_d D_listedL hr (pa_cons (pe_d D_basisL hr (pa_cons (pv 6) pa_nil)) pa_nil))) (blkOk_by (own := [("_law_word_here", 11)]) (N := ["_law_pen", "_law_store", "_law_columns_here", "_law_banks", "_law_bits", "_law_mask", "_law_words", "_law_seen", "_law_entry", "_law_column", "_law_k", "_law_word_here"]) (sc := defScope s_banks_rightL) (by decide +kernel)) (fun _ _ _ _ _ => (pg_name (i := 11) nd rfl (Or.inl rfl))) (fun _ _ _ _ _ => (pts_one (pt_cmpR op_eq (pe_op on_and (pe_d D_imageL hr (pa_cons (pv 2) (pa_cons (pv 11) pa_nil))) (pv 5)) pe_int (nomark _)))) (fun _ _ _ _ _ => (pv 11)))
  (pss_cons (ps_if (PW.pt (pw_or (pt_cmpR (op_eqI heqW TW.hm hr) (pv 1) (pe_k (K_StoreX.quiet store_quiet) hr (pa_cons (pe_k K_Map hr (pa_cons (pv 4) (pa_cons (pv 2) pa_nil))) (pa_cons (pv 3) pa_nil))) (nomark _)) (pw_or1 (pt_not (pt_cmpR (op_eqJ heqW TW.hm hr) (pv 1) (pv 1) (nomark _))))))
    (pss_one (ps_ret pe_bl))
    pss_nil)
  (pss_one (ps_ret (pe_and (pe_cmpR op_eq (pe_op on_shl pe_int (pe_m (pv 1) M_Store_meeting hr (pa_cons (pe_k K_Space hr (pa_cons (pv 4) (pa_cons (pv 6) pa_nil))) pa_nil))) (pe_callB call_lenQ (by rfl) T.len PySem.boot_len (pa_cons (pv 7) pa_nil)) (nomark _)) (pe_one (pe_cmpR (op_eqO M_Map_eq hr) (pe_fld (pv 1) rfl) (pe_k K_Map hr (pa_cons (pv 4) (pa_cons (pv 2) pa_nil))) (nomark _))))))))))))), ?_⟩
    have ist : ∀ {H' : Hp}, StoreAt CW CM H' st C.length C k → ∃ dx m i, H' st = some (.ins CW dx (stf m k i)) ∧ MapAt CM H' m C.length C := fun h => by
      obtain ⟨dx, m, i, h1, h2, _⟩ := h.at_
      exact ⟨dx, m, i, h1, h2⟩
    obtain ⟨dx, m, i0, hi0, hm0⟩ := ist hs
    refine ⟨_, rfl, c, _, rfl, hS, ?_⟩
    rw [List.length_map]
    refine ⟨_, rfl, 1, k, rfl, rfl, shl_ok1 (by rw [blen_one]; decide) (by omega), 1 <<< k, 1, rfl, rfl, shl1 (by omega), ?_⟩
    refine ⟨_, rfl, 1, C.length, rfl, rfl, shl_ok1 (by rw [blen_one]; decide) (by omega), _, rfl, rng_lo _, rng_hi sm, lc_pureR (n := 1 <<< C.length) (fun _ => true) (fun i => vN (img C i &&& ((1 <<< k) - 1))) (by omega) (fun i H' hi s => ?_) (fun D1 H1 hD1 s1 e1 => ?_)⟩
    · intro Z Nx z1 z2
      exact ⟨rfl, _, rfl, st, dx, _, rfl, s _ _ hi0, rfl, _, rfl, st, _, C, k, i, rfl, hs.same s, (by rwa [Nat.one_shiftLeft] at hi), fun H2 s2 => z1 rfl _ s2⟩
    rw [filt_true] at e1
    refine ⟨_, rfl, 1, C.length, rfl, rfl, shl_ok1 (by rw [blen_one]; decide) (by omega), _, rfl, rng_lo _, rng_hi sm, lc_pureR (n := 1 <<< C.length) (fun _ => true) (fun i => vN (img C i &&& ((1 <<< k) - 1))) (by omega) (fun i H' hi s => ?_) (fun D2 H2 hD2 s2 e2 => ?_)⟩
    · intro Z Nx z1 z2
      exact ⟨rfl, _, rfl, _, rfl, c, C, i, rfl, same_tq (s1.trans s) hS, (by omega), _, rfl, _, _, rfl, rfl, z1 rfl _ (Same.refl _)⟩
    rw [filt_true] at e2
    have s12 := s1.trans s2
    refine ⟨D1, D2, (List.range (1 <<< C.length)).map (fun i => img C i &&& ((1 <<< k) - 1)), (List.range (1 <<< C.length)).map (fun i => img C i &&& ((1 <<< k) - 1)), rfl, rfl, (by rw [s2 _ _ e1, List.map_map]; rfl), (by rw [e2, List.map_map]; rfl), _, rfl, itf (by simp) ?_⟩
    -- the map of banks
    refine ⟨_, rfl, st, dx, _, rfl, s12 _ _ hi0, rfl, st, _, C, k, rfl, hs.same s12, fun H3 r3 s3 hr3 a3 => ?_⟩
    have s13 := s12.trans s3
    refine ⟨_, rfl, _, rfl, lc_pure C vN (fun _ => true) (fun x => vN (x &&& ((1 <<< k) - 1))) (same_tq s13 hS) (by omega) (fun x H' hx s => ?_) (fun D4 H4 hD4 s4 e4 => ?_)⟩
    · intro Z Nx z1 z2
      exact ⟨rfl, _, rfl, _, rfl, x, _, rfl, rfl, z1 rfl _ (Same.refl _)⟩
    rw [filt_true] at e4
    have tD4 : Tq H4 D4 ((msk k C).map vN) := .inl (by rw [e4]; unfold msk; rw [List.map_map]; rfl)
    refine mk_MapP (cs := msk k C) tD4 (fun x hx => blen_le.mpr (msk_lt x hx)) (fun H5 p5 s5 hp5 a5 => ?_)
    have s15 := (s13.trans s4).trans s5
    have a3' := a3.same (s4.trans s5)
    obtain ⟨d3, t3, f1, f2⟩ := id a3'
    obtain ⟨d5, t5, g1, g2⟩ := id a5
    refine ⟨r3, p5, d3, d5, _, _, rfl, rfl, f1, g1, r3, p5, k, k, msk k C, msk k C, rfl, a3', a5, fun H6 s6 => ⟨_, rfl, _, rfl, itf (by simp) ?_⟩⟩
    have s16 := s15.trans s6
    refine ⟨_, rfl, st, CW, dx, _, vN k, rfl, s16 _ _ hi0, TW.cl, TW.nb, rfl, _, rfl, rfl, _, rfl, itf (by simp) ?_⟩
    -- drawn words
    refine ⟨_, rfl, p, lc, N, 4, rfl, hp.same s16, (by decide), (by decide), (by show N + 1 ≤ 1099511627776; omega), fun H7 r7 hr7 hp7 kp7 => ?_⟩
    refine ⟨_, rfl, (by omega), (by omega), fun B hB => lc_range (fun i H1 => Pn H1 p lc (N + 1 + 1000 * i) ∧ Kp H7 H1 ∧ ∃ g : List Nat, H1 B = some (.lst (g.map vN)) ∧ g.length = i ∧ ∀ x ∈ g, x < 2 ^ C.length) ⟨hp7.put (hp7.ne hB), Kp.of (same_new0 hB), [], upd_same, rfl, fun x hx => by cases hx⟩ (fun i H1 hi hP => ?_) (fun H8 hP => ?_)⟩
    · obtain ⟨hp1, kp1, g, h1, lg, ag⟩ := hP
      refine ⟨rfl, ?_⟩
      refine ⟨_, rfl, _, rfl, p, lc, _, C.length, rfl, hp1, (by omega), (by show N + 1 + 1000 * i + 1000 ≤ 1099511627776; omega), fun H2 x hx hp2 kp2 => ?_⟩
      refine ⟨_, kp2 _ _ h1 rfl, (by rw [List.length_map, sizeLine_eq]; omega), (hp2.put (hp7.ne hB)).mono (by omega), kp_put (kp1.trans kp2) hB, g ++ [x], ?_, ?_, fun y hy => ?_⟩
      · rw [upd_same, List.map_append]; rfl
      · rw [List.length_append, lg]; rfl
      · rcases List.mem_append.mp hy with hy | hy
        · exact ag y hy
        · rw [List.mem_singleton.mp hy]; exact hx
    obtain ⟨hp8, kp8, g, e8, lg, ag⟩ := hP
    have kA : Kp H H8 := ((Kp.of s16).trans kp7).trans kp8
    have hs8 := hs.kp kA
    have hS8 : Tq H8 c (C.map vN) := kp_tq kA hS
    have lb : (bas g).length ≤ 12 := Nat.le_trans (bas_len_le g) (by omega)
    refine ⟨_, rfl, B, g, rfl, .inl e8, (by omega), fun H9 q9 s9 hq9 e9 => ⟨q9, bas g, rfl, .inl e9, lb, fun H10 q10 s10 hq10 e10 => ?_⟩⟩
    have s910 := s9.trans s10
    have lsv : (sev (bas g)).length ≤ 4096 := by
      rw [sev_len]
      exact Nat.le_trans (Nat.pow_le_pow_right (by decide) lb) (by decide)
    refine lc_pure (sev (bas g)) vN (fun x => decide (vN (img C x &&& ((1 <<< k) - 1)) = V.int 0)) vN (.inl e10) (by omega) (fun x H' hx s => ?_) (fun D11 H11 hD11 s11 e11 => ?_)
    · intro Z Nx z1 z2
      refine ⟨rfl, _, rfl, _, rfl, c, C, x, rfl, same_tq (s910.trans s) hS8, (by omega), _, rfl, _, _, rfl, rfl, rfl, _, rfl, br (fun q => ?_) (fun q => ?_)⟩
      · exact ⟨_, rfl, z1 q _ (Same.refl _)⟩
      · exact z2 q _ (Same.refl _)
    have s911 := s910.trans s11
    have hs11 := hs8.same s911
    have hS11 := same_tq s911 hS8
    obtain ⟨dy, m1, i1, hi1, hm1⟩ := ist hs11
    -- another store
    refine ⟨_, rfl, _, rfl, _, rfl, mk_MapP (cs := C) hS11 (mix_blen mx) (fun H12 m12 s12' hm12 a12 => ?_)⟩
    refine ⟨_, rfl, mk_StoreP a12 mx (by omega) kb (fun H13 p13 s13' hp13 st13 => ?_)⟩
    have s1113 := s12'.trans s13'
    obtain ⟨d13, m13, i13, hi13, hm13⟩ : ∃ dx m i, H13 p13 = some (.ins CW dx (stf m k i)) ∧ MapAt CM H13 m C.length C := by
      obtain ⟨dx, m, i, h1, h2, _⟩ := st13.at_
      exact ⟨dx, m, i, h1, h2⟩
    have ne13 : st ≠ p13 := ne_of_none (s12' _ _ hi1) hp13
    refine ⟨st, p13, dy, d13, _, _, rfl, rfl, ne13, s1113 _ _ hi1, hi13, _, rfl, itf rfl ?_⟩
    refine ⟨_, rfl, _, rfl, st, dy, _, rfl, rfl, s1113 _ _ hi1, _, rfl, itf rfl ?_⟩
    -- what meets
    refine ⟨_, rfl, st, dy, _, rfl, s1113 _ _ hi1, rfl, _, rfl, _, rfl, mk_SpaceP (ws := g) (.inl (s1113 _ _ (s911 _ _ e8))) (fun x hx => blen_le.mpr (ag x hx)) (by omega) (fun H14 p14 s14 hp14 a14 => ?_)⟩
    have s1114 := s1113.trans s14
    refine ⟨st, p14, _, C, k, g, rfl, hs11.same s1114, a14, ag, fun H15 s15' => ?_⟩
    have s1115 := s1114.trans s15'
    have ml : met' C.length k C g ≤ C.length := by
      rw [met_len]
      exact (mtd_rws _ _ _).len_le (mtd_blen _ _ _)
    refine ⟨1, _, rfl, rfl, shl_ok1 (by rw [blen_one]; decide) (by omega), _, rfl, D11, _, rfl, .inl ((s1115.trans (Same.refl _)) _ _ e11), rfl, _, rfl, itt ?_ ?_⟩
    · rw [List.length_map, dec_nat]
      refine decide_eq_true ?_
      rw [Nat.one_shiftLeft, ← met_count rfl ag]
      congr 2
      funext x
      rw [show decide (vN (img C x &&& ((1 <<< k) - 1)) = V.int 0) = decide (img C x &&& ((1 <<< k) - 1) = 0) from dec_nat (b := 0)]
    refine ⟨_, rfl, st, CW, dy, _, .ref m1, rfl, s1115 _ _ hi1, TW.cl, TW.nc, rfl, _, rfl, _, rfl, mk_MapP (cs := C) (same_tq s1115 hS11) (mix_blen mx) (fun H16 p16 s16' hp16 a16 => ?_)⟩
    have hm16 := hm1.same (s1115.trans s16')
    obtain ⟨dm, tm, u1, u2⟩ := id hm16
    obtain ⟨dn, tn, v1, v2⟩ := id a16
    refine ⟨m1, p16, dm, dn, _, _, rfl, rfl, u1, v1, m1, p16, _, _, C, C, rfl, hm16, a16, fun H17 s17 => ?_⟩
    rw [decide_eq_true ⟨rfl, rfl⟩]
    have sF := ((s911.trans s1115).trans s16').trans s17
    exact kQ _ ((hp8.same sF).mono (by omega)) (kA.trans (Kp.of sF))
end
end LaneX
set_option Elab.async false
set_option linter.all false
set_option maxRecDepth 100000
set_option maxHeartbeats 4000000
namespace LaneX
open PySem PySem.Spec PyProof.Rows L2
/-! ### set(xs), xs a list of ints; sorted of it -/
abbrev nSet (w : World) : Obj := { cls := .type "set", dict := none, data := .set #[] 0 (.fresh 0 0 (!w.params.followText "set-order")) }
section
variable {P : Program} {w : World} {A : Around} {E : Value → Shared → Prop} {s : Shared}
/-- what stands behind set(l) -/
def SetDone (w : World) (s : Shared) (ns : List Int) (s₂ : Shared) : Prop := ∃ h' tk c, s₂ = { s with heap := h', toks := tk } ∧ SetR w h' s.heap.objs.size (fun j => decide (j ∈ ns)) c ∧ c ≤ ns.length ∧ ∀ b o, s.heap.get? b = some o → h'.get? b = some o
theorem call_setL {l : Addr} {items : Array Value} (ns : List Int) {Q : Value → Shared → Prop} (hh : A.handled = none) (hl : s.heap.IsList l items) (hit : IntsAre items.toList ns) (hb : ns.length + 1 < scanBound)
    (h : ∀ s₂, SetDone w s ns s₂ → Q (.ref s.heap.objs.size) s₂) : wpAny (model P w) A (call (.type "set") [.ref l]) Q E s := by
  have len : items.size = ns.length := (Array.length_toList ..).symm.trans hit.length
  have T := F.called_set
  have ⟨_, _, mr⟩ := T.mro; have m1 := T.made; have m2 := T.sub; have m3 := T.notType; have m4 := T.canCreate
  have m5 := F.typeCall_set_1 (.ref l)
  refine wpAny_call (codeAny_of_tree (show wpAny _ _ (callAny (.type "set") _) _ _ _ from wpAny_pure ⟨Code.quiet_builtin _ (by decide +kernel), codeAny_builtin F.entry_type_call ?_⟩))
  rw [Around.under_plain (weight_type_call_type "set" [.ref l] []) rfl]
  repeat (any_goals (first | assumption | wp_step))
  refine codeAny_mono (code_set_led1 (.ref l) (E := E) (Q₁ := fun x s₁ => x = .ref s.heap.objs.size ∧ s₁ = { s with heap := s.heap.push (nSet w) }) ⟨rfl, rfl⟩) fun r s₁ hr => ?_
  rcases r with e | fl
  · exact hr
  cases fl with
  | ret x =>
    obtain ⟨rfl, rfl⟩ := hr
    have g0 : (s.heap.push (nSet w)).get? s.heap.objs.size = some (nSet w) := Heap.get?_push_size _ rfl
    have ty : Shared.TypeIs { s with heap := s.heap.push (nSet w) } (.ref s.heap.objs.size) "set" := ⟨_, g0, rfl⟩
    have i1 := T.init.lookup; have i2 := T.init.bind (.ref s.heap.objs.size)
    repeat (any_goals (first | assumption | wp_step))
    refine codeAny_mono (codeAny_call_builtin (R := wants (fun r s₂ => r = .none ∧ SetDone w s ns s₂) E) T.init.plain F.entry_set_init (check_set_init_1 ty ?_)) fun r2 s2 hr2 => ?_
    · obtain ⟨⟨oc, od, dt, sl⟩, ho, hc, nl, hd⟩ := hl
      simp only at hc hd
      subst hc hd
      have lS : l < s.heap.objs.size := Heap.lt_size ho
      have z1 : (s.heap.push (nSet w)).objs.size = s.heap.objs.size + 1 := Heap.size_push ..
      have ho' : (s.heap.push (nSet w)).get? l = some { cls := .type "list", dict := od, data := .seq items nl, slots := sl } := Heap.get?_push_of_some _ ho
      have hl1 : (s.heap.push (nSet w)).IsList l items := ⟨_, ho', rfl, nl, rfl⟩
      have c1 := F.sub_list_set; have c2 := F.sub_list_frozenset
      have c3 : (Value.type "list" == Value.type "dict") = false := by decide
      unfold Builtin.«set.__init__» noKeywords Builtin.Frozenset.updateFrom
      generalize ep : pyIter = PI
      wp_walk
      subst ep
      refine wpAny_pyIter_list hl1 (wpAny_bind (wpAny_runValue ?_))
      have h3 : A.in1.in1.in1.handled = none := by simp [hh]
      have nI : l ≠ (s.heap.push (nSet w)).objs.size := by rw [z1]; exact Nat.ne_of_lt (Nat.lt_succ_of_lt lS)
      have nF : s.heap.objs.size ∉ [(s.heap.push (nSet w)).objs.size, l] := by
        rw [z1]; simp only [List.mem_cons, List.not_mem_nil, or_false, not_or]; exact ⟨Nat.ne_of_lt (Nat.lt_succ_self _), Nat.ne_of_gt lS⟩
      have at_ : ∀ (i : Nat) (v : Value), items[i]? = some v → ∃ k t, ns[i]? = some k ∧ v = .int k t := fun i v hv => by
        have hi : i < ns.length := len ▸ (Array.getElem?_eq_some_iff.mp hv).1
        obtain ⟨t, e⟩ := hit.int_at i v (by rw [Array.getElem?_toList]; exact hv)
        exact ⟨ns[i], t, List.getElem?_eq_getElem hi, by rw [e, List.getD_eq_getElem?_getD, List.getElem?_eq_getElem hi]; rfl⟩
      have gg : ∀ o, ((s.heap.push (nSet w)).push o).get? s.heap.objs.size = some (nSet w) := fun o => Heap.get?_push_of_some _ g0
      refine set_update_ints ((Walks.list h3 _ l nI items).toS) s.heap.objs.size nF ns len hb at_ _ 0 _ rfl (Nat.zero_le _) ⟨⟨_, Heap.get?_push_size _ rfl, rfl, rfl⟩, hl1.push _⟩ ⟨0, Nat.le_refl 0, setR_new_at (gg _)⟩ (fun s' c' hm hc' hS' => ?_)
      obtain ⟨h', g2, d', tk', os'⟩ := s'
      cases (show g2 = s.gens from hm.gens); cases (show d' = s.drawn from hm.drawn); cases (show os' = s.os from hm.os)
      refine show wpAny _ _ _ _ _ _ from wpAny_pure (show wpAny _ _ (ret Value.none) _ _ _ from wpAny_pure ⟨rfl, h', tk', c', rfl, hS', len ▸ hc', fun b o e => ?_⟩)
      have b0 : b < s.heap.objs.size := Heap.lt_size e
      refine hm.heap b o ?_ (Heap.get?_push_of_some _ (Heap.get?_push_of_some _ e))
      rw [z1]; simp only [List.mem_cons, List.not_mem_nil, or_false, not_or]; exact ⟨Nat.ne_of_lt b0, Nat.ne_of_lt (Nat.lt_succ_of_lt b0)⟩
    · rcases r2 with e | fl2
      · exact hr2
      cases fl2 with
      | ret y =>
        obtain ⟨rfl, hd⟩ := hr2
        repeat (any_goals (first | assumption | wp_step))
        exact h _ hd
      | _ => exact hr2.elim
  | _ => exact hr.elim
end
section
variable {X : Cx}
theorem cr_setL (hc : X.calm = true) : CallR X (.type "set") (fun xs H Q => ∃ (a : Addr) (ns : List Int), xs = [.ref a] ∧ SqL X.K H a (ns.map V.int) ∧ ns.length ≤ 1000 ∧ ∀ p c o, H p = none → c ≤ ns.length → o = SetO X.w p (fun j => decide (j ∈ ns)) c → Q (.ref p) (upd H p o)) := by
  intro pins s σ H xs us Q I r h
  obtain ⟨a, ns, rfl, hS, hl, q⟩ := h
  rw [Vals.ref1 r]
  obtain ⟨its, rv, p, hz⟩ := I.list hS
  refine call_setL ns (I.ok.hd hc) p.isList (by simpa using ints_of_vals rv) (by unfold scanBound; omega) (fun s2 hd => ?_)
  obtain ⟨h', tk, c, rfl, hR, hcn, hk⟩ := hd
  exact ⟨.ref _, _, I.laid (t' := tk) hk (Nat.le_refl _) (setO_new hR), rfl, q _ _ _ (I.hok.fresh (Nat.le_refl _)) hcn rfl⟩
/-- sorted(set(xs)): naturals, fewer than 64 -/
theorem cr_sortedSetN (hc : X.calm = true) : CallR X (.builtin "sorted") (fun xs H Q => ∃ (a : Addr) (ns : List Nat) (c : Nat), xs = [.ref a] ∧ H a = some (SetO X.w a (fun j => decide (j ∈ ns.map Int.ofNat)) c) ∧ c < 64 ∧ ∀ p (ms : List Nat), H p = none → ms.Pairwise (· < ·) → (∀ k, k ∈ ms ↔ k ∈ ns) → ms.length = c → Q (.ref p) (upd H p (.lst (ms.map vN)))) := by
  intro pins s σ H xs us Q I r h
  obtain ⟨a, ns, c, rfl, ha, h64, q⟩ := h
  refine cr_sortedSet hc pins s σ H _ us Q I r ⟨a, _, c, rfl, ha, h64, fun zs p hp hm hl hn => ?_⟩
  have nn : ∀ z ∈ zs, ((z.toNat : Nat) : Int) = z := fun z hz => by
    obtain ⟨k, _, rfl⟩ := List.mem_map.mp (of_decide_eq_true ((hm z).mp hz))
    rfl
  have e : zs.map V.int = (zs.map Int.toNat).map vN := by
    rw [List.map_map]
    exact List.map_congr_left fun z hz => by show V.int z = V.int ((z.toNat : Nat) : Int); rw [nn z hz]
  rw [e]
  refine q p _ hn ?_ (fun k => ?_) (by rw [List.length_map, hl])
  · rw [List.pairwise_map]
    exact hp.imp_of_mem fun {x y} hx hy h => by
      have := nn x hx; have := nn y hy
      omega
  · constructor
    · intro hk
      obtain ⟨z, hz, rfl⟩ := List.mem_map.mp hk
      obtain ⟨k, hk2, rfl⟩ := List.mem_map.mp (of_decide_eq_true ((hm z).mp hz))
      exact hk2
    · intro hk
      exact List.mem_map.mpr ⟨(k : Int), (hm _).mpr (decide_eq_true (List.mem_map.mpr ⟨k, hk, rfl⟩)), rfl⟩
end
end LaneX
set_option Elab.async false
set_option linter.all false
set_option maxRecDepth 100000
set_option maxHeartbeats 4000000
namespace LaneX
open PySem PySem.Spec PyProof.Rows L2
/-! ### dicts with naturals as keys -/
abbrev kn (x : Nat) : Key := .inl (x : Int)
theorem kn_inj {x y : Nat} (h : kn x = kn y) : x = y := by
  have : (x : Int) = (y : Int) := Sum.inl.inj h
  omega
theorem nodup_len {α : Type} [DecidableEq α] : ∀ {l m : List α}, l.Nodup → (∀ x ∈ l, x ∈ m) → l.length ≤ m.length
  | [], _, _, _ => Nat.zero_le _
  | x :: l, m, hn, hs => by
    have hn' := List.nodup_cons.mp hn
    have hx := hs x (.head _)
    have ih := nodup_len (l := l) (m := m.erase x) hn'.2 fun y hy => by
      have : y ≠ x := fun e => hn'.1 (e ▸ hy)
      exact (List.mem_erase_of_ne this).mpr (hs y (.tail _ hy))
    have := List.length_erase_of_mem hx
    have hp : 0 < m.length := List.length_pos_of_mem hx
    simp only [List.length_cons]
    omega
/-- the keys are those of S, each once -/
structure Sn (kvs : List (Key × V)) (S : Nat → Prop) : Prop where
  nd : (kvs.map Prod.fst).Nodup
  mem : ∀ k, k ∈ kvs.map Prod.fst ↔ ∃ x, S x ∧ k = kn x
open Classical in
theorem put_keys (kvs : List (Key × V)) (k : Key) (v : V) : (putK kvs k v).map Prod.fst = if k ∈ kvs.map Prod.fst then kvs.map Prod.fst else kvs.map Prod.fst ++ [k] := by
  unfold putK
  by_cases h : k ∈ kvs.map Prod.fst
  · obtain ⟨p, hp, rfl⟩ := List.mem_map.mp h
    have a : (kvs.any fun kv => decide (kv.1 = p.1)) = true := List.any_eq_true.mpr ⟨p, hp, by simp⟩
    rw [if_pos a, if_pos h, List.map_map]
    refine List.map_congr_left fun q _ => ?_
    show (if q.1 = p.1 then (q.1, v) else q).1 = q.1
    split <;> rfl
  · have a : ¬ (kvs.any fun kv => decide (kv.1 = k)) = true := fun z => by
      obtain ⟨p, hp, e⟩ := List.any_eq_true.mp z
      exact h (List.mem_map.mpr ⟨p, hp, of_decide_eq_true e⟩)
    rw [if_neg a, if_neg h, List.map_append]
    rfl
theorem Sn.nil : Sn [] (fun _ => False) := ⟨.nil, fun k => ⟨fun h => (by cases h), fun h => (by obtain ⟨_, z, _⟩ := h; exact z.elim)⟩⟩
theorem Sn.put {kvs : List (Key × V)} {S : Nat → Prop} (h : Sn kvs S) (x : Nat) (v : V) : Sn (putK kvs (kn x) v) (fun y => S y ∨ y = x) := by
  have e := put_keys kvs (kn x) v
  refine ⟨?_, fun k => ?_⟩
  · rw [e]
    split
    · exact h.nd
    · rename_i n
      refine List.nodup_append.mpr ⟨h.nd, by simp, fun a ha b hb => ?_⟩
      rcases List.mem_singleton.mp hb with rfl
      exact fun z => n (z ▸ ha)
  · rw [e]
    split
    · rename_i m
      constructor
      · intro hk
        obtain ⟨y, hy, rfl⟩ := (h.mem k).mp hk
        exact ⟨y, .inl hy, rfl⟩
      · rintro ⟨y, hy | rfl, rfl⟩
        · exact (h.mem _).mpr ⟨y, hy, rfl⟩
        · exact m
    · constructor
      · intro hk
        rcases List.mem_append.mp hk with hk | hk
        · obtain ⟨y, hy, rfl⟩ := (h.mem k).mp hk
          exact ⟨y, .inl hy, rfl⟩
        · rcases List.mem_singleton.mp hk with rfl
          exact ⟨x, .inr rfl, rfl⟩
      · rintro ⟨y, hy | rfl, rfl⟩
        · exact List.mem_append_left _ ((h.mem _).mpr ⟨y, hy, rfl⟩)
        · exact List.mem_append_right _ (List.mem_singleton_self _)
theorem Sn.le {kvs : List (Key × V)} {S : Nat → Prop} (h : Sn kvs S) {n : Nat} (hS : ∀ x, S x → x < n) : kvs.length ≤ n := by
  have := nodup_len h.nd (m := (List.range n).map kn) fun k hk => by
    obtain ⟨x, hx, rfl⟩ := (h.mem k).mp hk
    exact List.mem_map.mpr ⟨x, List.mem_range.mpr (hS x hx), rfl⟩
  simpa using this
theorem Sn.full {kvs : List (Key × V)} {S : Nat → Prop} (h : Sn kvs S) {n : Nat} (hS : ∀ x, S x → x < n) (hA : ∀ x, x < n → S x) : kvs.length = n := by
  refine Nat.le_antisymm (h.le hS) ?_
  have nd : ((List.range n).map kn).Nodup := by
    unfold List.Nodup
    rw [List.pairwise_map]
    exact List.nodup_range.imp fun h z => h (kn_inj z)
  have := nodup_len nd (m := kvs.map Prod.fst) fun k hk => by
    obtain ⟨x, hx, rfl⟩ := List.mem_map.mp hk
    exact (h.mem _).mpr ⟨x, hA x (List.mem_range.mp hx), rfl⟩
  simpa using this
theorem Sn.congr {kvs : List (Key × V)} {S S' : Nat → Prop} (h : Sn kvs S) (e : ∀ x, S x ↔ S' x) : Sn kvs S' := ⟨h.nd, fun k => by rw [h.mem]; constructor <;> rintro ⟨x, hx, rfl⟩ <;> exact ⟨x, by first | exact (e x).mp hx | exact (e x).mpr hx, rfl⟩⟩
theorem Sn.val {kvs : List (Key × V)} {S : Nat → Prop} (h : Sn kvs S) (c : Nat) : (∃ v, valV kvs (kn c) = some v) ↔ S c := by
  constructor
  · rintro ⟨v, hv⟩
    obtain ⟨x, hx, e⟩ := (h.mem _).mp (valV_in hv)
    rw [kn_inj e]; exact hx
  · intro hc
    cases e : valV kvs (kn c) with
    | some v => exact ⟨v, rfl⟩
    | none => exact absurd ((h.mem _).mpr ⟨c, hc, rfl⟩) (valV_not e)
theorem Sn.notD {kvs : List (Key × V)} {S : Nat → Prop} (h : Sn kvs S) : notD (.dK kvs) = true := by
  cases kvs with
  | nil => rfl
  | cons p r =>
    obtain ⟨k, v⟩ := p
    obtain ⟨x, _, rfl⟩ := (h.mem k).mp (List.mem_cons_self)
    rfl
/-! ### what a lane knows: for each coset the word of its entries, and True -/
structure LnAt (H : Hp) (rows : List Nat) (E : Nat → Prop) (kvs : List (Key × V)) : Prop where
  sn : Sn kvs (fun c => ∃ e, E e ∧ lft rows e = c)
  at_ : ∀ c v, valV kvs (kn c) = some v → ∃ t m, v = .ref t ∧ H t = some (.tup [vN m, .bl true]) ∧ Msk rows E c m
theorem LnAt.mono {H H' : Hp} {rows : List Nat} {E : Nat → Prop} {kvs : List (Key × V)} (h : LnAt H rows E kvs) (k : ∀ t vs, H t = some (.tup vs) → H' t = some (.tup vs)) : LnAt H' rows E kvs :=
  ⟨h.sn, fun c v hv => by obtain ⟨t, m, e1, e2, e3⟩ := h.at_ c v hv; exact ⟨t, m, e1, k _ _ e2, e3⟩⟩
theorem LnAt.nil (H : Hp) (rows : List Nat) : LnAt H rows (fun _ => False) [] :=
  ⟨Sn.nil.congr fun x => ⟨fun z => z.elim, fun z => z.elim fun _ q => q.1⟩, fun c v hv => by cases hv⟩
theorem LnAt.congr {H : Hp} {rows : List Nat} {E F : Nat → Prop} {kvs : List (Key × V)} (h : LnAt H rows E kvs) (g : ∀ e, E e ↔ F e) : LnAt H rows F kvs := by
  have : E = F := funext fun e => propext (g e)
  rwa [← this]
theorem LnAt.get {H : Hp} {rows : List Nat} {E : Nat → Prop} {kvs : List (Key × V)} (h : LnAt H rows E kvs) {x : Addr} (hx : H x = some (.tup [vN 0, .bl true])) (c : Nat) :
    ∃ t m, (valV kvs (kn c)).getD (.ref x) = .ref t ∧ H t = some (.tup [vN m, .bl true]) ∧ Msk rows E c m := by
  cases e : valV kvs (kn c) with
  | some v =>
    obtain ⟨t, m, rfl, h2, h3⟩ := h.at_ c v e
    exact ⟨t, m, rfl, h2, h3⟩
  | none =>
    refine ⟨x, 0, rfl, hx, Msk.zero fun e' he z => ?_⟩
    obtain ⟨v, hv⟩ := (h.sn.val c).mpr ⟨e', he, z⟩
    rw [e] at hv; cases hv
theorem LnAt.has {H : Hp} {rows : List Nat} {E : Nat → Prop} {kvs : List (Key × V)} (h : LnAt H rows E kvs) {c : Nat} (hc : ∃ e, E e ∧ lft rows e = c) :
    ∃ t m, valV kvs (kn c) = some (.ref t) ∧ H t = some (.tup [vN m, .bl true]) ∧ Msk rows E c m := by
  obtain ⟨v, hv⟩ := (h.sn.val c).mpr hc
  obtain ⟨t, m, rfl, h2, h3⟩ := h.at_ c v hv
  exact ⟨t, m, hv, h2, h3⟩
theorem LnAt.put {H H' : Hp} {rows : List Nat} {E F : Nat → Prop} {kvs : List (Key × V)} (h : LnAt H rows E kvs) (k : ∀ t vs, H t = some (.tup vs) → H' t = some (.tup vs)) {c m : Nat} {t : Addr} (ht : H' t = some (.tup [vN m, .bl true])) (hm : Msk rows F c m) (hF : ∃ e, F e ∧ lft rows e = c)
    (o : ∀ e, lft rows e ≠ c → (F e ↔ E e)) : LnAt H' rows F (putK kvs (kn c) (.ref t)) := by
  refine ⟨(h.sn.put c (.ref t)).congr fun x => ?_, fun c' v hv => ?_⟩
  · by_cases e : x = c
    · subst e; exact ⟨fun _ => hF, fun _ => .inr rfl⟩
    · constructor
      · rintro (⟨e', h1, h2⟩ | z)
        · exact ⟨e', (o e' (by rw [h2]; exact e)).mpr h1, h2⟩
        · exact absurd z e
      · rintro ⟨e', h1, h2⟩
        exact .inl ⟨e', (o e' (by rw [h2]; exact e)).mp h1, h2⟩
  · rw [valV_put] at hv
    by_cases e : c' = c
    · subst e
      rw [if_pos rfl] at hv
      cases hv
      exact ⟨t, m, rfl, ht, hm⟩
    · rw [if_neg (fun z => e (kn_inj z))] at hv
      obtain ⟨t', m', e1, e2, e3⟩ := h.at_ c' v hv
      refine ⟨t', m', e1, k _ _ e2, fun x => ?_⟩
      rw [e3 x]
      exact ⟨fun z => ⟨(o x (by rw [z.2]; exact e)).mpr z.1, z.2⟩, fun z => ⟨(o x (by rw [z.2]; exact e)).mp z.1, z.2⟩⟩
/-- the lanes, a dict each -/
def Lanes (H : Hp) (q : Addr) (rows : List Nat) (E : Nat → Nat → Prop) (n : Nat) : Prop := ∃ ds : List Addr, H q = some (.lst (ds.map V.ref)) ∧ ds.length = n ∧ ∀ L d, ds[L]? = some d → ∃ kvs, H d = some (.dK kvs) ∧ LnAt H rows (E L) kvs
theorem Lanes.kp {H H' : Hp} {q : Addr} {rows : List Nat} {E : Nat → Nat → Prop} {n : Nat} (h : Lanes H q rows E n) (s : Kp H H') : Lanes H' q rows E n := by
  obtain ⟨ds, h1, h2, h3⟩ := h
  refine ⟨ds, s _ _ h1 rfl, h2, fun L d hd => ?_⟩
  obtain ⟨kvs, g1, g2⟩ := h3 L d hd
  exact ⟨kvs, s _ _ g1 g2.sn.notD, g2.mono fun t vs ht => s _ _ ht rfl⟩
theorem Lanes.same {H H' : Hp} {q : Addr} {rows : List Nat} {E : Nat → Nat → Prop} {n : Nat} (h : Lanes H q rows E n) (s : Same H H') : Lanes H' q rows E n := h.kp (Kp.of s)
theorem Lanes.congr {H : Hp} {q : Addr} {rows : List Nat} {E F : Nat → Nat → Prop} {n : Nat} (h : Lanes H q rows E n) (g : ∀ L e, L < n → (E L e ↔ F L e)) : Lanes H q rows F n := by
  obtain ⟨ds, h1, h2, h3⟩ := h
  refine ⟨ds, h1, h2, fun L d hd => ?_⟩
  obtain ⟨kvs, g1, g2⟩ := h3 L d hd
  have : L < n := by rw [← h2]; exact (List.getElem?_eq_some_iff.mp hd).1
  exact ⟨kvs, g1, g2.congr fun e => g L e this⟩
end LaneX
set_option Elab.async false
set_option linter.all false
set_option maxRecDepth 100000
set_option maxHeartbeats 4000000
namespace LaneX
open PySem PySem.Spec PyProof.Rows L2
def nk (ks : List Nat) : List (Key × V) := ks.map fun (x : Nat) => ((Sum.inl (x : Int) : Key), V.bl true)
theorem putK_nk (ks : List Nat) (x : Nat) : putK (nk ks) (.inl (x : Int) : Key) (.bl true) = nk (if x ∈ ks then ks else ks ++ [x]) := by
  unfold putK nk
  by_cases h : x ∈ ks
  · rw [if_pos h, if_pos (by rw [List.any_map, List.any_eq_true]; exact ⟨x, h, by simp⟩), List.map_map]
    refine List.map_congr_left fun y _ => ?_
    show (if ((.inl (y : Int) : Key)) = .inl (x : Int) then _ else _) = _
    split <;> rfl
  · rw [if_neg h, if_neg (by
      rw [List.any_map, List.any_eq_true]
      rintro ⟨y, hy, e⟩
      have : y = x := by simp at e; omega
      exact h (this ▸ hy)), List.map_append]
    rfl
def adk (ks : List Nat) (x : Nat) : List Nat := if x ∈ ks then ks else ks ++ [x]
/-- ks: what S holds, each once -/
structure KeS (ks : List Nat) (S : Nat → Prop) : Prop where
  nd : ks.Nodup
  mem : ∀ x, x ∈ ks ↔ S x
theorem KeS.nil : KeS [] (fun _ => False) := ⟨List.nodup_nil, fun x => ⟨fun z => absurd z List.not_mem_nil, fun z => z.elim⟩⟩
theorem KeS.put {ks : List Nat} {S : Nat → Prop} (h : KeS ks S) (x : Nat) : KeS (adk ks x) (fun y => S y ∨ y = x) := by
  unfold adk
  by_cases m : x ∈ ks
  · rw [if_pos m]
    exact ⟨h.nd, fun y => ⟨fun z => .inl ((h.mem y).mp z), fun z => z.elim (h.mem y).mpr fun e => e ▸ m⟩⟩
  · rw [if_neg m]
    refine ⟨List.nodup_append.mpr ⟨h.nd, by simp, fun a ha b hb e => ?_⟩, fun y => ?_⟩
    · rw [List.mem_singleton.mp hb] at e
      exact m (e ▸ ha)
    · rw [List.mem_append, List.mem_singleton, h.mem]
theorem KeS.congr {ks : List Nat} {S S' : Nat → Prop} (h : KeS ks S) (e : ∀ x, S x ↔ S' x) : KeS ks S' := ⟨h.nd, fun x => (h.mem x).trans (e x)⟩
theorem KeS.le {ks : List Nat} {S : Nat → Prop} (h : KeS ks S) {n : Nat} (b : ∀ x, S x → x < n) : ks.length ≤ n := by
  have := nodup_len h.nd (m := List.range n) fun x hx => List.mem_range.mpr (b x ((h.mem x).mp hx))
  rwa [List.length_range] at this
theorem nk_len (ks : List Nat) : (nk ks).length = ks.length := by simp [nk]
theorem nk_get {ks : List Nat} {j : Nat} {k : Key} {v : V} (h : (nk ks)[j]? = some (k, v)) : ∃ e, ks[j]? = some e ∧ k = kn e := by
  unfold nk at h
  rw [List.getElem?_map] at h
  cases e : ks[j]? with
  | none => rw [e] at h; cases h
  | some x =>
    rw [e] at h
    have h := Option.some.inj h
    exact ⟨x, rfl, (congrArg Prod.fst h).symm⟩
/-- how often each value was met -/
structure Cn (f : Nat → Nat) (kvs : List (Key × V)) (p : List Nat) : Prop where
  sn : Sn kvs (fun v => 0 < cnt f p v)
  val : ∀ v, valV kvs (kn v) = if 0 < cnt f p v then some (vN (cnt f p v)) else none
theorem Cn.nil (f : Nat → Nat) : Cn f [] [] := ⟨Sn.nil.congr fun x => by rw [cnt_nil]; exact ⟨fun z => z.elim, fun z => absurd z (Nat.lt_irrefl 0)⟩, fun v => by rw [cnt_nil]; rfl⟩
theorem Cn.get {f : Nat → Nat} {kvs : List (Key × V)} {p : List Nat} (h : Cn f kvs p) (v : Nat) : (valV kvs (kn v)).getD (V.int 0) = vN (cnt f p v) := by
  rw [h.val]
  by_cases e : 0 < cnt f p v
  · rw [if_pos e]; rfl
  · rw [if_neg e, show cnt f p v = 0 by omega]; rfl
theorem Cn.put {f : Nat → Nat} {kvs : List (Key × V)} {p : List Nat} (h : Cn f kvs p) (x : Nat) : Cn f (putK kvs (kn (f x)) (vN (cnt f p (f x) + 1))) (p ++ [x]) := by
  refine ⟨(h.sn.put (f x) _).congr fun v => ?_, fun v => ?_⟩
  · rw [cnt_snoc]
    by_cases e : f x = v
    · rw [if_pos e]
      exact ⟨fun _ => Nat.succ_pos _, fun _ => .inr e.symm⟩
    · rw [if_neg e]
      exact ⟨fun z => z.elim id fun q => absurd q.symm e, .inl⟩
  · rw [valV_put, cnt_snoc]
    by_cases e : f x = v
    · rw [if_pos (by rw [e]), if_pos e, if_pos (Nat.succ_pos _), e]
    · rw [if_neg (fun z => e (kn_inj z).symm), if_neg e, h.val]
/-- the keys of a phase -/
theorem phase_keys {b w hi i s0 : Nat} {C ls : List Nat} (h : Mix b C) (hw : w ≤ b) (hlo : hi ≤ ls.length) (x : Nat) :
    (∃ l, l < 1 <<< hi ∧ ∃ y ∈ nr b w C, x = s0 ^^^ img ls (l + (i <<< hi)) ^^^ y) ↔ Spn (ls.take hi ++ nr b w C) (x ^^^ (s0 ^^^ img ls (i <<< hi))) := by
  rw [← phase_in h hw hlo, Nat.one_shiftLeft]
  constructor
  · rintro ⟨l, hl, y, hy, rfl⟩
    refine ⟨l, hl, y, hy, ?_⟩
    rw [Nat.add_comm, add_eq_xor hl, (lin_img ls).x, ← Nat.xor_assoc]
  · rintro ⟨l, hl, y, hy, rfl⟩
    refine ⟨l, hl, y, hy, ?_⟩
    rw [Nat.add_comm, add_eq_xor hl, (lin_img ls).x, ← Nat.xor_assoc]
theorem tq_keep {H1 H H' : Hp} {n : Addr} {xs : List V} (h : Tq H1 n xs) (s : Same H1 H) (s' : Same H1 H') (o : HO) (e : H n = some o) : H' n = some o := by
  rcases h with h | h
  · have := s _ _ h
    rw [this] at e
    rw [← e]
    exact s' _ _ h
  · have := s _ _ h
    rw [this] at e
    rw [← e]
    exact s' _ _ h
def sp_played : Sp := fun vs H Q _ => ∃ (p lc l c n : Addr) (N b : Nat) (C ls : List Nat) (k w : Nat), vs = [.ref p, .ref l, .ref c, .ref n, vN w, vN k] ∧ Pn H p lc N ∧ Tq H l (ls.map vN) ∧ Tq H c (C.map vN) ∧ Tq H n ((nr b w C).map vN) ∧ Mix b C ∧ b ≤ 6 ∧ w ≤ k ∧ k ≤ b ∧ ls.length ≤ 6 ∧ (∀ x ∈ ls, x < 2 ^ b) ∧ N + 1000 ≤ TOP ∧
  ∀ H', Pn H' p lc (N + 1000) → Kp H H' → Q (vN (1 <<< (min w ls.length + met' b k C (tchW b C ls w)))) H'
section
variable {P : Program} {w : World} {K : PySem.W.Frag} {mg : Str → Option Value} {base : Heap} {f : Addr} {fd : FuncData} (T : Bt mg)
include T
theorem ok_played (F : FnP K "_law_beats_played" "_law_beats_played" s_beats_playedL f fd) (D_imageL : Dn P w K mg base 1 "_law_image" ["_law_columns_here", "_law_word_here"] sp_image) (D_wordL : Dn P w K mg base 2 "_law_word" ["_law_pen", "_law_bits"] sp_word) : FnOk P w K mg base CX0 3 f fd ["_law_pen", "_law_lanes", "_law_columns_here", "_law_near", "_law_width", "_law_banks"] sp_played := by
  have nd := sc_beats_playedL.nd
  refine fnok F sc_beats_playedL (fun vs H Q E h => ?_) (fun cdv A outer s H vs Q E hr h => ?_)
  · obtain ⟨p, lc, l, c, n, N, b, C, ls, k, w, rfl, _⟩ := h
    rfl
  · obtain ⟨p, lc, l, c, n, N, b, C, ls, k, w, rfl, hp, hL, hC, hNr, mx, hb6, hwk, hkb, hl6, hlt, hN, kQ⟩ := h
    have hN' : N + 1000 ≤ 1099511627776 := hN
    have hu := hu_of hr
    refine ⟨_, (pss_cons (ps_par3 (i := 6) (j := 7) (l := 8) (by rfl) nd rfl rfl rfl (by decide) (by decide) (by decide) rfl rfl rfl (pa_cons pe_int (pa_cons (pe_op on_sub (pe_callB call_lenQ (by rfl) T.len PySem.boot_len (pa_cons (pv 1) pa_nil)) (pe_callB (call_min2 rfl) (by rfl) T.min (by decide +kernel) (pa_cons (pe_callTy call_intQ (by rfl) T.int (by decide +kernel) (pa_cons (pv 4) pa_nil)) (pa_cons (pe_callB call_lenQ (by rfl) T.len PySem.boot_len (pa_cons (pv 1) pa_nil)) pa_nil)))) (pa_cons (pe_op on_sub (pe_op on_shl pe_int (pv 5)) pe_int) pa_nil))) (by rfl))
  (pss_cons (ps_set (i := 9) nd rfl (Or.inl rfl) (pe_d D_wordL hr (pa_cons (pv 0) (pa_cons (pe_callB call_lenQ (by rfl) T.len PySem.boot_len (pa_cons (pv 2) pa_nil)) pa_nil))))
  (pss_cons (ps_for PassesOwn.never rfl (pi_range1 (by rfl) T.range (pa_cons (pe_op on_shl pe_int (pe_op on_sub (pe_callB call_lenQ (by rfl) T.len PySem.boot_len (pa_cons (pv 1) pa_nil)) (pv 7))) pa_nil)) (pg_name (i := 10) nd rfl (Or.inl rfl))
    (pss_cons (ps_asg (pe_tup (pa_cons pe_dnewK (pa_cons pe_dnewK pa_nil))) (pg_tup (by rfl) (pgs_cons (pg_name (i := 11) nd rfl (Or.inl rfl)) (pgs_cons (pg_name (i := 12) nd rfl (Or.inr rfl)) pgs_nil))))
    (pss_cons (ps_for PassesOwn.never rfl (pi_range1 (by rfl) T.range (pa_cons (pe_op on_shl pe_int (pv 7)) pa_nil)) (pg_name (i := 13) nd rfl (Or.inl rfl))
      (pss_one (ps_for PassesOwn.never rfl (pi_seq (pv 3)) (pg_name (i := 14) nd rfl (Or.inl rfl))
        (pss_one (ps_asg pe_bl (pg_sub (pv 11) (pe_op on_xor (pe_op on_xor (pv 9) (pe_d D_imageL hr (pa_cons (pv 1) (pa_cons (pe_op on_add (pv 13) (pe_op on_shl (pv 10) (pv 7))) pa_nil)))) (pv 14)) (set_dict hu)))))))
    (pss_cons (ps_lock (ps_for PassesOwn.never rfl (pi_keys (pv 11)) (pg_name (i := 15) nd rfl (Or.inl rfl))
      (pss_cons (ps_set (i := 16) nd rfl (Or.inl rfl) (pe_op on_and (pe_d D_imageL hr (pa_cons (pv 2) (pa_cons (pv 15) pa_nil))) (pv 8)))
      (pss_one (ps_asg (pe_op on_add (pe_dget2 hu (pv 12) (pv 16) pe_int ⟨rfl, rfl, rfl, rfl⟩) pe_int) (pg_sub (pv 12) (pv 16) (set_dict hu)))))))
    (pss_one (ps_set (i := 6) nd rfl (Or.inl rfl) (pe_op on_add (pv 6) (pe_callB (cr_maxN rfl) (by rfl) T.max (by decide +kernel) (pa_cons (pe_lock (pe_lc (own := [("_law_bank", 16)]) (g := gName 16) (by rfl) nd (pi_keys (pv 12)) (blkOk_by (own := [("_law_bank", 16)]) (N := ["_law_pen", "_law_lanes", "_law_columns_here", "_law_near", "_law_width", "_law_banks", "_law_beats", "_law_high", "_law_mask", "_law_start", "_law_phase", "_law_seen", "_law_counts", "_law_low", "_law_word_here", "_law_entry", "_law_bank"]) (sc := defScope s_beats_playedL) (by decide +kernel)) (fun _ _ _ _ _ => (pg_name (i := 16) nd rfl (Or.inl rfl))) (fun _ _ _ _ _ => pts_nil) (fun _ _ _ _ _ => (pe_callTy call_intQ (by rfl) T.int (by decide +kernel) (pa_cons (pe_dget hu (pv 12) (pv 16) (fun _ _ => rfl)) pa_nil))))) pa_nil)))))))))
  (pss_one (ps_ret (pv 6)))))), ?_⟩
    have e1 : (if ((ls.length : Nat) : Int) < (w : Int) then ((ls.length : Nat) : Int) else (w : Int)) = ((min w ls.length : Nat) : Int) := by split <;> omega
    have hle : lwl ls w ≤ ls.length := by unfold lwl; omega
    have hsub : ls.length - lwl ls w = min w ls.length := by unfold lwl; omega
    have smL : 1 <<< (ls.length - lwl ls w) ≤ 64 := small6 (by omega)
    have smH : 1 <<< lwl ls w ≤ 64 := small6 (by omega)
    have wb : w ≤ b := by omega
    have lC := mx.len
    refine ⟨_, rfl, l, _, rfl, hL, _, rfl, w, rfl, _, rfl, l, _, rfl, hL, _, _, rfl, ?_⟩
    rw [List.length_map, e1]
    refine ⟨ls.length, min w ls.length, rfl, rfl, (by omega), _, rfl, 1, k, rfl, rfl, shl_ok1 (by rw [blen_one]; decide) (by omega), 1 <<< k, 1, rfl, rfl, shl1 (by omega), _, _, _, rfl, ?_⟩
    refine ⟨_, rfl, _, rfl, c, _, rfl, hC, p, lc, N, C.length, by rw [List.length_map]; rfl, hp, (by omega), hN, fun H1 s0 hs0 hp1 kp1 => ?_⟩
    have hs0 : s0 < 2 ^ b := by rwa [lC] at hs0
    have hL1 := kp_tq kp1 hL
    have hC1 := kp_tq kp1 hC
    have hN1 := kp_tq kp1 hNr
    generalize hg : (fun x => img C x &&& ((1 <<< k) - 1)) = g
    have gx : ∀ x, img C x &&& ((1 <<< k) - 1) = g x := fun x => congrFun hg x
    generalize hM : 2 ^ met' b k C (tchW b C ls w) = M
    have M64 : M ≤ 64 := by
      rw [← hM]
      have z : met' b k C (tchW b C ls w) ≤ b := by
        rw [met_len]
        exact (mtd_rws _ _ _).len_le (mtd_blen _ _ _)
      exact Nat.le_trans (Nat.pow_le_pow_right (by decide) (Nat.le_trans z hb6)) (by decide)
    have fib : ∀ {ks : List Nat} {i : Nat}, KeS ks (fun x => ∃ l, l < 1 <<< lwl ls w ∧ ∃ y ∈ nr b w C, x = s0 ^^^ img ls (l + (i <<< lwl ls w)) ^^^ y) → ∀ v, 0 < cnt g ks v → cnt g ks v = M := fun {ks i} h v hv => by
      rw [← hM, ← hg]
      rw [← hg] at hv
      rw [cnt_fib h.nd (fun x => (h.mem x).trans (phase_keys mx wb hle x)) (fun x hx => ?_) lC hv, ← met_nr mx wb]
      · rfl
      · rcases List.mem_append.mp hx with z | z
        · exact hlt x (List.mem_of_mem_take z)
        · exact ((nr_mem mx wb x).mp z).lt fun y hy => (inv_mix mx).lt y (List.mem_of_mem_take hy)
    have ltb : ∀ {j i y : Nat}, y ∈ nr b w C → s0 ^^^ img ls (j + (i <<< lwl ls w)) ^^^ y < 2 ^ b := fun {j i y} hy =>
      Nat.xor_lt_two_pow (Nat.xor_lt_two_pow hs0 (imf_lt hlt _ _)) (((nr_mem mx wb y).mp hy).lt fun z hz => (inv_mix mx).lt z (List.mem_of_mem_take hz))
    have b64 : 2 ^ b ≤ 64 := Nat.le_trans (Nat.pow_le_pow_right (by decide) hb6) (by decide)
    rw [show ls.length - min w ls.length = lwl ls w from rfl]
    generalize hhi : lwl ls w = hi at *
    refine ⟨_, rfl, l, _, rfl, hL1, ?_⟩
    rw [List.length_map]
    refine ⟨_, rfl, ls.length, hi, rfl, rfl, hle, 1, ls.length - hi, rfl, rfl, shl_ok1 (by rw [blen_one]; decide) (by omega), _, rfl, rng_lo _, rng_hi smL, ?_⟩
    refine for_range (n := 1 <<< (ls.length - hi)) (fun i σ Hi => ∃ v10 v11 v12 v13 v14 v15 v16, σ = [some (.ref p), some (.ref l), some (.ref c), some (.ref n), some (vN w), some (vN k), some (vN (i * M)), some (vN hi), some (vN (1 <<< k - 1)), some (vN s0), v10, v11, v12, v13, v14, v15, v16] ∧ Same H1 Hi) ⟨none, none, none, none, none, none, none, by rw [Nat.zero_mul]; rfl, Same.refl _⟩ ?_ ?_
    · rintro i σ Hi hi' ⟨v10, v11, v12, v13, v14, v15, v16, rfl, si⟩
      rw [show (0 : Int) + (i : Int) = (i : Int) by omega]
      have i64 : i < 2 ^ 6 := Nat.lt_of_lt_of_le hi' smL
      refine fun ds hds => fun dc hdc => ⟨(by show 2 ≤ sizeLine; decide), fun y hy => ⟨y, _, rfl, SqT.of upd_same, rfl, _, _, rfl, _, _, rfl, rfl, ?_⟩⟩
      have fs : H1 ds = none := si.free hds
      have sA := same_new0 (o := .dK []) hds
      have fc : H1 dc = none := (si.trans sA).free hdc
      have sB := sA.trans (same_new0 (o := .dK []) hdc)
      have sC := sB.trans (same_new0 (o := .tup [.ref ds, .ref dc]) hy)
      have eds : upd (upd (upd Hi ds (.dK [])) dc (.dK [])) y (.tup [.ref ds, .ref dc]) ds = some (.dK []) := upd_new hy (upd_new hdc upd_same)
      have edc : upd (upd (upd Hi ds (.dK [])) dc (.dK [])) y (.tup [.ref ds, .ref dc]) dc = some (.dK []) := upd_new hy upd_same
      have ndc : ds ≠ dc := ne_of_none (upd_same (H := Hi) (a := ds) (o := .dK [])) hdc
      have s2 := si.trans sC
      clear sA sB sC hds hdc hy
      generalize upd (upd (upd Hi ds (.dK [])) dc (.dK [])) y (.tup [.ref ds, .ref dc]) = H2 at *
      refine ⟨_, rfl, 1, hi, rfl, rfl, shl_ok1 (by rw [blen_one]; decide) (by omega), _, rfl, rng_lo _, rng_hi smH, for_range (n := 1 <<< hi) (fun j σ H3 => ∃ ks v13 v14, σ = [some (.ref p), some (.ref l), some (.ref c), some (.ref n), some (vN w), some (vN k), some (vN (i * M)), some (vN hi), some (vN (1 <<< k - 1)), some (vN s0), some (vN i), some (.ref ds), some (.ref dc), v13, v14, v15, v16] ∧ Same H1 H3 ∧ H3 ds = some (.dK (nk ks)) ∧ H3 dc = some (.dK []) ∧ KeS ks (fun x => ∃ l, l < j ∧ ∃ y ∈ nr b w C, x = s0 ^^^ img ls (l + (i <<< hi)) ^^^ y)) ⟨[], v13, v14, rfl, s2, eds, edc, KeS.nil.congr fun x => ⟨fun z => z.elim, fun ⟨_, z, _⟩ => absurd z (Nat.not_lt_zero _)⟩⟩ ?_ ?_⟩
      · rintro j σ H3 hj ⟨ks, v13, v14, rfl, s3, ed3, ec3, K3⟩
        rw [show (0 : Int) + (j : Int) = (j : Int) by omega]
        have jl : j < 2 ^ hi := by rwa [Nat.one_shiftLeft] at hj
        refine ⟨_, rfl, for_sq2 (K := K) (same_tq s3 hN1) (fun m σ H4 => ∃ ks v14, σ = [some (.ref p), some (.ref l), some (.ref c), some (.ref n), some (vN w), some (vN k), some (vN (i * M)), some (vN hi), some (vN (1 <<< k - 1)), some (vN s0), some (vN i), some (.ref ds), some (.ref dc), some (vN j), v14, v15, v16] ∧ Same H1 H4 ∧ H4 ds = some (.dK (nk ks)) ∧ H4 dc = some (.dK []) ∧ KeS ks (fun x => (∃ l, l < j ∧ ∃ y ∈ nr b w C, x = s0 ^^^ img ls (l + (i <<< hi)) ^^^ y) ∨ ∃ y ∈ (nr b w C).take m, x = s0 ^^^ img ls (j + (i <<< hi)) ^^^ y)) ⟨ks, v14, rfl, s3, ed3, ec3, K3.congr fun x => ⟨.inl, fun z => z.elim id fun ⟨_, z, _⟩ => by simp at z⟩⟩ (fun m σ H4 hP o ho => ?_) ?_ ?_⟩
        · obtain ⟨_, _, _, s4, _⟩ := hP
          exact tq_keep hN1 s3 s4 o ho
        · rintro m y σ H4 hy ⟨ks, v14, rfl, s4, ed4, ec4, K4⟩
          obtain ⟨r, hr', rfl⟩ := map_get hy
          have mr : r ∈ nr b w C := List.mem_of_getElem? hr'
          have lk : ks.length ≤ 64 := Nat.le_trans (K4.le (n := 2 ^ b) fun x hx => by
            rcases hx with ⟨l, _, y, hy, rfl⟩ | ⟨y, hy, rfl⟩
            · exact ltb hy
            · exact ltb (List.mem_of_mem_take hy)) b64
          refine ⟨_, rfl, _, rfl, _, rfl, _, rfl, _, rfl, _, rfl, i, hi, rfl, rfl, shl_ok1 (by have := blen_le.mpr i64; omega) (by omega), _, _, rfl, rfl, l, ls, _, rfl, same_tq s4 hL1, (by omega), _, _, rfl, rfl, _, rfl, _, _, rfl, rfl, ds, _, rfl, DPut.k (k := kn (s0 ^^^ img ls (j + i <<< hi) ^^^ r)) ed4 (by rw [nk_len, sizeLine_eq]; omega), ?_⟩
          refine ⟨adk ks (s0 ^^^ img ls (j + i <<< hi) ^^^ r), _, rfl, same_put s4 fs, by rw [upd_same, putK_nk]; rfl, (upd_ne ndc.symm).trans ec4, (K4.put _).congr fun x => ?_⟩
          rw [take_succ hr']
          constructor
          · rintro ((z | ⟨y, hy, z⟩) | z)
            · exact .inl z
            · exact .inr ⟨y, List.mem_append_left _ hy, z⟩
            · exact .inr ⟨r, List.mem_append_right _ (List.mem_singleton_self _), z⟩
          · rintro (z | ⟨y, hy, z⟩)
            · exact .inl (.inl z)
            · rcases List.mem_append.mp hy with hy | hy
              · exact .inl (.inr ⟨y, hy, z⟩)
              · rw [List.mem_singleton.mp hy] at z
                exact .inr z
        · rintro σ H4 ⟨ks, v14, rfl, s4, ed4, ec4, K4⟩
          rw [List.length_map, List.take_length] at K4
          refine ⟨ks, _, _, rfl, s4, ed4, ec4, K4.congr fun x => ?_⟩
          constructor
          · rintro (⟨l, h1, z⟩ | z)
            · exact ⟨l, by omega, z⟩
            · exact ⟨j, by omega, z⟩
          · rintro ⟨l, h1, z⟩
            by_cases e : l = j
            · subst e; exact .inr z
            · exact .inl ⟨l, by omega, z⟩
      · rintro σ H3 ⟨ks, v13, v14, rfl, s3, ed3, ec3, K3⟩
        have lk : ks.length ≤ 64 := Nat.le_trans (K3.le (n := 2 ^ b) fun x hx => by
          obtain ⟨l, _, y, hy, rfl⟩ := hx
          exact ltb hy) b64
        have nek : 0 < ks.length := List.length_pos_iff_exists_mem.mpr ⟨_, (K3.mem _).mpr ⟨0, by rw [Nat.one_shiftLeft]; exact Nat.two_pow_pos _, 0, nr_zero mx wb, rfl⟩⟩
        have fibK := fib K3
        refine ⟨ds, _, ed3, trivial, fun od => ?_⟩
        refine ⟨_, rfl, ds, od, rfl, .inl ⟨nk ks, upd_same, for_it walk_keys (fun j σ H4 => ∃ v15 v16 kvs, σ = [some (.ref p), some (.ref l), some (.ref c), some (.ref n), some (vN w), some (vN k), some (vN (i * M)), some (vN hi), some (vN (1 <<< k - 1)), some (vN s0), some (vN i), some (.ref ds), some (.ref dc), v13, v14, v15, v16] ∧ Same H1 H4 ∧ H4 ds = some (.frz od (.dK (nk ks))) ∧ H4 dc = some (.dK kvs) ∧ kvs.length ≤ j ∧ Cn g kvs (ks.take j)) ⟨v15, v16, [], rfl, same_put s3 fs, upd_same, (upd_ne ndc.symm).trans ec3, Nat.le_refl _, by simpa using Cn.nil g⟩ ?_ ?_ ?_⟩⟩
        · rintro j σ H4 _ ⟨_, _, _, _, _, z, _⟩
          exact z
        · rintro j x σ Hx H4 hj ⟨v15, v16, kvs, rfl, s4, ed4, ec4, l4, C4⟩ ⟨rfl, ky, vy, hky, rfl⟩
          obtain ⟨e, he, rfl⟩ := nk_get hky
          rw [nk_len] at hj
          refine ⟨_, rfl, _, rfl, c, C, e, rfl, same_tq s4 hC1, (by omega), _, rfl, _, _, rfl, rfl, ?_⟩
          rw [gx]
          refine ⟨_, rfl, dc, rfl, .inl ⟨kvs, .inl ec4⟩, _, rfl, _, DGet.k (k := kn (g e)) ec4, ?_⟩
          rw [C4.get]
          refine ⟨_, _, rfl, rfl, _, rfl, _, rfl, dc, _, rfl, DPut.k (k := kn (g e)) ec4 (by rw [sizeLine_eq]; omega), ?_⟩
          refine ⟨_, _, _, rfl, same_put s4 fc, (upd_ne ndc).trans ed4, upd_same, Nat.le_trans (length_putK _ _ _) (by omega), ?_⟩
          rw [take_succ he]
          exact C4.put e
        · rintro σ H4 ⟨v15, v16, kvs, rfl, s4, ed4, ec4, l4, C4⟩
          rw [nk_len] at l4
          rw [nk_len, List.take_length] at C4
          refine ⟨ed4, ?_⟩
          have s5 := same_put (o := .dK (nk ks)) s4 fs
          have ec5 : upd H4 ds (.dK (nk ks)) dc = some (.dK kvs) := (upd_ne ndc.symm).trans ec4
          generalize upd H4 ds (.dK (nk ks)) = H5 at *
          have kpos : 0 < kvs.length := by
            obtain ⟨x, hx⟩ := List.length_pos_iff_exists_mem.mp nek
            have q := (C4.sn.mem (kn (g x))).mpr ⟨g x, cnt_pos.mpr ⟨x, hx, rfl⟩, rfl⟩
            have q := List.length_pos_of_mem q
            rwa [List.length_map] at q
          refine ⟨_, rfl, dc, _, ec5, trivial, fun od => ?_⟩
          refine ⟨_, rfl, dc, od, rfl, .inl ⟨kvs, upd_same, fun D hD => lc_it walk_keys (fun j H6 => Same H1 H6 ∧ H6 dc = some (.frz od (.dK kvs)) ∧ H6 D = some (.lst ((List.replicate j M).map vN))) ⟨same_new (same_put s5 fc) hD, upd_new hD upd_same, upd_same⟩ (fun j H6 _ hP => hP.2.1) (fun j x H6 H7 hj hP hy => ?_) (fun H6 hP => ?_)⟩⟩
          · obtain ⟨s6, ec6, e6⟩ := hP
            obtain ⟨rfl, ky, vy, hky, rfl⟩ := hy
            have mky : ky ∈ kvs.map Prod.fst := List.mem_map.mpr ⟨_, List.mem_of_getElem? hky, rfl⟩
            obtain ⟨v, hv, rfl⟩ := (C4.sn.mem ky).mp mky
            have vv := C4.val v
            rw [if_pos hv, fibK v hv] at vv
            have fD : H1 D = none := (same_put (o := .frz od (.dK kvs)) s5 fc).free hD
            have nD : D ≠ dc := fun z => by
              rw [z, upd_same] at hD; cases hD
            refine ⟨rfl, _, rfl, _, rfl, dc, _, rfl, .inl ⟨kvs, kn v, .inr ⟨od, ec6⟩, rfl, vv.symm⟩, M, rfl, _, e6, (by rw [List.length_map, List.length_replicate, sizeLine_eq]; omega), same_put s6 fD, (upd_ne nD.symm).trans ec6, ?_⟩
            rw [upd_same, List.replicate_succ', List.map_append]
            rfl
          · obtain ⟨s6, ec6, e6⟩ := hP
            have nD : D ≠ dc := fun z => by
              rw [z, upd_same] at hD; cases hD
            refine ⟨ec6, D, List.replicate kvs.length M, rfl, (upd_ne nD).trans e6, (by rw [List.length_replicate]; exact kpos), fun m hm _ => ?_⟩
            rw [List.eq_of_mem_replicate hm]
            have eM : i * M + M = (i + 1) * M := by rw [Nat.add_mul, Nat.one_mul]
            refine ⟨_, _, rfl, rfl, ?_⟩
            rw [eM]
            exact ⟨_, _, _, _, _, _, _, rfl, same_put s6 fc⟩
    · rintro σ Hi ⟨v10, v11, v12, v13, v14, v15, v16, rfl, si⟩
      have e : 1 <<< (ls.length - hi) * M = 1 <<< (min w ls.length + met' b k C (tchW b C ls w)) := by
        rw [hsub, ← hM, Nat.one_shiftLeft, Nat.one_shiftLeft, ← Nat.pow_add]
      rw [e]
      exact ⟨_, rfl, kQ _ ((hp1.same si).mono (by omega)) (kp1.trans (Kp.of si))⟩
end
end LaneX
set_option Elab.async false
set_option linter.all false
set_option maxRecDepth 100000
set_option maxHeartbeats 4000000
namespace LaneX
open PySem PySem.Spec PyProof.Rows L2
theorem fnokC {P : Program} {w : World} {K : PySem.W.Frag} {mg : Str → Option Value} {base : Heap} {x qual : Str} {st : Stmt} {f : Addr} {fd : FuncData} {N ps : List Str} {k : Nat} {sp : Sp} (F : FnP K x qual st f fd) (S : FnScope N ps (defScope st)) (len : ∀ vs H Q E, sp vs H Q E → vs.length = ps.length)
    (hbody : ∀ (A : Around) (outer : List Env) (s : Shared) (H : Hp) (vs : List V) (Q : VK) (E : XK), Room k (A.deeper (envOfC qual (defScope st) s.heap.objs.size f fd.code)) → sp vs H Q E →
      ∃ t, PSs (cxOf CX0 P w K mg base N qual (defScope st) f fd.code A outer s H E).nox (defBody st) t ∧ t { nx := fun _ H' => Q .non H', rt := Q } (start N vs) H) : FnOk P w K mg base CX0 (k + 1) f fd ps sp := by
  obtain ⟨oc, od, dV, kV, doc, pm, an, cdv, ct, osl, rfl, lk, hcd, _, _⟩ := F.ex
  refine fn_of lk hcd S len fun A outer s H vs Q E hr h => ?_
  obtain ⟨t, h1, h2⟩ := hbody A outer s H vs Q E hr h
  exact ⟨t, PSs.nox h1, h2⟩
theorem pn_ext {H H' : Hp} {p lc : Addr} {N : Nat} (h : Pn H p lc N) (z : LamX.ExtN H H') : Pn H' p lc N := by
  obtain ⟨cs, n, m, h1, h2, h3⟩ := h
  exact ⟨cs, n, m, z _ _ h1 (fun ps q => by cases q), z _ _ h2 (fun ps q => by cases q), h3⟩
theorem tabs_put {T : List (Addr × Str)} {H : Hp} {a : Addr} {xs ys : List V} (t : LamX.Tabs T H) (h : H a = some (.lst xs)) : LamX.Tabs T (upd H a (.lst ys)) := fun p hp => by
  obtain ⟨ps, h1, h2, h3⟩ := t p hp
  refine ⟨ps, (upd_ne (ne_of h1 h (by intro z; cases z))).trans h1, h2, fun pos cv hc => ?_⟩
  obtain ⟨c, e1, e2⟩ := h3 pos cv hc
  exact ⟨c, e1, (upd_ne (ne_of e2 h (by intro z; cases z))).trans e2⟩
/-- what the law's loop carries -/
structure LY (CW CM CR : Addr) (T : List (Addr × Str)) (H : Hp) (p lc st sp c la r : Addr) (N b k : Nat) (C ss ls : List Nat) : Prop where
  pn : Pn H p lc N
  st : StoreAt CW CM H st b C k
  sp : SpreadAt CR H sp b ss ls
  c : H c = some (.lst (C.map vN))
  l : H la = some (.lst (ls.map vN))
  r : H r = some (.lst ((bas ss).map vN))
  tb : LamX.Tabs T H
section
variable {CW CM CR : Addr} {T : List (Addr × Str)} {H H' : Hp} {p lc st sp c la r : Addr} {N M b k : Nat} {C ss ls : List Nat}
theorem LY.same (h : LY CW CM CR T H p lc st sp c la r N b k C ss ls) (s : Same H H') : LY CW CM CR T H' p lc st sp c la r N b k C ss ls := ⟨h.pn.same s, h.st.same s, h.sp.same s, s _ _ h.c, s _ _ h.l, s _ _ h.r, tabs_same h.tb s⟩
theorem LY.kp (h : LY CW CM CR T H p lc st sp c la r N b k C ss ls) (hp : Pn H' p lc M) (s : Kp H H') : LY CW CM CR T H' p lc st sp c la r M b k C ss ls := ⟨hp, h.st.kp s, h.sp.kp s, s _ _ h.c rfl, s _ _ h.l rfl, s _ _ h.r rfl, tabs_kp h.tb s⟩
theorem LY.mono (h : LY CW CM CR T H p lc st sp c la r N b k C ss ls) (l : N ≤ M) : LY CW CM CR T H p lc st sp c la r M b k C ss ls := ⟨h.pn.mono l, h.st, h.sp, h.c, h.l, h.r, h.tb⟩
theorem LY.ext (h : LY CW CM CR T H p lc st sp c la r N b k C ss ls) (z : LamX.ExtN H H') (tb : LamX.Tabs T H') : LY CW CM CR T H' p lc st sp c la r N b k C ss ls :=
  ⟨pn_ext h.pn z, h.st.ext z, h.sp.ext z, z _ _ h.c (fun ps q => by cases q), z _ _ h.l (fun ps q => by cases q), z _ _ h.r (fun ps q => by cases q), tb⟩
theorem LY.ins (h : LY CW CM CR T H p lc st sp c la r N b k C ss ls) : ∃ dx m i, H st = some (.ins CW dx (stf m k i)) := by
  obtain ⟨dx, m, i, h1, _⟩ := h.st.at_
  exact ⟨dx, m, i, h1⟩
end
theorem beats_read {K : PySem.W.Frag} {mg : Str → Option Value} {CW CM CR CS C1 CU CL : Addr} {T : List (Addr × Str)} {H : Hp} {p lc st sp c la r : Addr} {N b k w : Nat} {C ss ls : List Nat} {σ : L2.St} {Q : VK} (EU : ErrT K mg CU CL "Unfit" "width") (hU1 : PySem.W.exmOne K (.ref CU) (.ref C1) = some false)
    (h : LY CW CM CR T H p lc st sp c la r N b k C ss ls) (h6 : σ[6]? = some (some (.ref st))) (h10 : σ[10]? = some (some (.ref sp))) (h12 : σ[12]? = some (some (vN w))) (wf : WfR b ss ls) (hw : w ≤ k) (hl : ls.length ≤ 1000) (hs : ss.length ≤ 1000) (uf : ftn w ss (inv b C) = false)
    (kq : ∀ H' q, LamX.ExtN H H' → LY CW CM CR T H' p lc st sp c la r N b k C ss ls → H' q = some (.lst [.str "unfit", vN w]) → Q (.ref q) H') :
    LamX.tLam T (TRef K C1 CU) (fun E => tMethS CW "beats" (sp_beatsX CW CM CR CU) (fun cls d _ H => E cls d H) (tVar 6) (tCons (tVar 10) (tCons (tVar 12) tNil))) σ H Q := by
  refine ⟨h.tb, fun H1 eN T1 post => ?_⟩
  have h1 := h.ext eN T1
  obtain ⟨dx, m, i, hi⟩ := h1.ins
  refine ⟨_, h6, st, dx, _, rfl, hi, rfl, _, h10, _, h12, st, sp, b, C, k, ss, ls, w, rfl, h1.st, h1.sp, wf, hw, hl, hs, fun e => absurd e (by rw [uf]; decide), fun _ H2 d s2 hd ed => ?_⟩
  refine ⟨false, hU1, (fun z => by cases z), fun _ => ⟨true, EU.self, fun _ => ⟨rfl, d, _, rfl, ed, fun q1 hq1 => ?_⟩, (fun z => by cases z)⟩⟩
  have s3 := s2.trans (same_new0 (o := .lst [.str "unfit", vN w]) hq1)
  exact kq _ q1 (eN.trans (LamX.ExtN.of s3)) (h1.same s3) upd_same
theorem touched_read {K : PySem.W.Frag} {mg : Str → Option Value} {CW CM CR CS C1 CU CL : Addr} {T : List (Addr × Str)} {H : Hp} {p lc st sp c la r : Addr} {N b k w : Nat} {C ss ls : List Nat} {σ : L2.St} {Q : VK} (EU : ErrT K mg CU CL "Unfit" "width") (hU1 : PySem.W.exmOne K (.ref CU) (.ref C1) = some false)
    (h : LY CW CM CR T H p lc st sp c la r N b k C ss ls) (h6 : σ[6]? = some (some (.ref st))) (h10 : σ[10]? = some (some (.ref sp))) (h12 : σ[12]? = some (some (vN w))) (wf : WfR b ss ls) (hw : w ≤ k) (hl : ls.length ≤ 1000) (hs : ss.length ≤ 1000) (uf : ftn w ss (inv b C) = false)
    (kq : ∀ H' q, LamX.ExtN H H' → LY CW CM CR T H' p lc st sp c la r N b k C ss ls → H' q = some (.lst [.str "unfit", vN w]) → Q (.ref q) H') :
    LamX.tLam T (TRef K C1 CU) (fun E => tMethS CW "touched" (sp_touchedX CW CM CR CS CU) (fun cls d _ H => E cls d H) (tVar 6) (tCons (tVar 10) (tCons (tVar 12) tNil))) σ H Q := by
  refine ⟨h.tb, fun H1 eN T1 post => ?_⟩
  have h1 := h.ext eN T1
  obtain ⟨dx, m, i, hi⟩ := h1.ins
  refine ⟨_, h6, st, dx, _, rfl, hi, rfl, _, h10, _, h12, st, sp, b, C, k, ss, ls, w, rfl, h1.st, h1.sp, wf, hw, hl, hs, fun e => absurd e (by rw [uf]; decide), fun _ H2 d s2 hd ed => ?_⟩
  refine ⟨false, hU1, (fun z => by cases z), fun _ => ⟨true, EU.self, fun _ => ⟨rfl, d, _, rfl, ed, fun q1 hq1 => ?_⟩, (fun z => by cases z)⟩⟩
  have s3 := s2.trans (same_new0 (o := .lst [.str "unfit", vN w]) hq1)
  exact kq _ q1 (eN.trans (LamX.ExtN.of s3)) (h1.same s3) upd_same
theorem store_read {K : PySem.W.Frag} {mg : Str → Option Value} {CW CM C1 CU CL : Addr} {T : List (Addr × Str)} {H : Hp} {c : Addr} {b k r : Nat} {C R : List Nat} {σ : L2.St} {Q : VK} (E1 : ErrT K mg C1 CL "NotOneToOne" "word")
    (tb : LamX.Tabs T H) (hc : H c = some (.lst (C.map vN))) (h3 : σ[3]? = some (some (vN b))) (h4 : σ[4]? = some (some (.ref c))) (h5 : σ[5]? = some (some (vN k))) (len : C.length = b) (lt : ∀ x ∈ C, x < 2 ^ b) (hb : b ≤ 1000) (hk : k ≤ b) (e : ker C = r :: R)
    (kq : ∀ H' q, LamX.ExtN H H' → LamX.Tabs T H' → H' q = some (.lst [.str "one", vN r]) → Q (.ref q) H') :
    LamX.tLam T (TRef K C1 CU) (fun E => tMakeX CW (sp_StoreX CW CM C1) (fun cls d _ H => E cls d H) (tCons (tMake CM (sp_Map CM) [] E0 (tCons (tVar 3) (tCons (tVar 4) tNil))) (tCons (tVar 5) tNil))) σ H Q := by
  refine ⟨tb, fun H1 eN T1 post => ?_⟩
  have hc1 := eN _ _ hc (fun ps q => by cases q)
  refine ⟨_, h3, _, h4, mk_MapP (cs := C) (.inl hc1) (fun x hx => blen_le.mpr (lt x hx)) (fun H2 m s2 hm a2 => ⟨_, h5, ?_⟩)⟩
  refine mk_StoreX a2 len lt hb hk e (fun H3 d s3 hd ed => ?_)
  refine ⟨true, E1.self, fun _ => ⟨rfl, d, _, rfl, ed, fun q1 hq1 => ?_⟩, (fun z => by cases z)⟩
  have s4 := (s2.trans s3).trans (same_new0 (o := .lst [.str "one", vN r]) hq1)
  exact kq _ q1 (eN.trans (LamX.ExtN.of s4)) (tabs_same T1 s4) upd_same
section
variable {X : Cx}
theorem cr_minN (hc : X.calm = true) : CallR X (.builtin "min") (fun xs H Q => ∃ (a : Addr) (ns : List Nat), xs = [.ref a] ∧ H a = some (.lst (ns.map vN)) ∧ 0 < ns.length ∧ ∀ m, m ∈ ns → (∀ x ∈ ns, m ≤ x) → Q (vN m) H) := by
  intro pins s σ H xs us Q I r h
  obtain ⟨a, ns, rfl, hS, h0, q⟩ := h
  rw [vN_ints] at hS
  refine cr_min hc pins s σ H _ us Q I r ⟨a, ns.map Int.ofNat, rfl, SqL.of hS, by simpa using h0, fun m hm hle => ?_⟩
  obtain ⟨k, hk, rfl⟩ := List.mem_map.mp hm
  refine q k hk fun x hx => ?_
  have := hle (x : Int) (List.mem_map.mpr ⟨x, hx, rfl⟩)
  have e : Int.ofNat k = (k : Int) := rfl
  omega
end
theorem lft_all (w : List Nat) (l : List Nat) : (l.map fun x => decide (vN (lft w x) = L2.V.int 0)).all id = l.all fun x => decide (lft w x = 0) := by
  rw [List.all_map]
  congr 1
  funext x
  show decide (vN (lft w x) = L2.V.int ((0 : Nat) : Int)) = _
  rw [show decide (vN (lft w x) = L2.V.int ((0 : Nat) : Int)) = decide (lft w x = 0) from dec_nat]
theorem nr_int (b w : Nat) (C : List Nat) : (List.range (1 <<< b)).filter (fun x => decide (((img C x : Nat) : Int) < ((1 <<< w : Nat) : Int))) = nr b w C := by
  unfold nr
  congr 1
  funext x
  exact decide_eq_decide.mpr (by omega)
theorem space_eqs {W T : List Nat} (h : ∀ x, Spn W x ↔ Spn T x) : (spn T).length = rk W ∧ rk (W ++ spn T) = (spn T).length := by
  refine ⟨(rk_eq h).symm, rk_eq fun x => ⟨fun z => z.mono fun y hy => ?_, fun z => ((spn_span T x).mpr z).sub fun y hy => List.mem_append_right _ hy⟩⟩
  rcases List.mem_append.mp hy with q | q
  · exact (h y).mp (.of q)
  · exact (spn_span T y).mp (.of q)
/-- the words from 1 on that go to 0 -/
def kws (C : List Nat) (n : Nat) : List Nat := ((List.range n).map fun i => i + 1).filter fun x => decide (img C x = 0)
theorem kws_succ (C : List Nat) (n : Nat) : kws C (n + 1) = if img C (n + 1) = 0 then kws C n ++ [n + 1] else kws C n := by
  unfold kws
  rw [List.range_succ, List.map_append, List.filter_append]
  by_cases h : img C (n + 1) = 0
  · rw [if_pos h]
    show _ ++ List.filter _ [n + 1] = _
    rw [List.filter_cons_of_pos (by simpa using h)]; rfl
  · rw [if_neg h]
    show _ ++ List.filter _ [n + 1] = _
    rw [List.filter_cons_of_neg (by simpa using h)]; simp
theorem kws_mem {C : List Nat} {n x : Nat} : x ∈ kws C n ↔ 0 < x ∧ x ≤ n ∧ img C x = 0 := by
  unfold kws
  rw [List.mem_filter, List.mem_map]
  constructor
  · rintro ⟨⟨i, hi, rfl⟩, h⟩
    have := List.mem_range.mp hi
    exact ⟨by omega, by omega, of_decide_eq_true h⟩
  · rintro ⟨h0, h1, h2⟩
    exact ⟨⟨x - 1, List.mem_range.mpr (by omega), by omega⟩, decide_eq_true h2⟩
theorem kws_len (C : List Nat) (n : Nat) : (kws C n).length ≤ n := Nat.le_trans (List.length_filter_le _ _) (by simp)
end LaneX
set_option Elab.async false
set_option linter.all false
set_option maxRecDepth 100000
set_option maxHeartbeats 4000000
namespace LaneX
open PySem PySem.Spec PyProof.Rows L2
def sp_lawT (K : PySem.W.Frag) (PT : Addr) : Sp := fun vs H Q _ => ∃ (a : Addr) (ns : List Int), vs = [.ref a] ∧ SqL K H a (ns.map V.int) ∧ ns.length ≤ 63 ∧ H PT = some (.tbl #[]) ∧ ∀ H', Q (.bl true) H'
section
variable {P : Program} {w : World} {K : PySem.W.Frag} {mg : Str → Option Value} {base : Heap} {f : Addr} {fd : FuncData} {CS CR CM CW C1 CU CL c PT : Addr} (T : Bt mg) (TS : SpaceT K mg CS) (TR : SpreadT K mg CR) (TW : StoreT K mg CW) (TM : MapT K mg CM)
include T TS TR TM TW
theorem ok_law (F : FnP K "law" "law" s_law f fd) (D_beginL : Dn P w K mg base 1 "_law_begin" ["_law_script"] (sp_begin K)) (D_drawL : Dn P w K mg base 1 "_law_draw" ["_law_pen", "_law_span"] sp_draw) (D_columnsL : Dn P w K mg base 3 "_law_columns" ["_law_pen", "_law_bits"] sp_columns) (K_Map : Kn P w K mg base 4 CM "Map" ["self", "goal", "columns"] (sp_Map CM)) (K_Spread : Kn P w K mg base 4 CR "Spread" ["self", "bits", "slots", "lanes"] (sp_Spread CR)) (K_StoreX : Kx P w K mg base 8 CW "Store" ["self", "change", "banks"] (sp_StoreX CW CM C1))
    (D_banks_rightL : Dn P w K mg base 10 "_law_banks_right" ["_law_pen", "_law_store", "_law_columns_here", "_law_banks"] (sp_banks CW CM)) (D_spread_wordsL : Dn P w K mg base 4 "_law_spread_words" ["_law_pen", "_law_bits", "_law_slots", "_law_lanes"] sp_spread_words) (D_basisL : Dn P w K mg base 2 "_law_basis" ["_law_words"] sp_basis) (D_imageL : Dn P w K mg base 1 "_law_image" ["_law_columns_here", "_law_word_here"] sp_image) (D_leftL : Dn P w K mg base 1 "_law_left" ["_law_rows", "_law_word_here"] sp_left) (D_truthL : Dn P w K mg base 1 "_law_truth" ["_law_value", "_law_due"] sp_truth)
    (M_Store_fits : Mn P w K mg base 4 CW "fits" ["self", "spread", "width"] (sp_fits CW CM CR)) (M_Store_touched : Mx P w K mg base 6 CW "touched" ["self", "spread", "width"] (sp_touchedX CW CM CR CS CU)) (M_Store_beats : Mx P w K mg base 8 CW "beats" ["self", "spread", "width"] (sp_beatsX CW CM CR CU)) (D_is_spaceL : Dn P w K mg base 4 "_law_is_space" ["_law_value", "_law_bits", "_law_words"] (sp_is_space CS)) (D_beats_playedL : Dn P w K mg base 3 "_law_beats_played" ["_law_pen", "_law_lanes", "_law_columns_here", "_law_near", "_law_width", "_law_banks"] sp_played)
    (RFD : RefD K mg) (E1 : ErrT K mg C1 CL "NotOneToOne" "word") (EU : ErrT K mg CU CL "Unfit" "width") (glL : mg "LaneError" = some (.ref CL)) (hU1 : PySem.W.exmOne K (.ref CU) (.ref C1) = some false) (TB : LamX.TabB base mg c PT) (hcode : fd.code = .ref c) : FnOk P w K mg base CX0 12 f fd ["_law_script"] (sp_lawT K PT) := by
  have nd := sc_law.nd
  refine fnokC F sc_law (fun vs H Q E h => ?_) (fun A outer s H vs Q E hr h => ?_)
  · obtain ⟨a, ns, rfl, _⟩ := h
    rfl
  · obtain ⟨a, ns, rfl, hS, hl, tb, k⟩ := h
    have tb : LamX.Tabs [(PT, "law.<locals>." ++ "<lambda>")] H := fun p hp => by
      rw [List.mem_singleton.mp hp]
      exact LamX.TabS.nil tb
    refine ⟨_, (pss_cons (ps_set (i := 1) nd rfl (Or.inl rfl) (pe_d D_beginL hr (pa_cons (pv 0) pa_nil)))
  (pss_cons (ps_for PassesOwn.never rfl (pi_range1 (by rfl) T.range (pa_cons (pe_op on_add pe_int (pe_callB (call_min2 rfl) (by rfl) T.min (by decide +kernel) (pa_cons pe_int (pa_cons (pe_callB call_len_seq (by rfl) T.len PySem.boot_len (pa_cons (pv 0) pa_nil)) pa_nil)))) pa_nil)) (pg_name (i := 2) nd rfl (Or.inl rfl))
    (pss_cons (ps_set (i := 3) nd rfl (Or.inr rfl) (pe_d D_drawL hr (pa_cons (pv 1) (pa_cons pe_int pa_nil))))
    (pss_cons (ps_asg (pe_tup (pa_cons (pe_d D_columnsL hr (pa_cons (pv 1) (pa_cons (pv 3) pa_nil))) (pa_cons (pe_d D_drawL hr (pa_cons (pv 1) (pa_cons (pe_op on_add (pv 3) pe_int) pa_nil))) pa_nil))) (pg_tup (by rfl) (pgs_cons (pg_name (i := 4) nd rfl (Or.inr rfl)) (pgs_cons (pg_name (i := 5) nd rfl (Or.inr rfl)) pgs_nil))))
    (pss_cons (ps_set (i := 6) nd rfl (Or.inr rfl) (pe_k (K_StoreX.quiet store_quiet) hr (pa_cons (pe_k K_Map hr (pa_cons (pv 3) (pa_cons (pv 4) pa_nil))) (pa_cons (pv 5) pa_nil))))
    (pss_cons (ps_if (pt_not (pt_val (pe_d D_banks_rightL hr (pa_cons (pv 1) (pa_cons (pv 6) (pa_cons (pv 4) (pa_cons (pv 5) pa_nil)))))))
      (pss_one (ps_ret pe_bl))
      pss_nil)
    (pss_cons (ps_asg (pe_d D_spread_wordsL hr (pa_cons (pv 1) (pa_cons (pv 3) (pa_cons (pe_d D_drawL hr (pa_cons (pv 1) (pa_cons pe_int pa_nil))) (pa_cons (pe_d D_drawL hr (pa_cons (pv 1) (pa_cons pe_int pa_nil))) pa_nil))))) (pg_tup (by rfl) (pgs_cons (pg_name (i := 7) nd rfl (Or.inl rfl)) (pgs_cons (pg_name (i := 8) nd rfl (Or.inl rfl)) pgs_nil))))
    (pss_cons (ps_if (pt_cmpR op_gt (pe_callB call_lenQ (by rfl) T.len PySem.boot_len (pa_cons (pv 8) pa_nil)) pe_int (nomark _))
      (pss_one ps_continue)
      pss_nil)
    (pss_cons (ps_asg (pe_tup (pa_cons (pe_lst pa_nil) (pa_cons (pe_k K_Spread hr (pa_cons (pv 3) (pa_cons (pv 7) (pa_cons (pv 8) pa_nil)))) (pa_cons (pe_d D_basisL hr (pa_cons (pv 7) pa_nil)) pa_nil)))) (pg_tup (by rfl) (pgs_cons (pg_name (i := 9) nd rfl (Or.inl rfl)) (pgs_cons (pg_name (i := 10) nd rfl (Or.inr rfl)) (pgs_cons (pg_name (i := 11) nd rfl (Or.inr rfl)) pgs_nil)))))
    (pss_cons (ps_for PassesOwn.never rfl (pi_range1 (by rfl) T.range (pa_cons (pe_op on_add (pv 5) pe_int) pa_nil)) (pg_name (i := 12) nd rfl (Or.inr rfl))
      (pss_cons (ps_setLc (i := 9) (own := [("_law_entry", 17)]) (g := gName 17) (by rfl) nd rfl rfl (sw_true rfl rfl rfl (by decide +kernel)) (pi_range1 (by rfl) T.range (pa_cons (pe_op on_shl pe_int (pv 3)) pa_nil)) (blkOk_by (own := [("_law_entry", 17)]) (N := ["_law_script", "_law_pen", "_law_turn", "_law_bits", "_law_columns_here", "_law_banks", "_law_store", "_law_slots", "_law_lanes", "_law_near", "_law_spread", "_law_rows", "_law_width", "_law_fits", "_law_low", "_law_at", "_law_due", "_law_entry", "_law_word_here"]) (sc := defScope s_law) (by decide +kernel)) (fun _ _ _ _ _ => (pg_name (i := 17) nd rfl (Or.inl rfl))) (fun _ _ _ _ _ => (pts_one (pt_cmpR op_lt (pe_d D_imageL hr (pa_cons (pv 4) (pa_cons (pv 17) pa_nil))) (pe_op on_shl pe_int (pv 12)) (nomark _)))) (fun _ _ _ _ _ => (pv 17)))
      (pss_cons (ps_set (i := 13) nd rfl (Or.inl rfl) (pe_callB (cr_all rfl) (by rfl) T.all (by decide +kernel) (pa_cons (pe_lc (own := [("_law_entry", 17)]) (g := gName 17) (by rfl) nd (pi_seq (pv 9)) (blkOk_by (own := [("_law_entry", 17)]) (N := ["_law_script", "_law_pen", "_law_turn", "_law_bits", "_law_columns_here", "_law_banks", "_law_store", "_law_slots", "_law_lanes", "_law_near", "_law_spread", "_law_rows", "_law_width", "_law_fits", "_law_low", "_law_at", "_law_due", "_law_entry", "_law_word_here"]) (sc := defScope s_law) (by decide +kernel)) (fun _ _ _ _ _ => (pg_name (i := 17) nd rfl (Or.inl rfl))) (fun _ _ _ _ _ => pts_nil) (fun _ _ _ _ _ => (pe_cmpR op_eq (pe_d D_leftL hr (pa_cons (pv 11) (pa_cons (pv 17) pa_nil))) pe_int (nomark _)))) pa_nil)))
      (pss_cons (ps_if (pt_not (pt_val (pe_d D_truthL hr (pa_cons (pe_m (pv 6) M_Store_fits hr (pa_cons (pv 10) (pa_cons (pv 12) pa_nil))) (pa_cons (pv 13) pa_nil)))))
        (pss_one (ps_ret pe_bl))
        pss_nil)
      (pss_cons (ps_if (pt_not (pt_val (pv 13)))
        (pss_cons (ps_if (pt_cmpR (op_neD hr.units) (pe_ref RFD T E1 EU glL TB hcode (List.mem_singleton.mpr rfl) (fun p hp _ => by rw [List.mem_singleton.mp hp]) hr (LamX.lamS_by (sc := defScope s_law) (by decide +kernel)) rfl (fun _ _ _ _ _ => rfl) (fun A outer s H E f c' hr' => (pe_mxS (pv 6) M_Store_beats (takes_of rfl rfl rfl rfl) hr' (pa_cons (pv 10) (pa_cons (pv 12) pa_nil))))) (pe_lst (pa_cons pe_str (pa_cons (pv 12) pa_nil))) (nomark _))
          (pss_one (ps_ret pe_bl))
          pss_nil)
        (pss_cons (ps_if (pt_cmpR (op_neD hr.units) (pe_ref RFD T E1 EU glL TB hcode (List.mem_singleton.mpr rfl) (fun p hp _ => by rw [List.mem_singleton.mp hp]) hr (LamX.lamS_by (sc := defScope s_law) (by decide +kernel)) rfl (fun _ _ _ _ _ => rfl) (fun A outer s H E f c' hr' => (pe_mxS (pv 6) M_Store_touched (takes_of rfl rfl rfl rfl) hr' (pa_cons (pv 10) (pa_cons (pv 12) pa_nil))))) (pe_lst (pa_cons pe_str (pa_cons (pv 12) pa_nil))) (nomark _))
          (pss_one (ps_ret pe_bl))
          pss_nil)
        (pss_one ps_continue)))
        pss_nil)
      (pss_cons (ps_set (i := 14) nd rfl (Or.inl rfl) (pe_op on_sub (pe_callB call_lenQ (by rfl) T.len PySem.boot_len (pa_cons (pv 8) pa_nil)) (pe_callB (call_min2 rfl) (by rfl) T.min (by decide +kernel) (pa_cons (pe_callTy call_intQ (by rfl) T.int (by decide +kernel) (pa_cons (pv 12) pa_nil)) (pa_cons (pe_callB call_lenQ (by rfl) T.len PySem.boot_len (pa_cons (pv 8) pa_nil)) pa_nil)))))
      (pss_cons (ps_if (pt_not (pt_val (pe_d D_is_spaceL hr (pa_cons (pe_m (pv 6) (M_Store_touched.quiet touched_quiet) hr (pa_cons (pv 10) (pa_cons (pv 12) pa_nil))) (pa_cons (pv 3) (pa_cons (pe_op op_cat (pe_slice sl_list (pv 8) po_none (po_some (pv 14))) (pv 9)) pa_nil))))))
        (pss_one (ps_ret pe_bl))
        pss_nil)
      (pss_one (ps_if (pt_cmpR op_ne (pe_m (pv 6) (M_Store_beats.quiet beats_quiet) hr (pa_cons (pv 10) (pa_cons (pv 12) pa_nil))) (pe_d D_beats_playedL hr (pa_cons (pv 1) (pa_cons (pv 8) (pa_cons (pv 4) (pa_cons (pv 9) (pa_cons (pv 12) (pa_cons (pv 5) pa_nil))))))) (nomark _))
        (pss_one (ps_ret pe_bl))
        pss_nil)))))))))
    (pss_one (ps_if (pt_cmpR op_gt (pv 3) pe_int (nomark _))
      (pss_cons (ps_par (i := 15) (j := 9) (by rfl) nd rfl rfl (by decide) rfl rfl (pa_cons (pe_d D_drawL hr (pa_cons (pv 1) (pa_cons (pv 3) pa_nil))) (pa_cons (pe_d D_drawL hr (pa_cons (pv 1) (pa_cons (pv 3) pa_nil))) pa_nil)) (by rfl))
      (pss_cons (ps_mid (ps_asg (pe_ifExp (pt_cmpR op_ne (pv 15) (pv 9) (nomark _)) (pe_ix ix_q (pv 4) (pv 9) (fun _ _ => rfl)) pe_int) (pg_sub (pv 4) (pv 15) set_list)))
      (pss_cons (ps_set (i := 16) nd rfl (Or.inl rfl) (pe_callB (cr_minN rfl) (by rfl) T.min (by decide +kernel) (pa_cons (pe_lc (own := [("_law_word_here", 18)]) (g := gName 18) (by rfl) nd (pi_range2 (by rfl) T.range (pa_cons pe_int (pa_cons (pe_op on_shl pe_int (pv 3)) pa_nil))) (blkOk_by (own := [("_law_word_here", 18)]) (N := ["_law_script", "_law_pen", "_law_turn", "_law_bits", "_law_columns_here", "_law_banks", "_law_store", "_law_slots", "_law_lanes", "_law_near", "_law_spread", "_law_rows", "_law_width", "_law_fits", "_law_low", "_law_at", "_law_due", "_law_entry", "_law_word_here"]) (sc := defScope s_law) (by decide +kernel)) (fun _ _ _ _ _ => (pg_name (i := 18) nd rfl (Or.inl rfl))) (fun _ _ _ _ _ => (pts_one (pt_cmpR op_eq (pe_d D_imageL hr (pa_cons (pv 4) (pa_cons (pv 18) pa_nil))) pe_int (nomark _)))) (fun _ _ _ _ _ => (pv 18))) pa_nil)))
      (pss_one (ps_if (pt_cmpR (op_neD hr.units) (pe_ref RFD T E1 EU glL TB hcode (List.mem_singleton.mpr rfl) (fun p hp _ => by rw [List.mem_singleton.mp hp]) hr (LamX.lamS_by (sc := defScope s_law) (by decide +kernel)) rfl (fun _ _ _ _ _ => rfl) (fun A outer s H E f c' hr' => (pe_kX K_StoreX (takes_of rfl rfl rfl rfl) hr' (pa_cons (pe_k K_Map hr' (pa_cons (pv 3) (pa_cons (pv 4) pa_nil))) (pa_cons (pv 5) pa_nil))))) (pe_lst (pa_cons pe_str (pa_cons (pv 16) pa_nil))) (nomark _))
        (pss_one (ps_ret pe_bl))
        pss_nil)))))
      pss_nil)))))))))))
  (pss_one (ps_ret pe_bl)))), ?_⟩
    refine ⟨_, rfl, a, ns, rfl, hS, fun H1 p lc z1 hpn hp1 => ?_⟩
    have em : (if ((ns.map V.int).length : Int) < 3 then ((ns.map V.int).length : Int) else 3) = ((min 3 ns.length : Nat) : Int) := by rw [List.length_map]; split <;> omega
    refine ⟨_, rfl, a, _, rfl, .inl (Same.seq z1 hS), _, _, rfl, ?_⟩
    rw [em]
    have tb1 := tabs_same tb z1
    refine ⟨2, _, rfl, rfl, _, rfl, (by omega), (by omega), for_range (n := 2 + min 3 ns.length) (fun i σ H2 => ∃ v2 v3 v4 v5 v6 v7 v8 v9 v10 v11 v12 v13 v14 v15 v16, σ = [some (.ref a), some (.ref p), v2, v3, v4, v5, v6, v7, v8, v9, v10, v11, v12, v13, v14, v15, v16, none, none] ∧ Pn H2 p lc (20000000 * i) ∧ LamX.Tabs [(PT, "law.<locals>." ++ "<lambda>")] H2) ⟨none, none, none, none, none, none, none, none, none, none, none, none, none, none, none, rfl, hp1, tb1⟩ ?_ ?_⟩
    · rintro i σ Hi hi ⟨v2, v3, v4, v5, v6, v7, v8, v9, v10, v11, v12, v13, v14, v15, v16, rfl, hpi, tbi⟩
      have i5 : i ≤ 5 := by omega
      refine ⟨_, rfl, p, lc, _, 7, rfl, hpi, (by decide), (by decide), (by show 20000000 * i + 1 ≤ 1099511627776; omega), fun H2 b hb hp2 kp2 => ?_⟩
      have sm := small6 (show b ≤ 6 by omega)
      refine ⟨_, rfl, _, rfl, p, lc, _, b, rfl, hp2, (by omega), (by show 20000000 * i + 1 + 100000 ≤ 1099511627776; omega), fun H3 q4 C mC hq4 e3 hp3 kp3 => ?_⟩
      refine ⟨_, rfl, _, rfl, _, _, rfl, rfl, p, lc, _, b + 1, rfl, hp3, (by omega), (by omega), (by show 20000000 * i + 1 + 100000 + 1 ≤ 1099511627776; omega), fun H4 bk hbk hp4 kp4 => ⟨(by show 2 ≤ sizeLine; decide), fun y hy => ⟨y, _, rfl, SqT.of upd_same, rfl, _, _, rfl, _, _, rfl, rfl, ?_⟩⟩⟩
      have s5 := same_new0 (o := .tup [.ref q4, vN bk]) hy
      have hq0 : Hi q4 = none := kp2.free _ hq4
      have nep := hpi.ne hq0
      have k5 := ((kp2.trans kp3).trans kp4).trans (Kp.of s5)
      have hp5 := hp4.same s5
      have e5 := s5 _ _ (kp4 _ _ e3 rfl)
      generalize upd H4 y _ = H5 at *
      have lC := mC.len
      refine ⟨_, rfl, _, rfl, mk_MapP (cs := C) (.inl e5) (mix_blen mC) (fun H6 m6 s6 hm6 a6 => ⟨_, rfl, mk_StoreP a6 mC (by omega) (by omega) (fun H7 st s7 hst a7 => ?_)⟩)⟩
      have s57 := s6.trans s7
      refine ⟨_, rfl, _, rfl, _, rfl, _, rfl, p, lc, st, q4, _, b, C, bk, rfl, hp5.same s57, a7, .inl (s57 _ _ e5), (by omega), (by show 20000000 * i + 1 + 100000 + 1 + 10000 ≤ 1099511627776; omega), fun H8 hp8 kp8 => ⟨_, rfl, itf rfl ?_⟩⟩
      refine ⟨_, rfl, _, rfl, _, rfl, p, lc, _, 4, rfl, hp8, (by decide), (by decide), (by show 20000000 * i + 1 + 100000 + 1 + 10000 + 1 ≤ 1099511627776; omega), fun H9 m1 hm1 hp9 kp9 => ?_⟩
      refine ⟨_, rfl, p, lc, _, 4, rfl, hp9, (by decide), (by decide), (by show 20000000 * i + 1 + 100000 + 1 + 10000 + 1 + 1 ≤ 1099511627776; omega), fun H10 m2 hm2 hp10 kp10 => ?_⟩
      refine ⟨p, lc, _, b, m1, m2, rfl, hp10, (by omega), (by omega), (by omega), (by show 20000000 * i + 1 + 100000 + 1 + 10000 + 1 + 1 + 7000000 ≤ 1099511627776; omega), fun H11 tq sa la ss ls lss lls hss hls hrk eq esa ela hp11 kp11 => ⟨tq, _, rfl, SqT.of eq, rfl, _, _, rfl, _, _, rfl, rfl, ?_⟩⟩
      have k11 := (((k5.trans (Kp.of s57)).trans kp8).trans kp9).trans (kp10.trans kp11)
      have k711 := ((kp8.trans kp9).trans kp10).trans kp11
      have tb11 := tabs_kp tbi k11
      have e11 : H11 q4 = some (.lst (C.map vN)) := k711 _ _ (s57 _ _ e5) rfl
      have a11 := a7.kp k711
      refine ⟨_, rfl, la, _, rfl, .inl ela, _, _, rfl, rfl, _, rfl, br (fun _ => ⟨_, _, _, _, _, _, _, _, _, _, _, _, _, _, _, rfl, hp11.mono (by omega), tb11⟩) (fun z6 => ?_)⟩
      have l6 : ls.length ≤ 6 := by
        have z6 := of_decide_eq_false z6
        rw [List.length_map] at z6
        omega
      have wf : WfR b ss ls := ⟨by omega, fun x hx => blen_le.mpr (hss x hx), fun x hx => blen_le.mpr (hls x hx), by omega, by omega⟩
      refine ⟨(by show 0 ≤ sizeLine; decide), fun l0 hl0 => ?_⟩
      have s12 := same_new0 (o := .lst []) hl0
      refine ⟨_, rfl, _, rfl, _, rfl, mk_SpreadP (ss := ss) (ls := ls) (.inl (s12 _ _ esa)) (.inl (s12 _ _ ela)) wf hrk (fun H13 sp s13 hsp a13 => ⟨_, rfl, sa, ss, rfl, .inl (s13 _ _ (s12 _ _ esa)), (by omega), fun H14 r14 s14 hr14 e14 => ⟨(by show 3 ≤ sizeLine; decide), fun y hy => ⟨y, _, rfl, SqT.of upd_same, rfl, _, _, rfl, _, _, rfl, _, _, rfl, rfl, ?_⟩⟩⟩)⟩
      have s15 := same_new0 (o := .tup [.ref l0, .ref sp, .ref r14]) hy
      have s1115 := ((s12.trans s13).trans s14).trans s15
      have hX : LY CW CM CR [(PT, "law.<locals>." ++ "<lambda>")] _ p lc st sp q4 la r14 (20000000 * i + 8000000) b bk C ss ls := ⟨(hp11.same s1115).mono (by omega), a11.same s1115, a13.same (s14.trans s15), s1115 _ _ e11, s1115 _ _ ela, s15 _ _ e14, tabs_same tb11 s1115⟩
      generalize upd H14 y _ = H15 at *
      have e1 : ∀ wi : Nat, (if ((ls.length : Nat) : Int) < (wi : Int) then ((ls.length : Nat) : Int) else (wi : Int)) = ((min wi ls.length : Nat) : Int) := fun wi => by split <;> omega
      refine ⟨_, rfl, bk, 1, rfl, rfl, _, rfl, (by omega), (by omega), for_range (n := bk + 1) (fun wi σ H' => ∃ v9 v12 v13 v14 v15 v16, σ = [some (.ref a), some (.ref p), some (.int (0 + (i : Int))), some (vN b), some (.ref q4), some (vN bk), some (.ref st), some (.ref sa), some (.ref la), v9, some (.ref sp), some (.ref r14), v12, v13, v14, v15, v16, none, none] ∧ LY CW CM CR [(PT, "law.<locals>." ++ "<lambda>")] H' p lc st sp q4 la r14 (20000000 * i + 8000000 + 1000 * wi) b bk C ss ls) ⟨_, _, _, _, _, _, rfl, hX⟩ ?_ ?_⟩
      · rintro wi σ H16 hwi ⟨v9, v12, v13, v14, v15, v16, rfl, X16⟩
        rw [show (0 : Int) + (wi : Int) = (wi : Int) by omega]
        obtain ⟨dx, m, i0, hins⟩ := X16.ins
        have wk : wi ≤ bk := by omega
        have wb : wi ≤ b := by omega
        refine ⟨_, rfl, 1, b, rfl, rfl, shl_ok1 (by rw [blen_one]; decide) (by omega), _, rfl, rng_lo _, rng_hi sm, lc_pureR (n := 1 <<< b) (fun x => decide (((img C x : Nat) : Int) < ((1 <<< wi : Nat) : Int))) vN (by omega) (fun x H' hx s => ?_) (fun D9 H17 hD9 s17 e17 => ?_)⟩
        · intro Z Nx z1 z2
          refine ⟨rfl, _, rfl, _, rfl, q4, C, x, rfl, .inl (s _ _ X16.c), (by omega), _, rfl, 1, wi, rfl, rfl, shl_ok1 (by rw [blen_one]; decide) (by omega), _, _, rfl, rfl, _, rfl, br (fun q => ?_) (fun q => ?_)⟩
          · exact ⟨_, rfl, z1 q _ (Same.refl _)⟩
          · exact z2 q _ (Same.refl _)
        rw [nr_int] at e17
        have X17 := X16.same s17
        have nl : (nr b wi C).length ≤ 64 := Nat.le_trans (nr_len b wi C) sm
        refine ⟨_, rfl, lc_pure (nr b wi C) vN (fun _ => true) (fun x => .bl (decide (vN (lft (bas ss) x) = .int 0))) (.inl e17) (by omega) (fun x H' hx s => ?_) (fun D18 H18 hD18 s18 e18 => ?_)⟩
        · intro Z Nx z1 z2
          exact ⟨rfl, _, rfl, _, rfl, r14, bas ss, x, rfl, .inl (s _ _ X17.r), (bas_lws ss).nz, rfl, z1 rfl _ (Same.refl _)⟩
        rw [filt_true] at e18
        refine ⟨D18, (nr b wi C).map (fun x => decide (vN (lft (bas ss) x) = V.int 0)), rfl, SqL.of (by rw [e18, List.map_map]; rfl), ?_⟩
        rw [lft_all, ftn_iff mC wb]
        have X18 := X17.same s18
        have e9 := s18 _ _ e17
        refine ⟨_, rfl, st, dx, _, rfl, (s17.trans s18) _ _ hins, rfl, _, rfl, _, rfl, st, sp, b, C, bk, ss, ls, wi, rfl, X18.st, X18.sp, wf, wk, (by omega), (by omega), fun H19 s19 => ⟨_, rfl, _, rfl, _, rfl, itf rfl ?_⟩⟩
        have X19 := X18.same s19
        have e19 := s19 _ _ e9
        have hi19 := s19 _ _ ((s17.trans s18) _ _ hins)
        refine ⟨_, rfl, _, rfl, ?_⟩
        cases uf : ftn wi ss (inv b C) with
        | false =>
          refine itt rfl ?_
          refine beats_read (CS := CS) EU hU1 X19 rfl rfl rfl wf wk (by omega) (by omega) uf (fun H20 q20 n20 X20 e20 => ?_)
          refine ⟨_, rfl, (by show 2 ≤ sizeLine; decide), fun z hz => ne_two (s := "unfit") (upd_new hz e20) upd_same (by decide +kernel) ⟨_, rfl, itf rfl ?_⟩⟩
          have X21 := X20.same (same_new0 (o := .lst [.str "unfit", vN wi]) hz)
          generalize upd H20 z _ = H21 at *
          refine touched_read EU hU1 X21 rfl rfl rfl wf wk (by omega) (by omega) uf (fun H22 q22 n22 X22 e22 => ?_)
          refine ⟨_, rfl, (by show 2 ≤ sizeLine; decide), fun z2 hz2 => ne_two (s := "unfit") (upd_new hz2 e22) upd_same (by decide +kernel) ⟨_, rfl, itf rfl ?_⟩⟩
          exact ⟨_, _, _, _, _, _, rfl, (X22.same (same_new0 hz2)).mono (by omega)⟩
        | true =>
          refine itf rfl ?_
          refine ⟨_, rfl, la, _, rfl, .inl X19.l, _, rfl, wi, rfl, _, rfl, la, _, rfl, .inl X19.l, _, _, rfl, ?_⟩
          rw [List.length_map, e1]
          refine ⟨ls.length, min wi ls.length, rfl, rfl, (by omega), ?_⟩
          rw [show ls.length - min wi ls.length = lwl ls wi from rfl]
          have lwle : lwl ls wi ≤ ls.length := by unfold lwl; omega
          refine ⟨_, rfl, st, dx, _, rfl, hi19, rfl, _, rfl, _, rfl, st, sp, b, C, bk, ss, ls, wi, rfl, X19.st, X19.sp, wf, wk, (by omega), (by omega), uf, fun H20 t20 s20 ht20 a20 => ?_⟩
          have X20 := X19.same s20
          refine ⟨_, rfl, _, rfl, _, rfl, _, rfl, la, _, rfl, SqL.of X20.l, fun q21 hq21 => ?_⟩
          rw [cut_take _ lwle]
          have s21 := same_new0 (o := .lst ((ls.take (lwl ls wi)).map vN)) hq21
          have e21 : upd H20 q21 (.lst ((ls.take (lwl ls wi)).map vN)) q21 = some (.lst ((ls.take (lwl ls wi)).map vN)) := upd_same
          generalize upd H20 q21 _ = H21 at *
          have s1921 := s20.trans s21
          refine ⟨_, rfl, q21, D9, _, _, rfl, rfl, e21, s1921 _ _ e19, (by rw [List.length_map, List.length_map, List.length_take, sizeLine_eq]; omega), fun u hu => ?_⟩
          have s22 := s1921.trans (same_new0 (o := .lst ((ls.take (lwl ls wi)).map vN ++ (nr b wi C).map vN)) hu)
          obtain ⟨q1, q2⟩ := space_eqs (W := ls.take (lwl ls wi) ++ nr b wi C) (T := tchW b C ls wi) (fun x => span_app2 (fun _ => Iff.rfl) fun z => nr_span mC wb z)
          refine ⟨t20, u, b, spn (tchW b C ls wi), ls.take (lwl ls wi) ++ nr b wi C, rfl, a20.same (s21.trans (same_new0 hu)), .inl (by rw [upd_same, List.map_append]), (by rw [List.length_append, List.length_take]; omega), (by rw [q1]; exact Nat.le_trans (rk_len _) (by rw [List.length_append, List.length_take]; omega)), q1, q2, fun H22 s23 => ⟨_, rfl, itf rfl ?_⟩⟩
          have s1922 := s22.trans s23
          have X22 := X19.same s1922
          refine ⟨_, rfl, st, dx, _, rfl, s1922 _ _ hi19, rfl, _, rfl, _, rfl, st, sp, b, C, bk, ss, ls, wi, rfl, X22.st, X22.sp, wf, wk, (by omega), (by omega), uf, fun H23 s24 => ?_⟩
          have X23 := X22.same s24
          refine ⟨_, rfl, _, rfl, _, rfl, _, rfl, _, rfl, _, rfl, p, lc, la, q4, D9, _, b, C, ls, bk, wi, rfl, X23.pn, .inl X23.l, .inl X23.c, .inl (s24 _ _ (s1922 _ _ e19)), mC, (by omega), wk, (by omega), l6, hls, (by show 20000000 * i + 8000000 + 1000 * wi + 1000 ≤ 1099511627776; omega), fun H24 hp24 kp24 => ⟨rfl, _, rfl, itf (by simp [tchW]) ?_⟩⟩
          exact ⟨_, _, _, _, _, _, rfl, (X23.kp hp24 kp24).mono (by omega)⟩
      · rintro σ H16 ⟨v9, v12, v13, v14, v15, v16, rfl, X16⟩
        refine ⟨_, rfl, _, _, rfl, rfl, _, rfl, br (fun z => ?_) (fun _ => ⟨_, _, _, _, _, _, _, _, _, _, _, _, _, _, _, rfl, X16.pn.mono (by omega), X16.tb⟩)⟩
        have b1 : 1 < b := by have := of_decide_eq_true z; omega
        have n16 : 20000000 * i + 8000000 + 1000 * (bk + 1) + 2 ≤ 1099511627776 := by omega
        refine ⟨_, rfl, _, rfl, p, lc, _, b, rfl, X16.pn, (by omega), (by omega), (by show 20000000 * i + 8000000 + 1000 * (bk + 1) + 1 ≤ 1099511627776; omega), fun H17 x hx hp17 kp17 => ?_⟩
        refine ⟨_, rfl, _, rfl, p, lc, _, b, rfl, hp17, (by omega), (by omega), n16, fun H18 y hy hp18 kp18 => ⟨_, _, rfl, ?_⟩⟩
        have X18 := (X16.kp hp17 kp17).kp hp18 kp18
        have xl : x < C.length := by omega
        have yl : y < C.length := by omega
        obtain ⟨x0, p0, pl, pz⟩ := lame_ker lC hx hy
        have ltc : ∀ z ∈ C.set x (if x ≠ y then C.getD y 0 else 0), z < 2 ^ b := fun z hz => by
          rcases List.mem_or_eq_of_mem_set hz with q | q
          · exact mC.lt z q
          · rw [q]
            split
            · rw [List.getD_eq_getElem?_getD, List.getElem?_eq_getElem yl]
              exact mC.lt _ (List.getElem_mem yl)
            · exact Nat.two_pow_pos b
        have len : (C.set x (if x ≠ y then C.getD y 0 else 0)).length = b := by rw [List.length_set, lC]
        generalize hC' : C.set x (if x ≠ y then C.getD y 0 else 0) = C' at *
        refine ⟨fun σ' H' => σ' = [some (.ref a), some (.ref p), some (.int (0 + (i : Int))), some (vN b), some (.ref q4), some (vN bk), some (.ref st), some (.ref sa), some (.ref la), some (vN y), some (.ref sp), some (.ref r14), v12, v13, v14, some (vN x), v16, none, none] ∧ H' = upd H18 q4 (.lst (C'.map vN)), ?_, ?_⟩
        · refine ⟨_, rfl, _, rfl, rfl, _, rfl, br (fun z => ?_) (fun z => ?_)⟩
          · have ne : x ≠ y := fun e => by rw [e] at z; simp at z
            refine ⟨_, rfl, _, rfl, q4, C.map vN, y, vN (C.getD y 0), rfl, rfl, .inl X18.c, getD_get yl, _, rfl, _, rfl, q4, C.map vN, _, x, rfl, rfl, X18.c, (by rw [List.length_map]; exact ix_okN xl), rfl, ?_⟩
            rw [← hC', if_pos ne, List.map_set]
          · have ne : ¬ x ≠ y := fun e => by
              have z := z
              rw [dec_nat, decide_eq_false e] at z
              cases z
            refine ⟨_, rfl, _, rfl, q4, C.map vN, _, x, rfl, rfl, X18.c, (by rw [List.length_map]; exact ix_okN xl), rfl, ?_⟩
            rw [← hC', if_neg ne, List.map_set]
            rfl
        rintro σ' H' ⟨rfl, rfl⟩
        have pn19 : Pn (upd H18 q4 (.lst (C'.map vN))) p lc _ := X18.pn.put nep
        have tb19 := tabs_put (ys := C'.map vN) X18.tb X18.c
        have e19 : upd H18 q4 (.lst (C'.map vN)) q4 = some (.lst (C'.map vN)) := upd_same
        generalize upd H18 q4 (.lst (C'.map vN)) = H19 at *
        have en : (((1 <<< b : Nat) : Int) - 1).toNat = 2 ^ b - 1 := by rw [Nat.one_shiftLeft]; omega
        have b64 : 2 ^ b ≤ 64 := by rw [← Nat.one_shiftLeft]; exact sm
        refine ⟨_, rfl, 1, b, rfl, rfl, shl_ok1 (by rw [blen_one]; decide) (by omega), 1, _, rfl, ⟨by decide, by decide, rng_lo _, rng_hi sm⟩, ?_⟩
        rw [en]
        refine fun D hD => lc_range (fun j Hj => Same H19 Hj ∧ Hj D = some (.lst ((kws C' j).map vN))) ⟨same_new0 hD, upd_same⟩ (fun j Hj hj hP => ?_) (fun H20 hP => ?_)
        · obtain ⟨sj, ej⟩ := hP
          rw [show (1 : Int) + (j : Int) = ((j + 1 : Nat) : Int) by omega]
          refine ⟨rfl, _, rfl, _, rfl, q4, C', j + 1, rfl, .inl (sj _ _ e19), (by omega), rfl, _, rfl, br (fun z => ?_) (fun z => ?_)⟩
          · have z0 : img C' (j + 1) = 0 := by
              rw [show decide (vN (img C' (j + 1)) = V.int 0) = decide (img C' (j + 1) = 0) from dec_nat (b := 0)] at z
              exact of_decide_eq_true z
            have kl := kws_len C' j
            refine ⟨_, rfl, _, ej, (by rw [List.length_map, sizeLine_eq]; omega), same_put sj hD, ?_⟩
            rw [upd_same, kws_succ, if_pos z0, List.map_append]
            rfl
          · have z0 : ¬ img C' (j + 1) = 0 := by
              rw [show decide (vN (img C' (j + 1)) = V.int 0) = decide (img C' (j + 1) = 0) from dec_nat (b := 0)] at z
              exact of_decide_eq_false z
            refine ⟨sj, ?_⟩
            rw [kws_succ, if_neg z0]
            exact ej
        obtain ⟨s20, e20⟩ := hP
        obtain ⟨rr, RR, er⟩ := ker_some p0 (by rw [len]; exact pl) pz
        obtain ⟨f1, f2, f3, f4⟩ := ker_first er
        rw [len] at f2 f4
        have mr : rr ∈ kws C' (2 ^ b - 1) := kws_mem.mpr ⟨f1, by omega, f3⟩
        refine ⟨D, kws C' (2 ^ b - 1), rfl, e20, List.length_pos_of_mem mr, fun mm hm hle => ?_⟩
        have hmm := kws_mem.mp hm
        have emm : mm = rr := Nat.le_antisymm (hle rr mr) (f4 mm hmm.1 (by omega) hmm.2.2)
        rw [emm]
        refine store_read (b := b) (C := C') (k := bk) E1 (tabs_same tb19 s20) (s20 _ _ e19) rfl rfl rfl len ltc (by omega) (by omega) er (fun H21 q21 n21 tb21 e21 => ?_)
        refine ⟨_, rfl, (by show 2 ≤ sizeLine; decide), fun z hz => ne_two (s := "one") (upd_new hz e21) upd_same (by decide +kernel) ⟨_, rfl, itf rfl ?_⟩⟩
        exact ⟨_, _, _, _, _, _, _, _, _, _, _, _, _, _, _, rfl, ((pn_ext (pn19.same s20) n21).same (same_new0 hz)).mono (by omega), tabs_same tb21 (same_new0 hz)⟩
    · rintro σ H2 ⟨v2, v3, v4, v5, v6, v7, v8, v9, v10, v11, v12, v13, v14, v15, v16, rfl, _, _⟩
      exact k _
end
end LaneX
set_option Elab.async false
set_option linter.all false
set_option maxRecDepth 100000
set_option maxHeartbeats 0
namespace LaneX
open PySem PySem.Spec PyProof.Rows L2
theorem exC_ok {K : PySem.W.Frag} {C : Addr} (c : Cls K C) (h : exC K C = true) : ObjT K C ∧ PySem.W.selfFirst K C = true := by
  obtain ⟨h1, h⟩ := He.ba h
  obtain ⟨h2, h⟩ := He.ba h
  obtain ⟨h3, h⟩ := He.ba h
  obtain ⟨h4, h⟩ := He.ba h
  obtain ⟨h5, h6⟩ := He.ba h
  exact ⟨⟨c, He.eqO_ok h1, He.eqO_ok h5, of_decide_eq_true h2, of_decide_eq_true h3, of_decide_eq_true h4⟩, h6⟩
theorem exE_ok {K : PySem.W.Frag} {C D : Addr} (h : exE K C D = true) : ExcC K C ∧ PySem.W.kitOne K (.ref C) (.ref D) = some true := by
  obtain ⟨h1, h⟩ := He.ba h
  obtain ⟨h2, h⟩ := He.ba h
  obtain ⟨h3, h⟩ := He.ba h
  obtain ⟨h4, h⟩ := He.ba h
  obtain ⟨h5, h⟩ := He.ba h
  obtain ⟨h6, h⟩ := He.ba h
  obtain ⟨h7, h⟩ := He.ba h
  obtain ⟨h8, h9⟩ := He.ba h
  exact ⟨⟨He.eqO_ok h1, He.eqO_ok h2, of_decide_eq_true h3, h4, He.eqO_ok h5, He.eqO_ok h6, of_decide_eq_true h7, of_decide_eq_true h8⟩, of_decide_eq_true h9⟩
theorem facts {w : World} {K : PySem.W.Frag} {h : Heap} {mg : Str → Option Value} {f : Addr} (X : K.In h) (G : h.Ns mainGlobals mg) (hfa : mg ("law" : Str) = some (.ref f)) (c : He.SaysD fa fn K) (ex : exB K = true) :
    ∃ fd : FuncData, (∀ (s : Shared) (v : Value), BindsTo s fd ⟨[v], []⟩ [("_law_script", v)]) ∧ ∀ base : Heap, K.In base → base.Ns mainGlobals mg → LamX.TabB base mg (He.cT K ("law", none)).1 (He.cT K ("law", none)).2 → FnOk PySem.Challenge.rw_laneswap_k39_whole_banks_played.prog w K mg base CX0 12 f fd ["_law_script"] (sp_lawT K (He.cT K ("law", none)).2) := by
  obtain ⟨fd_is_whole, F_is_whole⟩ := c.def_ 0 (d := d_is_whole) rfl
  obtain ⟨fd_need_whole, F_need_whole⟩ := c.def_ 1 (d := d_need_whole) rfl
  obtain ⟨fd_need_items, F_need_items⟩ := c.def_ 2 (d := d_need_items) rfl
  obtain ⟨fd_need_word, F_need_word⟩ := c.def_ 3 (d := d_need_word) rfl
  obtain ⟨fd_need_words, F_need_words⟩ := c.def_ 4 (d := d_need_words) rfl
  obtain ⟨fd_cleared, F_cleared⟩ := c.def_ 5 (d := d_cleared) rfl
  obtain ⟨fd_grown, F_grown⟩ := c.def_ 6 (d := d_grown) rfl
  obtain ⟨fd_spanned, F_spanned⟩ := c.def_ 7 (d := d_spanned) rfl
  obtain ⟨fd_paired, F_paired⟩ := c.def_ 8 (d := d_paired) rfl
  obtain ⟨fd_kernel_rows, F_kernel_rows⟩ := c.def_ 9 (d := d_kernel_rows) rfl
  obtain ⟨fd_met, F_met⟩ := c.def_ 10 (d := d_met) rfl
  obtain ⟨fd_Space_init, F_Space_init⟩ := c.def_ 11 (d := d_Space_init) rfl
  obtain ⟨fd_Spread_init, F_Spread_init⟩ := c.def_ 12 (d := d_Spread_init) rfl
  obtain ⟨fd_need_space, F_need_space⟩ := c.def_ 13 (d := d_need_space) rfl
  obtain ⟨fd_any_spread, F_any_spread⟩ := c.def_ 14 (d := d_any_spread) rfl
  obtain ⟨fd_Space_and, F_Space_and⟩ := c.def_ 15 (d := d_Space_and) rfl
  obtain ⟨fd_ones, F_ones⟩ := c.def_ 16 (d := d_ones) rfl
  obtain ⟨fd_image_of, F_image_of⟩ := c.def_ 17 (d := d_image_of) rfl
  obtain ⟨fd_solved, F_solved⟩ := c.def_ 18 (d := d_solved) rfl
  obtain ⟨fd_drawL, F_drawL⟩ := c.def_ 19 (d := d_drawL) rfl
  obtain ⟨fd_beginL, F_beginL⟩ := c.def_ 20 (d := d_beginL) rfl
  obtain ⟨fd_pickL, F_pickL⟩ := c.def_ 21 (d := d_pickL) rfl
  obtain ⟨fd_wordL, F_wordL⟩ := c.def_ 22 (d := d_wordL) rfl
  obtain ⟨fd_mixedL, F_mixedL⟩ := c.def_ 23 (d := d_mixedL) rfl
  obtain ⟨fd_leftL, F_leftL⟩ := c.def_ 24 (d := d_leftL) rfl
  obtain ⟨fd_basisL, F_basisL⟩ := c.def_ 25 (d := d_basisL) rfl
  obtain ⟨fd_sizeL, F_sizeL⟩ := c.def_ 26 (d := d_sizeL) rfl
  obtain ⟨fd_imageL, F_imageL⟩ := c.def_ 27 (d := d_imageL) rfl
  obtain ⟨fd_is_spaceL, F_is_spaceL⟩ := c.def_ 28 (d := d_is_spaceL) rfl
  obtain ⟨fd_words_forL, F_words_forL⟩ := c.def_ 29 (d := d_words_forL) rfl
  obtain ⟨fd_spread_wordsL, F_spread_wordsL⟩ := c.def_ 30 (d := d_spread_wordsL) rfl
  obtain ⟨fd_Map_init, F_Map_init⟩ := c.def_ 31 (d := d_Map_init) rfl
  obtain ⟨fd_Map_kernel, F_Map_kernel⟩ := c.def_ 32 (d := d_Map_kernel) rfl
  obtain ⟨fd_tops_of, F_tops_of⟩ := c.def_ 33 (d := d_tops_of) rfl
  obtain ⟨fd_missing, F_missing⟩ := c.def_ 34 (d := d_missing) rfl
  obtain ⟨fd_Map_call, F_Map_call⟩ := c.def_ 35 (d := d_Map_call) rfl
  obtain ⟨fd_need_onto, F_need_onto⟩ := c.def_ 36 (d := d_need_onto) rfl
  obtain ⟨fd_Map_eq, F_Map_eq⟩ := c.def_ 37 (d := d_Map_eq) rfl
  obtain ⟨fd_need_one_to_one, F_need_one_to_one⟩ := c.def_ 38 (d := d_need_one_to_one) rfl
  obtain ⟨fd_Map_invert, F_Map_invert⟩ := c.def_ 39 (d := d_Map_invert) rfl
  obtain ⟨fd_Store_init, F_Store_init⟩ := c.def_ 40 (d := d_Store_init) rfl
  obtain ⟨fd_Store_bank, F_Store_bank⟩ := c.def_ 41 (d := d_Store_bank) rfl
  obtain ⟨fd_Store_bank_map, F_Store_bank_map⟩ := c.def_ 42 (d := d_Store_bank_map) rfl
  obtain ⟨fd_Store_meeting, F_Store_meeting⟩ := c.def_ 43 (d := d_Store_meeting) rfl
  obtain ⟨fd_Store_need_width, F_Store_need_width⟩ := c.def_ 44 (d := d_Store_need_width) rfl
  obtain ⟨fd_phase_bits, F_phase_bits⟩ := c.def_ 45 (d := d_phase_bits) rfl
  obtain ⟨fd_Store_fits, F_Store_fits⟩ := c.def_ 46 (d := d_Store_fits) rfl
  obtain ⟨fd_Store_touched, F_Store_touched⟩ := c.def_ 47 (d := d_Store_touched) rfl
  obtain ⟨fd_Store_beats, F_Store_beats⟩ := c.def_ 48 (d := d_Store_beats) rfl
  obtain ⟨fd_truthL, F_truthL⟩ := c.def_ 49 (d := d_truthL) rfl
  obtain ⟨fd_listedL, F_listedL⟩ := c.def_ 50 (d := d_listedL) rfl
  obtain ⟨fd_columnsL, F_columnsL⟩ := c.def_ 51 (d := d_columnsL) rfl
  obtain ⟨fd_banks_rightL, F_banks_rightL⟩ := c.def_ 52 (d := d_banks_rightL) rfl
  obtain ⟨fd_beats_playedL, F_beats_playedL⟩ := c.def_ 53 (d := d_beats_playedL) rfl
  obtain ⟨fd_law, F_law⟩ := c.def_ 54 (d := d_law) rfl
  obtain ⟨fd_refusedL, F_refusedL⟩ := c.def_ 55 (d := d_refusedL) rfl
  have T : Bt mg := ⟨He.free_ok X G (c.fact 0 (f := .free "abs") rfl), He.free_ok X G (c.fact 1 (f := .free "all") rfl), He.free_ok X G (c.fact 2 (f := .free "any") rfl), He.free_ok X G (c.fact 3 (f := .free "bool") rfl), He.free_ok X G (c.fact 4 (f := .free "int") rfl), He.free_ok X G (c.fact 5 (f := .free "isinstance") rfl), He.free_ok X G (c.fact 6 (f := .free "len") rfl), He.free_ok X G (c.fact 7 (f := .free "list") rfl), He.free_ok X G (c.fact 8 (f := .free "max") rfl), He.free_ok X G (c.fact 9 (f := .free "min") rfl), He.free_ok X G (c.fact 10 (f := .free "range") rfl), He.free_ok X G (c.fact 11 (f := .free "sorted") rfl), He.free_ok X G (c.fact 12 (f := .free "tuple") rfl), He.free_ok X G (c.fact 13 (f := .free "zip") rfl)⟩
  have hcfM :=  ((He.ba (He.ba (He.ba (He.ba (He.ba (He.ba (He.ba (He.ba ex).1).1).1).1).1).1).1).2)
  have heqW := He.eqO_ok ((He.ba (He.ba (He.ba (He.ba (He.ba (He.ba (He.ba ex).1).1).1).1).1).1).2)
  have hneM := He.eqO_ok ((He.ba (He.ba (He.ba (He.ba (He.ba (He.ba ex).1).1).1).1).1).2)
  have X1 : Xi PySem.Challenge.rw_laneswap_k39_whole_banks_played.prog K mg (He.ga K "NotOneToOne") "word" "word" := exkB_ok ((He.ba (He.ba (He.ba (He.ba (He.ba ex).1).1).1).1).2) (fun _ _ _ _ _ _ _ _ _ _ _ _ _ _ _ _ _ => rfl) (by decide) (by decide) sup_free (He.free_ok X G (c.fact 92 (f := .free "super") rfl)) rfl
  have gl1 : mg "NotOneToOne" = some (.ref (He.ga K "NotOneToOne")) := He.glo_ok X G (c.fact 89 (f := .glo "NotOneToOne") rfl)
  have XN : Xi PySem.Challenge.rw_laneswap_k39_whole_banks_played.prog K mg (He.ga K "NotOnto") "word" "word" := exkB_ok ((He.ba (He.ba (He.ba (He.ba ex).1).1).1).2) (fun _ _ _ _ _ _ _ _ _ _ _ _ _ _ _ _ _ => rfl) (by decide) (by decide) sup_free (He.free_ok X G (c.fact 92 (f := .free "super") rfl)) rfl
  have glN : mg "NotOnto" = some (.ref (He.ga K "NotOnto")) := He.glo_ok X G (c.fact 90 (f := .glo "NotOnto") rfl)
  have XU : Xi PySem.Challenge.rw_laneswap_k39_whole_banks_played.prog K mg (He.ga K "Unfit") "width" "width" := exkB_ok ((He.ba (He.ba (He.ba ex).1).1).2) (fun _ _ _ _ _ _ _ _ _ _ _ _ _ _ _ _ _ => rfl) (by decide) (by decide) sup_free (He.free_ok X G (c.fact 92 (f := .free "super") rfl)) rfl
  have glU : mg "Unfit" = some (.ref (He.ga K "Unfit")) := He.glo_ok X G (c.fact 91 (f := .glo "Unfit") rfl)
  have E1o := exE_ok (He.ba ((He.ba (He.ba ex).1).2)).1
  have E1 : ErrT K mg (He.ga K "NotOneToOne") (He.ga K "LaneError") "NotOneToOne" "word" := ⟨He.glo_ok X G (c.fact 89 (f := .glo "NotOneToOne") rfl), E1o.1, E1o.2, ⟨E1o.1.hg, E1o.1.hk, E1o.1.hs, E1o.1.hd⟩, He.eqO_ok (He.ba ((He.ba (He.ba ex).1).2)).2, He.exm_ok (c.fact 94 (f := .exm "NotOneToOne" "NotOneToOne" true) rfl)⟩
  have EUo := exE_ok (He.ba ((He.ba ex).2)).1
  have EU : ErrT K mg (He.ga K "Unfit") (He.ga K "LaneError") "Unfit" "width" := ⟨He.glo_ok X G (c.fact 91 (f := .glo "Unfit") rfl), EUo.1, EUo.2, ⟨EUo.1.hg, EUo.1.hk, EUo.1.hs, EUo.1.hd⟩, He.eqO_ok (He.ba ((He.ba ex).2)).2, He.exm_ok (c.fact 95 (f := .exm "Unfit" "Unfit" true) rfl)⟩
  have glL : mg "LaneError" = some (.ref (He.ga K "LaneError")) := He.glo_ok X G (c.fact 93 (f := .glo "LaneError") rfl)
  have hU1 := He.exm_ok (c.fact 96 (f := .exm "Unfit" "NotOneToOne" false) rfl)
  have RFD : RefD K mg := ⟨_, fd_refusedL, He.glo_ok X G (c.fact 97 (f := .glo "_law_refused") rfl), F_refusedL.kp, (F_refusedL.bindsN fun _ _ _ _ _ _ us hl => match us, hl with | [_], _ => rfl), F_refusedL⟩
  have hcode : fd_law.code = .ref (He.cT K ("law", none)).1 := by
    obtain ⟨oc, od, dV, kV, doc, pm, an, cdv, ct, osl, e, lk, hcd, _, _⟩ := F_law.ex
    obtain ⟨c0, e0⟩ := He.codeIn_ref hcd
    have e1 : fd_law.code = .ref c0 := by rw [e]; exact e0
    rw [e1]
    show Value.ref c0 = .ref (He.codeOf K ("law", none))
    exact congrArg Value.ref (He.codeOf_eq lk e1).symm
  have TSo := exC_ok (He.cls_ok (c.fact 15 (f := .cls "Space") rfl)) ((He.ba (He.ba (He.ba (He.ba (He.ba (He.ba (He.ba (He.ba (He.ba (He.ba (He.ba ex).1).1).1).1).1).1).1).1).1).1).1)
  have TS : SpaceT K mg (He.ga K "Space") := { TSo.1 with gl := He.glo_ok X G (c.fact 14 (f := .glo "Space") rfl), nb := He.noat_ok (c.fact 17 (f := .noat "Space" "bits") rfl), nr := He.noat_ok (c.fact 18 (f := .noat "Space" "rows") rfl), nd := He.noat_ok (c.fact 19 (f := .noat "Space" "dimension") rfl) }
  have TRo := exC_ok (He.cls_ok (c.fact 21 (f := .cls "Spread") rfl)) ((He.ba (He.ba (He.ba (He.ba (He.ba (He.ba (He.ba (He.ba (He.ba (He.ba (He.ba ex).1).1).1).1).1).1).1).1).1).1).2)
  have TR : SpreadT K mg (He.ga K "Spread") := { TRo.1 with gl := He.glo_ok X G (c.fact 20 (f := .glo "Spread") rfl), nb := He.noat_ok (c.fact 23 (f := .noat "Spread" "bits") rfl), ns := He.noat_ok (c.fact 24 (f := .noat "Spread" "slots") rfl), nl := He.noat_ok (c.fact 25 (f := .noat "Spread" "lanes") rfl) }
  have TMo := exC_ok (He.cls_ok (c.fact 27 (f := .cls "Map") rfl)) ((He.ba (He.ba (He.ba (He.ba (He.ba (He.ba (He.ba (He.ba (He.ba (He.ba ex).1).1).1).1).1).1).1).1).1).2)
  have TM : MapT K mg (He.ga K "Map") := { TMo.1 with gl := He.glo_ok X G (c.fact 26 (f := .glo "Map") rfl), ng := He.noat_ok (c.fact 29 (f := .noat "Map" "goal") rfl), nc := He.noat_ok (c.fact 30 (f := .noat "Map" "columns") rfl), ns := He.noat_ok (c.fact 31 (f := .noat "Map" "source") rfl) }
  have TWo := exC_ok (He.cls_ok (c.fact 33 (f := .cls "Store") rfl)) ((He.ba (He.ba (He.ba (He.ba (He.ba (He.ba (He.ba (He.ba (He.ba ex).1).1).1).1).1).1).1).1).2)
  have TW : StoreT K mg (He.ga K "Store") := { TWo.1 with gl := He.glo_ok X G (c.fact 32 (f := .glo "Store") rfl), nc := He.noat_ok (c.fact 35 (f := .noat "Store" "change") rfl), nb := He.noat_ok (c.fact 36 (f := .noat "Store" "banks") rfl), no := He.noat_ok (c.fact 37 (f := .noat "Store" "own_back") rfl) }
  have e := hfa.symm.trans (He.glo_ok X G (c.fact 88 (f := .glo "law") rfl))
  cases e
  have b := FunD.bindsA (ps := ["_law_script"]) F_law fun _ _ _ _ _ _ us hl => match us, hl with | [_], _ => rfl
  refine ⟨fd_law, fun s v => b s [v] rfl, fun base _ _ TB => ?_⟩
  have D_is_whole : Dn PySem.Challenge.rw_laneswap_k39_whole_banks_played.prog w K mg base 1 "is_whole" ["value"] sp_is_whole := ⟨_, fd_is_whole, He.glo_ok X G (c.fact 38 (f := .glo "is_whole") rfl), F_is_whole.kp, (F_is_whole.bindsN fun _ _ _ _ _ _ us hl => match us, hl with | [_], _ => rfl), ok_is_whole T F_is_whole⟩
  have D_need_whole : Dn PySem.Challenge.rw_laneswap_k39_whole_banks_played.prog w K mg base 2 "need_whole" ["value"] sp_need_whole := ⟨_, fd_need_whole, He.glo_ok X G (c.fact 39 (f := .glo "need_whole") rfl), F_need_whole.kp, (F_need_whole.bindsN fun _ _ _ _ _ _ us hl => match us, hl with | [_], _ => rfl), ok_need_whole T F_need_whole D_is_whole⟩
  have D_need_items : Dn PySem.Challenge.rw_laneswap_k39_whole_banks_played.prog w K mg base 1 "need_items" ["value"] sp_need_items := ⟨_, fd_need_items, He.glo_ok X G (c.fact 40 (f := .glo "need_items") rfl), F_need_items.kp, (F_need_items.bindsN fun _ _ _ _ _ _ us hl => match us, hl with | [_], _ => rfl), ok_need_items T F_need_items⟩
  have D_need_word : Dn PySem.Challenge.rw_laneswap_k39_whole_banks_played.prog w K mg base 2 "need_word" ["value", "bits"] sp_need_word := ⟨_, fd_need_word, He.glo_ok X G (c.fact 41 (f := .glo "need_word") rfl), F_need_word.kp, (F_need_word.bindsN fun _ _ _ _ _ _ us hl => match us, hl with | [_, _], _ => rfl), ok_need_word T F_need_word D_is_whole⟩
  have D_need_words : Dn PySem.Challenge.rw_laneswap_k39_whole_banks_played.prog w K mg base 3 "need_words" ["values", "bits"] sp_need_words := ⟨_, fd_need_words, He.glo_ok X G (c.fact 42 (f := .glo "need_words") rfl), F_need_words.kp, (F_need_words.bindsN fun _ _ _ _ _ _ us hl => match us, hl with | [_, _], _ => rfl), ok_need_words T F_need_words D_need_items D_need_word⟩
  have D_cleared : Dn PySem.Challenge.rw_laneswap_k39_whole_banks_played.prog w K mg base 1 "cleared" ["rows", "word"] sp_cleared := ⟨_, fd_cleared, He.glo_ok X G (c.fact 43 (f := .glo "cleared") rfl), F_cleared.kp, (F_cleared.bindsN fun _ _ _ _ _ _ us hl => match us, hl with | [_, _], _ => rfl), ok_cleared T F_cleared⟩
  have D_grown : Dn PySem.Challenge.rw_laneswap_k39_whole_banks_played.prog w K mg base 2 "grown" ["rows", "word"] sp_grown := ⟨_, fd_grown, He.glo_ok X G (c.fact 44 (f := .glo "grown") rfl), F_grown.kp, (F_grown.bindsN fun _ _ _ _ _ _ us hl => match us, hl with | [_, _], _ => rfl), ok_grown T F_grown D_cleared⟩
  have D_spanned : Dn PySem.Challenge.rw_laneswap_k39_whole_banks_played.prog w K mg base 3 "spanned" ["words"] sp_spanned := ⟨_, fd_spanned, He.glo_ok X G (c.fact 45 (f := .glo "spanned") rfl), F_spanned.kp, (F_spanned.bindsN fun _ _ _ _ _ _ us hl => match us, hl with | [_], _ => rfl), ok_spanned T F_spanned D_grown⟩
  have D_paired : Dn PySem.Challenge.rw_laneswap_k39_whole_banks_played.prog w K mg base 4 "paired" ["columns"] sp_paired := ⟨_, fd_paired, He.glo_ok X G (c.fact 46 (f := .glo "paired") rfl), F_paired.kp, (F_paired.bindsN fun _ _ _ _ _ _ us hl => match us, hl with | [_], _ => rfl), ok_paired T F_paired D_spanned⟩
  have D_kernel_rows : Dn PySem.Challenge.rw_laneswap_k39_whole_banks_played.prog w K mg base 5 "kernel_rows" ["columns"] sp_kernel_rows := ⟨_, fd_kernel_rows, He.glo_ok X G (c.fact 47 (f := .glo "kernel_rows") rfl), F_kernel_rows.kp, (F_kernel_rows.bindsN fun _ _ _ _ _ _ us hl => match us, hl with | [_], _ => rfl), ok_kernel_rows T F_kernel_rows D_paired⟩
  have D_met : Dn PySem.Challenge.rw_laneswap_k39_whole_banks_played.prog w K mg base 4 "met" ["bits", "rows", "others"] sp_met := ⟨_, fd_met, He.glo_ok X G (c.fact 48 (f := .glo "met") rfl), F_met.kp, (F_met.bindsN fun _ _ _ _ _ _ us hl => match us, hl with | [_, _, _], _ => rfl), ok_met T F_met D_spanned⟩
  have K_Space : Kn PySem.Challenge.rw_laneswap_k39_whole_banks_played.prog w K mg base 4 (He.ga K "Space") "Space" ["self", "bits", "words"] (sp_Space (He.ga K "Space")) := ⟨He.glo_ok X G (c.fact 14 (f := .glo "Space") rfl), _, fd_Space_init, He.mkr_ok (c.fact 16 (f := .mkr "Space") rfl), (F_Space_init.bindsN fun _ _ _ _ _ _ us hl => match us, hl with | [_, _, _], _ => rfl), ok_Space T TS F_Space_init D_need_whole D_need_words D_spanned⟩
  have K_Spread : Kn PySem.Challenge.rw_laneswap_k39_whole_banks_played.prog w K mg base 4 (He.ga K "Spread") "Spread" ["self", "bits", "slots", "lanes"] (sp_Spread (He.ga K "Spread")) := ⟨He.glo_ok X G (c.fact 20 (f := .glo "Spread") rfl), _, fd_Spread_init, He.mkr_ok (c.fact 22 (f := .mkr "Spread") rfl), (F_Spread_init.bindsN fun _ _ _ _ _ _ us hl => match us, hl with | [_, _, _, _], _ => rfl), ok_Spread T TR F_Spread_init D_need_whole D_need_words D_spanned⟩
  have D_need_space : Dn PySem.Challenge.rw_laneswap_k39_whole_banks_played.prog w K mg base 1 "need_space" ["value", "bits"] (sp_need_space (He.ga K "Space")) := ⟨_, fd_need_space, He.glo_ok X G (c.fact 49 (f := .glo "need_space") rfl), F_need_space.kp, (F_need_space.bindsN fun _ _ _ _ _ _ us hl => match us, hl with | [_, _], _ => rfl), ok_need_space T TS F_need_space⟩
  have D_any_spread : Dn PySem.Challenge.rw_laneswap_k39_whole_banks_played.prog w K mg base 1 "any_spread" ["value"] (sp_any_spread (He.ga K "Spread")) := ⟨_, fd_any_spread, He.glo_ok X G (c.fact 50 (f := .glo "any_spread") rfl), F_any_spread.kp, (F_any_spread.bindsN fun _ _ _ _ _ _ us hl => match us, hl with | [_], _ => rfl), ok_any_spread T TR F_any_spread⟩
  have M_Space_and : Mn PySem.Challenge.rw_laneswap_k39_whole_banks_played.prog w K mg base 6 (He.ga K "Space") "__and__" ["self", "other"] (sp_and (He.ga K "Space")) := ⟨TS.cl, _, fd_Space_and, He.meth_ok (c.fact 51 (f := .meth "Space" "__and__") rfl), (F_Space_and.bindsN fun _ _ _ _ _ _ us hl => match us, hl with | [_, _], _ => rfl), ok_and T TS F_Space_and D_need_space D_met K_Space⟩
  have D_ones : Dn PySem.Challenge.rw_laneswap_k39_whole_banks_played.prog w K mg base 3 "ones" ["word"] sp_ones := ⟨_, fd_ones, He.glo_ok X G (c.fact 52 (f := .glo "ones") rfl), F_ones.kp, (F_ones.bindsN fun _ _ _ _ _ _ us hl => match us, hl with | [_], _ => rfl), ok_ones T F_ones D_need_whole⟩
  have D_image_of : Dn PySem.Challenge.rw_laneswap_k39_whole_banks_played.prog w K mg base 4 "image_of" ["columns", "word"] sp_image_of := ⟨_, fd_image_of, He.glo_ok X G (c.fact 53 (f := .glo "image_of") rfl), F_image_of.kp, (F_image_of.bindsN fun _ _ _ _ _ _ us hl => match us, hl with | [_, _], _ => rfl), ok_image_of T F_image_of D_ones⟩
  have D_solved : Dn PySem.Challenge.rw_laneswap_k39_whole_banks_played.prog w K mg base 2 "solved" ["pairs", "source", "word"] sp_solved := ⟨_, fd_solved, He.glo_ok X G (c.fact 54 (f := .glo "solved") rfl), F_solved.kp, (F_solved.bindsN fun _ _ _ _ _ _ us hl => match us, hl with | [_, _, _], _ => rfl), ok_solved T F_solved D_cleared⟩
  have D_drawL : Dn PySem.Challenge.rw_laneswap_k39_whole_banks_played.prog w K mg base 1 "_law_draw" ["_law_pen", "_law_span"] sp_draw := ⟨_, fd_drawL, He.glo_ok X G (c.fact 55 (f := .glo "_law_draw") rfl), F_drawL.kp, (F_drawL.bindsN fun _ _ _ _ _ _ us hl => match us, hl with | [_, _], _ => rfl), ok_draw T F_drawL⟩
  have D_beginL : Dn PySem.Challenge.rw_laneswap_k39_whole_banks_played.prog w K mg base 1 "_law_begin" ["_law_script"] (sp_begin K) := ⟨_, fd_beginL, He.glo_ok X G (c.fact 56 (f := .glo "_law_begin") rfl), F_beginL.kp, (F_beginL.bindsN fun _ _ _ _ _ _ us hl => match us, hl with | [_], _ => rfl), ok_begin T F_beginL⟩
  have D_pickL : Dn PySem.Challenge.rw_laneswap_k39_whole_banks_played.prog w K mg base 2 "_law_pick" ["_law_pen", "_law_some"] sp_pick := ⟨_, fd_pickL, He.glo_ok X G (c.fact 57 (f := .glo "_law_pick") rfl), F_pickL.kp, (F_pickL.bindsN fun _ _ _ _ _ _ us hl => match us, hl with | [_, _], _ => rfl), ok_pick T F_pickL D_drawL⟩
  have D_wordL : Dn PySem.Challenge.rw_laneswap_k39_whole_banks_played.prog w K mg base 2 "_law_word" ["_law_pen", "_law_bits"] sp_word := ⟨_, fd_wordL, He.glo_ok X G (c.fact 58 (f := .glo "_law_word") rfl), F_wordL.kp, (F_wordL.bindsN fun _ _ _ _ _ _ us hl => match us, hl with | [_, _], _ => rfl), ok_word T F_wordL D_drawL⟩
  have D_mixedL : Dn PySem.Challenge.rw_laneswap_k39_whole_banks_played.prog w K mg base 2 "_law_mixed" ["_law_pen", "_law_some"] sp_mixed := ⟨_, fd_mixedL, He.glo_ok X G (c.fact 59 (f := .glo "_law_mixed") rfl), F_mixedL.kp, (F_mixedL.bindsN fun _ _ _ _ _ _ us hl => match us, hl with | [_, _], _ => rfl), ok_mixed T F_mixedL D_drawL⟩
  have D_leftL : Dn PySem.Challenge.rw_laneswap_k39_whole_banks_played.prog w K mg base 1 "_law_left" ["_law_rows", "_law_word_here"] sp_left := ⟨_, fd_leftL, He.glo_ok X G (c.fact 60 (f := .glo "_law_left") rfl), F_leftL.kp, (F_leftL.bindsN fun _ _ _ _ _ _ us hl => match us, hl with | [_, _], _ => rfl), ok_left T F_leftL⟩
  have D_basisL : Dn PySem.Challenge.rw_laneswap_k39_whole_banks_played.prog w K mg base 2 "_law_basis" ["_law_words"] sp_basis := ⟨_, fd_basisL, He.glo_ok X G (c.fact 61 (f := .glo "_law_basis") rfl), F_basisL.kp, (F_basisL.bindsN fun _ _ _ _ _ _ us hl => match us, hl with | [_], _ => rfl), ok_basis T F_basisL D_leftL⟩
  have D_sizeL : Dn PySem.Challenge.rw_laneswap_k39_whole_banks_played.prog w K mg base 3 "_law_size" ["_law_words"] sp_size := ⟨_, fd_sizeL, He.glo_ok X G (c.fact 62 (f := .glo "_law_size") rfl), F_sizeL.kp, (F_sizeL.bindsN fun _ _ _ _ _ _ us hl => match us, hl with | [_], _ => rfl), ok_size T F_sizeL D_basisL⟩
  have D_imageL : Dn PySem.Challenge.rw_laneswap_k39_whole_banks_played.prog w K mg base 1 "_law_image" ["_law_columns_here", "_law_word_here"] sp_image := ⟨_, fd_imageL, He.glo_ok X G (c.fact 63 (f := .glo "_law_image") rfl), F_imageL.kp, (F_imageL.bindsN fun _ _ _ _ _ _ us hl => match us, hl with | [_, _], _ => rfl), ok_image T F_imageL⟩
  have D_is_spaceL : Dn PySem.Challenge.rw_laneswap_k39_whole_banks_played.prog w K mg base 4 "_law_is_space" ["_law_value", "_law_bits", "_law_words"] (sp_is_space (He.ga K "Space")) := ⟨_, fd_is_spaceL, He.glo_ok X G (c.fact 64 (f := .glo "_law_is_space") rfl), F_is_spaceL.kp, (F_is_spaceL.bindsN fun _ _ _ _ _ _ us hl => match us, hl with | [_, _, _], _ => rfl), ok_is_space T TS F_is_spaceL D_sizeL⟩
  have D_words_forL : Dn PySem.Challenge.rw_laneswap_k39_whole_banks_played.prog w K mg base 3 "_law_words_for" ["_law_pen", "_law_bits", "_law_many", "_law_style"] sp_words_for := ⟨_, fd_words_forL, He.glo_ok X G (c.fact 65 (f := .glo "_law_words_for") rfl), F_words_forL.kp, (F_words_forL.bindsN fun _ _ _ _ _ _ us hl => match us, hl with | [_, _, _, _], _ => rfl), ok_words_for T F_words_forL D_drawL D_pickL D_wordL⟩
  have D_spread_wordsL : Dn PySem.Challenge.rw_laneswap_k39_whole_banks_played.prog w K mg base 4 "_law_spread_words" ["_law_pen", "_law_bits", "_law_slots", "_law_lanes"] sp_spread_words := ⟨_, fd_spread_wordsL, He.glo_ok X G (c.fact 66 (f := .glo "_law_spread_words") rfl), F_spread_wordsL.kp, (F_spread_wordsL.bindsN fun _ _ _ _ _ _ us hl => match us, hl with | [_, _, _, _], _ => rfl), ok_spread_words T F_spread_wordsL D_drawL D_words_forL D_basisL D_mixedL D_leftL⟩
  have K_Map : Kn PySem.Challenge.rw_laneswap_k39_whole_banks_played.prog w K mg base 4 (He.ga K "Map") "Map" ["self", "goal", "columns"] (sp_Map (He.ga K "Map")) := ⟨He.glo_ok X G (c.fact 26 (f := .glo "Map") rfl), _, fd_Map_init, He.mkr_ok (c.fact 28 (f := .mkr "Map") rfl), (F_Map_init.bindsN fun _ _ _ _ _ _ us hl => match us, hl with | [_, _, _], _ => rfl), ok_Map T TM F_Map_init D_need_whole D_need_words⟩
  have M_Map_kernel : Mn PySem.Challenge.rw_laneswap_k39_whole_banks_played.prog w K mg base 6 (He.ga K "Map") "kernel" ["self"] (sp_kernel (He.ga K "Space") (He.ga K "Map")) := ⟨TM.cl, _, fd_Map_kernel, He.meth_ok (c.fact 67 (f := .meth "Map" "kernel") rfl), (F_Map_kernel.bindsN fun _ _ _ _ _ _ us hl => match us, hl with | [_], _ => rfl), ok_kernel TM F_Map_kernel D_kernel_rows K_Space⟩
  have D_tops_of : Dn PySem.Challenge.rw_laneswap_k39_whole_banks_played.prog w K mg base 1 "tops_of" ["rows"] sp_tops_of := ⟨_, fd_tops_of, He.glo_ok X G (c.fact 68 (f := .glo "tops_of") rfl), F_tops_of.kp, (F_tops_of.bindsN fun _ _ _ _ _ _ us hl => match us, hl with | [_], _ => rfl), ok_tops_of F_tops_of⟩
  have D_missing : Dn PySem.Challenge.rw_laneswap_k39_whole_banks_played.prog w K mg base 2 "missing" ["rows"] sp_missing := ⟨_, fd_missing, He.glo_ok X G (c.fact 69 (f := .glo "missing") rfl), F_missing.kp, (F_missing.bindsN fun _ _ _ _ _ _ us hl => match us, hl with | [_], _ => rfl), ok_missing T F_missing D_tops_of⟩
  have D_solvedO : Dn PySem.Challenge.rw_laneswap_k39_whole_banks_played.prog w K mg base 2 "solved" ["pairs", "source", "word"] sp_solvedO := ⟨_, fd_solved, He.glo_ok X G (c.fact 54 (f := .glo "solved") rfl), F_solved.kp, (F_solved.bindsN fun _ _ _ _ _ _ us hl => match us, hl with | [_, _, _], _ => rfl), ok_solvedO T F_solved D_cleared⟩
  have M_Map_call : Mn PySem.Challenge.rw_laneswap_k39_whole_banks_played.prog w K mg base 5 (He.ga K "Map") "__call__" ["self", "word"] (sp_mcall (He.ga K "Map")) := ⟨TM.cl, _, fd_Map_call, He.meth_ok (c.fact 70 (f := .meth "Map" "__call__") rfl), (F_Map_call.bindsN fun _ _ _ _ _ _ us hl => match us, hl with | [_, _], _ => rfl), ok_mcall T TM F_Map_call D_need_word D_image_of⟩
  have D_need_onto : Dx PySem.Challenge.rw_laneswap_k39_whole_banks_played.prog w K mg base 4 "need_onto" ["change"] (sp_needX (He.ga K "Map") (He.ga K "NotOnto")) := ⟨_, fd_need_onto, He.glo_ok X G (c.fact 71 (f := .glo "need_onto") rfl), F_need_onto.kp, (F_need_onto.bindsN fun _ _ _ _ _ _ us hl => match us, hl with | [_], _ => rfl), ok_needX T TM F_need_onto D_spanned D_missing XN glN⟩
  have M_Map_eq : Mn PySem.Challenge.rw_laneswap_k39_whole_banks_played.prog w K mg base 1 (He.ga K "Map") "__eq__" ["self", "other"] (sp_mapeq2 (He.ga K "Map")) := ⟨TM.cl, _, fd_Map_eq, He.meth_ok (c.fact 72 (f := .meth "Map" "__eq__") rfl), (F_Map_eq.bindsN fun _ _ _ _ _ _ us hl => match us, hl with | [_, _], _ => rfl), ok_mapeq2 T TM F_Map_eq⟩
  have D_need_one_to_one : Dx PySem.Challenge.rw_laneswap_k39_whole_banks_played.prog w K mg base 6 "need_one_to_one" ["change"] (sp_oneX (He.ga K "Map") (He.ga K "NotOneToOne")) := ⟨_, fd_need_one_to_one, He.glo_ok X G (c.fact 73 (f := .glo "need_one_to_one") rfl), F_need_one_to_one.kp, (F_need_one_to_one.bindsN fun _ _ _ _ _ _ us hl => match us, hl with | [_], _ => rfl), ok_oneX T TM F_need_one_to_one D_kernel_rows X1 gl1⟩
  have M_Map_invert : Mx PySem.Challenge.rw_laneswap_k39_whole_banks_played.prog w K mg base 7 (He.ga K "Map") "__invert__" ["self"] (sp_invX (He.ga K "Map") (He.ga K "NotOneToOne") (He.ga K "NotOnto")) := ⟨TM.cl, _, fd_Map_invert, He.meth_ok (c.fact 74 (f := .meth "Map" "__invert__") rfl), (F_Map_invert.bindsN fun _ _ _ _ _ _ us hl => match us, hl with | [_], _ => rfl), ok_invX T TM F_Map_invert D_need_one_to_one D_need_onto D_paired D_solvedO K_Map⟩
  have K_Store : Kx PySem.Challenge.rw_laneswap_k39_whole_banks_played.prog w K mg base 8 (He.ga K "Store") "Store" ["self", "change", "banks"] (sp_StoreX (He.ga K "Store") (He.ga K "Map") (He.ga K "NotOneToOne")) := ⟨He.glo_ok X G (c.fact 32 (f := .glo "Store") rfl), _, fd_Store_init, He.mkr_ok (c.fact 34 (f := .mkr "Store") rfl), (F_Store_init.bindsN fun _ _ _ _ _ _ us hl => match us, hl with | [_, _, _], _ => rfl), ok_StoreX T TW TM F_Store_init D_need_whole M_Map_invert⟩
  have M_Store_bank : Mn PySem.Challenge.rw_laneswap_k39_whole_banks_played.prog w K mg base 6 (He.ga K "Store") "bank" ["self", "entry"] (sp_bank (He.ga K "Store") (He.ga K "Map")) := ⟨TW.cl, _, fd_Store_bank, He.meth_ok (c.fact 75 (f := .meth "Store" "bank") rfl), (F_Store_bank.bindsN fun _ _ _ _ _ _ us hl => match us, hl with | [_, _], _ => rfl), ok_bank T TW TM F_Store_bank D_need_word M_Map_call hcfM⟩
  have M_Store_bank_map : Mn PySem.Challenge.rw_laneswap_k39_whole_banks_played.prog w K mg base 6 (He.ga K "Store") "bank_map" ["self"] (sp_bank_map (He.ga K "Store") (He.ga K "Map")) := ⟨TW.cl, _, fd_Store_bank_map, He.meth_ok (c.fact 76 (f := .meth "Store" "bank_map") rfl), (F_Store_bank_map.bindsN fun _ _ _ _ _ _ us hl => match us, hl with | [_], _ => rfl), ok_bank_map T TW TM F_Store_bank_map K_Map⟩
  have M_Store_meeting : Mn PySem.Challenge.rw_laneswap_k39_whole_banks_played.prog w K mg base 7 (He.ga K "Store") "meeting" ["self", "space"] (sp_meeting (He.ga K "Store") (He.ga K "Map") (He.ga K "Space")) := ⟨TW.cl, _, fd_Store_meeting, He.meth_ok (c.fact 77 (f := .meth "Store" "meeting") rfl), (F_Store_meeting.bindsN fun _ _ _ _ _ _ us hl => match us, hl with | [_, _], _ => rfl), ok_meeting T TS TW TM F_Store_meeting D_need_space M_Store_bank_map M_Map_kernel M_Space_and TSo.2⟩
  have M_Store_need_width : Mn PySem.Challenge.rw_laneswap_k39_whole_banks_played.prog w K mg base 2 (He.ga K "Store") "need_width" ["self", "spread", "width"] (sp_need_width (He.ga K "Store") (He.ga K "Map") (He.ga K "Spread")) := ⟨TW.cl, _, fd_Store_need_width, He.meth_ok (c.fact 78 (f := .meth "Store" "need_width") rfl), (F_Store_need_width.bindsN fun _ _ _ _ _ _ us hl => match us, hl with | [_, _, _], _ => rfl), ok_need_width T TR TW TM F_Store_need_width D_any_spread D_is_whole⟩
  have D_phase_bits : Dn PySem.Challenge.rw_laneswap_k39_whole_banks_played.prog w K mg base 1 "phase_bits" ["spread", "width"] (sp_phase (He.ga K "Spread")) := ⟨_, fd_phase_bits, He.glo_ok X G (c.fact 79 (f := .glo "phase_bits") rfl), F_phase_bits.kp, (F_phase_bits.bindsN fun _ _ _ _ _ _ us hl => match us, hl with | [_, _], _ => rfl), ok_phase_bits T TR F_phase_bits⟩
  have M_Store_fits : Mn PySem.Challenge.rw_laneswap_k39_whole_banks_played.prog w K mg base 4 (He.ga K "Store") "fits" ["self", "spread", "width"] (sp_fits (He.ga K "Store") (He.ga K "Map") (He.ga K "Spread")) := ⟨TW.cl, _, fd_Store_fits, He.meth_ok (c.fact 80 (f := .meth "Store" "fits") rfl), (F_Store_fits.bindsN fun _ _ _ _ _ _ us hl => match us, hl with | [_, _, _], _ => rfl), ok_fits T TR TW TM F_Store_fits M_Store_need_width D_spanned D_cleared⟩
  have M_Store_touched : Mx PySem.Challenge.rw_laneswap_k39_whole_banks_played.prog w K mg base 6 (He.ga K "Store") "touched" ["self", "spread", "width"] (sp_touchedX (He.ga K "Store") (He.ga K "Map") (He.ga K "Spread") (He.ga K "Space") (He.ga K "Unfit")) := ⟨TW.cl, _, fd_Store_touched, He.meth_ok (c.fact 81 (f := .meth "Store" "touched") rfl), (F_Store_touched.bindsN fun _ _ _ _ _ _ us hl => match us, hl with | [_, _, _], _ => rfl), ok_touchedX T TS TR TW TM F_Store_touched M_Store_fits D_phase_bits XU glU K_Space⟩
  have M_Store_beats : Mx PySem.Challenge.rw_laneswap_k39_whole_banks_played.prog w K mg base 8 (He.ga K "Store") "beats" ["self", "spread", "width"] (sp_beatsX (He.ga K "Store") (He.ga K "Map") (He.ga K "Spread") (He.ga K "Unfit")) := ⟨TW.cl, _, fd_Store_beats, He.meth_ok (c.fact 82 (f := .meth "Store" "beats") rfl), (F_Store_beats.bindsN fun _ _ _ _ _ _ us hl => match us, hl with | [_, _, _], _ => rfl), ok_beatsX T TR TW TM F_Store_beats M_Store_touched M_Store_meeting D_phase_bits⟩
  have D_truthL : Dn PySem.Challenge.rw_laneswap_k39_whole_banks_played.prog w K mg base 1 "_law_truth" ["_law_value", "_law_due"] sp_truth := ⟨_, fd_truthL, He.glo_ok X G (c.fact 83 (f := .glo "_law_truth") rfl), F_truthL.kp, (F_truthL.bindsN fun _ _ _ _ _ _ us hl => match us, hl with | [_, _], _ => rfl), ok_truth F_truthL⟩
  have D_listedL : Dn PySem.Challenge.rw_laneswap_k39_whole_banks_played.prog w K mg base 1 "_law_listed" ["_law_words"] sp_listed := ⟨_, fd_listedL, He.glo_ok X G (c.fact 84 (f := .glo "_law_listed") rfl), F_listedL.kp, (F_listedL.bindsN fun _ _ _ _ _ _ us hl => match us, hl with | [_], _ => rfl), ok_listed T F_listedL⟩
  have D_columnsL : Dn PySem.Challenge.rw_laneswap_k39_whole_banks_played.prog w K mg base 3 "_law_columns" ["_law_pen", "_law_bits"] sp_columns := ⟨_, fd_columnsL, He.glo_ok X G (c.fact 85 (f := .glo "_law_columns") rfl), F_columnsL.kp, (F_columnsL.bindsN fun _ _ _ _ _ _ us hl => match us, hl with | [_, _], _ => rfl), ok_columns T F_columnsL D_drawL D_mixedL⟩
  have D_banks_rightL : Dn PySem.Challenge.rw_laneswap_k39_whole_banks_played.prog w K mg base 10 "_law_banks_right" ["_law_pen", "_law_store", "_law_columns_here", "_law_banks"] (sp_banks (He.ga K "Store") (He.ga K "Map")) := ⟨_, fd_banks_rightL, He.glo_ok X G (c.fact 86 (f := .glo "_law_banks_right") rfl), F_banks_rightL.kp, (F_banks_rightL.bindsN fun _ _ _ _ _ _ us hl => match us, hl with | [_, _, _, _], _ => rfl), ok_banks T TS TW TM F_banks_rightL M_Store_bank M_Store_bank_map M_Store_meeting M_Map_eq K_Map K_Space K_Store D_imageL D_drawL D_wordL D_basisL D_listedL hneM heqW⟩
  have D_beats_playedL : Dn PySem.Challenge.rw_laneswap_k39_whole_banks_played.prog w K mg base 3 "_law_beats_played" ["_law_pen", "_law_lanes", "_law_columns_here", "_law_near", "_law_width", "_law_banks"] sp_played := ⟨_, fd_beats_playedL, He.glo_ok X G (c.fact 87 (f := .glo "_law_beats_played") rfl), F_beats_playedL.kp, (F_beats_playedL.bindsN fun _ _ _ _ _ _ us hl => match us, hl with | [_, _, _, _, _, _], _ => rfl), ok_played T F_beats_playedL D_imageL D_wordL⟩
  exact ok_law T TS TR TW TM F_law D_beginL D_drawL D_columnsL K_Map K_Spread K_Store D_banks_rightL D_spread_wordsL D_basisL D_imageL D_leftL D_truthL M_Store_fits M_Store_touched M_Store_beats D_is_spaceL D_beats_playedL RFD E1 EU glL hU1 TB hcode
end LaneX
open PySem PySem.W PySem.Calls PyProof.Rows
theorem PySem.Challenge.cw_laneswap_k39_whole_banks_played_holds : PySem.Challenge.rw_laneswap_k39_whole_banks_played.Holds := by
  refine LaneX.hd ?_
  refine LamX.walk_ofTsE (l := PySem.Challenge.rw_laneswap_k39_whole_banks_played) (n := 63) (k := 12) (x := "_law_script") (CX := fun _ => L2.CX0) rfl (by decide) LaneX.dp_law ⟨rfl, by decide, by decide⟩ ?F (fun _ _ _ _ _ z => z)
  intro w mg fa h Y G hmg0
  obtain ⟨K, KX, c⟩ := Y
  have hmg : mg ("law" : PySem.Str) = some (.ref fa) := by
    rw [← LaneX.nm_law]
    exact hmg0
  obtain ⟨fd, hb, hF⟩ := LaneX.facts (w := w) KX G hmg c.t.d c.more
  refine ⟨K, KX, fd, [He.cT K ("law", none)], LaneX.sp_lawT K (He.cT K ("law", none)).2, fun p hp => ?_, fun p hp => ?_, fun p hp => ?_, hb, fun H a ns hl _ hT hS => ⟨a, ns, rfl, hS, hl, hT _ (List.mem_singleton.mpr rfl), fun _ => rfl⟩, fun base X G TB => hF base X G (TB _ (List.mem_singleton.mpr rfl))⟩
  · rw [List.mem_singleton.mp hp]
    exact c.empty _ (List.mem_singleton.mpr rfl)
  · rw [List.mem_singleton.mp hp]
    exact c.out _ (List.mem_singleton.mpr rfl)
  · rw [List.mem_singleton.mp hp]
    exact PySem.W.codeHd_of_K KX (c.hd _ (List.mem_singleton.mpr rfl))
